import PyProof.Rows.All
import Wide.All
import OpenK.AllK
import Wide.FinOn
import HandS.ForMost
import HandS.Wide
import HandS.EndBits
import HandS.Star
import HandS.ClsMeth
import HandS.Property
import HandS.RaiseMore
import HandS.Style
import HandS.TupAny
import HandS.Walk
import HandS.Codes
import HandS.IsInst
import HandS.TupLe
import KE.LtData
import PyProof.ListStr
import PyProof.ReprRoads
import PyProof.ReprLen
import HandS.Flow
import HandS.TryMany
import HandS.ExcInit
import HandS.Lambda
import PyProof.Rows.MatchSeqLen
import HandS.ExcField
import HandS.ExcIs
import KE.SortKeyHeap
import HandS.ExcValue
import HandS.Dict
import HandS.Deep
import HandS.Iter
import HandS.SortKw
import KE.DatumOrd
import HandS.DictComp
import HandS.SetKeys
import HandS.Defaults
import KE.KNestM
import HandS.EndTab
import HandS.TryOnly
import HandS.Strs
import PySem.Challenge.RW_tailtables_k05_names_refused
set_option Elab.async false
set_option linter.all false
set_option maxRecDepth 100000
set_option exponentiation.threshold 20000
namespace TT
open PySem L2
/-! the heap but for some places; tuples stay as they are -/
structure Kp (S : List Addr) (H H' : Hp) : Prop where
  at_ : ∀ a o, a ∉ S → H a = some o → H' a = some o
  tup : ∀ a xs, H a = some (.tup xs) → H' a = some (.tup xs)
theorem Kp.refl (S : List Addr) (H : Hp) : Kp S H H := ⟨fun _ _ _ e => e, fun _ _ e => e⟩
theorem Kp.trans {S : List Addr} {H H1 H2 : Hp} (x : Kp S H H1) (y : Kp S H1 H2) : Kp S H H2 := ⟨fun a o n e => y.at_ a o n (x.at_ a o n e), fun a xs e => y.tup a xs (x.tup a xs e)⟩
theorem Kp.last {S : List Addr} {H H1 H2 : Hp} (y : Kp S H1 H2) (x : Kp S H H1) : Kp S H H2 := x.trans y
theorem Kp.get {S : List Addr} {H H' : Hp} {a : Addr} {o : HO} (x : Kp S H H') (n : a ∉ S) (e : H a = some o) : H' a = some o := x.at_ a o n e
theorem Kp.new {S : List Addr} {H H' : Hp} {p : Addr} {o : HO} (x : Kp S H H') (n : H' p = none) : Kp S H (upd H' p o) :=
  ⟨fun a u h e => (upd_ne (fun q => by have z := x.at_ a u h e; rw [q, n] at z; cases z)).trans (x.at_ a u h e),
   fun a xs e => (upd_ne (fun q => by have z := x.tup a xs e; rw [q, n] at z; cases z)).trans (x.tup a xs e)⟩
/-- what is not a tuple -/
def NoTup : HO → Prop
  | .tup _ => False
  | _ => True
theorem Kp.put {S : List Addr} {H H' : Hp} {p : Addr} {o u : HO} (x : Kp S H H') (n : p ∈ S) (e : H' p = some u) (t : NoTup u) : Kp S H (upd H' p o) :=
  ⟨fun a v h q => (upd_ne (fun z => h (by rw [z]; exact n))).trans (x.at_ a v h q),
   fun a xs q => (upd_ne (fun z => by have y := x.tup a xs q; rw [z, e] at y; cases y; exact t)).trans (x.tup a xs q)⟩
/-- a place that was free before -/
theorem Kp.old {S : List Addr} {H H' : Hp} {p : Addr} {o : HO} (x : Kp S H H') (n : H p = none) : Kp S H (upd H' p o) :=
  ⟨fun a u h e => (upd_ne (fun q => by rw [q, n] at e; cases e)).trans (x.at_ a u h e), fun a xs e => (upd_ne (fun q => by rw [q, n] at e; cases e)).trans (x.tup a xs e)⟩
theorem Kp.mono {S S' : List Addr} {H H' : Hp} (x : Kp S H H') (h : ∀ a ∈ S, a ∈ S') : Kp S' H H' := ⟨fun a o n e => x.at_ a o (fun z => n (h a z)) e, x.tup⟩
theorem Kp.drop {S : List Addr} {H H' : Hp} {b : Addr} (x : Kp (b :: S) H H') (n : H b = none) : Kp S H H' := ⟨fun a o h e => x.at_ a o (fun z => by
  rcases List.mem_cons.mp z with q | q
  · rw [q, n] at e; cases e
  · exact h q) e, x.tup⟩
theorem Kp.side {S : List Addr} {G Z W : Hp} {t : Addr} (x : Kp S G Z) (n : G t = none) (y : Kp [t] Z W) : Kp S G W := ⟨fun a o h e =>
  y.at_ a o (fun z => by rw [List.mem_singleton.mp z, n] at e; cases e) (x.at_ a o h e), fun a xs e => y.tup a xs (x.tup a xs e)⟩
theorem Kp.more {H H' : Hp} (S : List Addr) (x : Kp [] H H') : Kp S H H' := x.mono fun _ z => absurd z List.not_mem_nil
theorem Kp.same {H H' : Hp} (x : Kp [] H H') : Same H H' := fun a o e => x.at_ a o (fun z => nomatch z) e
theorem Kp.free {S : List Addr} {H H' : Hp} {p : Addr} (x : Kp S H H') (n : p ∉ S) (e : H' p = none) : H p = none := by
  cases q : H p with
  | none => rfl
  | some o => rw [x.at_ p o n q] at e; cases e
theorem Kp.of_same {H H' : Hp} (S : List Addr) (x : Same H H') : Kp S H H' := ⟨fun a o _ e => x a o e, fun a xs e => x a _ e⟩
theorem ne_new {H : Hp} {a b : Addr} {o : HO} (x : H b = none) (y : H a = some o) : a ≠ b := ne_of_none y x
theorem nin1 {a b : Addr} (h : a ≠ b) : a ∉ [b] := fun z => h (List.mem_singleton.mp z)
theorem nin2 {a b c : Addr} (h : a ≠ b) (h' : a ≠ c) : a ∉ [b, c] := fun z => by
  rcases List.mem_cons.mp z with q | q
  · exact h q
  · exact nin1 h' q
theorem nin0 {a : Addr} : a ∉ ([] : List Addr) := fun z => nomatch z
theorem in1 {a : Addr} {l : List Addr} : a ∈ a :: l := List.mem_cons_self
theorem in2 {a b : Addr} {l : List Addr} : a ∈ b :: a :: l := List.mem_cons_of_mem _ List.mem_cons_self
/-- a place where the stepping stops -/
inductive Stop (p : Prop) : Prop
  | a (h : p) : Stop p
  | b (h : p) : Stop p
theorem Stop.get {p : Prop} : Stop p → p
  | .a h => h
  | .b h => h
/-! fields by name -/
theorem lk_hit {f : Str} {v : V} {r : List (Str × V)} : List.lookup f ((f, v) :: r) = some v := by simp [List.lookup]
theorem lk_skip {f g : Str} {v : V} {r : List (Str × V)} (h : ¬ f = g) : List.lookup f ((g, v) :: r) = List.lookup f r := by
  have e : (f == g) = false := by simpa using h
  simp [List.lookup, e]
theorem put_nil {f : Str} {v : V} : putF f v [] = [(f, v)] := rfl
theorem put_hit {f : Str} {v x : V} {r : List (Str × V)} : putF f v ((f, x) :: r) = (f, v) :: r := if_pos rfl
theorem put_skip {f g : Str} {v x : V} {r r' : List (Str × V)} (h : ¬ g = f) (e : putF f v r = r') : putF f v ((g, x) :: r) = (g, x) :: r' := by
  rw [← e]
  exact if_neg h
/-! classes: made, their methods, their instances called -/
structure Mak (CX : CXT) (P : Program) (w : World) (K : PySem.W.Frag) (mg : Str → Option Value) (base : Heap) (k : Nat) (x : Str) (C : Addr) (sp : Sp) : Prop where
  ex : ∃ (f : Addr) (fd : FuncData) (ps : List Str), Mk K C f ∧ FnOk P w K mg base CX k f fd ps sp ∧ mg x = some (.ref C) ∧ Binds K fd ps []
section
variable {CX : CXT} {X : Cx} {E : XK} {k j : Nat} {x : Str} {C : Addr} {sp : Sp} {p pos : Pos} {e : Expr} {es : List Expr} {t : TA}
theorem pe_mkc (c : Mak CX X.prog X.w X.K X.mg X.base k x C sp) (hr : Room j X.A) (hx : Passes CX X E) (ha : PA X (e :: es) t) (hk : k + 1 ≤ j := by decide) (hg : Gl X x := by rfl)
    (hdb : (x == ("__debug__" : Str)) = false := by decide) (he : starEach (e :: es) X.env = (false, eval e X.env) :: starEach es X.env := by rfl) (hpl : (backTo pos (starEach es X.env)).any (·.1) = false := by rfl) :
    PE X (.Call (.Name x p) (e :: es) [] pos) (tMake C sp [] E t) := by
  obtain ⟨f, fd, ps, M, F, hm, b⟩ := c.ex
  exact pe_make M F (hr.mono hk) hg hm b .nil hx ha hdb he hpl
end
/-- a method (or any def of a class's text) at f -/
structure Mdef (K : PySem.W.Frag) (x qual : Str) (st : Stmt) (ps : List Str) (f : Addr) : Prop where
  ex : ∃ fd : FuncData, Fun K x qual st f fd ∧ Binds K fd ps []
/-! a def under its name -/
structure Cal (CX : CXT) (P : Program) (w : World) (K : PySem.W.Frag) (mg : Str → Option Value) (base : Heap) (k : Nat) (x : Str) (sp : Sp) : Prop where
  ex : ∃ (f : Addr) (fd : FuncData) (ps : List Str), FnOk P w K mg base CX k f fd ps sp ∧ mg x = some (.ref f) ∧ PySem.W.keepIn K (.ref f) = true ∧ Binds K fd ps []
/-- the def of the text, under its name -/
structure Def (K : PySem.W.Frag) (mg : Str → Option Value) (x : Str) (st : Stmt) (ps : List Str) : Prop where
  ex : ∃ (f : Addr) (fd : FuncData), Fun K x x st f fd ∧ mg x = some (.ref f) ∧ Binds K fd ps []
section
variable {P : Program} {w : World} {K : PySem.W.Frag} {mg : Str → Option Value} {base : Heap}
theorem Def.ok {x : Str} {st : Stmt} {N ps : List Str} {k : Nat} {sp : Sp} (D : Def K mg x st ps) (S : FnScope N ps (defScope st)) (len : ∀ vs H Q E, sp vs H Q E → vs.length = ps.length)
    (body : ∀ (f : Addr) (cdv : Value) (A : Around) (outer : List Env) (s : Shared) (H : Hp) (vs : List V) (Q : VK) (E : XK), Room k (A.deeper (PyProof.Rows.envOfC x (defScope st) s.heap.objs.size f cdv)) → sp vs H Q E →
      ∃ t, PSs (cxOf CX0 P w K mg base N x (defScope st) f cdv A outer s H E).nox (defBody st) t ∧ t { nx := fun _ H' => Q .non H', rt := Q } (start N vs) H) : Cal CX0 P w K mg base (k + 1) x sp := by
  obtain ⟨f, fd, F, hm, b⟩ := D.ex
  exact ⟨f, fd, ps, F.ok S len (fun cdv => body f cdv), hm, F.kp, b⟩
end
section
variable {CX : CXT} {X : Cx} {E : XK} {k j : Nat} {x : Str} {sp : Sp} {p pos : Pos} {e : Expr} {es : List Expr} {t : TA}
theorem pe_cl (c : Cal CX X.prog X.w X.K X.mg X.base k x sp) (hr : Room j X.A) (hx : Passes CX X E) (ha : PA X (e :: es) t) (hk : k ≤ j := by decide) (hg : Gl X x := by rfl)
    (hdb : (x == ("__debug__" : Str)) = false := by decide) (he : starEach (e :: es) X.env = (false, eval e X.env) :: starEach es X.env := by rfl) (hpl : (backTo pos (starEach es X.env)).any (·.1) = false := by rfl) :
    PE X (.Call (.Name x p) (e :: es) [] pos) (tCall sp [] E t) := by
  obtain ⟨f, fd, ps, F, hm, kp, b⟩ := c.ex
  exact pe_call F (hr.mono hk) hg hm kp b .nil hx ha hdb he hpl
end
/-! defs that may call repr: nothing is being shown around them -/
def FnG (P : Program) (w : World) (K : PySem.W.Frag) (mg : Str → Option Value) (base : Heap) (CX : CXT) (k : Nat) (f : Addr) (sp : Sp) : Prop :=
  ∀ (A : Around) (outer : List Env) (s : Shared) (H : Hp) (us : List Value) (vs : List V) (Q : VK) (E : XK), Room k A → A.guards = some [] →
    Env0 P w K mg base A outer s H → Vals vs us → sp vs H Q E → codeAny (model P w) A (.call (.ref f) ⟨us, []⟩) (CR CX outer P w H s Q E) s
section
variable {P : Program} {w : World} {K : PySem.W.Frag} {mg : Str → Option Value} {base : Heap} {CX : CXT} {k : Nat} {f : Addr} {sp : Sp}
theorem fn_g {x qual : Str} {st : Stmt} {fd : FuncData} {N ps : List Str} (F : Fun K x qual st f fd) (hb : Binds K fd ps []) (S : FnScope N ps (defScope st))
    (len : ∀ vs H Q E, sp vs H Q E → vs.length = ps.length)
    (body : ∀ (cdv : Value) (A : Around) (outer : List Env) (s : Shared) (H : Hp) (vs : List V) (Q : VK) (E : XK), (A.deeper (PyProof.Rows.envOfC qual (defScope st) s.heap.objs.size f cdv)).guards = some [] →
      Room k (A.deeper (PyProof.Rows.envOfC qual (defScope st) s.heap.objs.size f cdv)) → sp vs H Q E →
      ∃ t, PSs (cxOf CX P w K mg base N qual (defScope st) f cdv A outer s H E) (defBody st) t ∧ t { nx := fun _ H' => Q .non H', rt := Q } (start N vs) H) : FnG P w K mg base CX (k + 1) f sp := by
  obtain ⟨oc, od, kV, doc, pm, an, cdv, ct, osl, rfl, lk, hcd⟩ := F.ex
  intro A outer s H us vs Q E hr hg e0 r hsp
  have hl : vs.length = ps.length := len _ _ _ _ hsp
  have KX : K.In s.heap := e0.mod.kin.keeps fun b o e => (e0.bs b o e).1
  refine StX.run_bnd lk hcd S hr e0 (G := fun xs H2 => xs = vs ∧ H2 = H) (fun A' Ex Q' h => ?_) fun s2 H2 xs g hr' => ?_
  · have q := hb s us KX (by rw [List.append_nil, ← r.length]; exact hl)
    rw [List.append_nil] at q
    exact q _ _ _ _ (h s H vs us e0 Un.refl rfl (fun _ _ z => z) r hl ⟨rfl, rfl⟩)
  · obtain ⟨rfl, rfl⟩ := g
    exact body cdv A outer s2 _ _ Q E hg hr' hsp
end
structure CalG (CX : CXT) (P : Program) (w : World) (K : PySem.W.Frag) (mg : Str → Option Value) (base : Heap) (k : Nat) (x : Str) (sp : Sp) : Prop where
  ex : ∃ (f : Addr), FnG P w K mg base CX k f sp ∧ mg x = some (.ref f) ∧ PySem.W.keepIn K (.ref f) = true
section
variable {P : Program} {w : World} {K : PySem.W.Frag} {mg : Str → Option Value} {base : Heap} {CX : CXT}
theorem Def.okG {x : Str} {st : Stmt} {N ps : List Str} {k : Nat} {sp : Sp} (D : Def K mg x st ps) (S : FnScope N ps (defScope st)) (len : ∀ vs H Q E, sp vs H Q E → vs.length = ps.length)
    (body : ∀ (f : Addr) (cdv : Value) (A : Around) (outer : List Env) (s : Shared) (H : Hp) (vs : List V) (Q : VK) (E : XK), (A.deeper (PyProof.Rows.envOfC x (defScope st) s.heap.objs.size f cdv)).guards = some [] →
      Room k (A.deeper (PyProof.Rows.envOfC x (defScope st) s.heap.objs.size f cdv)) → sp vs H Q E →
      ∃ t, PSs (cxOf CX P w K mg base N x (defScope st) f cdv A outer s H E) (defBody st) t ∧ t { nx := fun _ H' => Q .non H', rt := Q } (start N vs) H) : CalG CX P w K mg base (k + 1) x sp := by
  obtain ⟨f, fd, F, hm, b⟩ := D.ex
  exact ⟨f, fn_g F b S len (fun cdv => body f cdv), hm, F.kp⟩
theorem Def.okG0 {x : Str} {st : Stmt} {N ps : List Str} {k : Nat} {sp : Sp} (D : Def K mg x st ps) (S : FnScope N ps (defScope st)) (len : ∀ vs H Q E, sp vs H Q E → vs.length = ps.length)
    (body : ∀ (f : Addr) (cdv : Value) (A : Around) (outer : List Env) (s : Shared) (H : Hp) (vs : List V) (Q : VK) (E : XK), (A.deeper (PyProof.Rows.envOfC x (defScope st) s.heap.objs.size f cdv)).guards = some [] →
      Room k (A.deeper (PyProof.Rows.envOfC x (defScope st) s.heap.objs.size f cdv)) → sp vs H Q E →
      ∃ t, PSs (cxOf CX0 P w K mg base N x (defScope st) f cdv A outer s H E).nox (defBody st) t ∧ t { nx := fun _ H' => Q .non H', rt := Q } (start N vs) H) : CalG CX0 P w K mg base (k + 1) x sp := by
  refine D.okG S len fun f cdv A outer s H vs Q E hg hr h => ?_
  obtain ⟨t, a, b⟩ := body f cdv A outer s H vs Q E hg hr h
  exact ⟨t, a.nox, b⟩
end
section
variable {CX : CXT} {X : Cx} {E : XK} {k j : Nat} {x : Str} {sp : Sp} {p pos : Pos} {e : Expr} {es : List Expr} {t : TA}
theorem pe_clG (c : CalG CX X.prog X.w X.K X.mg X.base k x sp) (hg : X.A.guards = some []) (hr : Room j X.A) (hx : Passes CX X E) (ha : PA X (e :: es) t) (hk : k ≤ j := by decide) (hgl : Gl X x := by rfl)
    (hdb : (x == ("__debug__" : Str)) = false := by decide) (he : starEach (e :: es) X.env = (false, eval e X.env) :: starEach es X.env := by rfl) (hpl : (backTo pos (starEach es X.env)).any (·.1) = false := by rfl) :
    PE X (.Call (.Name x p) (e :: es) [] pos) (tCall sp [] E t) := by
  obtain ⟨f, F, hm, kp⟩ := c.ex
  constructor
  intro pins s σ H Q I h
  refine PySem.wpAny_Call_Name_kw (ld_glob I hgl hm ?_ hdb)
  refine PySem.W.callWith_K (h₀ := X.base) I.ok.mod.kin kp (thn (ha.run pos pins s σ H _ I h) fun us s1 hh => ?_) he hpl
  obtain ⟨vs, H1, I1, r, q⟩ := hh
  rw [List.append_nil] at q
  refine ⟨I1.kIn, wpAny_call (codeAny_mono (F X.A X.stack s1 H1 us vs Q E (hr.mono hk) hg I1.env0 r q) fun z s' hq => ?_)⟩
  cases z with
  | error u => exact hx pins σ H1 s1 u s' I1 hq
  | ok fl => cases fl with
    | ret u => exact I1.after hq
    | _ => exact hq.elim
end
/-! data of this kind hold no dicts -/
mutual
theorem dp_noDict {K : PySem.W.Frag} {H : Hp} : ∀ (d : PyData) (v : V), Dp K H v d → d.hasDict = false
  | .none, _, _ => by simp only [PyData.hasDict]
  | .bool _, _, _ => by simp only [PyData.hasDict]
  | .int _, _, _ => by simp only [PyData.hasDict]
  | .str _, _, _ => by simp only [PyData.hasDict]
  | .list ds, _, h => by
    cases h with
    | lst _ h2 => simp only [PyData.hasDict]; exact dp_noDictAll ds _ h2
  | .tuple ds, _, h => by
    cases h with
    | tup _ h2 => simp only [PyData.hasDict]; exact dp_noDictAll ds _ h2
  | .dict _, _, h => by cases h
theorem dp_noDictAll {K : PySem.W.Frag} {H : Hp} : ∀ (ds : List PyData) (vs : List V), DpAll K H vs ds → PyData.hasDictAll ds = false
  | [], _, _ => by simp only [PyData.hasDictAll]
  | d :: ds, _, h => by
    cases h with
    | cons h1 h2 => simp only [PyData.hasDictAll, dp_noDict d _ h1, dp_noDictAll ds _ h2, Bool.or_self]
end
/-! repr of data -/
section
variable {X : Cx}
def rRepr (K : PySem.W.Frag) : List V → Hp → VK → Prop := fun xs H Q => ∃ (x : V) (d : PyData), xs = [x] ∧ Dp K H x d ∧ d.showable = true ∧ d.shown.length ≤ sizeLine ∧ d.depth ≤ 180 ∧ Q (.str d.shown) H
theorem call_repr (hg : X.A.guards = some []) (hu : X.A.units + 200 < cLine) : CallR X (.builtin "repr") (rRepr X.K) := by
  intro pins s σ H xs us Q I r h
  obtain ⟨x, d, rfl, hd, hs, hz, hp, q⟩ := h
  obtain ⟨u, rfl, ru⟩ := vals1 r
  cases hd with
  | non => cases ru; exact PySem.P.repr_of_none ⟨.str _, H, I.tok _, ⟨_, rfl⟩, q⟩
  | bl b => cases ru; exact PySem.P.repr_of_bool ⟨.str _, H, I.tok _, ⟨_, rfl⟩, by cases b <;> exact q⟩
  | int i =>
    obtain ⟨t, rfl⟩ := ru
    exact PySem.P.repr_of_int (of_decide_eq_true hs) ⟨.str _, H, I.tok _, ⟨_, rfl⟩, q⟩
  | str z =>
    obtain ⟨t, rfl⟩ := ru
    exact PySem.P.repr_of_str ⟨.str _, H, I.tok _, ⟨_, rfl⟩, q⟩ hz
  | lst h1 h2 =>
    obtain ⟨as, rd⟩ := Dp.reads I _ _ _ (Dp.lst h1 h2) ru
    cases ru
    refine PySem.repr_of_reads' rd hs ?_ hg (by omega) (fun _ _ e => e) (fun h' t tk hk => ⟨.str _, H, I.kept hk, ⟨_, rfl⟩, q⟩) hz
    exact PyData.noDict_hsm (dp_noDict _ _ (Dp.lst h1 h2))
  | tup h1 h2 =>
    obtain ⟨as, rd⟩ := Dp.reads I _ _ _ (Dp.tup h1 h2) ru
    cases ru
    refine PySem.repr_of_reads' rd hs ?_ hg (by omega) (fun _ _ e => e) (fun h' t tk hk => ⟨.str _, H, I.kept hk, ⟨_, rfl⟩, q⟩) hz
    exact PyData.noDict_hsm (dp_noDict _ _ (Dp.tup h1 h2))
end
/-! loops over range(n) -/
theorem for_rng {n : Nat} {g : TG} {tb : TS} {D : Ends} {σ : St} {H : Hp} (Pv : Nat → St → Hp → Prop) (h0 : Pv 0 σ H)
    (hs : ∀ (i : Nat) σ H, i < n → Pv i σ H → g (.int (i : Int)) σ H fun σ2 H2 => tb { D with nx := Pv (i + 1), ct := Pv (i + 1), bk := D.nx } σ2 H2) (hd : ∀ σ H, Pv n σ H → D.nx σ H) :
    ∃ W : Nat → Nat → St → Hp → Prop, (∃ m, W 0 m σ H) ∧ ∀ i m σ H, W i m σ H →
      ((Itr 0 n).stop i H ∧ D.nx σ H) ∨ ((Itr 0 n).go i H ∧ ∃ N : St → Hp → Prop, (∀ σ' H', N σ' H' → ∃ m', m' < m ∧ W (i + 1) m' σ' H') ∧ ∀ x H', (Itr 0 n).yld i H x H' → g x σ H' fun σ2 H2 => tb { D with nx := N, ct := N, bk := D.nx } σ2 H2) :=
  for_range Pv h0 (fun i σ H hi p => by rw [Int.zero_add]; exact hs i σ H hi p) hd
theorem lc_rng {n : Nat} {g : TG} {tt : TT} {te : TE} {vs : List Nat} {σ : St} {H1 : Hp} {D : Addr} {Qd : Hp → Prop} (Pv : Nat → Hp → Prop) (h0 : Pv 0 (upd H1 D (.lst [])))
    (hs : ∀ (i : Nat) H, i < n → Pv i H → g (.int (i : Int)) (wipe σ vs) H fun σ2 H2 => wipe σ2 vs = wipe σ vs ∧ tt σ2 H2 fun b H3 =>
      if b = true then te σ2 H3 fun y H4 => ∃ acc, H4 D = some (.lst acc) ∧ acc.length < sizeLine ∧ Pv (i + 1) (upd H4 D (.lst (acc ++ [y]))) else Pv (i + 1) H3) (hd : ∀ H, Pv n H → Qd H) :
    ∃ W : Nat → Nat → Hp → Prop, (∃ m, W 0 m (upd H1 D (.lst []))) ∧ ∀ i m H, W i m H →
      ((Itr 0 n).stop i H ∧ Qd H) ∨ ((Itr 0 n).go i H ∧ ∃ Nx : Hp → Prop, (∀ H', Nx H' → ∃ m', m' < m ∧ W (i + 1) m' H') ∧ ∀ x H', (Itr 0 n).yld i H x H' → g x (wipe σ vs) H' fun σ2 H2 => wipe σ2 vs = wipe σ vs ∧ tt σ2 H2 fun b H3 =>
        if b = true then te σ2 H3 fun y H4 => ∃ acc, H4 D = some (.lst acc) ∧ acc.length < sizeLine ∧ Nx (upd H4 D (.lst (acc ++ [y]))) else Nx H3) :=
  lc_range Pv h0 (fun i H hi p => by rw [Int.zero_add]; exact hs i H hi p) hd
/-! data of tuples, numbers, texts, truths and None: they stay what they are -/
mutual
inductive Pd (H : Hp) : V → PyData → Prop
  | non : Pd H .non .none
  | bl (b : Bool) : Pd H (.bl b) (.bool b)
  | int (i : Int) : Pd H (.int i) (.int i)
  | str (x : Str) : Pd H (.str x) (.str x)
  | tup {a : Addr} {xs : List V} {ds : List PyData} : H a = some (.tup xs) → PdAll H xs ds → Pd H (.ref a) (.tuple ds)
inductive PdAll (H : Hp) : List V → List PyData → Prop
  | nil : PdAll H [] []
  | cons {v : V} {vs : List V} {d : PyData} {ds : List PyData} : Pd H v d → PdAll H vs ds → PdAll H (v :: vs) (d :: ds)
end
mutual
theorem Pd.keep {H H' : Hp} (k : ∀ a xs, H a = some (.tup xs) → H' a = some (.tup xs)) : ∀ (d : PyData) (v : V), Pd H v d → Pd H' v d
  | .none, _, h => by cases h; exact .non
  | .bool b, _, h => by cases h; exact .bl b
  | .int i, _, h => by cases h; exact .int i
  | .str x, _, h => by cases h; exact .str x
  | .tuple ds, _, h => by
    cases h with
    | tup e r => exact .tup (k _ _ e) (PdAll.keep k ds _ r)
  | .list _, _, h => by cases h
  | .dict _, _, h => by cases h
theorem PdAll.keep {H H' : Hp} (k : ∀ a xs, H a = some (.tup xs) → H' a = some (.tup xs)) : ∀ (ds : List PyData) (vs : List V), PdAll H vs ds → PdAll H' vs ds
  | [], _, h => by cases h; exact .nil
  | d :: ds, _, h => by
    cases h with
    | cons a b => exact .cons (Pd.keep k d _ a) (PdAll.keep k ds _ b)
end
mutual
theorem Pd.dp {K : PySem.W.Frag} {H : Hp} : ∀ (d : PyData) (v : V), Pd H v d → Dp K H v d
  | .none, _, h => by cases h; exact .non
  | .bool b, _, h => by cases h; exact .bl b
  | .int i, _, h => by cases h; exact .int i
  | .str x, _, h => by cases h; exact .str x
  | .tuple ds, _, h => by
    cases h with
    | tup e r => exact .tup (SqT.of e) (PdAll.dp ds _ r)
  | .list _, _, h => by cases h
  | .dict _, _, h => by cases h
theorem PdAll.dp {K : PySem.W.Frag} {H : Hp} : ∀ (ds : List PyData) (vs : List V), PdAll H vs ds → DpAll K H vs ds
  | [], _, h => by cases h; exact .nil
  | d :: ds, _, h => by
    cases h with
    | cons a b => exact .cons (Pd.dp d _ a) (PdAll.dp ds _ b)
end
theorem Kp.pd {S : List Addr} {H H' : Hp} {v : V} {d : PyData} (k : Kp S H H') (h : Pd H v d) : Pd H' v d := Pd.keep k.tup d v h
theorem Kp.pds {S : List Addr} {H H' : Hp} {v : List V} {d : List PyData} (k : Kp S H H') (h : PdAll H v d) : PdAll H' v d := PdAll.keep k.tup d v h
theorem PdAll.ints {H : Hp} : ∀ ns : List Int, PdAll H (ns.map V.int) (ns.map PyData.int)
  | [] => .nil
  | n :: ns => .cons (.int n) (PdAll.ints ns)
theorem PdAll.snoc {H : Hp} {v : V} {d : PyData} : ∀ {vs : List V} {ds : List PyData}, PdAll H vs ds → Pd H v d → PdAll H (vs ++ [v]) (ds ++ [d])
  | _, _, .nil, h => .cons h .nil
  | _, _, .cons a b, h => .cons a (PdAll.snoc b h)
theorem PdAll.len {H : Hp} : ∀ {vs : List V} {ds : List PyData}, PdAll H vs ds → vs.length = ds.length
  | _, _, .nil => rfl
  | _, _, .cons _ b => congrArg (· + 1) (PdAll.len b)
/-! how long a text repr gives -/
structure Sh (d : PyData) (n k : Nat) : Prop where
  so : d.showable = true
  le : d.shown.length ≤ n
  dp : d.depth ≤ k
structure ShAll (ds : List PyData) (n k : Nat) : Prop where
  so : PyData.showableAll ds = true
  le : ((PyData.shownAll ds).map (·.length)).sum + 2 * ds.length ≤ n
  dp : PyData.depthAll ds ≤ k
theorem Sh.mono {d : PyData} {n k n' k' : Nat} (h : Sh d n k) (hn : n ≤ n') (hk : k ≤ k') : Sh d n' k' := ⟨h.so, Nat.le_trans h.le hn, Nat.le_trans h.dp hk⟩
theorem ShAll.mono {d : List PyData} {n k n' k' : Nat} (h : ShAll d n k) (hn : n ≤ n') (hk : k ≤ k') : ShAll d n' k' := ⟨h.so, Nat.le_trans h.le hn, Nat.le_trans h.dp hk⟩
theorem Sh.none : Sh .none 4 0 := ⟨rfl, by decide, Nat.le_refl _⟩
theorem Sh.bool (b : Bool) : Sh (.bool b) 5 0 := ⟨rfl, by cases b <;> decide, Nat.le_refl _⟩
theorem Sh.int {i : Int} (h : i.natAbs < 10 ^ 60) : Sh (.int i) 61 0 := by
  refine ⟨?_, ?_, Nat.le_refl _⟩
  · have h2 : i.natAbs < 2 ^ 200 := Nat.lt_of_lt_of_le h (by decide)
    have h3 := PySem.Flt.log2_lt_of (show 0 < 200 by decide) h2
    simp only [PyData.showable]
    exact decide_eq_true (by omega)
  · have e := int_text_length_le10 (k := 60) (by decide) h
    show (Str.ofString (toString i)).length ≤ 61
    rw [ofString_length]
    exact e
theorem Sh.str {x : Str} (h : ∀ c ∈ x.cps.toList, c < 16 ^ 8) : Sh (.str x) (10 * x.length + 2) 0 := by
  refine ⟨rfl, ?_, Nat.le_refl _⟩
  simp only [PyData.shown]
  exact StrLaws.reprText_len x h
theorem shownAll_len : ∀ ds : List PyData, (PyData.shownAll ds).length = ds.length
  | [] => by simp only [PyData.shownAll, List.length_nil]
  | d :: ds => by simp only [PyData.shownAll, List.length_cons, shownAll_len ds]
theorem ShAll.nil {k : Nat} : ShAll [] 0 k := ⟨by simp only [PyData.showableAll], by simp only [PyData.shownAll, List.map_nil, List.sum_nil, List.length_nil]; omega, by simp only [PyData.depthAll]; omega⟩
theorem ShAll.cons {d : PyData} {ds : List PyData} {n m k : Nat} (a : Sh d n k) (b : ShAll ds m k) : ShAll (d :: ds) (n + 2 + m) k := by
  refine ⟨by simp only [PyData.showableAll, a.so, b.so, Bool.and_self], ?_, ?_⟩
  · have h1 := a.le
    have h2 := b.le
    simp only [PyData.shownAll, List.map_cons, List.sum_cons, List.length_cons]
    omega
  · have h1 := a.dp
    have h2 := b.dp
    simp only [PyData.depthAll]
    omega
theorem ShAll.of {n k : Nat} : ∀ ds : List PyData, (∀ d ∈ ds, Sh d n k) → ShAll ds (ds.length * (n + 2)) k
  | [], _ => ShAll.nil.mono (Nat.zero_le _) (Nat.le_refl _)
  | d :: ds, h => (ShAll.cons (h d List.mem_cons_self) (ShAll.of ds fun e he => h e (List.mem_cons_of_mem _ he))).mono (by rw [List.length_cons, Nat.succ_mul]; omega) (Nat.le_refl _)
theorem Sh.list {ds : List PyData} {n k : Nat} (h : ShAll ds n k) : Sh (.list ds) (n + 3) (k + 1) := by
  refine ⟨by simp only [PyData.showable, h.so], ?_, by simp only [PyData.depth]; have := h.dp; omega⟩
  have h1 := listText_len_le (PyData.shownAll ds)
  have h2 := h.le
  rw [shownAll_len] at h1
  simp only [PyData.shown]
  omega
theorem Sh.tuple {ds : List PyData} {n k : Nat} (h : ShAll ds n k) : Sh (.tuple ds) (n + 3) (k + 1) := by
  refine ⟨by simp only [PyData.showable, h.so], ?_, by simp only [PyData.depth]; have := h.dp; omega⟩
  have h1 := tupleText_len_le (PyData.shownAll ds)
  have h2 := h.le
  rw [shownAll_len] at h1
  simp only [PyData.shown]
  omega
def rRepr2 (K : PySem.W.Frag) : List V → Hp → VK → Prop := fun xs H Q => ∃ (x : V) (d : PyData) (n k : Nat), xs = [x] ∧ Dp K H x d ∧ Sh d n k ∧ n ≤ sizeLine ∧ k ≤ 180 ∧ Q (.str d.shown) H
theorem call_reprD {X : Cx} (hg : X.A.guards = some []) (hu : X.A.units + 200 < cLine) : CallR X (.builtin "repr") (rRepr2 X.K) := fun pins s σ H xs us Q I r h => by
  obtain ⟨x, d, n, k, e, hd, hs, hn, hk, q⟩ := h
  exact call_repr hg hu pins s σ H xs us Q I r ⟨x, d, e, hd, hs.so, Nat.le_trans hs.le hn, Nat.le_trans hs.dp hk, q⟩
/-! list(text) -/
theorem paired_get {α β : Type} {R : α → β → Prop} : ∀ (xs : List α) (ys : List β), xs.length = ys.length → (∀ (j : Nat) a b, xs[j]? = some a → ys[j]? = some b → R a b) → Paired R xs ys
  | [], [], _, _ => .nil
  | [], _ :: _, h, _ => by cases h
  | _ :: _, [], h, _ => by cases h
  | x :: xs, y :: ys, h, k => .cons (k 0 x y rfl rfl) (paired_get xs ys (Nat.succ.inj h) fun j a b p q => k (j + 1) a b p q)
abbrev sgn (c : Nat) : V := .str ⟨#[c]⟩
theorem call_list_txt {X : Cx} (hc : X.calm = true) : CallR X (.type "list") (fun xs H Q => ∃ x : Str, xs = [.str x] ∧ x.length ≤ sizeLine ∧ ∀ l, H l = none → Q (.ref l) (upd H l (.lst (x.cps.toList.map sgn)))) := by
  intro pins s σ H xs us Q I r h
  obtain ⟨x, rfl, hz, q⟩ := h
  obtain ⟨u, rfl, t, rfl⟩ := vals1 r
  refine PySem.call_list_str (I.ok.hd hc) x t (hn := hz) fun h' tk acc c hk hS hacc => ?_
  have rel : Vals (x.cps.toList.map sgn) acc.toList := paired_get _ _ (by simp [hacc.1]) fun j a b p p' => by
    obtain ⟨cc, uu, e1, rfl⟩ := hacc.2 j b (by simpa using p')
    have p2 : (x.cps[j]?).map sgn = some a := by simpa using p
    rw [e1] at p2
    obtain rfl : sgn cc = a := Option.some.inj p2
    exact ⟨uu, rfl⟩
  refine ⟨.ref s.heap.objs.size, _, I.laid (t' := tk) hk (Nat.le_refl _) (show ObjOk X.prog X.w _ h' _ (.lst (x.cps.toList.map sgn)) from ⟨?_, acc.toList, c, rel, ?_⟩), rfl, q _ (I.hok.fresh (Nat.le_refl _))⟩
  · rw [List.length_map]; exact hz
  · simpa using hS
theorem _root_.L2.Room.units2 {k : Nat} {A : Around} (r : Room k A) : A.units + 200 < cLine := by have := r.un; omega
/-! the end of a law whose promise is told of a def that may call repr -/
section
open PySem.W PyProof.Rows
variable {P : Program} {w : World} {K : PySem.W.Frag} {mg mb : Str → Option Value} {CX : CXT} {k : Nat} {fa a : Addr} {sp : Sp} {s₁ : Shared} {vs : List Value} {ns : List Int}
theorem lawG (KX : K.In s₁.heap) (hns : s₁.heap.Ns mainGlobals mg) (hb : s₁.heap.Ns builtinsNs mb) (hbb : ∀ x : Str, x ≠ "__name__" → mb x = bootBuiltins x) (hlim : s₁.heap.NoLimit) (hg : s₁.gens = #[])
    (ha : s₁.heap.get? a = some { cls := .type "list", data := .seq vs.toArray }) (hi : IntsAre vs ns) (hl : ns.length ≤ sizeLine) (hr : Room k callerA)
    (F : ∀ base : Heap, K.In base → base.Ns mainGlobals mg → FnG P w K mg base CX k fa sp)
    (hsp : ∀ H : Hp, Only H → SqL K H a (ns.map V.int) → sp [.ref a] H (fun v _ => v = .bl true) fun _ _ _ => False)
    (hCX : ∀ H e s', CX [] H s₁ (fun _ _ _ => False) e s' → False) :
    codeAny (model P w) callerA (.call (.ref fa) ⟨[.ref a], []⟩) (fun r s' => r = .ok (.ret (.bool true)) ∧ OldK s₁.heap s'.heap ∧ s'.os = s₁.os ∧ AllBare s'.gens) s₁ := by
  -- one abstract heap that tracks at most the script
  suffices core : ∀ H : Hp, Only H → SqL K H a (ns.map V.int) → HOk P w H s₁.heap → (∀ b u, H b = some u → b = a ∧ K.lookup a = none) → _ by
    cases hk : K.lookup a with
    | some o =>
      obtain rfl : o = { cls := .type "list", data := .seq vs.toArray } := by have e := KX a o hk; rw [ha] at e; cases e; rfl
      refine core (fun _ => none) (fun _ => .inl rfl) (.inr ⟨_, vs.toArray, _, hk, rfl, rfl, rfl, ?_, ?_⟩) (fun b u z => ?_) fun b u z => ?_
      · rw [List.size_toArray, hi.length]; exact hl
      · simpa using vals_ints hi
      · cases (show (none : Option HO) = some u from z)
      · cases (show (none : Option HO) = some u from z)
    | none =>
      let G : Hp := fun b => if b = a then some (.frz { cls := .type "list", data := .seq vs.toArray } (.lst (ns.map V.int))) else none
      have gy : G a = some (.frz { cls := .type "list", data := .seq vs.toArray } (.lst (ns.map V.int))) := if_pos rfl
      have gn : ∀ b, b ≠ a → G b = none := fun b n => if_neg n
      refine core G (fun b => ?_) (.inl (.inr ⟨_, gy⟩)) (fun b u z => ?_) fun b u z => ?_
      · rcases Nat.decEq b a with n | n
        · exact .inl (gn b n)
        · subst n; exact .inr ⟨_, _, gy⟩
      · rcases Nat.decEq b a with n | n
        · rw [gn b n] at z; cases z
        · subst n; rw [gy] at z; cases z
          exact ⟨ha, by rw [List.length_map]; exact hl, vs, _, vals_ints hi, ha⟩
      · rcases Nat.decEq b a with n | n
        · rw [gn b n] at z; cases z
        · exact ⟨n, hk⟩
  intro H hO hS hok hA
  have off : ∀ {b : Addr} {o : Obj}, s₁.heap.get? b = some o → (b = a → K.lookup a = none → False) → H b = none := fun {b o} e n => by
    cases q : H b with
    | none => rfl
    | some u => exact (n (hA b u q).1 (hA b u q).2).elim
  have nsK : ∀ {b : Addr} {m : Str → Option Value}, s₁.heap.Ns b m → (hidT s₁.heap H).Ns b m := fun {b m} z => by
    obtain ⟨o, es, ep, e, d, r⟩ := z
    refine ⟨o, es, ep, hidT_get e (off e fun q _ => ?_), d, r⟩
    subst q
    rw [ha] at e; cases e
    cases (show Data.seq vs.toArray _ = Data.dict es ep from d)
  have kin : K.In (hidT s₁.heap H) := fun b o e => hidT_get (KX b o e) (off (KX b o e) fun q n => by
    subst q; rw [n] at e; cases e)
  have md : Mod K mg (hidT s₁.heap H) := by
    obtain ⟨mc, h1, h2⟩ := hlim
    exact ⟨kin, nsK hns, ⟨mb, nsK hb, hbb⟩, mc, nsK h1, h2⟩
  have e0 : Env0 P w K mg (hidT s₁.heap H) callerA [] s₁ H :=
    { frames := rfl, mod := md, bs := fun b o e => of_hidT e, bsz := Nat.le_of_eq (hidT_size _ _), funs := trivial
      frf := fun b z => absurd (show b ∈ ([] : List Addr) from z) List.not_mem_nil
      hok := hok
      bare := .of_eq hg }
  have run := F _ kin (nsK hns) callerA [] s₁ H [.ref a] [.ref a] _ _ hr rfl e0 (.cons rfl .nil) (hsp H hO hS)
  refine codeAny_mono run fun z s' h => ?_
  cases z with
  | error e => exact (hCX H e s' h).elim
  | ok fl => cases fl with
    | ret u =>
      obtain ⟨v, H', os, bare, un, hok', r', q⟩ := h
      obtain rfl : v = V.bl true := q
      obtain rfl : u = Value.bool true := r'
      refine ⟨rfl, OldK.of_keep fun b o e => ?_, os, bare⟩
      cases q : H b with
      | none => exact un.keep b o e q (fun z => absurd (show b ∈ ([] : List Addr) from z) List.not_mem_nil) List.not_mem_nil
      | some u =>
        rcases hO b with z | ⟨ob, xs, z⟩
        · rw [q] at z; cases z
        · have e1 := (hok b _ z).1
          have e2 := (hok' b _ (un.frzs b ob _ z)).1
          rw [e] at e1; cases e1
          exact e2
    | _ => exact h.elim
theorem walkG {l : OpenLaw} {n k : Nat} {q : Program} {loose : List Str} {XP : (Str → Option Value) → Heap → Prop} {YP : World → Heap → Prop} {d : DefRec} {K : Params → Frag} {CX : World → CXT} {sp : World → Sp}
    (hn : l.most = some n) (hn2 : n ≤ sizeLine) (hdf : d.params.defaults = []) (hr : Room k callerA) (hY : ∀ (w : World) (h : Heap), YP w h → (K w.params).In h)
    (F : ∀ (w : World) (mg : Str → Option Value) (fa : Addr) (h : Heap), (K w.params).In h → h.Ns mainGlobals mg → mg d.name = some (.ref fa) →
      ∀ base : Heap, (K w.params).In base → base.Ns mainGlobals mg → FnG l.prog w (K w.params) mg base (CX w) k fa (sp w))
    (hsp : ∀ (w : World) (H : Hp) (a : Addr) (ns : List Int), ns.length ≤ n → (∀ z ∈ ns, Builtin.Int.intBits z ≤ 1048576) → Only H → SqL (K w.params) H a (ns.map V.int) → sp w [.ref a] H (fun v _ => v = .bl true) fun _ _ _ => False)
    (hCX : ∀ (w : World) (H : Hp) (s : Shared) (e : Value) (s' : Shared), CX w [] H s (fun _ _ _ => False) e s' → False) : WalkO q loose XP YP l.row.toRowW d [] (fun f vs => PySem.call f vs) := by
  refine Att.attach_callB hn hdf fun w s₀ s₁ mg mb fa o pm cd doc a vs ns G Y ho hd hcd hmg hobj hints hlen hbits hg => ?_
  have kx := hY w _ Y
  exact lawG kx G.T.g G.T.b G.T.builtins G.T.nolimit hg hobj hints (Nat.le_trans hlen hn2) hr (F w mg fa _ kx G.T.g hmg) (fun H z => hsp w H a ns hlen hbits z) fun H => hCX w H s₁
end
end TT

namespace TT
open PySem L2
/-- the tables of code objects that stand in the heap, each with the name that its code objects bear -/
class TB where
  T : List (Addr × Str)
variable [TB]
/-! data, without the heap -/
inductive D where
  | non | bl (b : Bool) | int (i : Int) | str (x : Str) | ty (n : String) | gl (a : Addr)
  | tup (xs : List D) | lst (xs : List D) | fl (xs : List D) | dK (kvs : List (Key × D)) | dT (kvs : List (List Key × D)) | obj (C : Addr) (fs : List (Str × D))
  | exn (a d C : Addr) (fs : List (Str × D)) | err (C : Addr) (fs : List (Str × D))
/-- what a name holds: data, or an object that may change -/
inductive MV where
  | d (x : D) | ref (n : Nat)
/-- an object that may change -/
inductive MO where
  | lst (xs : List D) | dK (kvs : List (Key × D)) | dT (kvs : List (List Key × D)) | ins (C : Addr) (fs : List (Str × MV))
mutual
inductive DR (K : PySem.W.Frag) (F : Hp) : D → V → Prop
  | non : DR K F .non .non
  | bl (b : Bool) : DR K F (.bl b) (.bl b)
  | int (i : Int) : DR K F (.int i) (.int i)
  | str (x : Str) : DR K F (.str x) (.str x)
  | ty (n : String) : DR K F (.ty n) (.ty n)
  | gl (a : Addr) : DR K F (.gl a) (.ref a)
  | tup {a : Addr} {xs : List D} {vs : List V} : F a = some (.tup vs) → DRs K F xs vs → DR K F (.tup xs) (.ref a)
  | lst {a : Addr} {xs : List D} {vs : List V} : F a = some (.lst vs) → DRs K F xs vs → DR K F (.lst xs) (.ref a)
  | fl {a : Addr} {xs : List D} {vs : List V} : SqL K F a vs → DRs K F xs vs → DR K F (.fl xs) (.ref a)
  | dK {a : Addr} {xs : List (Key × D)} {vs : List (Key × V)} : F a = some (.dK vs) → DRk K F xs vs → DR K F (.dK xs) (.ref a)
  | dT {a : Addr} {xs : List (List Key × D)} {vs : List (List Key × V)} : F a = some (.dT vs) → DRt K F xs vs → DR K F (.dT xs) (.ref a)
  | obj {a C dx : Addr} {xs : List (Str × D)} {vs : List (Str × V)} : F a = some (.ins C dx vs) → DRf K F xs vs → DR K F (.obj C xs) (.ref a)
  | exn {a d C : Addr} {xs : List (Str × D)} {vs : List (Str × V)} : F d = some (.xd vs) → DRf K F xs vs → DR K F (.exn a d C xs) (.ref a)
  | err {a dx C : Addr} {xs : List (Str × D)} {vs : List (Str × V)} : F a = some (exo a C (some dx)) → F dx = some (exd dx vs) → DRf K F xs vs → DR K F (.err C xs) (.ref a)
inductive DRs (K : PySem.W.Frag) (F : Hp) : List D → List V → Prop
  | nil : DRs K F [] []
  | cons {d : D} {v : V} {ds : List D} {vs : List V} : DR K F d v → DRs K F ds vs → DRs K F (d :: ds) (v :: vs)
inductive DRk (K : PySem.W.Frag) (F : Hp) : List (Key × D) → List (Key × V) → Prop
  | nil : DRk K F [] []
  | cons {k : Key} {d : D} {v : V} {ds : List (Key × D)} {vs : List (Key × V)} : DR K F d v → DRk K F ds vs → DRk K F ((k, d) :: ds) ((k, v) :: vs)
inductive DRt (K : PySem.W.Frag) (F : Hp) : List (List Key × D) → List (List Key × V) → Prop
  | nil : DRt K F [] []
  | cons {k : List Key} {d : D} {v : V} {ds : List (List Key × D)} {vs : List (List Key × V)} : DR K F d v → DRt K F ds vs → DRt K F ((k, d) :: ds) ((k, v) :: vs)
inductive DRf (K : PySem.W.Frag) (F : Hp) : List (Str × D) → List (Str × V) → Prop
  | nil : DRf K F [] []
  | cons {k : Str} {d : D} {v : V} {ds : List (Str × D)} {vs : List (Str × V)} : DR K F d v → DRf K F ds vs → DRf K F ((k, d) :: ds) ((k, v) :: vs)
end
theorem same_t {K : PySem.W.Frag} {H H' : Hp} {a : Addr} {xs : List V} (e : Same H H') (h : SqT K H a xs) : SqT K H' a xs := by
  rcases h with (h | ⟨o, h⟩) | h
  · exact .inl (.inl (e a _ h))
  · exact .inl (.inr ⟨o, e a _ h⟩)
  · exact .inr h
section
variable {K : PySem.W.Frag} {F F' : Hp}
mutual
theorem DR.mono (e : Same F F') : ∀ (d : D) (v : V), DR K F d v → DR K F' d v
  | .non, _, h => by cases h; exact .non
  | .bl b, _, h => by cases h; exact .bl b
  | .int i, _, h => by cases h; exact .int i
  | .str x, _, h => by cases h; exact .str x
  | .ty n, _, h => by cases h; exact .ty n
  | .gl n, _, h => by cases h; exact .gl n
  | .tup xs, _, h => by cases h with | tup q r => exact .tup (e _ _ q) (DRs.mono e xs _ r)
  | .lst xs, _, h => by cases h with | lst q r => exact .lst (e _ _ q) (DRs.mono e xs _ r)
  | .fl xs, _, h => by cases h with | fl q r => exact .fl (e.seq q) (DRs.mono e xs _ r)
  | .dK xs, _, h => by cases h with | dK q r => exact .dK (e _ _ q) (DRk.mono e xs _ r)
  | .dT xs, _, h => by cases h with | dT q r => exact .dT (e _ _ q) (DRt.mono e xs _ r)
  | .obj C xs, _, h => by cases h with | obj q r => exact .obj (e _ _ q) (DRf.mono e xs _ r)
  | .exn a d C xs, _, h => by cases h with | exn q r => exact .exn (e _ _ q) (DRf.mono e xs _ r)
  | .err C xs, _, h => by cases h with | err q1 q2 r => exact .err (e _ _ q1) (e _ _ q2) (DRf.mono e xs _ r)
theorem DRs.mono (e : Same F F') : ∀ (d : List D) (v : List V), DRs K F d v → DRs K F' d v
  | [], _, h => by cases h; exact .nil
  | d :: ds, _, h => by cases h with | cons a b => exact .cons (DR.mono e d _ a) (DRs.mono e ds _ b)
theorem DRk.mono (e : Same F F') : ∀ (d : List (Key × D)) (v : List (Key × V)), DRk K F d v → DRk K F' d v
  | [], _, h => by cases h; exact .nil
  | (_, d) :: ds, _, h => by cases h with | cons a b => exact .cons (DR.mono e d _ a) (DRk.mono e ds _ b)
theorem DRt.mono (e : Same F F') : ∀ (d : List (List Key × D)) (v : List (List Key × V)), DRt K F d v → DRt K F' d v
  | [], _, h => by cases h; exact .nil
  | (_, d) :: ds, _, h => by cases h with | cons a b => exact .cons (DR.mono e d _ a) (DRt.mono e ds _ b)
theorem DRf.mono (e : Same F F') : ∀ (d : List (Str × D)) (v : List (Str × V)), DRf K F d v → DRf K F' d v
  | [], _, h => by cases h; exact .nil
  | (_, d) :: ds, _, h => by cases h with | cons a b => exact .cons (DR.mono e d _ a) (DRf.mono e ds _ b)
end
end
/-! the places that may change -/
/-- no table -/
def NT : HO → Prop
  | .tbl _ => False
  | _ => True
open Classical in
noncomputable def mask (H : Hp) (Z : List Addr) : Hp := fun a => if a ∈ Z ∨ ∃ ps, H a = some (.tbl ps) then none else H a
theorem mask_in {H : Hp} {Z : List Addr} {a : Addr} {o : HO} (n : a ∉ Z) (e : H a = some o) (t : NT o := by exact True.intro) : mask H Z a = some o := by
  unfold mask
  rw [if_neg]
  · exact e
  · rintro (q | ⟨ps, q⟩)
    · exact n q
    · rw [e] at q; cases q; exact t
theorem of_mask {H : Hp} {Z : List Addr} {a : Addr} {o : HO} (e : mask H Z a = some o) : a ∉ Z ∧ H a = some o := by
  unfold mask at e
  split at e
  · cases e
  · rename_i n; exact ⟨fun q => n (.inl q), e⟩
theorem mask_nt {H : Hp} {Z : List Addr} {a : Addr} {o : HO} (e : mask H Z a = some o) : NT o := by
  unfold mask at e
  split at e
  · cases e
  · rename_i n
    cases o with
    | tbl ps => exact (n (.inr ⟨ps, e⟩)).elim
    | _ => exact True.intro
theorem mask_same (H : Hp) (Z : List Addr) : Same (mask H Z) H := fun a o e => (of_mask e).2
inductive RM (K : PySem.W.Frag) (F : Hp) (ι : List Addr) : MV → V → Prop
  | d {x : D} {v : V} : DR K F x v → RM K F ι (.d x) v
  | ref {n : Nat} {a : Addr} : ι[n]? = some a → RM K F ι (.ref n) (.ref a)
inductive RMf (K : PySem.W.Frag) (F : Hp) (ι : List Addr) : List (Str × MV) → List (Str × V) → Prop
  | nil : RMf K F ι [] []
  | cons {k : Str} {d : MV} {v : V} {ds : List (Str × MV)} {vs : List (Str × V)} : RM K F ι d v → RMf K F ι ds vs → RMf K F ι ((k, d) :: ds) ((k, v) :: vs)
inductive RO (K : PySem.W.Frag) (F : Hp) (ι : List Addr) : MO → HO → Prop
  | lst {xs : List D} {vs : List V} : DRs K F xs vs → RO K F ι (.lst xs) (.lst vs)
  | dK {xs : List (Key × D)} {vs : List (Key × V)} : DRk K F xs vs → RO K F ι (.dK xs) (.dK vs)
  | dT {xs : List (List Key × D)} {vs : List (List Key × V)} : DRt K F xs vs → RO K F ι (.dT xs) (.dT vs)
  | ins {C dx : Addr} {xs : List (Str × MV)} {vs : List (Str × V)} : RMf K F ι xs vs → RO K F ι (.ins C xs) (.ins C dx vs)
theorem RO.nt {K : PySem.W.Frag} {F : Hp} {ι : List Addr} {m : MO} {v : HO} (h : RO K F ι m v) : NT v := by cases h <;> exact True.intro
def Pre (ι ι' : List Addr) : Prop := ∀ (n : Nat) a, ι[n]? = some a → ι'[n]? = some a
theorem RM.mono {K : PySem.W.Frag} {F F' : Hp} {ι ι' : List Addr} (e : Same F F') (p : Pre ι ι') {m : MV} {v : V} (h : RM K F ι m v) : RM K F' ι' m v := by
  cases h with
  | d h => exact .d (DR.mono e _ _ h)
  | ref h => exact .ref (p _ _ h)
theorem RMf.mono {K : PySem.W.Frag} {F F' : Hp} {ι ι' : List Addr} (e : Same F F') (p : Pre ι ι') : ∀ {m : List (Str × MV)} {v : List (Str × V)}, RMf K F ι m v → RMf K F' ι' m v
  | _, _, .nil => .nil
  | _, _, .cons a b => .cons (a.mono e p) (RMf.mono e p b)
theorem RO.mono {K : PySem.W.Frag} {F F' : Hp} {ι ι' : List Addr} (e : Same F F') (p : Pre ι ι') {m : MO} {v : HO} (h : RO K F ι m v) : RO K F' ι' m v := by
  cases h with
  | lst h => exact .lst (DRs.mono e _ _ h)
  | dK h => exact .dK (DRk.mono e _ _ h)
  | dT h => exact .dT (DRt.mono e _ _ h)
  | ins h => exact .ins (h.mono e p)
/-- the store -/
structure Sta (K : PySem.W.Frag) (Z ι : List Addr) (μ : List MO) (H : Hp) : Prop where
  sub : ∀ a ∈ ι, a ∈ Z
  nd : ι.Nodup
  len : ι.length = μ.length
  trk : ∀ a ∈ Z, ∃ o, H a = some o
  tab : LamX.Tabs TB.T H
  obj : ∀ (n : Nat) a o, ι[n]? = some a → μ[n]? = some o → ∃ ho, H a = some ho ∧ RO K (mask H Z) ι o ho
structure Ext (Z ι : List Addr) (H : Hp) (Z' ι' : List Addr) (H' : Hp) : Prop where
  sub : ∀ a ∈ ι, a ∈ Z
  z : ∀ a ∈ Z, a ∈ Z'
  i : Pre ι ι'
  keep : ∀ a o, a ∉ ι → NT o → H a = some o → H' a = some o
  tb : ∀ a ps, H a = some (.tbl ps) → ∃ qs, H' a = some (.tbl qs)
  new : ∀ a ∈ Z', a ∈ Z ∨ H a = none
  newi : ∀ a ∈ ι', a ∈ ι ∨ H a = none
theorem Ext.refl {Z ι : List Addr} {H : Hp} (s : ∀ a ∈ ι, a ∈ Z) : Ext Z ι H Z ι H := ⟨s, fun _ h => h, fun _ _ h => h, fun _ _ _ _ h => h, fun _ ps h => ⟨ps, h⟩, fun _ h => .inl h, fun _ h => .inl h⟩
theorem nt_or (o : HO) : NT o ∨ ∃ ps, o = .tbl ps := by
  cases o with
  | tbl ps => exact .inr ⟨ps, rfl⟩
  | _ => exact .inl True.intro
theorem Ext.free {Z ι Z' ι' : List Addr} {H H' : Hp} (x : Ext Z ι H Z' ι' H') {a : Addr} (n : a ∉ ι) (h : H' a = none) : H a = none := by
  cases e : H a with
  | none => rfl
  | some o =>
    rcases nt_or o with t | ⟨ps, rfl⟩
    · rw [x.keep a o n t e] at h; cases h
    · obtain ⟨qs, z⟩ := x.tb a ps e; rw [z] at h; cases h
theorem Ext.trans {Z ι Z1 ι1 Z2 ι2 : List Addr} {H H1 H2 : Hp} (x : Ext Z ι H Z1 ι1 H1) (y : Ext Z1 ι1 H1 Z2 ι2 H2) : Ext Z ι H Z2 ι2 H2 := by
  have b : ∀ a, H1 a = none → a ∈ ι ∨ H a = none := fun a h => by
    by_cases q : a ∈ ι
    · exact .inl q
    · cases e : H a with
      | none => exact .inr rfl
      | some o => exact .inr (e.symm.trans (x.free q h))
  refine ⟨x.sub, fun a h => y.z a (x.z a h), fun n a h => y.i n a (x.i n a h), fun a o n t e => y.keep a o (fun q => ?_) t (x.keep a o n t e), fun a ps e => ?_, fun a h => ?_, fun a h => ?_⟩
  · rcases x.newi a q with r | r
    · exact n r
    · rw [r] at e; cases e
  · obtain ⟨qs, z⟩ := x.tb a ps e
    exact y.tb a qs z
  · rcases y.new a h with r | r
    · exact x.new a r
    · rcases b a r with q | q
      · exact .inl (x.sub a q)
      · exact .inr q
  · rcases y.newi a h with r | r
    · exact x.newi a r
    · exact b a r
theorem Ext.same {Z ι Z' ι' : List Addr} {H H' : Hp} (x : Ext Z ι H Z' ι' H') : Same (mask H Z) (mask H' Z') := fun a o e => by
  have t := mask_nt e
  obtain ⟨n, e⟩ := of_mask e
  refine mask_in (fun q => ?_) (x.keep a o (fun q => n (x.sub a q)) t e) t
  rcases x.new a q with r | r
  · exact n r
  · rw [r] at e; cases e
/-- the heap grows, the store stays -/
theorem Sta.grow {K : PySem.W.Frag} {Z ι : List Addr} {μ : List MO} {H H' : Hp} (s : Sta K Z ι μ H) (e : Same H H') : Sta K Z ι μ H' ∧ Ext Z ι H Z ι H' := by
  have x : Ext Z ι H Z ι H' := ⟨s.sub, fun _ h => h, fun _ _ h => h, fun a o _ _ h => e a o h, fun a ps h => ⟨ps, e a _ h⟩, fun _ h => .inl h, fun _ h => .inl h⟩
  refine ⟨⟨s.sub, s.nd, s.len, fun a h => ?_, s.tab.ext e, fun n a o h1 h2 => ?_⟩, x⟩
  · obtain ⟨o, h⟩ := s.trk a h
    exact ⟨o, e a o h⟩
  · obtain ⟨ho, h, r⟩ := s.obj n a o h1 h2
    exact ⟨ho, e a ho h, r.mono x.same x.i⟩
/-! results -/
inductive Res (α : Type) where
  | ok (a : α) (μ : List MO) | exc (C : Addr) (fs : List (Str × D)) (μ : List MO) | bad
def Res.bind {α β : Type} : Res α → (α → List MO → Res β) → Res β
  | .ok a μ, k => k a μ
  | .exc C fs μ, _ => .exc C fs μ
  | .bad, _ => .bad
@[simp] theorem Res.bind_ok {α β : Type} (a : α) (μ : List MO) (k : α → List MO → Res β) : (Res.ok a μ).bind k = k a μ := rfl
@[simp] theorem Res.bind_exc {α β : Type} (C : Addr) (fs : List (Str × D)) (μ : List MO) (k : α → List MO → Res β) : (Res.exc C fs μ : Res α).bind k = .exc C fs μ := rfl
@[simp] theorem Res.bind_bad {α β : Type} (k : α → List MO → Res β) : (Res.bad : Res α).bind k = .bad := rfl
abbrev En := List (Option MV)
abbrev ME := En → List MO → Res MV
abbrev MT := En → List MO → Res Bool
abbrev MA := En → List MO → Res (List MV)
inductive RSo (K : PySem.W.Frag) (F : Hp) (ι : List Addr) : Option MV → Option V → Prop
  | none {v : Option V} : RSo K F ι none v
  | some {m : MV} {v : V} : RM K F ι m v → RSo K F ι (some m) (some v)
abbrev RS (K : PySem.W.Frag) (F : Hp) (ι : List Addr) : En → St → Prop := Paired (RSo K F ι)
theorem RS.mono {K : PySem.W.Frag} {F F' : Hp} {ι ι' : List Addr} (e : Same F F') (p : Pre ι ι') {m : En} {v : St} (h : RS K F ι m v) : RS K F' ι' m v :=
  Paired.mapP h fun a b r => by
    cases r with
    | none => exact .none
    | some r => exact .some (r.mono e p)
theorem RS.get {K : PySem.W.Frag} {F : Hp} {ι : List Addr} : ∀ {ρ : En} {σ : St}, RS K F ι ρ σ → ∀ {i : Nat} {m : MV}, ρ[i]? = some (some m) → ∃ v, σ[i]? = some (some v) ∧ RM K F ι m v
  | _, _, .nil, i, m, h => by simp at h
  | _, _, .cons r t, 0, m, h => by
    simp at h
    subst h
    cases r with
    | some r => exact ⟨_, rfl, r⟩
  | _, _, .cons r t, i + 1, m, h => by
    obtain ⟨v, h1, h2⟩ := RS.get t (i := i) (m := m) (by simpa using h)
    exact ⟨v, by simpa using h1, h2⟩
theorem RS.set {K : PySem.W.Frag} {F : Hp} {ι : List Addr} {m : MV} {v : V} (r : RM K F ι m v) : ∀ {ρ : En} {σ : St}, RS K F ι ρ σ → ∀ (i : Nat), RS K F ι (ρ.set i (some m)) (σ.set i (some v))
  | _, _, .nil, _ => .nil
  | _, _, .cons _ t, 0 => .cons (.some r) t
  | _, _, .cons q t, i + 1 => .cons q (RS.set r t i)
structure Rel (K : PySem.W.Frag) (Z ι : List Addr) (ρ : En) (μ : List MO) (σ : St) (H : Hp) : Prop where
  sta : Sta K Z ι μ H
  rs : RS K (mask H Z) ι ρ σ
theorem Rel.ext {K : PySem.W.Frag} {Z ι Z' ι' : List Addr} {ρ : En} {μ μ' : List MO} {σ : St} {H H' : Hp} (R : Rel K Z ι ρ μ σ H) (x : Ext Z ι H Z' ι' H') (s : Sta K Z' ι' μ' H') : Rel K Z' ι' ρ μ' σ H' := ⟨s, R.rs.mono x.same x.i⟩
def Out (K : PySem.W.Frag) (W : WX) (σ : St) (Z ι : List Addr) (H : Hp) {α : Type} (r : Res α) (P : α → List Addr → List Addr → Hp → Prop) : Prop :=
  match r with
  | .ok v μ' => ∀ Z' ι' H', Ext Z ι H Z' ι' H' → Sta K Z' ι' μ' H' → P v Z' ι' H'
  | .exc C fs μ' => ∀ Z' ι' H' d fs', Ext Z ι H Z' ι' H' → Sta K Z' ι' μ' H' → H' d = some (.xd fs') → d ∉ Z' → DRf K (mask H' Z') fs fs' → W (.ref C) (some d) σ H'
  | .bad => False
section
variable {K : PySem.W.Frag} {W : WX} {σ : St} {Z ι Z' ι' : List Addr} {H H' : Hp} {α β : Type}
theorem Out.base {r : Res α} {P : α → List Addr → List Addr → Hp → Prop} (o : Out K W σ Z ι H r P) (x : Ext Z ι H Z' ι' H') : Out K W σ Z' ι' H' r P := by
  cases r with
  | ok v μ' => exact fun Z2 ι2 H2 x2 s2 => o Z2 ι2 H2 (x.trans x2) s2
  | exc C fs μ' => exact fun Z2 ι2 H2 d fs' x2 s2 => o Z2 ι2 H2 d fs' (x.trans x2) s2
  | bad => exact o
theorem Out.imp {r : Res α} {P P' : α → List Addr → List Addr → Hp → Prop} (o : Out K W σ Z ι H r P) (h : ∀ v Z' ι' H', P v Z' ι' H' → P' v Z' ι' H') : Out K W σ Z ι H r P' := by
  cases r with
  | ok v μ' => exact fun Z2 ι2 H2 x2 s2 => h _ _ _ _ (o Z2 ι2 H2 x2 s2)
  | exc C fs μ' => exact o
  | bad => exact o
end
def Val (K : PySem.W.Frag) (Q : VK) : MV → List Addr → List Addr → Hp → Prop := fun v Z ι H => ∀ x, RM K (mask H Z) ι v x → Q x H
inductive RMs (K : PySem.W.Frag) (F : Hp) (ι : List Addr) : List MV → List V → Prop
  | nil : RMs K F ι [] []
  | cons {m : MV} {v : V} {ms : List MV} {vs : List V} : RM K F ι m v → RMs K F ι ms vs → RMs K F ι (m :: ms) (v :: vs)
theorem RMs.mono {K : PySem.W.Frag} {F F' : Hp} {ι ι' : List Addr} (e : Same F F') (p : Pre ι ι') : ∀ {m : List MV} {v : List V}, RMs K F ι m v → RMs K F' ι' m v
  | _, _, .nil => .nil
  | _, _, .cons a b => .cons (a.mono e p) (RMs.mono e p b)
def Vals' (K : PySem.W.Frag) (Q : List V → Hp → Prop) : List MV → List Addr → List Addr → Hp → Prop := fun v Z ι H => ∀ x, RMs K (mask H Z) ι v x → Q x H
def tM (K : PySem.W.Frag) (W : WX) (m : ME) : TE := fun σ H Q => ∃ Z ι ρ μ, Rel K Z ι ρ μ σ H ∧ Out K W σ Z ι H (m ρ μ) (Val K Q)
def tMT (K : PySem.W.Frag) (W : WX) (m : MT) : TT := fun σ H Q => ∃ Z ι ρ μ, Rel K Z ι ρ μ σ H ∧ Out K W σ Z ι H (m ρ μ) (fun b _ _ H' => Q b H')
def tMA (K : PySem.W.Frag) (W : WX) (m : MA) : TA := fun σ H Q => ∃ Z ι ρ μ, Rel K Z ι ρ μ σ H ∧ Out K W σ Z ι H (m ρ μ) (Vals' K Q)
abbrev FE (X : Cx) (W : WX) (e : Expr) (m : ME) : Prop := PE X e (tM X.K W m)
abbrev FT (X : Cx) (W : WX) (e : Expr) (m : MT) : Prop := PT X e (tMT X.K W m)
abbrev FA (X : Cx) (W : WX) (e : List Expr) (m : MA) : Prop := PA X e (tMA X.K W m)
section
variable {X : Cx}
theorem pe_imp {e : Expr} {t t' : TE} (h : PE X e t) (i : ∀ σ H Q, t' σ H Q → t σ H Q) : PE X e t' := ⟨fun pins s σ H Q I w => h.run pins s σ H Q I (i σ H Q w)⟩
theorem pt_imp {e : Expr} {t t' : TT} (h : PT X e t) (i : ∀ σ H Q, t' σ H Q → t σ H Q) : PT X e t' := ⟨fun pins s σ H Q I w => h.run pins s σ H Q I (i σ H Q w)⟩
theorem pw_imp {e : Expr} {t t' : TT} (h : PW X e t) (i : ∀ σ H Q, t' σ H Q → t σ H Q) : PW X e t' := ⟨fun wh pins s σ H Q I w => h.run wh pins s σ H Q I (i σ H Q w)⟩
theorem pa_imp {e : List Expr} {t t' : TA} (h : PA X e t) (i : ∀ σ H Q, t' σ H Q → t σ H Q) : PA X e t' := ⟨fun p pins s σ H Q I w => h.run p pins s σ H Q I (i σ H Q w)⟩
theorem ps_imp {e : Stmt} {t t' : TS} (h : PS X e t) (i : ∀ D σ H, t' D σ H → t D σ H) : PS X e t' := ⟨fun pins s σ H D I w => h.run pins s σ H D I (i D σ H w)⟩
theorem pss_imp {e : List Stmt} {t t' : TS} (h : PSs X e t) (i : ∀ D σ H, t' D σ H → t D σ H) : PSs X e t' := ⟨fun pins s σ H D I w => h.run pins s σ H D I (i D σ H w)⟩
end
section
variable {K : PySem.W.Frag} {W : WX} {σ : St} {Z ι Z' ι' : List Addr} {ρ : En} {μ : List MO} {H H' : Hp} {α β : Type}
/-- one expression, then the rest -/
theorem tM_bind {m : ME} {k : MV → List MO → Res β} {P : β → List Addr → List Addr → Hp → Prop} {Q : VK} (R : Rel K Z ι ρ μ σ H) (o : Out K W σ Z ι H ((m ρ μ).bind k) P)
    (h : ∀ v μ' Z' ι' H' x, Ext Z ι H Z' ι' H' → Rel K Z' ι' ρ μ' σ H' → RM K (mask H' Z') ι' v x → Out K W σ Z' ι' H' (k v μ') P → Q x H') : tM K W m σ H Q := by
  refine ⟨Z, ι, ρ, μ, R, ?_⟩
  cases e : m ρ μ with
  | ok v μ' =>
    rw [e] at o
    exact fun Z2 ι2 H2 x2 s2 x r => h v μ' Z2 ι2 H2 x x2 (R.ext x2 s2) r (Out.base o x2)
  | exc C fs μ' =>
    rw [e] at o
    exact o
  | bad =>
    rw [e] at o
    exact o
theorem tMT_bind {m : MT} {k : Bool → List MO → Res β} {P : β → List Addr → List Addr → Hp → Prop} {Q : Bool → Hp → Prop} (R : Rel K Z ι ρ μ σ H) (o : Out K W σ Z ι H ((m ρ μ).bind k) P)
    (h : ∀ v μ' Z' ι' H', Ext Z ι H Z' ι' H' → Rel K Z' ι' ρ μ' σ H' → Out K W σ Z' ι' H' (k v μ') P → Q v H') : tMT K W m σ H Q := by
  refine ⟨Z, ι, ρ, μ, R, ?_⟩
  cases e : m ρ μ with
  | ok v μ' =>
    rw [e] at o
    exact fun Z2 ι2 H2 x2 s2 => h v μ' Z2 ι2 H2 x2 (R.ext x2 s2) (Out.base o x2)
  | exc C fs μ' =>
    rw [e] at o
    exact o
  | bad =>
    rw [e] at o
    exact o
theorem tMA_bind {m : MA} {k : List MV → List MO → Res β} {P : β → List Addr → List Addr → Hp → Prop} {Q : List V → Hp → Prop} (R : Rel K Z ι ρ μ σ H) (o : Out K W σ Z ι H ((m ρ μ).bind k) P)
    (h : ∀ v μ' Z' ι' H' x, Ext Z ι H Z' ι' H' → Rel K Z' ι' ρ μ' σ H' → RMs K (mask H' Z') ι' v x → Out K W σ Z' ι' H' (k v μ') P → Q x H') : tMA K W m σ H Q := by
  refine ⟨Z, ι, ρ, μ, R, ?_⟩
  cases e : m ρ μ with
  | ok v μ' =>
    rw [e] at o
    exact fun Z2 ι2 H2 x2 s2 x r => h v μ' Z2 ι2 H2 x x2 (R.ext x2 s2) r (Out.base o x2)
  | exc C fs μ' =>
    rw [e] at o
    exact o
  | bad =>
    rw [e] at o
    exact o
/-- the end: a value that stands -/
theorem Out.ret {v : MV} {Q : VK} {x : V} (s : Sta K Z ι μ H) (o : Out K W σ Z ι H (.ok v μ) (Val K Q)) (r : RM K (mask H Z) ι v x) : Q x H := o Z ι H (Ext.refl s.sub) s x r
/-- .. in a heap that has grown -/
theorem Out.new {v : MV} {Q : VK} {x : V} (s : Sta K Z ι μ H) (o : Out K W σ Z ι H (.ok v μ) (Val K Q)) (e : Same H H') (r : RM K (mask H' Z) ι v x) : Q x H' :=
  o Z ι H' (s.grow e).2 (s.grow e).1 x r
end
/-! what stands for data, read: data itself, or an object that may change as it is now -/
def view (μ : List MO) : MV → Option D
  | .d x => some x
  | .ref n => match μ[n]? with
    | some (.lst xs) => some (.lst xs)
    | some (.dK xs) => some (.dK xs)
    | some (.dT xs) => some (.dT xs)
    | _ => none
inductive DV (K : PySem.W.Frag) (Z : List Addr) (H : Hp) : D → V → Prop
  | d {x : D} {v : V} : DR K (mask H Z) x v → DV K Z H x v
  | lst {a : Addr} {xs : List D} {vs : List V} : H a = some (.lst vs) → DRs K (mask H Z) xs vs → DV K Z H (.lst xs) (.ref a)
  | dK {a : Addr} {xs : List (Key × D)} {vs : List (Key × V)} : H a = some (.dK vs) → DRk K (mask H Z) xs vs → DV K Z H (.dK xs) (.ref a)
  | dT {a : Addr} {xs : List (List Key × D)} {vs : List (List Key × V)} : H a = some (.dT vs) → DRt K (mask H Z) xs vs → DV K Z H (.dT xs) (.ref a)
theorem view_ok {K : PySem.W.Frag} {Z ι : List Addr} {μ : List MO} {H : Hp} (s : Sta K Z ι μ H) {m : MV} {v : V} {x : D} (r : RM K (mask H Z) ι m v) (e : view μ m = some x) : DV K Z H x v := by
  cases r with
  | d r => cases e; exact .d r
  | ref r =>
    rename_i n a
    unfold view at e
    simp only at e
    split at e
    · rename_i xs q; cases e
      obtain ⟨ho, h1, h2⟩ := s.obj _ _ _ r q
      cases h2 with | lst h2 => exact .lst h1 h2
    · rename_i xs q; cases e
      obtain ⟨ho, h1, h2⟩ := s.obj _ _ _ r q
      cases h2 with | dK h2 => exact .dK h1 h2
    · rename_i xs q; cases e
      obtain ⟨ho, h1, h2⟩ := s.obj _ _ _ r q
      cases h2 with | dT h2 => exact .dT h1 h2
    · cases e
section
variable {K : PySem.W.Frag} {Z : List Addr} {H : Hp} {v : V}
theorem DV.int {i : Int} (h : DV K Z H (.int i) v) : v = .int i := by cases h with | d h => cases h; rfl
theorem DV.str {i : Str} (h : DV K Z H (.str i) v) : v = .str i := by cases h with | d h => cases h; rfl
theorem DV.bl {i : Bool} (h : DV K Z H (.bl i) v) : v = .bl i := by cases h with | d h => cases h; rfl
theorem DV.non (h : DV K Z H .non v) : v = .non := by cases h with | d h => cases h; rfl
theorem DV.tup {xs : List D} (h : DV K Z H (.tup xs) v) : ∃ a vs, v = .ref a ∧ H a = some (.tup vs) ∧ DRs K (mask H Z) xs vs := by
  cases h with | d h => cases h with | tup q r => exact ⟨_, _, rfl, mask_same _ _ _ _ q, r⟩
theorem DV.list {xs : List D} (h : DV K Z H (.lst xs) v) : ∃ a vs, v = .ref a ∧ H a = some (.lst vs) ∧ DRs K (mask H Z) xs vs := by
  cases h with
  | d h => cases h with | lst q r => exact ⟨_, _, rfl, mask_same _ _ _ _ q, r⟩
  | lst q r => exact ⟨_, _, rfl, q, r⟩
theorem DV.flist {xs : List D} (h : DV K Z H (.fl xs) v) : ∃ a vs, v = .ref a ∧ SqL K H a vs ∧ DRs K (mask H Z) xs vs := by
  cases h with
  | d h => cases h with | fl q r => exact ⟨_, _, rfl, (mask_same _ _).seq q, r⟩
end
theorem DRs.len {K : PySem.W.Frag} {F : Hp} : ∀ {xs : List D} {vs : List V}, DRs K F xs vs → xs.length = vs.length
  | _, _, .nil => rfl
  | _, _, .cons _ b => congrArg (· + 1) (DRs.len b)
theorem DRs.get {K : PySem.W.Frag} {F : Hp} : ∀ {xs : List D} {vs : List V}, DRs K F xs vs → ∀ {i : Nat} {d : D}, xs[i]? = some d → ∃ v, vs[i]? = some v ∧ DR K F d v
  | _, _, .nil, i, d, h => by simp at h
  | _, _, .cons a b, 0, d, h => by simp at h; subst h; exact ⟨_, rfl, a⟩
  | _, _, .cons a b, i + 1, d, h => by
    obtain ⟨v, h1, h2⟩ := DRs.get b (i := i) (d := d) (by simpa using h)
    exact ⟨v, by simpa using h1, h2⟩
theorem DRs.append {K : PySem.W.Frag} {F : Hp} {ys : List D} {ws : List V} (h2 : DRs K F ys ws) : ∀ {xs : List D} {vs : List V}, DRs K F xs vs → DRs K F (xs ++ ys) (vs ++ ws)
  | _, _, .nil => h2
  | _, _, .cons a b => .cons a (DRs.append h2 b)
/-- a new tuple, a new list -/
theorem new_tup {K : PySem.W.Frag} {Z : List Addr} {H : Hp} {p : Addr} {xs : List D} {vs : List V} (t : ∀ a ∈ Z, ∃ o, H a = some o) (n : H p = none) (r : DRs K (mask H Z) xs vs) :
    Same H (upd H p (.tup vs)) ∧ DR K (mask (upd H p (.tup vs)) Z) (.tup xs) (.ref p) := by
  have np : p ∉ Z := fun q => by obtain ⟨o, e⟩ := t p q; rw [n] at e; cases e
  have s : Same H (upd H p (.tup vs)) := fun a o e => (upd_ne (ne_of_none e n)).trans e
  refine ⟨s, .tup (mask_in np upd_same) (r.mono (fun a o e => ?_) _ _)⟩
  obtain ⟨n1, e1⟩ := of_mask e
  exact mask_in n1 (s a o e1) (mask_nt e)
theorem new_lst {K : PySem.W.Frag} {Z : List Addr} {H : Hp} {p : Addr} {xs : List D} {vs : List V} (t : ∀ a ∈ Z, ∃ o, H a = some o) (n : H p = none) (r : DRs K (mask H Z) xs vs) :
    Same H (upd H p (.lst vs)) ∧ DR K (mask (upd H p (.lst vs)) Z) (.lst xs) (.ref p) := by
  have np : p ∉ Z := fun q => by obtain ⟨o, e⟩ := t p q; rw [n] at e; cases e
  have s : Same H (upd H p (.lst vs)) := fun a o e => (upd_ne (ne_of_none e n)).trans e
  refine ⟨s, .lst (mask_in np upd_same) (r.mono (fun a o e => ?_) _ _)⟩
  obtain ⟨n1, e1⟩ := of_mask e
  exact mask_in n1 (s a o e1) (mask_nt e)
end TT

namespace TT
open PySem L2
variable [TB]
/-! operations upon data -/
def Trk (Z : List Addr) (H : Hp) : Prop := ∀ a ∈ Z, ∃ o, H a = some o
/-- what an operator upon values asks, answered by data -/
def OpD (K : PySem.W.Frag) (r : R2) (g : D → D → Option D) : Prop :=
  ∀ (Z : List Addr) (H : Hp) (a b c : D) (x y : V) (Q : VK), Trk Z H → DV K Z H a x → DV K Z H b y → g a b = some c → (∀ H' z, Same H H' → DR K (mask H' Z) c z → Q z H') → r x y H Q
def UnD (K : PySem.W.Frag) (r : V → Hp → VK → Prop) (g : D → Option D) : Prop :=
  ∀ (Z : List Addr) (H : Hp) (a c : D) (x : V) (Q : VK), Trk Z H → DV K Z H a x → g a = some c → (∀ H' z, Same H H' → DR K (mask H' Z) c z → Q z H') → r x H Q
inductive DVs (K : PySem.W.Frag) (Z : List Addr) (H : Hp) : List D → List V → Prop
  | nil : DVs K Z H [] []
  | cons {d : D} {v : V} {ds : List D} {vs : List V} : DV K Z H d v → DVs K Z H ds vs → DVs K Z H (d :: ds) (v :: vs)
def CallD (K : PySem.W.Frag) (r : List V → Hp → VK → Prop) (g : List D → Option D) : Prop :=
  ∀ (Z : List Addr) (H : Hp) (as : List D) (c : D) (xs : List V) (Q : VK), Trk Z H → DVs K Z H as xs → g as = some c → (∀ H' z, Same H H' → DR K (mask H' Z) c z → Q z H') → r xs H Q
def op1 (g : D → Option D) (a : MV) (μ : List MO) : Res MV :=
  match view μ a with
  | some x => match g x with
    | some z => .ok (.d z) μ
    | none => .bad
  | none => .bad
def op2 (g : D → D → Option D) (a b : MV) (μ : List MO) : Res MV :=
  match view μ a with
  | some x => match view μ b with
    | some y => match g x y with
      | some z => .ok (.d z) μ
      | none => .bad
    | none => .bad
  | none => .bad
def views (μ : List MO) : List MV → Option (List D)
  | [] => some []
  | a :: as => match view μ a with
    | some x => match views μ as with
      | some xs => some (x :: xs)
      | none => none
    | none => none
def opN (g : List D → Option D) (as : List MV) (μ : List MO) : Res MV :=
  match views μ as with
  | some xs => match g xs with
    | some z => .ok (.d z) μ
    | none => .bad
  | none => .bad
def mVar (i : Nat) : ME := fun ρ μ => match ρ[i]? with
  | some (some v) => .ok v μ
  | _ => .bad
def mC (x : D) : ME := fun _ μ => .ok (.d x) μ
def mUn (g : D → Option D) (ma : ME) : ME := fun ρ μ => (ma ρ μ).bind (op1 g)
def mBin (g : D → D → Option D) (ma mb : ME) : ME := fun ρ μ => (ma ρ μ).bind fun a μ1 => (mb ρ μ1).bind fun b μ2 => op2 g a b μ2
def mNil : MA := fun _ μ => .ok [] μ
def mCons (ma : ME) (mr : MA) : MA := fun ρ μ => (ma ρ μ).bind fun a μ1 => (mr ρ μ1).bind fun as μ2 => .ok (a :: as) μ2
def mN (g : List D → Option D) (ms : MA) : ME := fun ρ μ => (ms ρ μ).bind (opN g)
section
variable {K : PySem.W.Frag} {Z ι : List Addr} {μ : List MO} {H : Hp} {W : WX} {σ : St}
theorem views_ok (s : Sta K Z ι μ H) : ∀ {ms : List MV} {vs : List V} {xs : List D}, RMs K (mask H Z) ι ms vs → views μ ms = some xs → DVs K Z H xs vs
  | _, _, _, .nil, e => by cases e; exact .nil
  | _, _, _, .cons (m := m) (ms := ms) a b, e => by
    unfold views at e
    split at e
    · rename_i x h1
      split at e
      · rename_i ys h2
        cases e
        exact .cons (view_ok s a h1) (views_ok s b h2)
      · cases e
    · cases e
theorem op1_ok {r : V → Hp → VK → Prop} {g : D → Option D} (h : UnD K r g) {a : MV} {x : V} {Q : VK} (s : Sta K Z ι μ H) (ra : RM K (mask H Z) ι a x) (o : Out K W σ Z ι H (op1 g a μ) (Val K Q)) : r x H Q := by
  unfold op1 at o
  split at o
  · rename_i d hd
    split at o
    · rename_i z hz
      exact h Z H d z x Q s.trk (view_ok s ra hd) hz fun H' y e r => Out.new s o e (.d r)
    · exact o.elim
  · exact o.elim
theorem op2_ok {r : R2} {g : D → D → Option D} (h : OpD K r g) {a b : MV} {x y : V} {Q : VK} (s : Sta K Z ι μ H) (ra : RM K (mask H Z) ι a x) (rb : RM K (mask H Z) ι b y) (o : Out K W σ Z ι H (op2 g a b μ) (Val K Q)) : r x y H Q := by
  unfold op2 at o
  split at o
  · rename_i d hd
    split at o
    · rename_i e he
      split at o
      · rename_i z hz
        exact h Z H d e z x y Q s.trk (view_ok s ra hd) (view_ok s rb he) hz fun H' y e r => Out.new s o e (.d r)
      · exact o.elim
    · exact o.elim
  · exact o.elim
theorem opN_ok {r : List V → Hp → VK → Prop} {g : List D → Option D} (h : CallD K r g) {as : List MV} {xs : List V} {Q : VK} (s : Sta K Z ι μ H) (ra : RMs K (mask H Z) ι as xs) (o : Out K W σ Z ι H (opN g as μ) (Val K Q)) : r xs H Q := by
  unfold opN at o
  split at o
  · rename_i ds hd
    split at o
    · rename_i z hz
      exact h Z H ds z xs Q s.trk (views_ok s ra hd) hz fun H' y e r => Out.new s o e (.d r)
    · exact o.elim
  · exact o.elim
end
/-! expressions -/
section
variable {X : Cx} {W : WX} {a b c e : Expr} {es : List Expr} {pos : Pos} {ma mb mc : ME} {ms : MA}
theorem fe_var {i : Nat} {x : Str} (hN : X.N[i]? = some x) (hv : Vis X.env.scope x) (hd : (x == ("__debug__" : Str)) = false := by decide) (hcd : (x == ("__classdict__" : Str)) = false := by decide) : FE X W (.Name x pos) (mVar i) := by
  refine pe_imp (pe_var (i := i) hN hv hd hcd) fun σ H Q ⟨Z, ι, ρ, μ, R, o⟩ => ?_
  unfold mVar at o
  split at o
  · rename_i v h
    obtain ⟨x, h1, h2⟩ := RS.get R.rs h
    exact ⟨x, h1, Out.ret R.sta o h2⟩
  · exact o.elim
theorem fe_c {v : V} {d : D} (h : PE X e (tC v)) (r : ∀ F, DR X.K F d v) : FE X W e (mC d) := pe_imp h fun σ H Q ⟨Z, ι, ρ, μ, R, o⟩ => Out.ret R.sta o (.d (r _))
theorem fe_int {i j} : FE X W (.Constant (.int i) j pos) (mC (.int i)) := fe_c pe_int fun _ => .int i
theorem fe_bl {i j} : FE X W (.Constant (.bool i) j pos) (mC (.bl i)) := fe_c pe_bl fun _ => .bl i
theorem fe_non {j} : FE X W (.Constant .none j pos) (mC .non) := fe_c pe_non fun _ => .non
theorem fe_str {i j} : FE X W (.Constant (.str i) j pos) (mC (.str i)) := fe_c pe_str fun _ => .str i
theorem fe_un {op : UnaryOp} {r : V → Hp → VK → Prop} {g : D → Option D} (ho : UnR X (unaryOp op) r) (hg : UnD X.K r g) (ha : FE X W a ma) : FE X W (.UnaryOp op a pos) (mUn g ma) := by
  refine pe_imp (pe_un ho ha) fun σ H Q ⟨Z, ι, ρ, μ, R, o⟩ => ?_
  exact tM_bind R o fun v μ' Z' ι' H' x x1 R1 r1 o1 => op1_ok hg R1.sta r1 o1
theorem fe_op {op : Operator} {r : R2} {g : D → D → Option D} (ho : OpR X (binaryOp op) r) (hg : OpD X.K r g) (ha : FE X W a ma) (hb : FE X W b mb) : FE X W (.BinOp a op b pos) (mBin g ma mb) := by
  refine pe_imp (pe_op ho ha hb) fun σ H Q ⟨Z, ι, ρ, μ, R, o⟩ => ?_
  exact tM_bind R o fun v μ' Z' ι' H' x x1 R1 r1 o1 => tM_bind R1 o1 fun v2 μ2 Z2 ι2 H2 y x2 R2 r2 o2 => op2_ok hg R2.sta (r1.mono x2.same x2.i) r2 o2
theorem fe_cmp {op : CmpOp} {r : R2} {g : D → D → Option D} (ho : OpR X (compareOp op) r) (hg : OpD X.K r g) (ha : FE X W a ma) (hb : FE X W b mb) (hm : behindInMarks op b = false) : FE X W (.Compare a [op] [b] pos) (mBin g ma mb) := by
  refine pe_imp (pe_cmpR ho ha hb hm) fun σ H Q ⟨Z, ι, ρ, μ, R, o⟩ => ?_
  exact tM_bind R o fun v μ' Z' ι' H' x x1 R1 r1 o1 => tM_bind R1 o1 fun v2 μ2 Z2 ι2 H2 y x2 R2 r2 o2 => op2_ok hg R2.sta (r1.mono x2.same x2.i) r2 o2
theorem fe_ix {r : R2} {g : D → D → Option D} (hr : IxR X r) (hg : OpD X.K r g) (ha : FE X W a ma) (hb : FE X W b mb) (hs : PlainIx b) : FE X W (.Subscript a b pos) (mBin g ma mb) := by
  refine pe_imp (pe_ix hr ha hb hs) fun σ H Q ⟨Z, ι, ρ, μ, R, o⟩ => ?_
  exact tM_bind R o fun v μ' Z' ι' H' x x1 R1 r1 o1 => tM_bind R1 o1 fun v2 μ2 Z2 ι2 H2 y x2 R2 r2 o2 => op2_ok hg R2.sta (r1.mono x2.same x2.i) r2 o2
theorem fa_nil : FA X W [] mNil := pa_imp pa_nil fun σ H Q ⟨Z, ι, ρ, μ, R, o⟩ => o Z ι H (Ext.refl R.sta.sub) R.sta [] .nil
theorem fa_cons (ha : FE X W e ma) (hr : FA X W es ms) (hs : starEach (e :: es) X.env = (false, eval e X.env) :: starEach es X.env := by rfl) : FA X W (e :: es) (mCons ma ms) := by
  refine pa_imp (pa_cons ha hr hs) fun σ H Q ⟨Z, ι, ρ, μ, R, o⟩ => ?_
  exact tM_bind R o fun v μ' Z' ι' H' x x1 R1 r1 o1 => tMA_bind R1 o1 fun vs μ2 Z2 ι2 H2 xs x2 R2 r2 o2 => o2 Z2 ι2 H2 (Ext.refl R2.sta.sub) R2.sta _ (.cons (r1.mono x2.same x2.i) r2)
theorem fe_callB {x : Str} {p : Pos} {id : String} {r : List V → Hp → VK → Prop} {g : List D → Option D} (hc : CallR X (.builtin id) r) (hg : CallD X.K r g) (hgl : Gl X x) (hm : X.mg x = none) (hv : bootBuiltins x = some (.builtin id)) (ha : FA X W (e :: es) ms)
    (hn : x ≠ "__name__" := by decide) (hdb : (x == ("__debug__" : Str)) = false := by decide) (he : starEach (e :: es) X.env = (false, eval e X.env) :: starEach es X.env := by rfl) (hpl : (backTo pos (starEach es X.env)).any (·.1) = false := by rfl) :
    FE X W (.Call (.Name x p) (e :: es) [] pos) (mN g ms) := by
  refine pe_imp (pe_callB hc hgl hm hv ha hn hdb he hpl) fun σ H Q ⟨Z, ι, ρ, μ, R, o⟩ => ?_
  exact tMA_bind R o fun v μ' Z' ι' H' x x1 R1 r1 o1 => opN_ok hg R1.sta r1 o1
theorem fe_callTy {x : Str} {p : Pos} {T : String} {r : List V → Hp → VK → Prop} {g : List D → Option D} (hc : CallR X (.type T) r) (hg : CallD X.K r g) (hgl : Gl X x) (hm : X.mg x = none) (hv : bootBuiltins x = some (.type T)) (ha : FA X W (e :: es) ms)
    (hn : x ≠ "__name__" := by decide) (hdb : (x == ("__debug__" : Str)) = false := by decide) (he : starEach (e :: es) X.env = (false, eval e X.env) :: starEach es X.env := by rfl) (hpl : (backTo pos (starEach es X.env)).any (·.1) = false := by rfl) :
    FE X W (.Call (.Name x p) (e :: es) [] pos) (mN g ms) := by
  refine pe_imp (pe_callTy hc hgl hm hv ha hn hdb he hpl) fun σ H Q ⟨Z, ι, ρ, μ, R, o⟩ => ?_
  exact tMA_bind R o fun v μ' Z' ι' H' x x1 R1 r1 o1 => opN_ok hg R1.sta r1 o1
/-! displays -/
def datas : List MV → Option (List D)
  | [] => some []
  | .d x :: as => match datas as with
    | some xs => some (x :: xs)
    | none => none
  | .ref _ :: _ => none
theorem datas_ok {K : PySem.W.Frag} {F : Hp} {ι : List Addr} : ∀ {ms : List MV} {vs : List V} {xs : List D}, RMs K F ι ms vs → datas ms = some xs → DRs K F xs vs
  | _, _, _, .nil, e => by cases e; exact .nil
  | _, _, _, .cons (.d r) b, e => by
    unfold datas at e
    split at e
    · rename_i ys h
      cases e
      exact .cons r (datas_ok b h)
    · cases e
  | _, _, _, .cons (.ref r) b, e => by cases e
def mkTup (as : List MV) (μ : List MO) : Res MV :=
  match datas as with
  | some xs => if xs.length ≤ sizeLine then .ok (.d (.tup xs)) μ else .bad
  | none => .bad
def mTup (ms : MA) : ME := fun ρ μ => (ms ρ μ).bind mkTup
theorem fe_tup {x1} (h : FA X W es ms) : FE X W (.Tuple es x1 pos) (mTup ms) := by
  refine pe_imp (pe_tup h) fun σ H Q ⟨Z, ι, ρ, μ, R, o⟩ => ?_
  refine tMA_bind R o fun v μ' Z' ι' H' x x1 R1 r1 o1 => ?_
  unfold mkTup at o1
  split at o1
  · rename_i xs hx
    have hd := datas_ok r1 hx
    split at o1
    · rename_i hl
      refine ⟨by rw [← hd.len]; exact hl, fun p hp => ?_⟩
      obtain ⟨s, r⟩ := new_tup R1.sta.trk hp hd
      exact Out.new R1.sta o1 s (.d r)
    · exact o1.elim
  · exact o1.elim
/-! tests -/
def truD : D → Option Bool
  | .non => some false
  | .bl b => some b
  | .int i => some (i != 0)
  | .str y => if y.length ≤ sizeLine then some ((y.length : Int) != 0) else none
  | .tup xs => some (!xs.isEmpty)
  | .lst xs => some (!xs.isEmpty)
  | .fl xs => some (!xs.isEmpty)
  | .dK xs => some (!xs.isEmpty)
  | _ => none
theorem DRs.emp {K : PySem.W.Frag} {F : Hp} {xs : List D} {vs : List V} (h : DRs K F xs vs) : (!xs.isEmpty) = !vs.isEmpty := by cases h <;> rfl
theorem truD_ok {K : PySem.W.Frag} {Z : List Addr} {H : Hp} {d : D} {x : V} {b : Bool} (h : DV K Z H d x) (e : truD d = some b) : TruV K x H b := by
  cases d with
  | non => rw [h.non]; cases e; rfl
  | bl b => rw [h.bl]; cases e; rfl
  | int i => rw [h.int]; cases e; rfl
  | str y =>
    rw [h.str]
    simp only [truD] at e
    split at e
    · rename_i hl; cases e; exact ⟨hl, rfl⟩
    · cases e
  | tup xs => obtain ⟨a, vs, rfl, q, r⟩ := h.tup; cases e; exact .inr (.inl ⟨vs, SqT.of q, r.emp⟩)
  | lst xs => obtain ⟨a, vs, rfl, q, r⟩ := h.list; cases e; exact .inl ⟨vs, SqL.of q, r.emp⟩
  | fl xs => obtain ⟨a, vs, rfl, q, r⟩ := h.flist; cases e; exact .inl ⟨vs, q, r.emp⟩
  | dK xs =>
    cases e
    cases h with
    | d h => cases h with | dK q r => exact .inr (.inr ⟨_, mask_same _ _ _ _ q, by cases r <;> rfl⟩)
    | dK q r => exact .inr (.inr ⟨_, q, by cases r <;> rfl⟩)
  | _ => cases e
def tru (v : MV) (μ : List MO) : Res Bool :=
  match view μ v with
  | some x => match truD x with
    | some b => .ok b μ
    | none => .bad
  | none => .bad
def mT (m : ME) : MT := fun ρ μ => (m ρ μ).bind tru
theorem tru_rule {K : PySem.W.Frag} {Z ι : List Addr} {μ : List MO} {H : Hp} {σ : St} {v : MV} {x : V} {Q : Bool → Hp → Prop} (s : Sta K Z ι μ H) (r : RM K (mask H Z) ι v x) (o : Out K W σ Z ι H (tru v μ) (fun b _ _ H' => Q b H')) :
    ∃ k, TruV K x H k ∧ Q k H := by
  unfold tru at o
  split at o
  · rename_i d hd
    split at o
    · rename_i b hb
      exact ⟨b, truD_ok (view_ok s r hd) hb, o Z ι H (Ext.refl s.sub) s⟩
    · exact o.elim
  · exact o.elim
theorem ft_truth (ha : FE X W a ma) (he : ∀ whole, isTrue a X.env whole = (do let v ← whole; standAt a.pos; holding [v] (truthy v)) := by intro _; rfl) : FT X W a (mT ma) := by
  refine pt_imp (pt_truth ha he) fun σ H Q ⟨Z, ι, ρ, μ, R, o⟩ => ?_
  exact tM_bind R o fun v μ' Z' ι' H' x x1 R1 r1 o1 => tru_rule R1.sta r1 o1
/-- a comparison as a test -/
def bool? (v : MV) (μ : List MO) : Res Bool :=
  match v with
  | .d (.bl b) => .ok b μ
  | _ => .bad
def mB (m : ME) : MT := fun ρ μ => (m ρ μ).bind bool?
theorem bool_rule {K : PySem.W.Frag} {Z ι : List Addr} {μ : List MO} {H : Hp} {σ : St} {v : MV} {x : V} {Q : Bool → Hp → Prop} (s : Sta K Z ι μ H) (r : RM K (mask H Z) ι v x) (o : Out K W σ Z ι H (bool? v μ) (fun b _ _ H' => Q b H')) :
    ∃ k, x = .bl k ∧ Q k H := by
  cases r with
  | ref r => exact o.elim
  | d r => cases r with
    | bl b => exact ⟨b, rfl, o Z ι H (Ext.refl s.sub) s⟩
    | _ => exact o.elim
/-- the same, after an operation -/
theorem op2_bool {K : PySem.W.Frag} {Z ι : List Addr} {μ : List MO} {H : Hp} {σ : St} {r : R2} {g : D → D → Option D} (h : OpD K r g) {a b : MV} {x y : V} {Q : Bool → Hp → Prop} (s : Sta K Z ι μ H) (ra : RM K (mask H Z) ι a x) (rb : RM K (mask H Z) ι b y)
    (o : Out K W σ Z ι H ((op2 g a b μ).bind bool?) (fun b _ _ H' => Q b H')) : r x y H (fun z H3 => ∃ k, z = .bl k ∧ Q k H3) := by
  unfold op2 at o
  split at o
  · rename_i d hd
    split at o
    · rename_i e he
      split at o
      · rename_i z hz
        refine h Z H d e z x y _ s.trk (view_ok s ra hd) (view_ok s rb he) hz fun H' y e r => ?_
        cases r with
        | bl b => exact ⟨b, rfl, o Z ι H' (s.grow e).2 (s.grow e).1⟩
        | _ => exact o.elim
      · exact o.elim
    · exact o.elim
  · exact o.elim
theorem ft_cmp {op : CmpOp} {r : R2} {g : D → D → Option D} (ho : OpR X (compareOp op) r) (hg : OpD X.K r g) (ha : FE X W a ma) (hb : FE X W b mb) (hm : behindInMarks op b = false) : FT X W (.Compare a [op] [b] pos) (mB (mBin g ma mb)) := by
  refine pt_imp (pt_cmpR ho ha hb hm) fun σ H Q ⟨Z, ι, ρ, μ, R, o⟩ => ?_
  have e : ∀ ρ μ, mB (mBin g ma mb) ρ μ = (ma ρ μ).bind fun a μ1 => (mb ρ μ1).bind fun b μ2 => (op2 g a b μ2).bind bool? := fun ρ μ => by
    unfold mB mBin
    cases ma ρ μ with
    | ok v μ' => simp only [Res.bind_ok]; cases mb ρ μ' <;> rfl
    | exc C fs μ' => rfl
    | bad => rfl
  rw [e] at o
  exact tM_bind R o fun v μ' Z' ι' H' x x1 R1 r1 o1 => tM_bind R1 o1 fun v2 μ2 Z2 ι2 H2 y x2 R2 r2 o2 => op2_bool hg R2.sta (r1.mono x2.same x2.i) r2 o2
/-! and, or, not, if-expressions -/
abbrev FW (X : Cx) (W : WX) (e : Expr) (m : MT) : Prop := PW X e (tMT X.K W m)
variable {mA mB' : MT} {rest : List Expr}
def mAnd (m n : MT) : MT := fun ρ μ => (m ρ μ).bind fun c μ1 => if c = true then n ρ μ1 else .ok false μ1
def mOr (m n : MT) : MT := fun ρ μ => (m ρ μ).bind fun c μ1 => if c = true then .ok true μ1 else n ρ μ1
def mNot (m : MT) : MT := fun ρ μ => (m ρ μ).bind fun c μ1 => .ok (!c) μ1
theorem fw_and1 (ha : FT X W a mA) : FW X W (.BoolOp .And [a] pos) mA := pw_and1 ha
theorem fw_or1 (ha : FT X W a mA) : FW X W (.BoolOp .Or [a] pos) mA := pw_or1 ha
theorem fw_and (ha : FT X W a mA) (hb : FW X W (.BoolOp .And (b :: rest) pos) mB') : FW X W (.BoolOp .And (a :: b :: rest) pos) (mAnd mA mB') := by
  refine pw_imp (pw_and ha hb) fun σ H Q ⟨Z, ι, ρ, μ, R, o⟩ => ?_
  refine tMT_bind R o fun v μ' Z' ι' H' x1 R1 o1 => ?_
  cases v with
  | true => exact ⟨Z', ι', ρ, μ', R1, o1⟩
  | false => exact o1 Z' ι' H' (Ext.refl R1.sta.sub) R1.sta
theorem fw_or (ha : FT X W a mA) (hb : FW X W (.BoolOp .Or (b :: rest) pos) mB') : FW X W (.BoolOp .Or (a :: b :: rest) pos) (mOr mA mB') := by
  refine pw_imp (pw_or ha hb) fun σ H Q ⟨Z, ι, ρ, μ, R, o⟩ => ?_
  refine tMT_bind R o fun v μ' Z' ι' H' x1 R1 o1 => ?_
  cases v with
  | false => exact ⟨Z', ι', ρ, μ', R1, o1⟩
  | true => exact o1 Z' ι' H' (Ext.refl R1.sta.sub) R1.sta
theorem ft_not (ha : FT X W a mA) : FT X W (.UnaryOp .Not a pos) (mNot mA) := by
  refine pt_imp (pt_not ha) fun σ H Q ⟨Z, ι, ρ, μ, R, o⟩ => ?_
  exact tMT_bind R o fun v μ' Z' ι' H' x1 R1 o1 => o1 Z' ι' H' (Ext.refl R1.sta.sub) R1.sta
def mIf (c : MT) (m n : ME) : ME := fun ρ μ => (c ρ μ).bind fun k μ1 => if k = true then m ρ μ1 else n ρ μ1
theorem fe_ifExp (hc : FT X W c mA) (ha : FE X W a ma) (hb : FE X W b mb) : FE X W (.IfExp c a b pos) (mIf mA ma mb) := by
  refine pe_imp (pe_ifExp hc ha hb) fun σ H Q ⟨Z, ι, ρ, μ, R, o⟩ => ?_
  refine tMT_bind R o fun v μ' Z' ι' H' x1 R1 o1 => ?_
  cases v with
  | true => exact ⟨Z', ι', ρ, μ', R1, o1⟩
  | false => exact ⟨Z', ι', ρ, μ', R1, o1⟩
/-- as values: what stands ahead is True or False -/
def mAndV (m n : ME) : ME := fun ρ μ => (m ρ μ).bind fun v μ1 => match v with
  | .d (.bl true) => n ρ μ1
  | .d (.bl false) => .ok (.d (.bl false)) μ1
  | _ => .bad
def mOrV (m n : ME) : ME := fun ρ μ => (m ρ μ).bind fun v μ1 => match v with
  | .d (.bl true) => .ok (.d (.bl true)) μ1
  | .d (.bl false) => n ρ μ1
  | _ => .bad
def notD : D → Option D
  | .bl b => some (.bl !b)
  | d => match truD d with
    | some b => some (.bl !b)
    | none => none
theorem fe_one {op} (h : FE X W a ma) : FE X W (.BoolOp op [a] pos) ma := pe_one h
theorem fe_and (ha : FE X W a ma) (hb : FE X W (.BoolOp .And (b :: rest) pos) mb) : FE X W (.BoolOp .And (a :: b :: rest) pos) (mAndV ma mb) := by
  refine pe_imp (pe_and ha hb) fun σ H Q ⟨Z, ι, ρ, μ, R, o⟩ => ?_
  refine tM_bind R o fun v μ' Z' ι' H' x x1 R1 r1 o1 => ?_
  cases r1 with
  | ref r => exact o1.elim
  | d r => cases r with
    | bl c =>
      refine ⟨c, rfl, ?_⟩
      cases c with
      | true => exact ⟨Z', ι', ρ, μ', R1, o1⟩
      | false => exact Out.ret R1.sta o1 (.d (.bl false))
    | _ => exact o1.elim
theorem fe_or (ha : FE X W a ma) (hb : FE X W (.BoolOp .Or (b :: rest) pos) mb) : FE X W (.BoolOp .Or (a :: b :: rest) pos) (mOrV ma mb) := by
  refine pe_imp (pe_or ha hb) fun σ H Q ⟨Z, ι, ρ, μ, R, o⟩ => ?_
  refine tM_bind R o fun v μ' Z' ι' H' x x1 R1 r1 o1 => ?_
  cases r1 with
  | ref r => exact o1.elim
  | d r => cases r with
    | bl c =>
      refine ⟨c, rfl, ?_⟩
      cases c with
      | false => exact ⟨Z', ι', ρ, μ', R1, o1⟩
      | true => exact Out.ret R1.sta o1 (.d (.bl true))
    | _ => exact o1.elim
theorem fe_not (ha : FE X W a ma) : FE X W (.UnaryOp .Not a pos) (mUn notD ma) := by
  refine pe_imp (pe_notT ha) fun σ H Q ⟨Z, ι, ρ, μ, R, o⟩ => ?_
  refine tM_bind R o fun v μ' Z' ι' H' x x1 R1 r1 o1 => ?_
  refine op1_ok (r := fun x H1 Q => ∃ k, TruV X.K x H1 k ∧ Q (.bl !k) H1) (fun Z H a c x Q t h e q => ?_) R1.sta r1 o1
  have key : ∀ b, truD a = some b → c = .bl !b → ∃ k, TruV X.K x H k ∧ Q (.bl !k) H := fun b hb hc => ⟨b, truD_ok h hb, q H _ (Same.refl _) (by rw [hc]; exact .bl _)⟩
  unfold notD at e
  split at e
  · cases e; exact key _ rfl rfl
  · split at e
    · rename_i b hb; cases e; exact key _ hb rfl
    · cases e
/-- a < b < c -/
def mChain (g g' : D → D → Option D) (ma mb mc : ME) : ME := fun ρ μ => (ma ρ μ).bind fun a μ1 => (mb ρ μ1).bind fun b μ2 => (op2 g a b μ2).bind fun k μ3 => match k with
  | .d (.bl true) => (mc ρ μ3).bind fun c μ4 => op2 g' b c μ4
  | .d (.bl false) => .ok (.d (.bl false)) μ3
  | _ => .bad
end
end TT

namespace TT
open PySem L2
variable [TB]
/-! statements -/
inductive SR where
  | nx (ρ : En) (μ : List MO) | rt (v : MV) (μ : List MO) | bk (ρ : En) (μ : List MO) | ct (ρ : En) (μ : List MO) | exc (C : Addr) (fs : List (Str × D)) (ρ : En) (μ : List MO) | bad
abbrev MS := En → List MO → SR
def OutS (K : PySem.W.Frag) (W : WX) (Z ι : List Addr) (H : Hp) (r : SR) (E : Ends) : Prop :=
  match r with
  | .nx ρ' μ' => ∀ Z' ι' H' σ', Ext Z ι H Z' ι' H' → Rel K Z' ι' ρ' μ' σ' H' → E.nx σ' H'
  | .bk ρ' μ' => ∀ Z' ι' H' σ', Ext Z ι H Z' ι' H' → Rel K Z' ι' ρ' μ' σ' H' → E.bk σ' H'
  | .ct ρ' μ' => ∀ Z' ι' H' σ', Ext Z ι H Z' ι' H' → Rel K Z' ι' ρ' μ' σ' H' → E.ct σ' H'
  | .rt v μ' => ∀ Z' ι' H', Ext Z ι H Z' ι' H' → Sta K Z' ι' μ' H' → Val K E.rt v Z' ι' H'
  | .exc C fs ρ' μ' => ∀ Z' ι' H' σ' d fs', Ext Z ι H Z' ι' H' → Rel K Z' ι' ρ' μ' σ' H' → H' d = some (.xd fs') → d ∉ Z' → DRf K (mask H' Z') fs fs' → W (.ref C) (some d) σ' H'
  | .bad => False
def tMS (K : PySem.W.Frag) (W : WX) (m : MS) : TS := fun E σ H => ∃ Z ι ρ μ, Rel K Z ι ρ μ σ H ∧ OutS K W Z ι H (m ρ μ) E
abbrev FS (X : Cx) (W : WX) (st : Stmt) (m : MS) : Prop := PS X st (tMS X.K W m)
abbrev FSs (X : Cx) (W : WX) (st : List Stmt) (m : MS) : Prop := PSs X st (tMS X.K W m)
section
variable {K : PySem.W.Frag} {W : WX} {Z ι Z' ι' : List Addr} {H H' : Hp} {E : Ends}
theorem OutS.base {r : SR} (o : OutS K W Z ι H r E) (x : Ext Z ι H Z' ι' H') : OutS K W Z' ι' H' r E := by
  cases r with
  | nx ρ μ => exact fun Z2 ι2 H2 σ2 x2 R2 => o Z2 ι2 H2 σ2 (x.trans x2) R2
  | bk ρ μ => exact fun Z2 ι2 H2 σ2 x2 R2 => o Z2 ι2 H2 σ2 (x.trans x2) R2
  | ct ρ μ => exact fun Z2 ι2 H2 σ2 x2 R2 => o Z2 ι2 H2 σ2 (x.trans x2) R2
  | rt v μ => exact fun Z2 ι2 H2 x2 s2 => o Z2 ι2 H2 (x.trans x2) s2
  | exc C fs ρ μ => exact fun Z2 ι2 H2 σ2 d fs' x2 R2 => o Z2 ι2 H2 σ2 d fs' (x.trans x2) R2
  | bad => exact o
end
/-- an expression's end within a statement -/
def Res.stm {α : Type} (r : Res α) (ρ : En) (k : α → List MO → SR) : SR :=
  match r with
  | .ok a μ => k a μ
  | .exc C fs μ => .exc C fs ρ μ
  | .bad => .bad
@[simp] theorem Res.stm_ok {α : Type} (a : α) (μ : List MO) (ρ : En) (k : α → List MO → SR) : (Res.ok a μ).stm ρ k = k a μ := rfl
@[simp] theorem Res.stm_exc {α : Type} (C : Addr) (fs : List (Str × D)) (μ : List MO) (ρ : En) (k : α → List MO → SR) : (Res.exc C fs μ : Res α).stm ρ k = .exc C fs ρ μ := rfl
@[simp] theorem Res.stm_bad {α : Type} (ρ : En) (k : α → List MO → SR) : (Res.bad : Res α).stm ρ k = .bad := rfl
section
variable {K : PySem.W.Frag} {W : WX} {σ : St} {Z ι Z' ι' : List Addr} {ρ : En} {μ : List MO} {H H' : Hp} {E : Ends}
theorem Out.exc_of {β : Type} {C : Addr} {fs : List (Str × D)} {P : β → List Addr → List Addr → Hp → Prop} (R : Rel K Z ι ρ μ σ H) {μ' : List MO} (o : OutS K W Z ι H (.exc C fs ρ μ') E) : Out K W σ Z ι H (.exc C fs μ' : Res β) P :=
  fun Z2 ι2 H2 d fs' x2 s2 => o Z2 ι2 H2 σ d fs' x2 (R.ext x2 s2)
theorem tM_stm {m : ME} {k : MV → List MO → SR} {Q : VK} (R : Rel K Z ι ρ μ σ H) (o : OutS K W Z ι H ((m ρ μ).stm ρ k) E)
    (h : ∀ v μ' Z' ι' H' x, Ext Z ι H Z' ι' H' → Rel K Z' ι' ρ μ' σ H' → RM K (mask H' Z') ι' v x → OutS K W Z' ι' H' (k v μ') E → Q x H') : tM K W m σ H Q := by
  refine ⟨Z, ι, ρ, μ, R, ?_⟩
  cases e : m ρ μ with
  | ok v μ' =>
    rw [e] at o
    exact fun Z2 ι2 H2 x2 s2 x r => h v μ' Z2 ι2 H2 x x2 (R.ext x2 s2) r (OutS.base o x2)
  | exc C fs μ' => rw [e] at o; exact Out.exc_of R o
  | bad => rw [e] at o; exact o
theorem tMT_stm {m : MT} {k : Bool → List MO → SR} {Q : Bool → Hp → Prop} (R : Rel K Z ι ρ μ σ H) (o : OutS K W Z ι H ((m ρ μ).stm ρ k) E)
    (h : ∀ v μ' Z' ι' H', Ext Z ι H Z' ι' H' → Rel K Z' ι' ρ μ' σ H' → OutS K W Z' ι' H' (k v μ') E → Q v H') : tMT K W m σ H Q := by
  refine ⟨Z, ι, ρ, μ, R, ?_⟩
  cases e : m ρ μ with
  | ok v μ' =>
    rw [e] at o
    exact fun Z2 ι2 H2 x2 s2 => h v μ' Z2 ι2 H2 x2 (R.ext x2 s2) (OutS.base o x2)
  | exc C fs μ' => rw [e] at o; exact Out.exc_of R o
  | bad => rw [e] at o; exact o
theorem tMA_stm {m : MA} {k : List MV → List MO → SR} {Q : List V → Hp → Prop} (R : Rel K Z ι ρ μ σ H) (o : OutS K W Z ι H ((m ρ μ).stm ρ k) E)
    (h : ∀ v μ' Z' ι' H' x, Ext Z ι H Z' ι' H' → Rel K Z' ι' ρ μ' σ H' → RMs K (mask H' Z') ι' v x → OutS K W Z' ι' H' (k v μ') E → Q x H') : tMA K W m σ H Q := by
  refine ⟨Z, ι, ρ, μ, R, ?_⟩
  cases e : m ρ μ with
  | ok v μ' =>
    rw [e] at o
    exact fun Z2 ι2 H2 x2 s2 x r => h v μ' Z2 ι2 H2 x x2 (R.ext x2 s2) r (OutS.base o x2)
  | exc C fs μ' => rw [e] at o; exact Out.exc_of R o
  | bad => rw [e] at o; exact o
theorem OutS.next (R : Rel K Z ι ρ μ σ H) (o : OutS K W Z ι H (.nx ρ μ) E) : E.nx σ H := o Z ι H σ (Ext.refl R.sta.sub) R
end
section
variable {X : Cx} {W : WX} {a b c e : Expr} {es : List Expr} {pos : Pos} {ma mb mc : ME} {ms : MA} {st : Stmt} {rest : List Stmt} {m n : MS}
def mNext : MS := fun ρ μ => .nx ρ μ
def mSeq (m n : MS) : MS := fun ρ μ => match m ρ μ with
  | .nx ρ' μ' => n ρ' μ'
  | r => r
theorem fss_nil : FSs X W [] mNext := pss_imp pss_nil fun E σ H ⟨Z, ι, ρ, μ, R, o⟩ => o.next R
theorem fss_one (h : FS X W st m) : FSs X W [st] m := pss_one h
theorem fss_cons (h1 : FS X W st m) (h2 : FSs X W rest n) : FSs X W (st :: rest) (mSeq m n) := by
  refine pss_imp (pss_cons h1 h2) fun E σ H ⟨Z, ι, ρ, μ, R, o⟩ => ⟨Z, ι, ρ, μ, R, ?_⟩
  unfold mSeq at o
  cases e : m ρ μ with
  | nx ρ' μ' =>
    rw [e] at o
    exact fun Z2 ι2 H2 σ2 x2 R2 => ⟨Z2, ι2, ρ', μ', R2, OutS.base o x2⟩
  | bk ρ' μ' => rw [e] at o; exact o
  | ct ρ' μ' => rw [e] at o; exact o
  | rt ρ' μ' => rw [e] at o; exact o
  | exc C fs ρ' μ' => rw [e] at o; exact o
  | bad => rw [e] at o; exact o
theorem fs_pass : FS X W (.Pass pos) mNext := ps_imp ps_pass fun E σ H ⟨Z, ι, ρ, μ, R, o⟩ => o.next R
theorem fs_break : FS X W (.Break pos) (fun ρ μ => .bk ρ μ) := ps_imp ps_break fun E σ H ⟨Z, ι, ρ, μ, R, o⟩ => o Z ι H σ (Ext.refl R.sta.sub) R
theorem fs_continue : FS X W (.Continue pos) (fun ρ μ => .ct ρ μ) := ps_imp ps_continue fun E σ H ⟨Z, ι, ρ, μ, R, o⟩ => o Z ι H σ (Ext.refl R.sta.sub) R
theorem fs_doc {x j pos'} : FS X W (.Expr (.Constant (.str x) j pos) pos') mNext := ps_imp ps_doc fun E σ H ⟨Z, ι, ρ, μ, R, o⟩ => o.next R
def mExpr (ma : ME) : MS := fun ρ μ => (ma ρ μ).stm ρ fun _ μ1 => .nx ρ μ1
theorem fs_expr (he : FE X W e ma) (hs : swapsWith e none pos.line X.env = pure false := by rfl) : FS X W (.Expr e pos) (mExpr ma) :=
  ps_imp (ps_expr he hs) fun E σ H ⟨Z, ι, ρ, μ, R, o⟩ => tM_stm R o fun v μ' Z' ι' H' x x1 R1 r1 o1 => o1.next R1
def mRet (ma : ME) : MS := fun ρ μ => (ma ρ μ).stm ρ fun v μ1 => .rt v μ1
theorem fs_ret (he : FE X W e ma) : FS X W (.Return (some e) pos) (mRet ma) :=
  ps_imp (ps_ret he) fun E σ H ⟨Z, ι, ρ, μ, R, o⟩ => tM_stm R o fun v μ' Z' ι' H' x x1 R1 r1 o1 => o1 Z' ι' H' (Ext.refl R1.sta.sub) R1.sta x r1
def mRetN : MS := fun _ μ => .rt (.d .non) μ
theorem fs_retN : FS X W (.Return none pos) mRetN := ps_imp ps_retN fun E σ H ⟨Z, ι, ρ, μ, R, o⟩ => o Z ι H (Ext.refl R.sta.sub) R.sta .non (.d .non)
def mIfS (c : MT) (m n : MS) : MS := fun ρ μ => (c ρ μ).stm ρ fun k μ1 => if k = true then m ρ μ1 else n ρ μ1
theorem fs_if {p q : List Stmt} {mt : MT} (hc : FT X W c mt) (ha : FSs X W p m) (hb : FSs X W q n) : FS X W (.If c p q pos) (mIfS mt m n) := by
  refine ps_imp (ps_if hc ha hb) fun E σ H ⟨Z, ι, ρ, μ, R, o⟩ => tMT_stm R o fun v μ' Z' ι' H' x1 R1 o1 => ?_
  cases v with
  | true => exact ⟨Z', ι', ρ, μ', R1, o1⟩
  | false => exact ⟨Z', ι', ρ, μ', R1, o1⟩
/-! targets -/
/-- names and tuples of them -/
abbrev MG := MV → En → Option En
abbrev MGs := List D → En → Option En
def tMG (K : PySem.W.Frag) (g : MG) : TG := fun v σ H Q => ∃ Z ι ρ μ x ρ', Rel K Z ι ρ μ σ H ∧ RM K (mask H Z) ι x v ∧ g x ρ = some ρ' ∧ ∀ σ', Rel K Z ι ρ' μ σ' H → Q σ' H
def tMGs (K : PySem.W.Frag) (g : MGs) : TGs := fun vs σ H Q => ∃ Z ι ρ μ xs ρ', Rel K Z ι ρ μ σ H ∧ DRs K (mask H Z) xs vs ∧ g xs ρ = some ρ' ∧ ∀ σ', Rel K Z ι ρ' μ σ' H → Q σ' H
abbrev FG (X : Cx) (tg : Expr) (g : MG) : Prop := PG X tg (tMG X.K g)
abbrev FGs (X : Cx) (tg : List Expr) (g : MGs) : Prop := PGs X tg (tMGs X.K g)
theorem pg_imp {tg : Expr} {t t' : TG} (h : PG X tg t) (i : ∀ v σ H Q, t' v σ H Q → t v σ H Q) : PG X tg t' := ⟨fun pins s σ H v u Q I r w => h.run pins s σ H v u Q I r (i v σ H Q w)⟩
theorem pgs_imp {tg : List Expr} {t t' : TGs} (h : PGs X tg t) (i : ∀ v σ H Q, t' v σ H Q → t v σ H Q) : PGs X tg t' := ⟨fun pins s σ H v u Q I r w => h.run pins s σ H v u Q I r (i v σ H Q w)⟩
def gN (i : Nat) : MG := fun v ρ => some (ρ.set i (some v))
def gE : MGs := fun xs ρ => match xs with
  | [] => some ρ
  | _ => none
def gC (g : MG) (gs : MGs) : MGs := fun xs ρ => match xs with
  | x :: r => match g (.d x) ρ with
    | some ρ1 => gs r ρ1
    | none => none
  | _ => none
def gT (n : Nat) (gs : MGs) : MG := fun v ρ => match v with
  | .d (.tup xs) => if xs.length = n then gs xs ρ else none
  | _ => none
theorem fg_name {i : Nat} {x : Str} (hN : X.N.Nodup) (hi : X.N[i]? = some x) (hx : Loc X.env.scope x) (hf : X.fn x = true ∨ X.env.scope.names.lookup x = some .local := by first | exact .inl rfl | exact .inr rfl | assumption) : FG X (.Name x pos) (gN i) := by
  refine pg_imp (pg_name (i := i) hN hi hx hf) fun v σ H Q ⟨Z, ι, ρ, μ, x, ρ', R, r, e, h⟩ => ?_
  cases e
  exact h _ ⟨R.sta, R.rs.set r i⟩
theorem fgs_nil : FGs X [] gE := by
  refine pgs_imp pgs_nil fun v σ H Q ⟨Z, ι, ρ, μ, xs, ρ', R, r, e, h⟩ => ?_
  cases r with
  | nil => cases e; exact ⟨rfl, h _ R⟩
  | cons a b => cases e
theorem fgs_cons {e : Expr} {es : List Expr} {g : MG} {gs : MGs} (h1 : FG X e g) (h2 : FGs X es gs) (hs : (assignEach (e :: es) X.env).map (·.2) = assign e X.env :: (assignEach es X.env).map (·.2) := by rfl) : FGs X (e :: es) (gC g gs) := by
  refine pgs_imp (pgs_cons h1 h2 hs) fun v σ H Q ⟨Z, ι, ρ, μ, xs, ρ', R, r, e, h⟩ => ?_
  cases r with
  | nil => cases e
  | cons a b =>
    simp only [gC] at e
    split at e
    · rename_i ρ1 h3
      exact ⟨_, _, rfl, Z, ι, ρ, μ, _, ρ1, R, .d a, h3, fun σ' R' => ⟨Z, ι, ρ1, μ, _, ρ', R', b, e, h⟩⟩
    · cases e
theorem fg_tup {es : List Expr} {k : Nat} {gs : MGs} {n : Nat} (hc : X.calm = true) (h : FGs X es gs) (hn : (assignEach es X.env).length = n := by rfl) (hst : (assignEach es X.env).findIdx? (·.1) = none := by rfl) : FG X (.Tuple es k pos) (gT n gs) := by
  refine pg_imp (pg_tup hc h hn hst) fun v σ H Q ⟨Z, ι, ρ, μ, x, ρ', R, r, e, q⟩ => ?_
  cases r with
  | ref r => cases e
  | d r => cases r with
    | tup h1 h2 =>
      simp only [gT] at e
      split at e
      · rename_i hl
        exact ⟨_, _, rfl, SqT.of (mask_same _ _ _ _ h1), by rw [← h2.len]; exact hl, Z, ι, ρ, μ, _, ρ', R, h2, e, q⟩
      · cases e
    | _ => cases e
/-! assignments -/
def mAsg (ma : ME) (g : MG) : MS := fun ρ μ => (ma ρ μ).stm ρ fun v μ1 => match g v ρ with
  | some ρ' => .nx ρ' μ1
  | none => .bad
theorem asg_rule {K : PySem.W.Frag} {Z ι : List Addr} {ρ : En} {μ : List MO} {σ : St} {H : Hp} {E : Ends} {v : MV} {x : V} {g : MG} (R : Rel K Z ι ρ μ σ H) (r : RM K (mask H Z) ι v x)
    (o : OutS K W Z ι H (match g v ρ with | some ρ' => .nx ρ' μ | none => .bad) E) : tMG K g x σ H E.nx := by
  split at o
  · rename_i ρ' h
    exact ⟨Z, ι, ρ, μ, v, ρ', R, r, h, fun σ' R' => o Z ι H σ' (Ext.refl R.sta.sub) R'⟩
  · exact o.elim
theorem fs_set {i : Nat} {x : Str} {pos' : Pos} (hN : X.N.Nodup) (hi : X.N[i]? = some x) (hx : Loc X.env.scope x) (he : FE X W e ma) (hs : swapsWith e (some (.Name x pos')) pos.line X.env = pure false := by rfl)
    (hf : X.fn x = true ∨ X.env.scope.names.lookup x = some .local := by first | exact .inl rfl | exact .inr rfl | assumption) : FS X W (.Assign [.Name x pos'] e pos) (mAsg ma (gN i)) := by
  refine ps_imp (ps_set (i := i) hN hi hx he hs hf) fun E σ H ⟨Z, ι, ρ, μ, R, o⟩ => tM_stm R o fun v μ' Z' ι' H' x x1 R1 r1 o1 => ?_
  exact o1 Z' ι' H' _ (Ext.refl R1.sta.sub) ⟨R1.sta, R1.rs.set r1 i⟩
theorem fs_asg {tg : Expr} {g : MG} (he : FE X W e ma) (hg : FG X tg g) (hs : swapsWithSole [tg] e pos.line X.env = pure false := by rfl) (hw : swappedStores [tg] e X.env = pure none := by rfl)
    (h1 : (assignEach [tg] X.env).map (·.2) = [assign tg X.env] := by rfl) : FS X W (.Assign [tg] e pos) (mAsg ma g) := by
  refine ps_imp (ps_asg he hg hs hw h1) fun E σ H ⟨Z, ι, ρ, μ, R, o⟩ => tM_stm R o fun v μ' Z' ι' H' x x1 R1 r1 o1 => asg_rule R1 r1 o1
/-- a, b = x, y -/
def mPar2 (i j : Nat) (ms : MA) : MS := fun ρ μ => (ms ρ μ).stm ρ fun vs μ1 => match vs with
  | [v, w] => .nx ((ρ.set i (some v)).set j (some w)) μ1
  | _ => .bad
theorem fs_par {i j : Nat} {x y : Str} {px py pt : Pos} {kt k2 pt2} (hc : X.calm = true) (hN : X.N.Nodup) (hi : X.N[i]? = some x) (hj : X.N[j]? = some y) (hij : i ≠ j)
    (hx : X.env.scope.names.lookup x = some .local) (hy : X.env.scope.names.lookup y = some .local) (ha : FA X W [a, b] ms)
    (hw : swappedStores [.Tuple [.Name x px, .Name y py] kt pt] (.Tuple [a, b] k2 pt2) X.env = pure (some [x, y]))
    (hs : swapsWithSole [.Tuple [.Name x px, .Name y py] kt pt] (.Tuple [a, b] k2 pt2) pos.line X.env = pure false := by rfl) : FS X W (.Assign [.Tuple [.Name x px, .Name y py] kt pt] (.Tuple [a, b] k2 pt2) pos) (mPar2 i j ms) := by
  refine ps_imp (ps_par (i := i) (j := j) hc hN hi hj hij hx hy ha hw hs) fun E σ H ⟨Z, ι, ρ, μ, R, o⟩ => tMA_stm R o fun v μ' Z' ι' H' x x1 R1 r1 o1 => ?_
  cases r1 with
  | nil => exact o1.elim
  | cons r1 rr => cases rr with
    | nil => exact o1.elim
    | cons r2 rr => cases rr with
      | cons _ _ => exact o1.elim
      | nil => exact ⟨_, _, rfl, o1 Z' ι' H' _ (Ext.refl R1.sta.sub) ⟨R1.sta, (R1.rs.set r1 i).set r2 j⟩⟩
def mPar3 (i j l : Nat) (ms : MA) : MS := fun ρ μ => (ms ρ μ).stm ρ fun vs μ1 => match vs with
  | [v, w, z] => .nx (((ρ.set i (some v)).set j (some w)).set l (some z)) μ1
  | _ => .bad
theorem fs_par3 {i j l : Nat} {x y z : Str} {px py pz pt : Pos} {kt k2 pt2} (hc : X.calm = true) (hN : X.N.Nodup) (hi : X.N[i]? = some x) (hj : X.N[j]? = some y) (hl : X.N[l]? = some z) (hij : i ≠ j) (hil : i ≠ l) (hjl : j ≠ l)
    (hx : X.env.scope.names.lookup x = some .local) (hy : X.env.scope.names.lookup y = some .local) (hz : X.env.scope.names.lookup z = some .local) (ha : FA X W [a, b, c] ms)
    (hw : swappedStores [.Tuple [.Name x px, .Name y py, .Name z pz] kt pt] (.Tuple [a, b, c] k2 pt2) X.env = pure (some [x, y, z]))
    (hs : swapsWithSole [.Tuple [.Name x px, .Name y py, .Name z pz] kt pt] (.Tuple [a, b, c] k2 pt2) pos.line X.env = pure false := by rfl) :
    FS X W (.Assign [.Tuple [.Name x px, .Name y py, .Name z pz] kt pt] (.Tuple [a, b, c] k2 pt2) pos) (mPar3 i j l ms) := by
  refine ps_imp (ps_par3 (i := i) (j := j) (l := l) hc hN hi hj hl hij hil hjl hx hy hz ha hw hs) fun E σ H ⟨Z, ι, ρ, μ, R, o⟩ => tMA_stm R o fun v μ' Z' ι' H' x x1 R1 r1 o1 => ?_
  cases r1 with
  | nil => exact o1.elim
  | cons r1 rr => cases rr with
    | nil => exact o1.elim
    | cons r2 rr => cases rr with
      | nil => exact o1.elim
      | cons r3 rr => cases rr with
        | cons _ _ => exact o1.elim
        | nil => exact ⟨_, _, _, rfl, o1 Z' ι' H' _ (Ext.refl R1.sta.sub) ⟨R1.sta, ((R1.rs.set r1 i).set r2 j).set r3 l⟩⟩
/-- x op= e -/
def mAug (i : Nat) (g : D → D → Option D) (ma : ME) : MS := fun ρ μ => match ρ[i]? with
  | some (some x) => (ma ρ μ).stm ρ fun y μ1 => (op2 g x y μ1).stm ρ fun z μ2 => .nx (ρ.set i (some z)) μ2
  | _ => .bad
theorem fs_aug {i : Nat} {x : Str} {op : Operator} {r : R2} {g : D → D → Option D} {pos' : Pos} (hN : X.N.Nodup) (hi : X.N[i]? = some x) (hx : Loc X.env.scope x) (he : FE X W e ma) (ho : PIp X op r) (hg : OpD X.K r g)
    (hf : X.fn x = true ∨ X.env.scope.names.lookup x = some .local := by first | exact .inl rfl | exact .inr rfl | assumption) : FS X W (.AugAssign (.Name x pos') op e pos) (mAug i g ma) := by
  refine ps_imp (ps_aug (i := i) hN hi hx he ho hf) fun E σ H ⟨Z, ι, ρ, μ, R, o⟩ => ?_
  unfold mAug at o
  split at o
  · rename_i v hv
    obtain ⟨y, h1, h2⟩ := RS.get R.rs hv
    refine ⟨y, h1, tM_stm R o fun w μ' Z' ι' H' z x1 R1 r1 o1 => ?_⟩
    have o2 : Out X.K W σ Z' ι' H' (op2 g v w μ') (Val X.K fun z H2 => E.nx (σ.set i (some z)) H2) := by
      cases q : op2 g v w μ' with
      | ok u μ2 => rw [q] at o1; exact fun Z2 ι2 H2 x2 s2 z r => o1 Z2 ι2 H2 _ x2 ⟨s2, (R1.ext x2 s2).rs.set r i⟩
      | exc C fs μ2 => rw [q] at o1; exact Out.exc_of R1 o1
      | bad => rw [q] at o1; exact o1
    exact op2_ok hg R1.sta (h2.mono x1.same x1.i) r1 o2
  · exact o.elim
/-! while -/
/-- n: at most so many turns -/
def whileM (n : Nat) (c : MT) (b : MS) : MS := match n with
  | 0 => fun _ _ => .bad
  | n + 1 => fun ρ μ => (c ρ μ).stm ρ fun k μ1 => if k = true then (match b ρ μ1 with
    | .nx ρ2 μ2 => whileM n c b ρ2 μ2
    | .ct ρ2 μ2 => whileM n c b ρ2 μ2
    | .bk ρ2 μ2 => .nx ρ2 μ2
    | r => r) else .nx ρ μ1
theorem fs_while {body : List Stmt} {mt : MT} (n : Nat) (hp : PassesOwn (model X.prog X.w) X.A X.env X.xe) (hc : FT X W c mt) (hb : FSs X W body m) : FS X W (.While c body [] pos) (whileM n mt m) := by
  refine ps_imp (ps_while hp hc hb) fun E σ H ⟨Z, ι, ρ, μ, R, o⟩ => ?_
  refine ⟨fun k σ H => ∃ Z ι ρ μ, Rel X.K Z ι ρ μ σ H ∧ OutS X.K W Z ι H (whileM k mt m ρ μ) E, ⟨n, Z, ι, ρ, μ, R, o⟩, ?_⟩
  rintro k σ H ⟨Z, ι, ρ, μ, R, o⟩
  cases k with
  | zero => exact o.elim
  | succ k =>
    unfold whileM at o
    refine tMT_stm R o fun v μ' Z' ι' H' x1 R1 o1 => ?_
    cases v with
    | false => exact o1.next R1
    | true =>
      refine ⟨fun σ H => ∃ Z ι ρ μ, Rel X.K Z ι ρ μ σ H ∧ OutS X.K W Z ι H (whileM k mt m ρ μ) E, fun σ' H' h => ⟨k, Nat.lt_succ_self _, h⟩, Z', ι', ρ, μ', R1, ?_⟩
      simp only [if_true] at o1
      cases q : m ρ μ' with
      | nx ρ2 μ2 => rw [q] at o1; exact fun Z2 ι2 H2 σ2 x2 R2 => ⟨Z2, ι2, ρ2, μ2, R2, OutS.base o1 x2⟩
      | ct ρ2 μ2 => rw [q] at o1; exact fun Z2 ι2 H2 σ2 x2 R2 => ⟨Z2, ι2, ρ2, μ2, R2, OutS.base o1 x2⟩
      | bk ρ2 μ2 => rw [q] at o1; exact o1
      | rt v μ2 => rw [q] at o1; exact o1
      | exc C fs ρ2 μ2 => rw [q] at o1; exact o1
      | bad => rw [q] at o1; exact o1
/-! what is walked -/
/-- items, and the store's list that they are of -/
abbrev MI := En → List MO → Res (List D × Option Nat)
open Classical in
noncomputable def chk (q : List D × Option Nat) (μ : List MO) : Bool := match q.2 with
  | none => true
  | some n => decide (μ[n]? = some (.lst q.1))
/-- .. stands while the store bears it -/
def Its (K : PySem.W.Frag) (R : It → Hp → Prop) : List D × Option Nat → List Addr → List Addr → Hp → Prop := fun q Z ι H =>
  ∀ J G Y, Walk J q.1.length G Y → (∀ Z2 ι2 μ2 H2, Ext Z ι H Z2 ι2 H2 → Sta K Z2 ι2 μ2 H2 → chk q μ2 = true → G H2) →
    (∀ Z2 ι2 μ2 H2 i d x H3, Ext Z ι H Z2 ι2 H2 → Sta K Z2 ι2 μ2 H2 → chk q μ2 = true → q.1[i]? = some d → Y i H2 x H3 → Same H2 H3 ∧ DR K (mask H3 Z2) d x) → R J H
def tMI (K : PySem.W.Frag) (W : WX) (m : MI) : TI := fun σ H R => ∃ Z ι ρ μ, Rel K Z ι ρ μ σ H ∧ Out K W σ Z ι H (m ρ μ) (Its K R)
abbrev FI (X : Cx) (W : WX) (tg e : Expr) (m : MI) : Prop := PI X tg e (tMI X.K W m)
theorem pi_imp {tg e : Expr} {t t' : TI} (h : PI X tg e t) (i : ∀ σ H R, t' σ H R → t σ H R) : PI X tg e t' := ⟨fun pins s σ H R I w => h.run pins s σ H R I (i σ H R w)⟩
noncomputable def forD (q : List D × Option Nat) (g : MG) (b : MS) : List D → En → List MO → SR
  | [], ρ, μ => if chk q μ = true then .nx ρ μ else .bad
  | x :: xs, ρ, μ => if chk q μ = true then (match g (.d x) ρ with
    | none => .bad
    | some ρ1 => match b ρ1 μ with
      | .nx ρ2 μ2 => forD q g b xs ρ2 μ2
      | .ct ρ2 μ2 => forD q g b xs ρ2 μ2
      | .bk ρ2 μ2 => .nx ρ2 μ2
      | r => r) else .bad
noncomputable def mFor (mi : MI) (g : MG) (b : MS) : MS := fun ρ μ => (mi ρ μ).stm ρ fun q μ1 => forD q g b q.1 ρ μ1
theorem forD_chk {K : PySem.W.Frag} {Z ι : List Addr} {H : Hp} {E : Ends} {q : List D × Option Nat} {g : MG} {b : MS} {xs : List D} {ρ : En} {μ : List MO} (o : OutS K W Z ι H (forD q g b xs ρ μ) E) : chk q μ = true := by
  cases xs <;> (unfold forD at o; split at o; assumption; exact o.elim)
theorem fs_for {iter tg : Expr} {body : List Stmt} {mi : MI} {g : MG} (hp : PassesOwn (model X.prog X.w) X.A X.env X.xe) (hc : X.calm = true) (hi : FI X W tg iter mi) (hg : FG X tg g) (hb : FSs X W body m)
    (hs : ∀ x, foldedSetIterable iter X.env x = pure x := by intro _; rfl) : FS X W (.For tg iter body [] pos) (mFor mi g m) := by
  refine ps_imp (ps_for hp hc hi hg hb hs) fun E σ H ⟨Z, ι, ρ, μ, R, o⟩ => ⟨Z, ι, ρ, μ, R, ?_⟩
  unfold mFor at o
  cases eq : mi ρ μ with
  | exc C fs μ' => rw [eq] at o; exact Out.exc_of R o
  | bad => rw [eq] at o; exact o
  | ok q μ' =>
    rw [eq] at o
    intro Z1 ι1 H1 x1 s1 J G Y w hG hY
    have R1 := R.ext x1 s1
    have o1 : OutS X.K W Z1 ι1 H1 (forD q g m q.1 ρ μ') E := OutS.base o x1
    refine for_it w (fun i σ H2 => ∃ Z2 ι2 ρ2 μ2, Ext Z1 ι1 H1 Z2 ι2 H2 ∧ Rel X.K Z2 ι2 ρ2 μ2 σ H2 ∧ OutS X.K W Z2 ι2 H2 (forD q g m (q.1.drop i) ρ2 μ2) E) ⟨Z1, ι1, ρ, μ', Ext.refl s1.sub, R1, o1⟩ ?_ ?_ ?_
    · rintro i σ2 H2 hi ⟨Z2, ι2, ρ2, μ2, x2, R2, o2⟩
      exact hG Z2 ι2 μ2 H2 x2 R2.sta (forD_chk o2)
    · rintro i x σ2 H2 H3 hi ⟨Z2, ι2, ρ2, μ2, x2, R2, o2⟩ hy
      have hx : q.1[i]? = some q.1[i] := by simp [hi]
      obtain ⟨sm, dr⟩ := hY Z2 ι2 μ2 H2 i _ x H3 x2 R2.sta (forD_chk o2) hx hy
      rw [List.drop_eq_getElem_cons hi] at o2
      have hck := forD_chk o2
      unfold forD at o2
      rw [if_pos hck] at o2
      obtain ⟨s3, x3⟩ := R2.sta.grow sm
      have R3 := R2.ext x3 s3
      split at o2
      · exact o2.elim
      · rename_i ρ3 hg3
        refine ⟨Z2, ι2, ρ2, μ2, _, ρ3, R3, .d dr, hg3, fun σ4 R4 => ⟨Z2, ι2, ρ3, μ2, R4, ?_⟩⟩
        have o3 := OutS.base o2 x3
        cases eb : m ρ3 μ2 with
        | nx ρ5 μ5 => rw [eb] at o3; exact fun Z5 ι5 H5 σ5 x5 R5 => ⟨Z5, ι5, ρ5, μ5, (x2.trans x3).trans x5, R5, OutS.base o3 x5⟩
        | ct ρ5 μ5 => rw [eb] at o3; exact fun Z5 ι5 H5 σ5 x5 R5 => ⟨Z5, ι5, ρ5, μ5, (x2.trans x3).trans x5, R5, OutS.base o3 x5⟩
        | bk ρ5 μ5 => rw [eb] at o3; exact o3
        | rt ρ5 μ5 => rw [eb] at o3; exact o3
        | exc C fs ρ5 μ5 => rw [eb] at o3; exact o3
        | bad => rw [eb] at o3; exact o3
    · rintro σ2 H2 ⟨Z2, ι2, ρ2, μ2, x2, R2, o2⟩
      rw [List.drop_length] at o2
      have hck := forD_chk o2
      unfold forD at o2
      rw [if_pos hck] at o2
      exact o2.next R2
end
end TT

namespace TT
open PySem L2
variable [TB]
/-- a place that bears no table and no code object is written -/
theorem tabs_upd {T : List (Addr × Str)} {H : Hp} (t : LamX.Tabs T H) {a : Addr} {u o : HO} (e : H a = some u) (n1 : ∀ ps, u ≠ .tbl ps) (n2 : ∀ c q, u ≠ LamX.CodeO c q) : LamX.Tabs T (upd H a o) := fun p hp => by
  obtain ⟨ps, h1, h2, h3⟩ := t p hp
  have ne : p.1 ≠ a := fun z => by rw [z, e] at h1; cases h1; exact n1 _ rfl
  refine ⟨ps, (upd_ne ne).trans h1, h2, fun pos cv hc => ?_⟩
  obtain ⟨c, e1, e2⟩ := h3 pos cv hc
  refine ⟨c, e1, (upd_ne fun z => ?_).trans e2⟩
  rw [z, e] at e2
  exact n2 _ _ (Option.some.inj e2)
/-! new lists: data, or objects of the store -/
abbrev ML := En → List MO → Res (List D)
def tFr (K : PySem.W.Frag) (W : WX) (m : ML) : TE := fun σ H Q => ∃ Z ι ρ μ, Rel K Z ι ρ μ σ H ∧ Out K W σ Z ι H (m ρ μ) (fun xs Z' ι' H' => ∀ a vs, H a = none → a ∈ Z' → a ∉ ι' → H' a = some (.lst vs) → DRs K (mask H' Z') xs vs → Q (.ref a) H')
abbrev FL (X : Cx) (W : WX) (e : Expr) (m : ML) : Prop := PE X e (tFr X.K W m)
def mFz (m : ML) : ME := fun ρ μ => (m ρ μ).bind fun xs μ1 => .ok (.d (.lst xs)) μ1
def mOwn (m : ML) : ME := fun ρ μ => (m ρ μ).bind fun xs μ1 => .ok (.ref μ1.length) (μ1 ++ [.lst xs])
theorem mask_less {H : Hp} {Z Z' : List Addr} (h : ∀ a ∈ Z', a ∈ Z) : Same (mask H Z) (mask H Z') := fun a o e => by
  have t := mask_nt e
  obtain ⟨n, e⟩ := of_mask e
  exact mask_in (fun q => n (h a q)) e t
section
variable {K : PySem.W.Frag} {W : WX} {σ : St} {Z ι Z' ι' : List Addr} {ρ : En} {μ μ' : List MO} {H H' : Hp}
/-- a place leaves those that may change -/
theorem Sta.freeze (s : Sta K Z ι μ H) {a : Addr} (n : a ∉ ι) : Sta K (Z.filter (· ≠ a)) ι μ H := by
  have m : ∀ b ∈ Z.filter (· ≠ a), b ∈ Z := fun b h => (List.mem_filter.mp h).1
  refine ⟨fun b h => List.mem_filter.mpr ⟨s.sub b h, decide_eq_true fun q => n (by rw [← q]; exact h)⟩, s.nd, s.len, fun b h => s.trk b (m b h), s.tab, fun k b o h1 h2 => ?_⟩
  obtain ⟨ho, h3, h4⟩ := s.obj k b o h1 h2
  exact ⟨ho, h3, h4.mono (mask_less m) (fun _ _ h => h)⟩
theorem Ext.freeze (x : Ext Z ι H Z' ι' H') (t : ∀ a ∈ Z, ∃ o, H a = some o) {a : Addr} (h : H a = none) : Ext Z ι H (Z'.filter (· ≠ a)) ι' H' := by
  refine ⟨x.sub, fun b hb => List.mem_filter.mpr ⟨x.z b hb, decide_eq_true fun q => ?_⟩, x.i, x.keep, x.tb, fun b hb => x.new b (List.mem_filter.mp hb).1, x.newi⟩
  obtain ⟨o, e⟩ := t b hb
  rw [q, h] at e; cases e
/-- a place comes to the store -/
theorem Sta.own (s : Sta K Z ι μ H) {a : Addr} {o : MO} {ho : HO} (hz : a ∈ Z) (n : a ∉ ι) (e : H a = some ho) (r : RO K (mask H Z) ι o ho) : Sta K Z (ι ++ [a]) (μ ++ [o]) H := by
  have p : Pre ι (ι ++ [a]) := fun n b h => by
    have := (List.getElem?_eq_some_iff.mp h).1
    rw [List.getElem?_append_left this]; exact h
  refine ⟨fun b h => ?_, ?_, by simp [s.len], s.trk, s.tab, fun k b o' h1 h2 => ?_⟩
  · rcases List.mem_append.mp h with h | h
    · exact s.sub b h
    · rw [List.mem_singleton.mp h]; exact hz
  · rw [List.nodup_append]
    refine ⟨s.nd, by simp, fun b hb c hc => ?_⟩
    rw [List.mem_singleton.mp hc]
    intro q
    exact n (by rw [← q]; exact hb)
  · by_cases hk : k < ι.length
    · rw [List.getElem?_append_left hk] at h1
      rw [List.getElem?_append_left (by rw [← s.len]; exact hk)] at h2
      obtain ⟨ho, h3, h4⟩ := s.obj k b o' h1 h2
      exact ⟨ho, h3, h4.mono (Same.refl _) p⟩
    · have hk2 : k = ι.length := by
        have := (List.getElem?_eq_some_iff.mp h1).1
        rw [List.length_append] at this
        have : k < ι.length + 1 := this
        omega
      subst hk2
      rw [List.getElem?_concat_length] at h1
      rw [s.len, List.getElem?_concat_length] at h2
      cases h1
      cases h2
      exact ⟨ho, e, r.mono (Same.refl _) p⟩
theorem Ext.own (x : Ext Z ι H Z' ι' H') {a : Addr} (h : H a = none) : Ext Z ι H Z' (ι' ++ [a]) H' := by
  refine ⟨x.sub, x.z, fun n b hb => ?_, x.keep, x.tb, x.new, fun b hb => ?_⟩
  · have := x.i n b hb
    rw [List.getElem?_append_left (List.getElem?_eq_some_iff.mp this).1]; exact this
  · rcases List.mem_append.mp hb with q | q
    · exact x.newi b q
    · rw [List.mem_singleton.mp q]; exact .inr h
theorem tFr_bind {m : ML} {β : Type} {k : List D → List MO → Res β} {P : β → List Addr → List Addr → Hp → Prop} {Q : VK} (R : Rel K Z ι ρ μ σ H) (o : Out K W σ Z ι H ((m ρ μ).bind k) P)
    (h : ∀ xs μ' Z' ι' H' a vs, Ext Z ι H Z' ι' H' → Sta K Z' ι' μ' H' → H a = none → a ∈ Z' → a ∉ ι' → H' a = some (.lst vs) → DRs K (mask H' Z') xs vs → Out K W σ Z ι H (k xs μ') P → Q (.ref a) H') : tFr K W m σ H Q := by
  refine ⟨Z, ι, ρ, μ, R, ?_⟩
  cases e : m ρ μ with
  | ok xs μ' =>
    rw [e] at o
    exact fun Z2 ι2 H2 x2 s2 a vs h1 h2 h3 h4 h5 => h xs μ' Z2 ι2 H2 a vs x2 s2 h1 h2 h3 h4 h5 o
  | exc C fs μ' => rw [e] at o; exact o
  | bad => rw [e] at o; exact o
end
section
variable {X : Cx} {W : WX} {a b c e : Expr} {es : List Expr} {pos : Pos} {ma mb mc : ME} {ms : MA} {ml : ML}
theorem fe_fz (h : FL X W e ml) : FE X W e (mFz ml) := by
  refine pe_imp h fun σ H Q ⟨Z, ι, ρ, μ, R, o⟩ => tFr_bind R o fun xs μ' Z' ι' H' a vs x s h1 h2 h3 h4 h5 o1 => ?_
  refine o1 _ ι' H' (x.freeze R.sta.trk h1) (s.freeze h3) _ (.d (.lst (mask_in (fun q => ?_) h4) (h5.mono (mask_less fun b hb => (List.mem_filter.mp hb).1) _ _)))
  exact of_decide_eq_true (List.mem_filter.mp q).2 rfl
theorem fe_own (h : FL X W e ml) : FE X W e (mOwn ml) := by
  refine pe_imp h fun σ H Q ⟨Z, ι, ρ, μ, R, o⟩ => tFr_bind R o fun xs μ' Z' ι' H' a vs x s h1 h2 h3 h4 h5 o1 => ?_
  refine o1 Z' (ι' ++ [a]) H' (x.own h1) (s.own h2 h3 h4 (.lst h5)) _ (.ref ?_)
  rw [← s.len, List.getElem?_concat_length]
/-- a heap in which a new list stands -/
theorem fr_new {K : PySem.W.Frag} {σ : St} {Z ι Z' ι' : List Addr} {μ' : List MO} {H H' : Hp} {xs : List D} {vs : List V} {Q : VK} (x : Ext Z ι H Z' ι' H') (s : Sta K Z' ι' μ' H') (d : DRs K (mask H' Z') xs vs)
    (o : Out K W σ Z ι H (.ok xs μ') (fun xs Z' ι' H' => ∀ a vs, H a = none → a ∈ Z' → a ∉ ι' → H' a = some (.lst vs) → DRs K (mask H' Z') xs vs → Q (.ref a) H')) {p : Addr} (hp : H' p = none) : Q (.ref p) (upd H' p (.lst vs)) := by
  have sm : Same H' (upd H' p (.lst vs)) := fun b o e => (upd_ne (ne_of_none e hp)).trans e
  obtain ⟨s2, x2⟩ := s.grow sm
  have np : p ∉ Z' := fun q => by obtain ⟨o, e⟩ := s.trk p q; rw [hp] at e; cases e
  have hH : H p = none := by
    cases q : H p with
    | none => rfl
    | some o1 =>
      by_cases h2 : p ∈ ι
      · exact (np (x.z p (x.sub p h2))).elim
      · exact q.symm.trans (x.free h2 hp)
  have ms : Same (mask H' Z') (mask (upd H' p (.lst vs)) (p :: Z')) := fun b o e => by
    have t := mask_nt e
    obtain ⟨n, e⟩ := of_mask e
    refine mask_in (fun q => ?_) (sm b o e) t
    rcases List.mem_cons.mp q with z | z
    · rw [z, hp] at e; cases e
    · exact n z
  refine o (p :: Z') ι' _ ⟨x.sub, fun b hb => List.mem_cons_of_mem _ (x.z b hb), x.i, fun b o n t e => sm b o (x.keep b o n t e), fun b ps e => (let ⟨qs, z⟩ := x.tb b ps e; ⟨qs, sm b _ z⟩), fun b hb => ?_, x.newi⟩ ⟨fun b hb => List.mem_cons_of_mem _ (s.sub b hb), s.nd, s.len, fun b hb => ?_, s.tab.ext sm, fun k b o h1 h2 => ?_⟩ p vs hH List.mem_cons_self
    (fun q => np (s.sub p q)) upd_same (d.mono ms _ _)
  · rcases List.mem_cons.mp hb with z | z
    · rw [z]; exact .inr hH
    · exact x.new b z
  · rcases List.mem_cons.mp hb with z | z
    · rw [z]; exact ⟨_, upd_same⟩
    · obtain ⟨o, e⟩ := s.trk b z; exact ⟨o, sm b o e⟩
  · obtain ⟨ho, h3, h4⟩ := s.obj k b o h1 h2
    exact ⟨ho, sm b ho h3, h4.mono ms (fun _ _ h => h)⟩
/-- [a, b] -/
def mLst (ms : MA) : ML := fun ρ μ => (ms ρ μ).bind fun as μ1 => match datas as with
  | some xs => if xs.length ≤ sizeLine then .ok xs μ1 else .bad
  | none => .bad
theorem fl_lst (h : FA X W es ms) : FL X W (.List es pos) (mLst ms) := by
  refine pe_imp (pe_lst h) fun σ H Q ⟨Z, ι, ρ, μ, R, o⟩ => ?_
  refine ⟨Z, ι, ρ, μ, R, ?_⟩
  unfold mLst at o
  cases q : ms ρ μ with
  | exc C fs μ' => rw [q] at o; exact o
  | bad => rw [q] at o; exact o
  | ok as μ' =>
    rw [q] at o
    intro Z1 ι1 H1 x1 s1 vs rv
    simp only [Res.bind_ok] at o
    split at o
    · rename_i xs hx
      have hd := datas_ok rv hx
      split at o
      · rename_i hl
        exact ⟨by rw [← hd.len]; exact hl, fun p hp => fr_new x1 s1 hd o hp⟩
      · exact o.elim
    · exact o.elim
/-- an operation that gives a new list -/
def op2L (g : D → D → Option (List D)) (a b : MV) (μ : List MO) : Res (List D) :=
  match view μ a with
  | some x => match view μ b with
    | some y => match g x y with
      | some z => .ok z μ
      | none => .bad
    | none => .bad
  | none => .bad
def opNL (g : List D → Option (List D)) (as : List MV) (μ : List MO) : Res (List D) :=
  match views μ as with
  | some xs => match g xs with
    | some z => .ok z μ
    | none => .bad
  | none => .bad
def mBinL (g : D → D → Option (List D)) (ma mb : ME) : ML := fun ρ μ => (ma ρ μ).bind fun a μ1 => (mb ρ μ1).bind fun b μ2 => op2L g a b μ2
def mNL (g : List D → Option (List D)) (ms : MA) : ML := fun ρ μ => (ms ρ μ).bind (opNL g)
def OpL (K : PySem.W.Frag) (r : R2) (g : D → D → Option (List D)) : Prop :=
  ∀ (Z : List Addr) (H : Hp) (a b : D) (c : List D) (x y : V) (Q : VK), Trk Z H → DV K Z H a x → DV K Z H b y → g a b = some c → (∀ p vs, H p = none → DRs K (mask H Z) c vs → Q (.ref p) (upd H p (.lst vs))) → r x y H Q
def CallL (K : PySem.W.Frag) (r : List V → Hp → VK → Prop) (g : List D → Option (List D)) : Prop :=
  ∀ (Z : List Addr) (H : Hp) (as : List D) (c : List D) (xs : List V) (Q : VK), Trk Z H → DVs K Z H as xs → g as = some c → (∀ p vs, H p = none → DRs K (mask H Z) c vs → Q (.ref p) (upd H p (.lst vs))) → r xs H Q
theorem fl_op {op : Operator} {r : R2} {g : D → D → Option (List D)} (ho : OpR X (binaryOp op) r) (hg : OpL X.K r g) (ha : FE X W a ma) (hb : FE X W b mb) : FL X W (.BinOp a op b pos) (mBinL g ma mb) := by
  refine pe_imp (pe_op ho ha hb) fun σ H Q ⟨Z, ι, ρ, μ, R, o⟩ => ?_
  refine ⟨Z, ι, ρ, μ, R, ?_⟩
  unfold mBinL at o
  cases q : ma ρ μ with
  | exc C fs μ' => rw [q] at o; exact o
  | bad => rw [q] at o; exact o
  | ok v μ1 =>
    rw [q] at o
    intro Z1 ι1 H1 x1 s1 x rx
    have R1 := R.ext x1 s1
    refine ⟨Z1, ι1, ρ, μ1, R1, ?_⟩
    simp only [Res.bind_ok] at o
    cases q2 : mb ρ μ1 with
    | exc C fs μ' => rw [q2] at o; exact fun Z2 ι2 H2 d fs' x2 s2 => o Z2 ι2 H2 d fs' (x1.trans x2) s2
    | bad => rw [q2] at o; exact o
    | ok w μ2 =>
      rw [q2] at o
      intro Z2 ι2 H2 x2 s2 y ry
      simp only [Res.bind_ok, op2L] at o
      split at o
      · rename_i d hd
        split at o
        · rename_i e he
          split at o
          · rename_i z hz
            exact hg Z2 H2 d e z x y Q s2.trk (view_ok s2 (rx.mono x2.same x2.i) hd) (view_ok s2 ry he) hz fun p vs hp d => fr_new (x1.trans x2) s2 d o hp
          · exact o.elim
        · exact o.elim
      · exact o.elim
theorem fl_callTy {x : Str} {p : Pos} {T : String} {r : List V → Hp → VK → Prop} {g : List D → Option (List D)} (hc : CallR X (.type T) r) (hg : CallL X.K r g) (hgl : Gl X x) (hm : X.mg x = none) (hv : bootBuiltins x = some (.type T)) (ha : FA X W (e :: es) ms)
    (hn : x ≠ "__name__" := by decide) (hdb : (x == ("__debug__" : Str)) = false := by decide) (he : starEach (e :: es) X.env = (false, eval e X.env) :: starEach es X.env := by rfl) (hpl : (backTo pos (starEach es X.env)).any (·.1) = false := by rfl) :
    FL X W (.Call (.Name x p) (e :: es) [] pos) (mNL g ms) := by
  refine pe_imp (pe_callTy hc hgl hm hv ha hn hdb he hpl) fun σ H Q ⟨Z, ι, ρ, μ, R, o⟩ => ⟨Z, ι, ρ, μ, R, ?_⟩
  unfold mNL at o
  cases q : ms ρ μ with
  | exc C fs μ' => rw [q] at o; exact o
  | bad => rw [q] at o; exact o
  | ok as μ' =>
    rw [q] at o
    intro Z1 ι1 H1 x1 s1 vs rv
    simp only [Res.bind_ok, opNL] at o
    split at o
    · rename_i xs hx
      split at o
      · rename_i z hz
        exact hg Z1 H1 xs z vs Q s1.trk (views_ok s1 rv hx) hz fun p vs hp d => fr_new x1 s1 d o hp
      · exact o.elim
    · exact o.elim
theorem fl_callB {x : Str} {p : Pos} {id : String} {r : List V → Hp → VK → Prop} {g : List D → Option (List D)} (hc : CallR X (.builtin id) r) (hg : CallL X.K r g) (hgl : Gl X x) (hm : X.mg x = none) (hv : bootBuiltins x = some (.builtin id)) (ha : FA X W (e :: es) ms)
    (hn : x ≠ "__name__" := by decide) (hdb : (x == ("__debug__" : Str)) = false := by decide) (he : starEach (e :: es) X.env = (false, eval e X.env) :: starEach es X.env := by rfl) (hpl : (backTo pos (starEach es X.env)).any (·.1) = false := by rfl) :
    FL X W (.Call (.Name x p) (e :: es) [] pos) (mNL g ms) := by
  refine pe_imp (pe_callB hc hgl hm hv ha hn hdb he hpl) fun σ H Q ⟨Z, ι, ρ, μ, R, o⟩ => ⟨Z, ι, ρ, μ, R, ?_⟩
  unfold mNL at o
  cases q : ms ρ μ with
  | exc C fs μ' => rw [q] at o; exact o
  | bad => rw [q] at o; exact o
  | ok as μ' =>
    rw [q] at o
    intro Z1 ι1 H1 x1 s1 vs rv
    simp only [Res.bind_ok, opNL] at o
    split at o
    · rename_i xs hx
      split at o
      · rename_i z hz
        exact hg Z1 H1 xs z vs Q s1.trk (views_ok s1 rv hx) hz fun p vs hp d => fr_new x1 s1 d o hp
      · exact o.elim
    · exact o.elim
end
/-! comprehensions -/
def Res.calm {α : Type} : Res α → Res α
  | .exc _ _ _ => .bad
  | r => r
@[simp] theorem Res.calm_ok {α : Type} (a : α) (μ : List MO) : (Res.ok a μ).calm = .ok a μ := rfl
@[simp] theorem Res.calm_bad {α : Type} : (Res.bad : Res α).calm = .bad := rfl
abbrev W0 : WX := fun _ _ _ _ => False
def wipeM (ρ : En) : List Nat → En
  | [] => ρ
  | v :: vs => (wipeM ρ vs).set v none
theorem RS.setN {K : PySem.W.Frag} {F : Hp} {ι : List Addr} : ∀ {ρ : En} {σ : St}, RS K F ι ρ σ → ∀ (i : Nat) (v : Option V), RS K F ι (ρ.set i none) (σ.set i v)
  | _, _, .nil, _, _ => .nil
  | _, _, .cons _ t, 0, _ => .cons .none t
  | _, _, .cons q t, i + 1, v => .cons q (RS.setN t i v)
theorem RS.wipe {K : PySem.W.Frag} {F : Hp} {ι : List Addr} {ρ : En} {σ : St} (h : RS K F ι ρ σ) : ∀ vs : List Nat, RS K F ι (wipeM ρ vs) (L2.wipe σ vs)
  | [] => h
  | v :: vs => (RS.wipe h vs).setN v none
noncomputable def lcD (q : List D × Option Nat) (g : MG) (c : MT) (el : ME) (ρ : En) : List D → List D → List MO → Res (List D)
  | [], acc, μ => if chk q μ = true then .ok acc μ else .bad
  | x :: xs, acc, μ => if chk q μ = true then (match g (.d x) ρ with
    | none => .bad
    | some ρ1 => (c ρ1 μ).calm.bind fun k μ1 => if k = true then (el ρ1 μ1).calm.bind fun v μ2 => (match v with
        | .d y => lcD q g c el ρ xs (acc ++ [y]) μ2
        | .ref _ => .bad) else lcD q g c el ρ xs acc μ1) else .bad
noncomputable def mLC (mi : MI) (g : MG) (c : MT) (el : ME) (vs : List Nat) : ML := fun ρ μ => (mi ρ μ).bind fun q μ1 => if q.1.length ≤ sizeLine then lcD q g c el (wipeM ρ vs) q.1 [] μ1 else .bad
/-- a target that stores names at vs alone -/
def GOk (K : PySem.W.Frag) (g : TG) (gm : MG) (vs : List Nat) : Prop := ∀ Z ι ρ μ σ H x v ρ' (Q : St → Hp → Prop), Rel K Z ι ρ μ σ H → RM K (mask H Z) ι x v → gm x ρ = some ρ' → (∀ σ', Rel K Z ι ρ' μ σ' H → wipe σ' vs = wipe σ vs → Q σ' H) → g v σ H Q
def GOks (K : PySem.W.Frag) (g : TGs) (gm : MGs) (vs : List Nat) : Prop := ∀ Z ι ρ μ σ H x v ρ' (Q : St → Hp → Prop), Rel K Z ι ρ μ σ H → DRs K (mask H Z) x v → gm x ρ = some ρ' → (∀ σ', Rel K Z ι ρ' μ σ' H → wipe σ' vs = wipe σ vs → Q σ' H) → g v σ H Q
theorem set_wipe {v : Option V} : ∀ {vs : List Nat} {σ : St} {i : Nat}, i ∈ vs → wipe (σ.set i v) vs = wipe σ vs
  | [], _, _, h => by cases h
  | w :: vs, σ, i, h => by
    unfold wipe
    by_cases e : i ∈ vs
    · rw [set_wipe e]
    · have hw : i = w := by
        rcases List.mem_cons.mp h with q | q
        · exact q
        · exact (e q).elim
      subst hw
      have : ∀ (us : List Nat) (τ : St), i ∉ us → wipe (τ.set i v) us = (wipe τ us).set i v := by
        intro us
        induction us with
        | nil => intro τ _; rfl
        | cons u us ih =>
          intro τ hn
          unfold wipe
          rw [ih τ (fun q => hn (List.mem_cons_of_mem _ q)), List.set_comm _ _ (fun q => hn (by rw [q]; exact List.mem_cons_self))]
      rw [this vs σ e, List.set_set]
section
variable {K : PySem.W.Frag} {vs : List Nat}
theorem cg_name {i : Nat} (h : i ∈ vs) : GOk K (gName i) (gN i) vs := fun Z ι ρ μ σ H x v ρ' Q R r e q => by
  cases e
  exact q _ ⟨R.sta, R.rs.set r i⟩ (set_wipe h)
theorem cgs_nil : GOks K gNil gE vs := fun Z ι ρ μ σ H x v ρ' Q R r e q => by
  cases r with
  | nil => cases e; exact ⟨rfl, q _ R rfl⟩
  | cons a b => cases e
theorem cgs_cons {t : TG} {u : TGs} {g : MG} {gs : MGs} (h1 : GOk K t g vs) (h2 : GOks K u gs vs) : GOks K (gCons t u) (gC g gs) vs := fun Z ι ρ μ σ H x v ρ' Q R r e q => by
  cases r with
  | nil => cases e
  | cons a b =>
    simp only [gC] at e
    split at e
    · rename_i ρ1 h3
      exact ⟨_, _, rfl, h1 Z ι ρ μ σ H _ _ ρ1 _ R (.d a) h3 fun σ1 R1 w1 => h2 Z ι ρ1 μ σ1 H _ _ ρ' Q R1 b e fun σ2 R2 w2 => q σ2 R2 (w2.trans w1)⟩
    · cases e
theorem cg_tup {n : Nat} {t : TGs} {gs : MGs} (h : GOks K t gs vs) : GOk K (gTup K n t) (gT n gs) vs := fun Z ι ρ μ σ H x v ρ' Q R r e q => by
  cases r with
  | ref r => cases e
  | d r => cases r with
    | tup h1 h2 =>
      simp only [gT] at e
      split at e
      · rename_i hl
        exact ⟨_, _, rfl, SqT.of (mask_same _ _ _ _ h1), by rw [← h2.len]; exact hl, h Z ι ρ μ σ H _ _ ρ' Q R h2 e q⟩
      · cases e
    | _ => cases e
end
section
variable {X : Cx} {W : WX}
def mYes : MT := fun _ μ => .ok true μ
abbrev FTs (X : Cx) (W : WX) (ifs : List Expr) (m : MT) : Prop := PTs X ifs (tMT X.K W m)
theorem fts_nil : FTs X W [] mYes := ⟨fun pins s σ H Q I ⟨Z, ι, ρ, μ, R, o⟩ => pts_nil.run pins s σ H Q I (o Z ι H (Ext.refl R.sta.sub) R.sta)⟩
theorem fts_one {c : Expr} {m : MT} (h : FT X W c m) : FTs X W [c] m := pts_one h
theorem lcD_chk {K : PySem.W.Frag} {σ : St} {Z ι : List Addr} {H : Hp} {P : List D → List Addr → List Addr → Hp → Prop} {q : List D × Option Nat} {g : MG} {c : MT} {el : ME} {ρ : En} {xs acc : List D} {μ : List MO} (o : Out K W σ Z ι H (lcD q g c el ρ xs acc μ) P) : chk q μ = true := by
  cases xs <;> (unfold lcD at o; split at o; assumption; exact o.elim)
/-- a place within Z that is no object of the store is written -/
theorem Sta.side {K : PySem.W.Frag} {Z ι : List Addr} {μ : List MO} {H : Hp} (s : Sta K Z ι μ H) {a : Addr} {o : HO} {as : List V} (he : H a = some (.lst as)) (hz : a ∈ Z) (n : a ∉ ι) : Sta K Z ι μ (upd H a o) := by
  have ms : Same (mask H Z) (mask (upd H a o) Z) := fun b u e => by
    obtain ⟨n1, e1⟩ := of_mask e
    exact mask_in n1 ((upd_ne fun q => n1 (by rw [q]; exact hz)).trans e1) (mask_nt e)
  refine ⟨s.sub, s.nd, s.len, fun b hb => ?_, tabs_upd s.tab he (fun ps z => by cases z) (fun c q z => by cases z), fun k b o' h1 h2 => ?_⟩
  · by_cases q : b = a
    · rw [q]; exact ⟨o, upd_same⟩
    · obtain ⟨u, e⟩ := s.trk b hb; exact ⟨u, (upd_ne q).trans e⟩
  · obtain ⟨ho, h3, h4⟩ := s.obj k b o' h1 h2
    refine ⟨ho, (upd_ne fun q => n ?_).trans h3, h4.mono ms (fun _ _ h => h)⟩
    rw [← q]
    exact List.mem_of_getElem? h1
theorem lc_read {K : PySem.W.Frag} {mi : MI} {g : TG} {gm : MG} {c : MT} {el : ME} {vs0 : List Nat} (hgo : GOk K g gm vs0) {σ : St} {H : Hp} {Q : VK} (h : tFr K W (mLC mi gm c el vs0) σ H Q) : tLc (tMI K W mi) g (tMT K W0 c) (tM K W0 el) vs0 σ H Q := by
  obtain ⟨Z, ι, ρ, μ, R, o⟩ := h
  refine ⟨Z, ι, ρ, μ, R, ?_⟩
  unfold mLC at o
  cases eq : mi ρ μ with
  | exc C fs μ' => rw [eq] at o; exact o
  | bad => rw [eq] at o; exact o
  | ok q μ1 =>
    rw [eq] at o
    simp only [Res.bind_ok] at o
    split at o
    · rename_i hsz
      intro Z1 ι1 H1 x1 s1 J G Y w hG hY L hL
      have R1 := R.ext x1 s1
      have nL : L ∉ Z1 := fun z => by obtain ⟨u, e⟩ := s1.trk L z; rw [hL] at e; cases e
      have nH : H L = none := by
        cases qq : H L with
        | none => rfl
        | some u =>
          by_cases h2 : L ∈ ι
          · exact (nL (x1.z L (x1.sub L h2))).elim
          · exact qq.symm.trans (x1.free h2 hL)
      generalize vs0 = vs at o hgo ⊢
      refine lc_it w (fun i H2 => ∃ Z2 ι2 μ2 acc as, Ext Z1 ι1 H1 Z2 ι2 H2 ∧ Sta K Z2 ι2 μ2 H2 ∧ L ∈ Z2 ∧ L ∉ ι2 ∧ H2 L = some (.lst as) ∧ DRs K (mask H2 Z2) acc as ∧ acc.length ≤ i ∧
          Out K W σ Z ι H (lcD q gm c el (wipeM ρ vs) (q.1.drop i) acc μ2) (fun xs Z' ι' H' => ∀ a vs, H a = none → a ∈ Z' → a ∉ ι' → H' a = some (.lst vs) → DRs K (mask H' Z') xs vs → Q (.ref a) H')) ?_ ?_ ?_ ?_
      · have sm : Same H1 (upd H1 L (.lst [])) := fun b o e => (upd_ne (ne_of_none e hL)).trans e
        have ms : Same (mask H1 Z1) (mask (upd H1 L (.lst [])) (L :: Z1)) := fun b o e => by
          have t := mask_nt e
          obtain ⟨n, e⟩ := of_mask e
          refine mask_in (fun q => ?_) (sm b o e) t
          rcases List.mem_cons.mp q with z | z
          · rw [z, hL] at e; cases e
          · exact n z
        refine ⟨L :: Z1, ι1, μ1, [], [], ⟨s1.sub, fun b hb => List.mem_cons_of_mem _ hb, fun _ _ h => h, fun b o _ _ e => sm b o e, fun b ps e => ⟨ps, sm b _ e⟩, fun b hb => ?_, fun b hb => .inl hb⟩, ⟨fun b hb => List.mem_cons_of_mem _ (s1.sub b hb), s1.nd, s1.len, fun b hb => ?_, s1.tab.ext sm, fun k b o' h1 h2 => ?_⟩,
          List.mem_cons_self, fun z => nL (s1.sub L z), upd_same, .nil, Nat.le_refl _, o⟩
        · rcases List.mem_cons.mp hb with z | z
          · rw [z]; exact .inr hL
          · exact .inl z
        · rcases List.mem_cons.mp hb with z | z
          · rw [z]; exact ⟨_, upd_same⟩
          · obtain ⟨u, e⟩ := s1.trk b z; exact ⟨u, sm b u e⟩
        · obtain ⟨ho, h3, h4⟩ := s1.obj k b o' h1 h2
          exact ⟨ho, sm b ho h3, h4.mono ms (fun _ _ h => h)⟩
      · rintro i H2 hi ⟨Z2, ι2, μ2, acc, as, x2, s2, l1, l2, l3, l4, l5, o2⟩
        exact hG Z2 ι2 μ2 H2 x2 s2 (lcD_chk o2)
      · rintro i x H2 H3 hi ⟨Z2, ι2, μ2, acc, as, x2, s2, l1, l2, l3, l4, l5, o2⟩ hy
        have hx : q.1[i]? = some q.1[i] := by simp [hi]
        obtain ⟨sm, dr⟩ := hY Z2 ι2 μ2 H2 i _ x H3 x2 s2 (lcD_chk o2) hx hy
        rw [List.drop_eq_getElem_cons hi] at o2
        have hck := lcD_chk o2
        unfold lcD at o2
        rw [if_pos hck] at o2
        obtain ⟨s3, x3⟩ := s2.grow sm
        split at o2
        · exact o2.elim
        · rename_i ρ1 hg1
          have R3 : Rel K Z2 ι2 (wipeM ρ vs) μ2 (wipe σ vs) H3 := ⟨s3, ((R1.rs.mono x2.same x2.i).mono x3.same x3.i).wipe vs⟩
          refine hgo Z2 ι2 _ μ2 _ H3 _ x ρ1 _ R3 (.d dr) hg1 fun σ4 R4 w4 => ⟨?_, Z2, ι2, ρ1, μ2, R4, ?_⟩
          · rw [w4]
            -- wiping twice
            have ww : ∀ (us : List Nat) (τ : St), wipe (wipe τ us) us = wipe τ us := by
              intro us τ
              have key : ∀ (ws : List Nat) (τ : St) (i : Nat), i ∈ ws → (wipe τ ws).set i none = wipe τ ws := by
                intro ws
                induction ws with
                | nil => intro τ i h; cases h
                | cons u us ih =>
                  intro τ i h
                  unfold wipe
                  by_cases e : i = u
                  · subst e; rw [List.set_set]
                  · have h2 : i ∈ us := by
                      rcases List.mem_cons.mp h with z | z
                      · exact (e z).elim
                      · exact z
                    rw [List.set_comm _ _ (fun z => e z.symm), ih τ i h2]
              have key2 : ∀ (ws us : List Nat) (τ : St), (∀ i ∈ ws, i ∈ us) → wipe (wipe τ us) ws = wipe τ us := by
                intro ws
                induction ws with
                | nil => intro us τ _; rfl
                | cons u ws ih =>
                  intro us τ h
                  show (wipe (wipe τ us) ws).set u none = wipe τ us
                  rw [ih us τ fun i hi => h i (List.mem_cons_of_mem _ hi), key us τ u (h u List.mem_cons_self)]
              exact key2 us us τ fun _ h => h
            exact ww vs σ
          · cases ec : c ρ1 μ2 with
            | exc C fs μ' => rw [ec] at o2; exact o2.elim
            | bad => rw [ec] at o2; exact o2
            | ok k μ3 =>
              rw [ec] at o2
              simp only [Res.calm_ok, Res.bind_ok] at o2
              intro Z4 ι4 H4 x4 s4
              have xa : Ext Z1 ι1 H1 Z4 ι4 H4 := (x2.trans x3).trans x4
              have l4' : DRs K (mask H4 Z4) acc as := (l4.mono x3.same _ _).mono x4.same _ _
              have l3' : H4 L = some (.lst as) := x4.keep L _ l2 True.intro (sm L _ l3)
              have l2' : L ∉ ι4 := fun z => by
                rcases x4.newi L z with z | z
                · exact l2 z
                · rw [sm L _ l3] at z; cases z
              cases k with
              | false => exact ⟨Z4, ι4, μ3, acc, as, xa, s4, x4.z L l1, l2', l3', l4', by omega, o2⟩
              | true =>
                refine ⟨Z4, ι4, ρ1, μ3, R4.ext x4 s4, ?_⟩
                simp only [if_true] at o2
                cases ee : el ρ1 μ3 with
                | exc C fs μ' => rw [ee] at o2; exact o2.elim
                | bad => rw [ee] at o2; exact o2
                | ok v μ5 =>
                  rw [ee] at o2
                  simp only [Res.calm_ok, Res.bind_ok] at o2
                  intro Z5 ι5 H5 x5 s5 y ry
                  cases ry with
                  | ref r => exact o2.elim
                  | d ry =>
                    have m5 : H5 L = some (.lst as) := x5.keep L _ l2' True.intro l3'
                    have n5 : L ∉ ι5 := fun z => by
                      rcases x5.newi L z with z | z
                      · exact l2' z
                      · rw [l3'] at z; cases z
                    have z5 : L ∈ Z5 := x5.z L (x4.z L l1)
                    have xb : Ext Z1 ι1 H1 Z5 ι5 H5 := xa.trans x5
                    refine ⟨as, m5, ?_, Z5, ι5, μ5, acc ++ [_], as ++ [y], ⟨xb.sub, xb.z, xb.i, fun b u n t e => ?_, fun b ps e => ?_, xb.new, xb.newi⟩, s5.side m5 z5 n5, z5, n5, upd_same, ?_, ?_, o2⟩
                    · rw [← l4'.len]; omega
                    · rw [upd_ne (ne_of_none e hL)]; exact xb.keep b u n t e
                    · obtain ⟨qs, z⟩ := xb.tb b ps e
                      exact ⟨qs, (upd_ne (ne_of_none e hL)).trans z⟩
                    · have ms : Same (mask H5 Z5) (mask (upd H5 L (.lst (as ++ [y]))) Z5) := fun b u e => by
                        obtain ⟨n1, e1⟩ := of_mask e
                        exact mask_in n1 ((upd_ne fun q => n1 (by rw [q]; exact z5)).trans e1) (mask_nt e)
                      exact DRs.append (.cons (DR.mono ms _ _ ry) .nil) ((l4'.mono x5.same _ _).mono ms _ _)
                    · rw [List.length_append]; show acc.length + 1 ≤ i + 1; omega
      · rintro H2 ⟨Z2, ι2, μ2, acc, as, x2, s2, l1, l2, l3, l4, l5, o2⟩
        rw [List.drop_length] at o2
        have hck := lcD_chk o2
        unfold lcD at o2
        rw [if_pos hck] at o2
        exact o2 Z2 ι2 H2 (x1.trans x2) s2 L as nH l1 l2 l3 l4
    · exact o.elim
theorem fl_lc {elt tg iter : Expr} {ifs : List Expr} {scope : Scope} {own : List (Str × Nat)} {pos : Pos} {mi : MI} {g : TG} {gm : MG} {c : MT} {el : ME} (hc : X.calm = true) (hN : X.N.Nodup) (hi : FI X W tg iter mi) (ok : BlkOk X.N X.env.scope scope own)
    (hgo : GOk X.K g gm (own.map (·.2)))
    (hg : ∀ (s : Shared) (H : Hp) (C : Addr) (cl : List (Str × Addr)) (fp : List Addr), PG (X.blk s H scope (compEnvC scope cl C X.env) fp) tg g)
    (ht : ∀ (s : Shared) (H : Hp) (C : Addr) (cl : List (Str × Addr)) (fp : List Addr), FTs (X.blk s H scope (compEnvC scope cl C X.env) fp) W0 ifs c)
    (he : ∀ (s : Shared) (H : Hp) (C : Addr) (cl : List (Str × Addr)) (fp : List Addr), FE (X.blk s H scope (compEnvC scope cl C X.env) fp) W0 elt el) (hs : ∀ x, foldedSetIterable iter X.env x = pure x := by intro _; rfl) :
    FL X W (.ListComp elt [⟨tg, iter, ifs, 0⟩] scope pos) (mLC mi gm c el (own.map (·.2))) :=
  pe_imp (pe_lc (g := g) (tt := tMT X.K W0 c) (te := tM X.K W0 el) hc hN hi ok hg ht he hs) fun σ H Q h => lc_read hgo h
/-- y = [..] on one line -/
theorem setLc {i : Nat} {y : Str} {py : Pos} {elt tg iter : Expr} {ifs : List Expr} {scope : Scope} {own : List (Str × Nat)} {pos spos : Pos} {mi : MI} {g : TG} {gm : MG} {c : MT} {el : ME} (hc : X.calm = true) (hN : X.N.Nodup) (hy : X.N[i]? = some y) (hyl : X.env.scope.names.lookup y = some .local)
    (hsw : swapsWith (.ListComp elt [⟨tg, iter, ifs, 0⟩] scope pos) (some (.Name y py)) spos.line X.env = pure true) (hi : FI X W tg iter mi) (ok : BlkOk X.N X.env.scope scope own)
    (hgo : GOk X.K g gm (own.map (·.2)))
    (hg : ∀ (s : Shared) (H : Hp) (C : Addr) (cl : List (Str × Addr)) (fp : List Addr), PG (X.blk s H scope (compEnvC scope cl C X.env) fp) tg g)
    (ht : ∀ (s : Shared) (H : Hp) (C : Addr) (cl : List (Str × Addr)) (fp : List Addr), FTs (X.blk s H scope (compEnvC scope cl C X.env) fp) W0 ifs c)
    (he : ∀ (s : Shared) (H : Hp) (C : Addr) (cl : List (Str × Addr)) (fp : List Addr), FE (X.blk s H scope (compEnvC scope cl C X.env) fp) W0 elt el) (hs : ∀ x, foldedSetIterable iter X.env x = pure x := by intro _; rfl) :
    PS X (.Assign [.Name y py] (.ListComp elt [⟨tg, iter, ifs, 0⟩] scope pos) spos) (tAsg (tFr X.K W (mLC mi gm c el (own.map (·.2)))) (gName i)) :=
  ps_imp (ps_setLc (i := i) (g := g) (tt := tMT X.K W0 c) (te := tM X.K W0 el) hc hN hy hyl hsw hi ok hg ht he hs) fun D σ H h => lc_read hgo h
theorem fs_lcF {i : Nat} {st : Stmt} {ml : ML} (h : PS X st (tAsg (tFr X.K W ml) (gName i))) : FS X W st (mAsg (mFz ml) (gN i)) := by
  refine ps_imp h fun E σ H ⟨Z, ι, ρ, μ, R, o⟩ => ⟨Z, ι, ρ, μ, R, ?_⟩
  unfold mAsg mFz at o
  cases q : ml ρ μ with
  | exc C fs μ' => rw [q] at o; exact Out.exc_of R o
  | bad => rw [q] at o; exact o
  | ok xs μ' =>
    rw [q] at o
    intro Z' ι' H' x s a vs h1 h2 h3 h4 h5
    have s2 := s.freeze h3
    have x2 := x.freeze R.sta.trk h1
    have d : DR X.K (mask H' (Z'.filter (· ≠ a))) (.lst xs) (.ref a) := .lst (mask_in (fun q => of_decide_eq_true (List.mem_filter.mp q).2 rfl) h4) (h5.mono (mask_less fun b hb => (List.mem_filter.mp hb).1) _ _)
    exact o _ ι' H' _ x2 ⟨s2, (R.ext x2 s2).rs.set (.d d) i⟩
theorem fs_lcO {i : Nat} {st : Stmt} {ml : ML} (h : PS X st (tAsg (tFr X.K W ml) (gName i))) : FS X W st (mAsg (mOwn ml) (gN i)) := by
  refine ps_imp h fun E σ H ⟨Z, ι, ρ, μ, R, o⟩ => ⟨Z, ι, ρ, μ, R, ?_⟩
  unfold mAsg mOwn at o
  cases q : ml ρ μ with
  | exc C fs μ' => rw [q] at o; exact Out.exc_of R o
  | bad => rw [q] at o; exact o
  | ok xs μ' =>
    rw [q] at o
    intro Z' ι' H' x s a vs h1 h2 h3 h4 h5
    have s2 := s.own h2 h3 h4 (.lst h5)
    have x2 := x.own h1
    exact o Z' _ H' _ x2 ⟨s2, (R.ext x2 s2).rs.set (.ref (by rw [← s.len, List.getElem?_concat_length])) i⟩
end
end TT

namespace TT
open PySem L2
variable [TB]
section
variable {X : Cx} {W : WX} {tg a b c e : Expr} {es : List Expr} {pos : Pos} {ma mb mc : ME} {ms : MA}
theorem pi_or {t t' : TI} (h : PI X tg e t) (h' : PI X tg e t') : PI X tg e (fun σ H R => t σ H R ∨ t' σ H R) := ⟨fun pins s σ H R I w => w.elim (h.run pins s σ H R I) (h'.run pins s σ H R I)⟩
def chars (z : Str) : List D := z.cps.toList.map fun c => .str ⟨#[c]⟩
def itemsOf (v : MV) (μ : List MO) : Res (List D × Option Nat) := match v with
  | .d (.lst xs) => .ok (xs, none) μ
  | .d (.tup xs) => .ok (xs, none) μ
  | .d (.fl xs) => .ok (xs, none) μ
  | .d (.str z) => .ok (chars z, none) μ
  | .ref n => match μ[n]? with
    | some (.lst xs) => .ok (xs, some n) μ
    | _ => .bad
  | _ => .bad
def mIt (ma : ME) : MI := fun ρ μ => (ma ρ μ).bind itemsOf
theorem its_list {K : PySem.W.Frag} {Z ι : List Addr} {μ : List MO} {H : Hp} {σ : St} {a : Addr} {xs : List D} {vs : List V} {R : It → Hp → Prop} (s : Sta K Z ι μ H) (h : SqL K (mask H Z) a vs) (d : DRs K (mask H Z) xs vs)
    (o : Out K W σ Z ι H (.ok (xs, none) μ) (Its K R)) : R (Itl K a) H := by
  refine o Z ι H (Ext.refl s.sub) s (Itl K a) _ _ (by rw [show xs.length = vs.length from d.len]; exact walk_list) (fun Z2 ι2 μ2 H2 x2 s2 _ => (mask_same _ _).seq (x2.same.seq h)) fun Z2 ι2 μ2 H2 i d' x H3 x2 s2 _ hd hy => ?_
  obtain ⟨rfl, hx⟩ := hy
  obtain ⟨v, h1, h2⟩ := d.get hd
  rw [hx] at h1
  cases h1
  exact ⟨Same.refl _, DR.mono x2.same _ _ h2⟩
theorem its_tup {K : PySem.W.Frag} {Z ι : List Addr} {μ : List MO} {H : Hp} {σ : St} {a : Addr} {xs : List D} {vs : List V} {R : It → Hp → Prop} (s : Sta K Z ι μ H) (h : SqT K (mask H Z) a vs) (d : DRs K (mask H Z) xs vs)
    (o : Out K W σ Z ι H (.ok (xs, none) μ) (Its K R)) : R (Itt K a) H := by
  refine o Z ι H (Ext.refl s.sub) s (Itt K a) _ _ (by rw [show xs.length = vs.length from d.len]; exact walk_tup) (fun Z2 ι2 μ2 H2 x2 s2 _ => same_t (mask_same _ _) (same_t x2.same h)) fun Z2 ι2 μ2 H2 i d' x H3 x2 s2 _ hd hy => ?_
  obtain ⟨rfl, hx⟩ := hy
  obtain ⟨v, h1, h2⟩ := d.get hd
  rw [hx] at h1
  cases h1
  exact ⟨Same.refl _, DR.mono x2.same _ _ h2⟩
theorem its_str {K : PySem.W.Frag} {Z ι : List Addr} {μ : List MO} {H : Hp} {σ : St} {z : Str} {R : It → Hp → Prop} (s : Sta K Z ι μ H) (o : Out K W σ Z ι H (.ok (chars z, none) μ) (Its K R)) : R (L2.Its z) H := by
  refine o Z ι H (Ext.refl s.sub) s (L2.Its z) _ _ (by rw [show (chars z).length = z.cps.size by simp [chars]]; exact walk_str) (fun _ _ _ _ _ _ _ => trivial) fun Z2 ι2 μ2 H2 i d' x H3 x2 s2 _ hd hy => ?_
  obtain ⟨rfl, c, hc, rfl⟩ := hy
  refine ⟨Same.refl _, ?_⟩
  simp only [chars, List.getElem?_map, Array.getElem?_toList, hc, Option.map_some, Option.some.injEq] at hd
  subst hd
  exact .str _
theorem its_ref {K : PySem.W.Frag} {Z ι : List Addr} {μ : List MO} {H : Hp} {σ : St} {a : Addr} {n : Nat} {xs : List D} {R : It → Hp → Prop} (s : Sta K Z ι μ H) (h : ι[n]? = some a) (e : μ[n]? = some (.lst xs))
    (o : Out K W σ Z ι H (.ok (xs, some n) μ) (Its K R)) : (∃ vs, SqL K H a vs) ∧ R (Itl K a) H := by
  obtain ⟨ho, h1, h2⟩ := s.obj n a _ h e
  cases h2 with
  | lst d =>
    rename_i vs
    refine ⟨⟨vs, SqL.of h1⟩, ?_⟩
    have key : ∀ Z2 ι2 μ2 H2, Ext Z ι H Z2 ι2 H2 → Sta K Z2 ι2 μ2 H2 → chk (xs, some n) μ2 = true → ∃ ws, H2 a = some (.lst ws) ∧ DRs K (mask H2 Z2) xs ws := fun Z2 ι2 μ2 H2 x2 s2 c => by
      simp only [chk, decide_eq_true_eq] at c
      obtain ⟨ho, h3, h4⟩ := s2.obj n a _ (x2.i n a h) c
      cases h4 with | lst d => exact ⟨_, h3, d⟩
    refine o Z ι H (Ext.refl s.sub) s (Itl K a) (fun H2 => ∃ ws, H2 a = some (.lst ws) ∧ ws.length = xs.length) (fun i H2 x H3 => H3 = H2 ∧ ∃ ws, H2 a = some (.lst ws) ∧ ws[i]? = some x) ?_ ?_ ?_
    · refine ⟨fun i H2 hi ⟨ws, q, hl⟩ => ?_, fun H2 ⟨ws, q, hl⟩ => ?_, fun i H2 x H3 hi ⟨ws, q, hl⟩ y => ?_⟩
      · exact ⟨ws, ws[i]'(by rw [hl]; exact hi), SqL.of q, by simp⟩
      · exact ⟨ws, SqL.of q, by rw [hl]; exact Nat.le_refl _⟩
      · exact ⟨y.1, ws, q, y.2 ws (SqL.of q)⟩
    · intro Z2 ι2 μ2 H2 x2 s2 c
      obtain ⟨ws, q, d2⟩ := key Z2 ι2 μ2 H2 x2 s2 c
      exact ⟨ws, q, d2.len.symm⟩
    · intro Z2 ι2 μ2 H2 i d' x H3 x2 s2 c hd hy
      obtain ⟨ws, q, d2⟩ := key Z2 ι2 μ2 H2 x2 s2 c
      obtain ⟨rfl, ws', q', hx⟩ := hy
      rw [q] at q'
      cases q'
      obtain ⟨v, h1, h2⟩ := d2.get hd
      rw [hx] at h1
      cases h1
      exact ⟨Same.refl _, h2⟩
theorem fi_val (ha : FE X W e ma) : FI X W tg e (mIt ma) := by
  refine pi_imp (pi_or (pi_list ha) (pi_or (pi_tup ha) (pi_str ha))) fun σ H R ⟨Z, ι, ρ, μ, R0, o⟩ => ?_
  unfold mIt at o
  cases q : ma ρ μ with
  | exc C fs μ' => rw [q] at o; exact .inl ⟨Z, ι, ρ, μ, R0, by rw [q]; exact o⟩
  | bad => rw [q] at o; exact o.elim
  | ok v μ1 =>
    rw [q] at o
    simp only [Res.bind_ok] at o
    have go : ∀ {P : V → Hp → Prop}, (∀ Z1 ι1 H1 x, Ext Z ι H Z1 ι1 H1 → Sta X.K Z1 ι1 μ1 H1 → RM X.K (mask H1 Z1) ι1 v x → P x H1) → tM X.K W ma σ H P := fun h => ⟨Z, ι, ρ, μ, R0, by rw [q]; exact fun Z1 ι1 H1 x1 s1 x r => h Z1 ι1 H1 x x1 s1 r⟩
    cases v with
    | ref n =>
      simp only [itemsOf] at o
      split at o
      · rename_i xs hx
        refine .inl (go fun Z1 ι1 H1 x x1 s1 r => ?_)
        cases r with | ref r =>
          obtain ⟨h1, h2⟩ := its_ref s1 r hx (Out.base o x1)
          exact ⟨_, rfl, h1, h2⟩
      · exact o.elim
    | d d => cases d with
      | lst xs =>
        refine .inl (go fun Z1 ι1 H1 x x1 s1 r => ?_)
        cases r with | d r => cases r with | lst h1 h2 => exact ⟨_, rfl, ⟨_, SqL.of (mask_same _ _ _ _ h1)⟩, its_list s1 (SqL.of h1) h2 (Out.base o x1)⟩
      | fl xs =>
        refine .inl (go fun Z1 ι1 H1 x x1 s1 r => ?_)
        cases r with | d r => cases r with | fl h1 h2 => exact ⟨_, rfl, ⟨_, (mask_same _ _).seq h1⟩, its_list s1 h1 h2 (Out.base o x1)⟩
      | tup xs =>
        refine .inr (.inl (go fun Z1 ι1 H1 x x1 s1 r => ?_))
        cases r with | d r => cases r with | tup h1 h2 => exact ⟨_, rfl, ⟨_, SqT.of (mask_same _ _ _ _ h1)⟩, its_tup s1 (SqT.of h1) h2 (Out.base o x1)⟩
      | str z =>
        refine .inr (.inr (go fun Z1 ι1 H1 x x1 s1 r => ?_))
        cases r with | d r => cases r with | str => exact ⟨_, rfl, its_str s1 (Out.base o x1)⟩
      | _ => exact o.elim
/-! ranges -/
def intsD (lo : Int) (n : Nat) : List D := (List.range n).map fun (i : Nat) => D.int (lo + (i : Int))
theorem ints_len (lo : Int) (n : Nat) : (intsD lo n).length = n := by simp [intsD]
theorem ints_get {lo : Int} {n i : Nat} {d : D} (h : (intsD lo n)[i]? = some d) : d = .int (lo + (i : Int)) := by
  simp only [intsD, List.getElem?_map, Option.map_eq_some_iff] at h
  obtain ⟨j, h1, h2⟩ := h
  obtain ⟨_, h3⟩ := List.getElem?_eq_some_iff.mp h1
  simp at h3
  rw [← h2, ← h3]
def rng1 (as : List MV) (μ : List MO) : Res (List D × Option Nat) := match as with
  | [.d (.int j)] => if -(2 ^ 62) ≤ j ∧ j < 2 ^ 62 then .ok (intsD 0 j.toNat, none) μ else .bad
  | _ => .bad
def rng2 (as : List MV) (μ : List MO) : Res (List D × Option Nat) := match as with
  | [.d (.int i), .d (.int j)] => if -(2 ^ 62) ≤ i ∧ i < 2 ^ 62 ∧ -(2 ^ 62) ≤ j ∧ j < 2 ^ 62 then .ok (intsD i (j - i).toNat, none) μ else .bad
  | _ => .bad
def mItA (k : List MV → List MO → Res (List D × Option Nat)) (ms : MA) : MI := fun ρ μ => (ms ρ μ).bind k
theorem tMA_it {K : PySem.W.Frag} {Z ι : List Addr} {ρ : En} {μ : List MO} {σ : St} {H : Hp} {k : List MV → List MO → Res (List D × Option Nat)} {Q : List V → Hp → Prop} {R : It → Hp → Prop} (R0 : Rel K Z ι ρ μ σ H) (o : Out K W σ Z ι H ((ms ρ μ).bind k) (Its K R))
    (h : ∀ v μ' Z' ι' H' x, Ext Z ι H Z' ι' H' → Rel K Z' ι' ρ μ' σ H' → RMs K (mask H' Z') ι' v x → Out K W σ Z' ι' H' (k v μ') (Its K R) → Q x H') : tMA K W ms σ H Q := tMA_bind R0 o h
theorem its_rng {K : PySem.W.Frag} {Z ι : List Addr} {μ : List MO} {H : Hp} {σ : St} {lo : Int} {n : Nat} {R : It → Hp → Prop} (s : Sta K Z ι μ H) (o : Out K W σ Z ι H (.ok (intsD lo n, none) μ) (Its K R)) : R (Itr lo n) H := by
  refine o Z ι H (Ext.refl s.sub) s (Itr lo n) _ _ (by rw [show (intsD lo n, (none : Option Nat)).1.length = n from ints_len lo n]; exact walk_range) (fun _ _ _ _ _ _ _ => trivial) fun Z2 ι2 μ2 H2 i d' x H3 x2 s2 _ hd hy => ?_
  obtain ⟨rfl, rfl⟩ := hy
  rw [ints_get hd]
  exact ⟨Same.refl _, .int _⟩
theorem fi_range1 {p : Pos} (hg : Gl X "range") (hm : X.mg "range" = none) (ha : FA X W [a] ms) (hs : starEach [a] X.env = [(false, eval a X.env)] := by rfl) : FI X W tg (.Call (.Name "range" p) [a] [] pos) (mItA rng1 ms) := by
  refine pi_imp (pi_range1 hg hm ha hs) fun σ H R ⟨Z, ι, ρ, μ, R0, o⟩ => tMA_it R0 o fun v μ' Z' ι' H' x x1 R1 r1 o1 => ?_
  unfold rng1 at o1
  split at o1
  · rename_i j
    split at o1
    · rename_i hb
      cases r1 with | cons a b => cases b with | nil => cases a with | d a => cases a with | int => exact ⟨j, rfl, hb.1, hb.2, its_rng R1.sta o1⟩
    · exact o1.elim
  · exact o1.elim
theorem fi_range2 {p : Pos} (hg : Gl X "range") (hm : X.mg "range" = none) (ha : FA X W [a, b] ms) (hs : starEach [a, b] X.env = [(false, eval a X.env), (false, eval b X.env)] := by rfl) (hs2 : starEach [b] X.env = [(false, eval b X.env)] := by rfl) :
    FI X W tg (.Call (.Name "range" p) [a, b] [] pos) (mItA rng2 ms) := by
  refine pi_imp (pi_range2 hg hm ha hs hs2) fun σ H R ⟨Z, ι, ρ, μ, R0, o⟩ => tMA_it R0 o fun v μ' Z' ι' H' x x1 R1 r1 o1 => ?_
  unfold rng2 at o1
  split at o1
  · rename_i i j
    split at o1
    · rename_i hb
      cases r1 with | cons a b => cases b with | cons b c => cases c with | nil => cases a with | d a => cases a with | int => cases b with | d b => cases b with | int => exact ⟨i, j, rfl, hb, its_rng R1.sta o1⟩
    · exact o1.elim
  · exact o1.elim
/-! enumerate -/
def enumD (xs : List D) : List D := xs.mapIdx fun i x => .tup [.int (i : Int), x]
def enumOf (as : List MV) (μ : List MO) : Res (List D × Option Nat) := match as with
  | [.d (.lst xs)] => .ok (enumD xs, none) μ
  | [.d (.fl xs)] => .ok (enumD xs, none) μ
  | _ => .bad
theorem its_enum {K : PySem.W.Frag} {Z ι : List Addr} {μ : List MO} {H : Hp} {σ : St} {a : Addr} {xs : List D} {vs : List V} {R : It → Hp → Prop} (s : Sta K Z ι μ H) (h : SqL K (mask H Z) a vs) (d : DRs K (mask H Z) xs vs)
    (o : Out K W σ Z ι H (.ok (enumD xs, none) μ) (Its K R)) : R (Ite K a) H := by
  refine o Z ι H (Ext.refl s.sub) s (Ite K a) _ _ (by rw [show (enumD xs, (none : Option Nat)).1.length = vs.length by simp [enumD, d.len]]; exact walk_enum) (fun Z2 ι2 μ2 H2 x2 s2 _ => (mask_same _ _).seq (x2.same.seq h)) fun Z2 ι2 μ2 H2 i d' x H3 x2 s2 _ hd hy => ?_
  obtain ⟨T, y, z, rfl, hT, rfl, e1, e2⟩ := hy
  cases e1
  simp only [enumD, List.getElem?_mapIdx, Option.map_eq_some_iff] at hd
  obtain ⟨d0, h1, h2⟩ := hd
  obtain ⟨v, h3, h4⟩ := d.get h1
  have e2' : vs[i]? = some z := e2
  rw [e2'] at h3
  cases h3
  rw [← h2]
  exact new_tup s2.trk hT (.cons (.int _) (.cons (DR.mono x2.same _ _ h4) .nil))
theorem fi_enum {p tpos : Pos} {elts : List Expr} {kk : Nat} (hg : Gl X "enumerate") (hm : X.mg "enumerate" = none) (ha : FA X W [e] ms) (hs : starEach [e] X.env = [(false, eval e X.env)] := by rfl) :
    FI X W (.Tuple elts kk tpos) (.Call (.Name "enumerate" p) [e] [] pos) (mItA enumOf ms) := by
  refine pi_imp (pi_enum hg hm ha hs) fun σ H R ⟨Z, ι, ρ, μ, R0, o⟩ => tMA_it R0 o fun v μ' Z' ι' H' x x1 R1 r1 o1 => ?_
  unfold enumOf at o1
  split at o1
  · cases r1 with | cons a b => cases b with | nil => cases a with | d a => cases a with | lst h1 h2 => exact ⟨_, _, rfl, SqL.of (mask_same _ _ _ _ h1), its_enum R1.sta (SqL.of h1) h2 o1⟩
  · cases r1 with | cons a b => cases b with | nil => cases a with | d a => cases a with | fl h1 h2 => exact ⟨_, _, rfl, (mask_same _ _).seq h1, its_enum R1.sta h1 h2 o1⟩
  · exact o1.elim
end
/-! defs -/
abbrev MF := List MV → List MO → Res MV
def spF (K : PySem.W.Frag) (n : Nat) (F : MF) : Sp := fun vs H Q E => vs.length = n ∧ ∃ Z ι as μ, Sta K Z ι μ H ∧ RMs K (mask H Z) ι as vs ∧ Out K (fun c d _ H' => E c d H') [] Z ι H (F as μ) (Val K Q)
/-- a body's end is the def's end -/
def SR.fin : SR → Res MV
  | .nx _ μ => .ok (.d .non) μ
  | .rt v μ => .ok v μ
  | .exc C fs _ μ => .exc C fs μ
  | _ => .bad
def fnM (n : Nat) (m : MS) : MF := fun as μ => (m (as.map some ++ List.replicate (n - as.length) none) μ).fin
theorem RS.start {K : PySem.W.Frag} {F : Hp} {ι : List Addr} (k : Nat) : ∀ {as : List MV} {vs : List V}, RMs K F ι as vs → RS K F ι (as.map some ++ List.replicate k none) (vs.map some ++ List.replicate k none)
  | _, _, .nil => by
    induction k with
    | zero => exact .nil
    | succ k ih => exact .cons .none ih
  | _, _, .cons a b => .cons (.some a) (RS.start k b)
theorem RMs.len {K : PySem.W.Frag} {F : Hp} {ι : List Addr} : ∀ {as : List MV} {vs : List V}, RMs K F ι as vs → as.length = vs.length
  | _, _, .nil => rfl
  | _, _, .cons _ b => congrArg (· + 1) (RMs.len b)
/-- what a def's body must show, and what it hands to its callers -/
theorem body_ok {K : PySem.W.Frag} {X : Cx} {N : List Str} {m : MS} {vs : List V} {H : Hp} {Q : VK} {E : XK} {n : Nat} (h : spF K n (fnM N.length m) vs H Q E) :
    tMS K (fun c d _ H' => E c d H') m { nx := fun _ H' => Q .non H', rt := Q } (L2.start N vs) H := by
  obtain ⟨hn, Z, ι, as, μ, s, r, o⟩ := h
  refine ⟨Z, ι, as.map some ++ List.replicate (N.length - as.length) none, μ, ⟨s, ?_⟩, ?_⟩
  · unfold L2.start
    rw [← r.len]
    exact RS.start _ r
  · unfold fnM at o
    cases q : m (as.map some ++ List.replicate (N.length - as.length) none) μ with
    | nx ρ' μ' => rw [q] at o; exact fun Z2 ι2 H2 σ2 x2 R2 => o Z2 ι2 H2 x2 R2.sta .non (.d .non)
    | rt v μ' => rw [q] at o; exact o
    | exc C fs ρ' μ' => rw [q] at o; exact fun Z2 ι2 H2 σ2 d fs' x2 R2 => o Z2 ι2 H2 d fs' x2 R2.sta
    | bk ρ' μ' => rw [q] at o; exact o.elim
    | ct ρ' μ' => rw [q] at o; exact o.elim
    | bad => rw [q] at o; exact o.elim
end TT

namespace TT
open PySem L2
variable [TB]
/-! a def's end: its own objects go, a list of its own is handed out as data -/
def MV.refs : MV → List Nat
  | .ref n => [n]
  | .d _ => []
def fieldRefs : List (Str × MV) → List Nat
  | [] => []
  | (_, v) :: r => v.refs ++ fieldRefs r
def MO.refs : MO → List Nat
  | .ins _ fs => fieldRefs fs
  | _ => []
def trimmable (n : Nat) (v : MV) (μ : List MO) : Bool := v.refs.all (fun k => decide (k < n)) && (μ.take n).all fun o => o.refs.all fun k => decide (k < n)
def trim (n : Nat) (v : MV) (μ : List MO) : Res MV := if trimmable n v μ = true then .ok v (μ.take n) else .ok v μ
def trimX (n : Nat) (C : Addr) (fs : List (Str × D)) (μ : List MO) : Res MV := if trimmable n (.d .non) μ = true then .exc C fs (μ.take n) else .exc C fs μ
def trimB (n : Nat) (v : MV) (μ : List MO) : Res MV := if trimmable n v μ = true then .ok v (μ.take n) else .bad
/-- fz: a new list that is returned is data from then on -/
def SR.finT (fz : Bool) (n : Nat) : SR → Res MV
  | .nx _ μ => trim n (.d .non) μ
  | .rt (.d x) μ => trim n (.d x) μ
  | .rt (.ref k) μ => if fz = true ∧ n ≤ k then (match μ[k]? with
    | some (.lst xs) => trimB n (.d (.lst xs)) μ
    | some (.dK xs) => trimB n (.d (.dK xs)) μ
    | some (.dT xs) => trimB n (.d (.dT xs)) μ
    | _ => .bad) else trim n (.ref k) μ
  | .exc C fs _ μ => trimX n C fs μ
  | _ => .bad
def fnT (fz : Bool) (n : Nat) (m : MS) : MF := fun as μ => (m (as.map some ++ List.replicate (n - as.length) none) μ).finT fz μ.length
section
variable {K : PySem.W.Frag} {F : Hp} {ι ι' : List Addr}
theorem RM.cut {n : Nat} (h : ∀ k < n, ∀ a, ι'[k]? = some a → ι[k]? = some a) {v : MV} {x : V} (r : RM K F ι' v x) (t : v.refs.all (fun k => decide (k < n)) = true) : RM K F ι v x := by
  cases r with
  | d r => exact .d r
  | ref r =>
    simp only [MV.refs, List.all_cons, List.all_nil, Bool.and_true, decide_eq_true_eq] at t
    exact .ref (h _ t _ r)
theorem RMf.cut {n : Nat} (h : ∀ k < n, ∀ a, ι'[k]? = some a → ι[k]? = some a) : ∀ {v : List (Str × MV)} {x : List (Str × V)}, RMf K F ι' v x → (fieldRefs v).all (fun k => decide (k < n)) = true → RMf K F ι v x
  | _, _, .nil, _ => .nil
  | _, _, .cons a b, t => by
    simp only [fieldRefs, List.all_append, Bool.and_eq_true] at t
    exact .cons (a.cut h t.1) (RMf.cut h b t.2)
theorem RO.cut {n : Nat} (h : ∀ k < n, ∀ a, ι'[k]? = some a → ι[k]? = some a) {v : MO} {x : HO} (r : RO K F ι' v x) (t : v.refs.all (fun k => decide (k < n)) = true) : RO K F ι v x := by
  cases r with
  | lst r => exact .lst r
  | dK r => exact .dK r
  | dT r => exact .dT r
  | ins r => exact .ins (r.cut h t)
end
/-- the state behind a def that drops its own objects -/
theorem Sta.cut {K : PySem.W.Frag} {Z ι Z' ι' : List Addr} {μ' : List MO} {H H' : Hp} {v : MV} {n : Nat} (x : Ext Z ι H Z' ι' H') (s : Sta K Z' ι' μ' H') (hn : ι.length = n) (t : trimmable n v μ' = true) :
    Sta K Z' ι (μ'.take n) H' ∧ Ext Z ι H Z' ι H' ∧ ∀ w, RM K (mask H' Z') ι' v w → RM K (mask H' Z') ι v w := by
  simp only [trimmable, Bool.and_eq_true] at t
  have hle : n ≤ ι'.length := by
    rw [← hn]
    cases hk : ι.length with
    | zero => exact Nat.zero_le _
    | succ k =>
      have h1 : ι[k]? = some (ι[k]'(by omega)) := by simp
      have := (List.getElem?_eq_some_iff.mp (x.i k _ h1)).1
      omega
  have back : ∀ k < n, ∀ a, ι'[k]? = some a → ι[k]? = some a := fun k hk a e => by
    have h1 : ι[k]? = some (ι[k]'(by omega)) := by simp [show k < ι.length by omega]
    have h2 := x.i k _ h1
    rw [h2] at e
    rw [h1]; exact e
  refine ⟨⟨fun a h => x.z a (x.sub a h), ?_, ?_, s.trk, s.tab, fun k a o h1 h2 => ?_⟩, ⟨x.sub, x.z, fun _ _ h => h, x.keep, x.tb, x.new, fun a h => .inl h⟩, fun w r => r.cut back t.1⟩
  · have e : ι = ι'.take n := by
      apply List.ext_getElem?
      intro k
      by_cases hk : k < n
      · rw [List.getElem?_take_of_lt hk]
        have h1 : ι[k]? = some (ι[k]'(by omega)) := by simp [show k < ι.length by omega]
        rw [h1, x.i k _ h1]
      · rw [List.getElem?_eq_none (by omega), List.getElem?_eq_none (by rw [List.length_take]; omega)]
    rw [e]
    exact s.nd.sublist (List.take_sublist _ _)
  · rw [List.length_take, ← s.len, hn]; omega
  · have hk : k < n := by rw [← hn]; exact (List.getElem?_eq_some_iff.mp h1).1
    rw [List.getElem?_take_of_lt hk] at h2
    obtain ⟨ho, h3, h4⟩ := s.obj k a o (x.i k a h1) h2
    refine ⟨ho, h3, h4.cut back ?_⟩
    have := t.2
    rw [List.all_eq_true] at this
    exact this o (List.mem_of_getElem? (by rw [List.getElem?_take_of_lt hk]; exact h2))
theorem trim_ok {K : PySem.W.Frag} {W : WX} {σ : St} {Z ι : List Addr} {H : Hp} {v : MV} {μ' : List MO} {n : Nat} {Q : VK} (hn : ι.length = n) (o : Out K W σ Z ι H (trim n v μ') (Val K Q)) : Out K W σ Z ι H (.ok v μ') (Val K Q) := by
  unfold trim at o
  split at o
  · rename_i t
    intro Z2 ι2 H2 x2 s2 w r
    obtain ⟨s3, x3, c⟩ := Sta.cut x2 s2 hn t
    exact o Z2 ι H2 x3 s3 w (c w r)
  · exact o
theorem trimX_ok {K : PySem.W.Frag} {W : WX} {σ : St} {Z ι : List Addr} {H : Hp} {C : Addr} {fs : List (Str × D)} {μ' : List MO} {n : Nat} {Q : VK} (hn : ι.length = n) (o : Out K W σ Z ι H (trimX n C fs μ') (Val K Q)) : Out K W σ Z ι H (.exc C fs μ' : Res MV) (Val K Q) := by
  unfold trimX at o
  split at o
  · rename_i t
    intro Z2 ι2 H2 d fs' x2 s2
    obtain ⟨s3, x3, c⟩ := Sta.cut x2 s2 hn t
    exact o Z2 ι H2 d fs' x3 s3
  · exact o
/-- a new list is handed out as data: its place leaves the store -/
theorem Sta.drop {K : PySem.W.Frag} {Z ι Z' ι' : List Addr} {μ' : List MO} {H H' : Hp} {n k : Nat} {a : Addr} {d : D} (x : Ext Z ι H Z' ι' H') (s : Sta K Z' ι' μ' H') (tr : ∀ a ∈ Z, ∃ o, H a = some o) (hn : ι.length = n) (hk : n ≤ k) (ha : ι'[k]? = some a)
    (t : trimmable n (.d d) μ' = true) : Sta K (Z'.filter (· ≠ a)) ι (μ'.take n) H' ∧ Ext Z ι H (Z'.filter (· ≠ a)) ι H' := by
  obtain ⟨s3, x3, _⟩ := Sta.cut x s hn t
  have na : a ∉ ι := fun q => by
    obtain ⟨j, hj, e⟩ := List.mem_iff_getElem.mp q
    have h1 : ι[j]? = some a := by rw [← e]; simp
    have h2 := x.i j a h1
    have := (List.getElem?_inj (List.getElem?_eq_some_iff.mp h2).1 s.nd).mp (h2.trans ha.symm)
    omega
  have hH : H a = none := by
    rcases x.newi a (List.mem_of_getElem? ha) with q | q
    · exact (na q).elim
    · exact q
  exact ⟨s3.freeze na, x3.freeze tr hH⟩
theorem bodyT_ok {K : PySem.W.Frag} {N : List Str} {m : MS} {vs : List V} {H : Hp} {Q : VK} {E : XK} {n : Nat} {fz : Bool} (h : spF K n (fnT fz N.length m) vs H Q E) :
    tMS K (fun c d _ H' => E c d H') m { nx := fun _ H' => Q .non H', rt := Q } (L2.start N vs) H := by
  obtain ⟨hn, Z, ι, as, μ, s, r, o⟩ := h
  refine ⟨Z, ι, as.map some ++ List.replicate (N.length - as.length) none, μ, ⟨s, ?_⟩, ?_⟩
  · unfold L2.start
    rw [← r.len]
    exact RS.start _ r
  · unfold fnT at o
    cases q : m (as.map some ++ List.replicate (N.length - as.length) none) μ with
    | nx ρ' μ' =>
      rw [q] at o
      have o' := trim_ok s.len o
      exact fun Z2 ι2 H2 σ2 x2 R2 => o' Z2 ι2 H2 x2 R2.sta .non (.d .non)
    | rt v μ' =>
      rw [q] at o
      cases v with
      | d x => exact trim_ok s.len o
      | ref k =>
        simp only [SR.finT] at o
        split at o
        · rename_i hk
          intro Z2 ι2 H2 x2 s2 w r2
          cases r2 with
          | ref r2 =>
            rename_i a
            have fin : ∀ d : D, Out K (fun c d _ H' => E c d H') [] Z ι H (trimB μ.length (.d d) μ') (Val K Q) → (∀ Z3, (∀ b ∈ Z3, b ∈ Z2) → a ∉ Z3 → DR K (mask H2 Z3) d (.ref a)) → Q (.ref a) H2 := fun d o hd => by
              unfold trimB at o
              split at o
              · rename_i t
                obtain ⟨s3, x3⟩ := Sta.drop x2 s2 s.trk s.len hk.2 r2 t
                refine o _ ι H2 x3 s3 _ (.d (hd _ (fun b hb => (List.mem_filter.mp hb).1) fun z => ?_))
                exact of_decide_eq_true (List.mem_filter.mp z).2 rfl
              · exact o.elim
            split at o
            · rename_i xs hx
              obtain ⟨ho, h1, h2⟩ := s2.obj _ _ _ r2 hx
              cases h2 with | lst d => exact fin _ o fun Z3 hz na => .lst (mask_in na h1) (d.mono (mask_less hz) _ _)
            · rename_i xs hx
              obtain ⟨ho, h1, h2⟩ := s2.obj _ _ _ r2 hx
              cases h2 with | dK d => exact fin _ o fun Z3 hz na => .dK (mask_in na h1) (d.mono (mask_less hz) _ _)
            · rename_i xs hx
              obtain ⟨ho, h1, h2⟩ := s2.obj _ _ _ r2 hx
              cases h2 with | dT d => exact fin _ o fun Z3 hz na => .dT (mask_in na h1) (d.mono (mask_less hz) _ _)
            · exact o.elim
        · exact trim_ok s.len o
    | exc C fs ρ' μ' =>
      rw [q] at o
      have o' := trimX_ok s.len o
      exact fun Z2 ι2 H2 σ2 d fs' x2 R2 => o' Z2 ι2 H2 d fs' x2 R2.sta
    | bk ρ' μ' => rw [q] at o; exact o.elim
    | ct ρ' μ' => rw [q] at o; exact o.elim
    | bad => rw [q] at o; exact o.elim
/-! calls: the callee sees the objects that its arguments lead to -/
def addAll (acc new : List Nat) : List Nat := new.foldl (fun a n => if n ∈ a then a else a ++ [n]) acc
def leads (μ : List MO) : List Nat → List Nat
  | [] => []
  | n :: r => (match μ[n]? with
    | some o => o.refs
    | none => []) ++ leads μ r
def argRefs : List MV → List Nat
  | [] => []
  | v :: r => v.refs ++ argRefs r
def selOf (μ : List MO) (as : List MV) : List Nat :=
  let a := addAll [] (argRefs as)
  let b := addAll a (leads μ a)
  addAll b (leads μ b)
theorem addAll_nodup : ∀ (new acc : List Nat), acc.Nodup → (addAll acc new).Nodup
  | [], acc, h => h
  | n :: new, acc, h => by
    unfold addAll
    rw [List.foldl_cons]
    refine addAll_nodup new _ ?_
    split
    · exact h
    · rename_i hn
      rw [List.nodup_append]
      refine ⟨h, by simp, fun a ha b hb => ?_⟩
      rw [List.mem_singleton.mp hb]
      intro q
      exact hn (by rw [← q]; exact ha)
theorem selOf_nodup (μ : List MO) (as : List MV) : (selOf μ as).Nodup := addAll_nodup _ _ (addAll_nodup _ _ (addAll_nodup _ _ .nil))
def toC (sel : List Nat) : MV → Option MV
  | .d x => some (.d x)
  | .ref n => if n ∈ sel then some (.ref (sel.idxOf n)) else none
def toCs (sel : List Nat) : List MV → Option (List MV)
  | [] => some []
  | v :: r => match toC sel v, toCs sel r with
    | some v', some r' => some (v' :: r')
    | _, _ => none
def toCf (sel : List Nat) : List (Str × MV) → Option (List (Str × MV))
  | [] => some []
  | (f, v) :: r => match toC sel v, toCf sel r with
    | some v', some r' => some ((f, v') :: r')
    | _, _ => none
def toCO (sel : List Nat) : MO → Option MO
  | .ins C fs => match toCf sel fs with
    | some fs' => some (.ins C fs')
    | none => none
  | o => some o
def pick (μ : List MO) (sel : List Nat) : List Nat → Option (List MO)
  | [] => some []
  | n :: r => match μ[n]? with
    | some o => match toCO sel o, pick μ sel r with
      | some o', some r' => some (o' :: r')
      | _, _ => none
    | none => none
def back (sel : List Nat) (L : Nat) : MV → MV
  | .d x => .d x
  | .ref k => match sel[k]? with
    | some n => .ref n
    | none => .ref (L + (k - sel.length))
def backF (sel : List Nat) (L : Nat) : List (Str × MV) → List (Str × MV)
  | [] => []
  | (f, v) :: r => (f, back sel L v) :: backF sel L r
def backO (sel : List Nat) (L : Nat) : MO → MO
  | .ins C fs => .ins C (backF sel L fs)
  | o => o
def putAll (μ : List MO) : List Nat → List MO → List MO
  | n :: sel, o :: os => putAll (μ.set n o) sel os
  | _, _ => μ
def wb (μ : List MO) (sel : List Nat) (os : List MO) : List MO := putAll μ sel (os.map (backO sel μ.length)) ++ (os.drop sel.length).map (backO sel μ.length)
def callF (F : MF) (as : List MV) (μ : List MO) : Res MV :=
  let sel := selOf μ as
  match toCs sel as, pick μ sel sel with
  | some as', some μc => match F as' μc with
    | .ok v os => .ok (back sel μ.length v) (wb μ sel os)
    | .exc C fs os => .exc C fs (wb μ sel os)
    | .bad => .bad
  | _, _ => .bad
theorem putAll_len : ∀ (sel : List Nat) (os μ : List MO), (putAll μ sel os).length = μ.length
  | [], _, _ => by unfold putAll; rfl
  | _ :: _, [], _ => by unfold putAll; rfl
  | n :: sel, o :: os, μ => by unfold putAll; rw [putAll_len sel os]; simp
theorem putAll_out {n : Nat} : ∀ (sel : List Nat) (os μ : List MO), n ∉ sel → (putAll μ sel os)[n]? = μ[n]?
  | [], _, _, _ => by unfold putAll; rfl
  | _ :: _, [], _, _ => by unfold putAll; rfl
  | m :: sel, o :: os, μ, h => by
    unfold putAll
    rw [putAll_out sel os _ fun q => h (List.mem_cons_of_mem _ q), List.getElem?_set_ne fun q => h (by rw [q]; exact List.mem_cons_self)]
theorem putAll_in {n k : Nat} : ∀ (sel : List Nat) (os μ : List MO), sel.Nodup → sel[k]? = some n → n < μ.length → k < os.length → (putAll μ sel os)[n]? = os[k]?
  | [], _, _, _, h, _, _ => by simp at h
  | _ :: _, [], _, _, _, _, h => by simp at h
  | m :: sel, o :: os, μ, nd, h, hl, hk => by
    unfold putAll
    cases k with
    | zero =>
      simp at h
      subst h
      rw [putAll_out sel os _ (List.nodup_cons.mp nd).1]
      simp [hl]
    | succ k =>
      rw [putAll_in sel os _ (List.nodup_cons.mp nd).2 (by simpa using h) (by simpa using hl) (by simpa using hk)]
      simp
section
variable {K : PySem.W.Frag} {F : Hp} {ι ιc ι' : List Addr} {sel : List Nat}
def SelOk (ι : List Addr) (sel : List Nat) (ιc : List Addr) : Prop := ∀ (k n : Nat), sel[k]? = some n → ∃ a, ιc[k]? = some a ∧ ι[n]? = some a
theorem toC_ok (so : SelOk ι sel ιc) {v v' : MV} {x : V} (r : RM K F ι v x) (e : toC sel v = some v') : RM K F ιc v' x := by
  cases r with
  | d r => cases e; exact .d r
  | ref r =>
    rename_i n a0
    simp only [toC] at e
    split at e
    · rename_i hs
      cases e
      obtain ⟨a, h1, h2⟩ := so (sel.idxOf n) n (by rw [List.getElem?_eq_getElem (List.idxOf_lt_length_of_mem hs)]; simp)
      rw [r] at h2
      cases h2
      exact .ref h1
    · cases e
theorem toCs_ok (so : SelOk ι sel ιc) : ∀ {v v' : List MV} {x : List V}, RMs K F ι v x → toCs sel v = some v' → RMs K F ιc v' x
  | _, _, _, .nil, e => by cases e; exact .nil
  | _, _, _, .cons a b, e => by
    unfold toCs at e
    split at e
    · rename_i h1 h2
      cases e
      exact .cons (toC_ok so a h1) (toCs_ok so b h2)
    · cases e
theorem toCf_ok (so : SelOk ι sel ιc) : ∀ {v v' : List (Str × MV)} {x : List (Str × V)}, RMf K F ι v x → toCf sel v = some v' → RMf K F ιc v' x
  | _, _, _, .nil, e => by cases e; exact .nil
  | _, _, _, .cons a b, e => by
    unfold toCf at e
    split at e
    · rename_i h1 h2
      cases e
      exact .cons (toC_ok so a h1) (toCf_ok so b h2)
    · cases e
theorem toCO_ok (so : SelOk ι sel ιc) {v v' : MO} {x : HO} (r : RO K F ι v x) (e : toCO sel v = some v') : RO K F ιc v' x := by
  cases r with
  | lst r => cases e; exact .lst r
  | dK r => cases e; exact .dK r
  | dT r => cases e; exact .dT r
  | ins r =>
    simp only [toCO] at e
    split at e
    · rename_i fs' h; cases e; exact .ins (toCf_ok so r h)
    · cases e
theorem pick_get {μ : List MO} : ∀ {l : List Nat} {os : List MO}, pick μ sel l = some os → os.length = l.length ∧ ∀ (k n : Nat), l[k]? = some n → ∃ o o', μ[n]? = some o ∧ toCO sel o = some o' ∧ os[k]? = some o'
  | [], os, e => by cases e; exact ⟨rfl, fun k n h => by simp at h⟩
  | m :: l, os, e => by
    unfold pick at e
    split at e
    · rename_i o ho
      split at e
      · rename_i o' r' h1 h2
        cases e
        obtain ⟨hl, hg⟩ := pick_get h2
        refine ⟨by simp [hl], fun k n h => ?_⟩
        cases k with
        | zero => simp at h; subst h; exact ⟨o, o', ho, h1, rfl⟩
        | succ k =>
          obtain ⟨o2, o2', a, b, c⟩ := hg k n (by simpa using h)
          exact ⟨o2, o2', a, b, by simpa using c⟩
      · cases e
    · cases e
def BackOk (sel : List Nat) (L : Nat) (ιc' ι' : List Addr) : Prop := ∀ k a, ιc'[k]? = some a → ι'[match sel[k]? with
  | some n => n
  | none => L + (k - sel.length)]? = some a
theorem back_ok {L : Nat} (bo : BackOk sel L ιc ι') {v : MV} {x : V} (r : RM K F ιc v x) : RM K F ι' (back sel L v) x := by
  cases r with
  | d r => exact .d r
  | ref r =>
    rename_i k a
    have h := bo k a r
    simp only [back]
    cases q : sel[k]? with
    | some n => rw [q] at h; exact .ref h
    | none => rw [q] at h; exact .ref h
theorem backF_ok {L : Nat} (bo : BackOk sel L ιc ι') : ∀ {v : List (Str × MV)} {x : List (Str × V)}, RMf K F ιc v x → RMf K F ι' (backF sel L v) x
  | _, _, .nil => .nil
  | _, _, .cons a b => .cons (back_ok bo a) (backF_ok bo b)
theorem backO_ok {L : Nat} (bo : BackOk sel L ιc ι') {v : MO} {x : HO} (r : RO K F ιc v x) : RO K F ι' (backO sel L v) x := by
  cases r with
  | lst r => exact .lst r
  | dK r => exact .dK r
  | dT r => exact .dT r
  | ins r => exact .ins (backF_ok bo r)
end
end TT

namespace TT
open PySem L2
variable [TB]
section
variable {K : PySem.W.Frag} {Z ι : List Addr} {μ μc : List MO} {H : Hp} {sel : List Nat}
theorem nodup_at {l : List Addr} (nd : l.Nodup) {i j : Nat} {a : Addr} (h1 : l[i]? = some a) (h2 : l[j]? = some a) : i = j :=
  (List.getElem?_inj (List.getElem?_eq_some_iff.mp h1).1 nd).mp (h1.trans h2.symm)
theorem frame_in (s : Sta K Z ι μ H) (nd : sel.Nodup) (p : pick μ sel sel = some μc) : ∃ ιc, SelOk ι sel ιc ∧ ιc.length = sel.length ∧ Sta K Z ιc μc H := by
  obtain ⟨hl, hg⟩ := pick_get p
  have lt : ∀ n ∈ sel, n < ι.length := fun n hn => by
    obtain ⟨k, hk, e⟩ := List.mem_iff_getElem.mp hn
    obtain ⟨o, o', h1, _⟩ := hg k n (by rw [← e]; simp)
    rw [s.len]
    exact (List.getElem?_eq_some_iff.mp h1).1
  refine ⟨sel.map fun n => ι.getD n 0, fun k n h => ?_, by simp, ?_⟩
  · have hn := lt n (List.mem_of_getElem? h)
    exact ⟨ι[n], by simp [h, List.getD_eq_getElem?_getD, hn], by simp [hn]⟩
  · have gt : ∀ (k : Nat) a, (sel.map fun n => ι.getD n 0)[k]? = some a → ∃ n, sel[k]? = some n ∧ ι[n]? = some a := fun k a h => by
      rw [List.getElem?_map, Option.map_eq_some_iff] at h
      obtain ⟨n, h1, h2⟩ := h
      have hn := lt n (List.mem_of_getElem? h1)
      refine ⟨n, h1, ?_⟩
      rw [← h2, List.getD_eq_getElem?_getD, List.getElem?_eq_getElem hn]
      rfl
    have so : SelOk ι sel (sel.map fun n => ι.getD n 0) := fun k n h => by
      have hn := lt n (List.mem_of_getElem? h)
      exact ⟨ι[n], by simp [h, List.getD_eq_getElem?_getD, hn], by simp [hn]⟩
    refine ⟨fun a ha => ?_, ?_, by rw [List.length_map, hl], s.trk, s.tab, fun k a o h1 h2 => ?_⟩
    · obtain ⟨k, hk, e⟩ := List.mem_iff_getElem.mp ha
      obtain ⟨n, _, h3⟩ := gt k a (List.getElem?_eq_some_iff.mpr ⟨hk, e⟩)
      exact s.sub a (List.mem_of_getElem? h3)
    · unfold List.Nodup
      rw [List.pairwise_map]
      refine List.Pairwise.imp_of_mem (fun {a b} ha hb hab e => ?_) nd
      have h1 : ι[a]? = some (ι.getD a 0) := by rw [List.getD_eq_getElem?_getD, List.getElem?_eq_getElem (lt a ha)]; rfl
      have h2 : ι[b]? = some (ι.getD b 0) := by rw [List.getD_eq_getElem?_getD, List.getElem?_eq_getElem (lt b hb)]; rfl
      rw [← e] at h2
      exact hab (nodup_at s.nd h1 h2)
    · obtain ⟨n, h3, h4⟩ := gt k a h1
      obtain ⟨o1, o2, h5, h6, h7⟩ := hg k n h3
      rw [h2] at h7
      cases h7
      obtain ⟨ho, h8, h9⟩ := s.obj n a o1 h4 h5
      exact ⟨ho, h8, toCO_ok so h9 h6⟩
theorem frame_out {ιc Z' ιc' : List Addr} {os : List MO} {H' : Hp} (s : Sta K Z ι μ H) (nd : sel.Nodup) (so : SelOk ι sel ιc) (hl : ιc.length = sel.length) (x : Ext Z ιc H Z' ιc' H') (sc : Sta K Z' ιc' os H') :
    ∃ ι', Ext Z ι H Z' ι' H' ∧ Sta K Z' ι' (wb μ sel os) H' ∧ BackOk sel μ.length ιc' ι' := by
  have cin : ∀ a ∈ ιc, ∃ k n, sel[k]? = some n ∧ ιc[k]? = some a ∧ ι[n]? = some a := fun a ha => by
    obtain ⟨k, hk, e⟩ := List.mem_iff_getElem.mp ha
    have h1 : ιc[k]? = some a := by rw [← e]; simp
    have h2 : sel[k]? = some (sel[k]'(by rw [← hl]; exact hk)) := by simp
    obtain ⟨b, h3, h4⟩ := so k _ h2
    rw [h1] at h3; cases h3
    exact ⟨k, _, h2, h1, h4⟩
  have csub : ∀ a ∈ ιc, a ∈ ι := fun a ha => by obtain ⟨k, n, _, _, h⟩ := cin a ha; exact List.mem_of_getElem? h
  have hle : sel.length ≤ ιc'.length := by
    rw [← hl]
    cases hk : ιc.length with
    | zero => exact Nat.zero_le _
    | succ k =>
      have h1 : ιc[k]? = some (ιc[k]'(by omega)) := by simp
      have := (List.getElem?_eq_some_iff.mp (x.i k _ h1)).1
      omega
  have keepι : ∀ a o, a ∉ ι → NT o → H a = some o → H' a = some o := fun a o n t e => x.keep a o (fun q => n (csub a q)) t e
  -- the new ones
  have newH : ∀ a ∈ ιc'.drop sel.length, H a = none := fun a ha => by
    obtain ⟨j, hj, e⟩ := List.mem_iff_getElem.mp ha
    have h1 : ιc'[sel.length + j]? = some a := by rw [← List.getElem?_drop, ← e]; simp
    rcases x.newi a (List.mem_of_getElem? h1) with q | q
    · obtain ⟨k, n, h2, h3, _⟩ := cin a q
      have := nodup_at sc.nd h1 (x.i k a h3)
      have h4 := (List.getElem?_eq_some_iff.mp h2).1
      omega
    · exact q
  have ex : Ext Z ι H Z' (ι ++ ιc'.drop sel.length) H' := by
    refine ⟨s.sub, x.z, fun n a h => ?_, keepι, x.tb, x.new, fun a ha => ?_⟩
    · rw [List.getElem?_append_left (List.getElem?_eq_some_iff.mp h).1]; exact h
    · rcases List.mem_append.mp ha with q | q
      · exact .inl q
      · exact .inr (newH a q)
  have bo : BackOk sel μ.length ιc' (ι ++ ιc'.drop sel.length) := fun k a h => by
    cases q : sel[k]? with
    | some n =>
      obtain ⟨b, h1, h2⟩ := so k n q
      have h3 := x.i k b h1
      rw [h] at h3; cases h3
      show (ι ++ ιc'.drop sel.length)[n]? = some a
      rw [List.getElem?_append_left (List.getElem?_eq_some_iff.mp h2).1]; exact h2
    | none =>
      have hk : sel.length ≤ k := List.getElem?_eq_none_iff.mp q
      show (ι ++ ιc'.drop sel.length)[μ.length + (k - sel.length)]? = some a
      rw [← s.len, List.getElem?_append_right (by omega), List.getElem?_drop, ← h]
      congr 1
      omega
  have hos : os.length = ιc'.length := sc.len.symm
  refine ⟨ι ++ ιc'.drop sel.length, ex, ⟨fun a ha => ?_, ?_, ?_, sc.trk, sc.tab, fun n a o h1 h2 => ?_⟩, bo⟩
  · rcases List.mem_append.mp ha with q | q
    · exact x.z a (s.sub a q)
    · exact sc.sub a (List.mem_of_mem_drop q)
  · rw [List.nodup_append]
    refine ⟨s.nd, sc.nd.sublist (List.drop_sublist _ _), fun a ha b hb e => ?_⟩
    obtain ⟨o, h⟩ := s.trk a (s.sub a ha)
    rw [e, newH b hb] at h
    cases h
  · unfold wb
    rw [List.length_append, List.length_append, putAll_len, List.length_map, List.length_drop, List.length_drop, s.len, hos]
  · unfold wb at h2
    have hpl : (putAll μ sel (os.map (backO sel μ.length))).length = ι.length := by rw [putAll_len, s.len]
    by_cases hn : n < ι.length
    · rw [List.getElem?_append_left hn] at h1
      rw [List.getElem?_append_left (by rw [hpl]; exact hn)] at h2
      by_cases hs : n ∈ sel
      · obtain ⟨k, hk, e⟩ := List.mem_iff_getElem.mp hs
        have h3 : sel[k]? = some n := by rw [← e]; simp
        have hko : k < os.length := by omega
        rw [putAll_in sel _ μ nd h3 (by rw [← s.len]; exact hn) (by simpa using hko), List.getElem?_map, Option.map_eq_some_iff] at h2
        obtain ⟨o', h4, h5⟩ := h2
        obtain ⟨b, h6, h7⟩ := so k n h3
        rw [h1] at h7; cases h7
        obtain ⟨ho, h8, h9⟩ := sc.obj k a o' (x.i k a h6) h4
        rw [← h5]
        exact ⟨ho, h8, backO_ok bo h9⟩
      · rw [putAll_out sel _ μ hs] at h2
        obtain ⟨ho, h8, h9⟩ := s.obj n a o h1 h2
        have na : a ∉ ιc := fun q => by
          obtain ⟨k, m, h3, h4, h5⟩ := cin a q
          have := nodup_at s.nd h1 h5
          subst this
          exact hs (List.mem_of_getElem? h3)
        exact ⟨ho, x.keep a ho na h9.nt h8, h9.mono ex.same ex.i⟩
    · have hn2 : ι.length ≤ n := by omega
      rw [List.getElem?_append_right hn2, List.getElem?_drop] at h1
      rw [List.getElem?_append_right (by rw [hpl]; exact hn2), hpl, List.getElem?_map, Option.map_eq_some_iff] at h2
      obtain ⟨o', h4, h5⟩ := h2
      rw [List.getElem?_drop] at h4
      obtain ⟨ho, h8, h9⟩ := sc.obj _ a o' h1 h4
      rw [← h5]
      exact ⟨ho, h8, backO_ok bo h9⟩
theorem call_frame {W : WX} {σ : St} {F : MF} {as : List MV} {vs : List V} {Q : VK} {n : Nat} (s : Sta K Z ι μ H) (r : RMs K (mask H Z) ι as vs) (hn : vs.length = n) (o : Out K W σ Z ι H (callF F as μ) (Val K Q)) : spF K n F vs H Q (WE W σ) := by
  unfold callF at o
  have nd := selOf_nodup μ as
  generalize selOf μ as = sel at o nd
  simp only at o
  split at o
  · rename_i as' μc h1 h2
    obtain ⟨ιc, so, hl, sc⟩ := frame_in s nd h2
    refine ⟨hn, Z, ιc, as', μc, sc, toCs_ok so r h1, ?_⟩
    cases q : F as' μc with
    | ok v os =>
      rw [q] at o
      intro Z2 ι2 H2 x2 s2 w rw'
      obtain ⟨ι', ex, sw, bo⟩ := frame_out s nd so hl x2 s2
      exact o Z2 ι' H2 ex sw w (back_ok bo rw')
    | exc C fs os =>
      rw [q] at o
      intro Z2 ι2 H2 d fs' x2 s2
      obtain ⟨ι', ex, sw, bo⟩ := frame_out s nd so hl x2 s2
      exact o Z2 ι' H2 d fs' ex sw
    | bad => rw [q] at o; exact o
  · exact o.elim
end
/-! a def of the text, called by its name -/
def mCall (F : MF) (n : Nat) (ms : MA) : ME := fun ρ μ => (ms ρ μ).bind fun as μ1 => if as.length = n then callF F as μ1 else .bad
/-- the def under x keeps F, by calls of at most k -/
abbrev Fn (P : Program) (w : World) (K : PySem.W.Frag) (mg : Str → Option Value) (base : Heap) (k : Nat) (x : Str) (n : Nat) (F : MF) : Prop := CalG (L2.CX P w) P w K mg base k x (spF K n F)
section
variable {X : Cx} {W : WX} {k j n : Nat} {x : Str} {F : MF} {p pos : Pos} {e : Expr} {es : List Expr} {ms : MA}
theorem fe_call (c : Fn X.prog X.w X.K X.mg X.base k x n F) (tk : Takes X W) (hg : X.A.guards = some []) (hr : Room j X.A) (ha : FA X W (e :: es) ms) (hk : k ≤ j := by decide) (hgl : Gl X x := by rfl)
    (hdb : (x == ("__debug__" : Str)) = false := by decide) (he : starEach (e :: es) X.env = (false, eval e X.env) :: starEach es X.env := by rfl) (hpl : (backTo pos (starEach es X.env)).any (·.1) = false := by rfl) :
    FE X W (.Call (.Name x p) (e :: es) [] pos) (mCall F n ms) := by
  obtain ⟨f, G, hm, kp⟩ := c.ex
  refine pe_imp (t := tCallS (spF X.K n F) (WE W) (tMA X.K W ms)) ⟨?_⟩ ?_
  · intro pins s σ H Q I h
    refine PySem.wpAny_Call_Name_kw (ld_glob I hgl hm ?_ hdb)
    refine PySem.W.callWith_K (h₀ := X.base) I.ok.mod.kin kp (thn (ha.run pos pins s σ H _ I h) fun us s1 hh => ?_) he hpl
    obtain ⟨vs, H1, I1, r, q⟩ := hh
    refine ⟨I1.kIn, wpAny_call (codeAny_mono (G X.A X.stack s1 H1 us vs Q (WE W σ) (hr.mono hk) hg I1.env0 r q) fun z s' hq => ?_)⟩
    cases z with
    | error u => exact passAt tk σ pins H1 s1 u s' I1 hq
    | ok fl => cases fl with
      | ret u => exact I1.after hq
      | _ => exact hq.elim
  · rintro σ H Q ⟨Z, ι, ρ, μ, R, o⟩
    refine tMA_bind R o fun v μ' Z' ι' H' x x1 R1 r1 o1 => ?_
    split at o1
    · rename_i hl
      exact call_frame R1.sta r1 (by rw [← r1.len]; exact hl) o1
    · exact o1.elim
theorem fe_call0 (c : Fn X.prog X.w X.K X.mg X.base k x 0 F) (tk : Takes X W) (hg : X.A.guards = some []) (hr : Room j X.A) (hk : k ≤ j := by decide) (hgl : Gl X x := by rfl)
    (hdb : (x == ("__debug__" : Str)) = false := by decide) : FE X W (.Call (.Name x p) [] [] pos) (mCall F 0 mNil) := by
  obtain ⟨f, G, hm, kp⟩ := c.ex
  refine pe_imp (t := tCallS (spF X.K 0 F) (WE W) (tMA X.K W mNil)) ⟨?_⟩ ?_
  · intro pins s σ H Q I ⟨Z, ι, ρ, μ, R, o⟩
    refine PySem.wpAny_Call_Name_kw (ld_glob I hgl hm ?_ hdb)
    refine PySem.W.callWith_K0 I.kIn kp ?_
    have q : spF X.K 0 F [] H Q (WE W σ) := o Z ι H (Ext.refl R.sta.sub) R.sta [] .nil
    refine wpAny_call (codeAny_mono (G X.A X.stack s H [] [] Q (WE W σ) (hr.mono hk) hg I.env0 .nil q) fun z s' hq => ?_)
    cases z with
    | error u => exact passAt tk σ pins H s u s' I hq
    | ok fl => cases fl with
      | ret u => exact I.after hq
      | _ => exact hq.elim
  · rintro σ H Q ⟨Z, ι, ρ, μ, R, o⟩
    refine ⟨Z, ι, ρ, μ, R, ?_⟩
    intro Z1 ι1 H1 x1 s1 vs rv
    cases rv
    exact call_frame s1 .nil rfl (Out.base o x1)
end
section
variable {P : Program} {w : World} {K : PySem.W.Frag} {mg : Str → Option Value} {base : Heap}
/-- a def of the text, from its body -/
theorem Def.mini {x : Str} {st : Stmt} {N ps : List Str} {k n : Nat} {fz : Bool} {m : MS} (D : Def K mg x st ps) (S : FnScope N ps (defScope st)) (hn : ps.length = n)
    (body : ∀ (f : Addr) (cdv : Value) (A : Around) (outer : List Env) (s : Shared) (H : Hp) (E : XK), (A.deeper (PyProof.Rows.envOfC x (defScope st) s.heap.objs.size f cdv)).guards = some [] →
      Room k (A.deeper (PyProof.Rows.envOfC x (defScope st) s.heap.objs.size f cdv)) →
      FSs (cxOf (L2.CX P w) P w K mg base N x (defScope st) f cdv A outer s H E) (fun c d _ H' => E c d H') (defBody st) m) : Fn P w K mg base (k + 1) x n (fnT fz N.length m) :=
  D.okG S (fun vs H Q E h => h.1.trans hn.symm) fun f cdv A outer s H vs Q E hg hr h => ⟨_, body f cdv A outer s H E hg hr, bodyT_ok h⟩
end
end TT

namespace TT
open PySem L2
variable [TB]
section
variable {K : PySem.W.Frag} {X : Cx}
theorem opd_or {r r' : R2} {g g' : D → D → Option D} (h : OpD K r g) (h' : OpD K r' g') : OpD K (fun x y H Q => r x y H Q ∨ r' x y H Q) (fun a b => (g a b).or (g' a b)) := fun Z H a b c x y Q t ha hb e q => by
  have e : (g a b).or (g' a b) = some c := e
  cases hg : g a b with
  | some z => rw [hg] at e; exact .inl (h Z H a b c x y Q t ha hb (hg.trans e) q)
  | none => rw [hg] at e; exact .inr (h' Z H a b c x y Q t ha hb e q)
theorem same_ok {Z : List Addr} {H : Hp} {c : D} {Q : VK} {z : V} (q : ∀ H' z, Same H H' → DR K (mask H' Z) c z → Q z H') (r : DR K (mask H Z) c z) : Q z H := q H z (Same.refl _) r
/-! numbers -/
def intOp (f : Int → Int → Option D) : D → D → Option D
  | .int i, .int j => f i j
  | _, _ => none
theorem opd_int {C : Int → Int → Prop} [∀ i j, Decidable (C i j)] {g : Int → Int → V} {h : Int → Int → D} (e : ∀ i j F, DR K F (h i j) (g i j)) : OpD K (rI C g) (intOp fun i j => if C i j then some (h i j) else none) := fun Z H a b c x y Q t ha hb eq q => by
  unfold intOp at eq
  split at eq
  · rename_i i j
    simp only at eq
    split at eq
    · rename_i hc
      cases eq
      exact ⟨i, j, ha.int, hb.int, hc, same_ok q (e i j _)⟩
    · cases eq
  · cases eq
theorem opd_int0 {g : Int → Int → V} {h : Int → Int → D} (e : ∀ i j F, DR K F (h i j) (g i j)) : OpD K (rI0 g) (intOp fun i j => some (h i j)) := fun Z H a b c x y Q t ha hb eq q => by
  unfold intOp at eq
  split at eq
  · rename_i i j
    cases eq
    exact ⟨i, j, ha.int, hb.int, same_ok q (e i j _)⟩
  · cases eq
instance : ∀ i j, Decidable (CMul i j) := fun i j => inferInstanceAs (Decidable ((-(2 ^ 64) < i ∧ i < 2 ^ 64) ∨ (-(2 ^ 64) < j ∧ j < 2 ^ 64)))
instance : ∀ i j, Decidable (CPow i j) := fun i j => inferInstanceAs (Decidable (0 ≤ j ∧ j ≤ 1000000 ∧ i.natAbs < 2 ^ 64))
instance : ∀ i j, Decidable (CDivW i j) := fun i j => by unfold CDivW; infer_instance
def mulD : D → D → Option D := intOp fun i j => if CMul i j then some (.int (i * j)) else none
def fdivD : D → D → Option D := intOp fun i j => if CDivW i j then some (.int (i / j)) else none
def modD : D → D → Option D := intOp fun i j => if 0 < j then some (.int (i % j)) else none
def powD : D → D → Option D := intOp fun i j => if CPow i j then some (.int (i ^ j.toNat)) else none
def subD : D → D → Option D := intOp fun i j => some (.int (i - j))
def addI : D → D → Option D := intOp fun i j => some (.int (i + j))
theorem d_mul : OpD K (rI CMul fun i j => .int (i * j)) mulD := opd_int fun i j F => .int _
theorem d_fdiv : OpD K (rI CDivW fun i j => .int (i / j)) fdivD := opd_int fun i j F => .int _
theorem d_mod : OpD K (rI (fun _ j => 0 < j) fun i j => .int (i % j)) modD := opd_int fun i j F => .int _
theorem d_pow : OpD K (rI CPow fun i j => .int (i ^ j.toNat)) powD := opd_int fun i j F => .int _
theorem d_sub : OpD K (rI0 fun i j => .int (i - j)) subD := opd_int0 fun i j F => .int _
theorem d_addI : OpD K (rI0 fun i j => .int (i + j)) addI := opd_int0 fun i j F => .int _
/-! adding -/
def rAddS : R2 := fun x y H Q => ∃ i j, x = .str i ∧ y = .str j ∧ i.length + j.length ≤ sizeLine ∧ Q (.str (i ++ j)) H
def addS : D → D → Option D
  | .str a, .str b => if a.length + b.length ≤ sizeLine then some (.str (a ++ b)) else none
  | _, _ => none
theorem d_addS : OpD K rAddS addS := fun Z H a b c x y Q t ha hb eq q => by
  unfold addS at eq
  split at eq
  · rename_i i j
    split at eq
    · rename_i hc; cases eq; exact ⟨i, j, ha.str, hb.str, hc, same_ok q (.str _)⟩
    · cases eq
  · cases eq
def addT : D → D → Option D
  | .tup a, .tup b => if a.length + b.length ≤ sizeLine then some (.tup (a ++ b)) else none
  | _, _ => none
theorem DV.tupR {Z : List Addr} {H : Hp} {v : V} {xs : List D} (h : DV K Z H (.tup xs) v) : DR K (mask H Z) (.tup xs) v := by cases h with | d h => exact h
theorem d_addT : OpD K (rCatA K) addT := fun Z H a b c x y Q t ha hb eq q => by
  unfold addT at eq
  split at eq
  · rename_i xs ys
    split at eq
    · rename_i hc
      cases eq
      obtain ⟨p, vs, rfl, h1, r1⟩ := ha.tup
      obtain ⟨p2, ws, rfl, h2, r2⟩ := hb.tup
      refine ⟨p, p2, vs, ws, rfl, rfl, SqT.of h1, SqT.of h2, by rw [← r1.len, ← r2.len]; exact hc, fun e => ?_, fun e1 e2 => ?_, fun e1 e2 p hp => ?_⟩
      · subst e; cases r1; exact same_ok q hb.tupR
      · subst e2; cases r2; rw [List.append_nil] at q; exact same_ok q ha.tupR
      · obtain ⟨s, r⟩ := new_tup t hp (DRs.append r2 r1)
        exact q _ _ s r
    · cases eq
  · cases eq
def addLL : D → D → Option (List D)
  | .lst a, .lst b => if a.length + b.length ≤ sizeLine then some (a ++ b) else none
  | _, _ => none
theorem l_add : OpL K rCat addLL := fun Z H a b c x y Q t ha hb eq q => by
  unfold addLL at eq
  split at eq
  · rename_i xs ys
    split at eq
    · rename_i hc
      cases eq
      obtain ⟨p, vs, rfl, h1, r1⟩ := ha.list
      obtain ⟨p2, ws, rfl, h2, r2⟩ := hb.list
      exact ⟨p, p2, vs, ws, rfl, rfl, h1, h2, by rw [← r1.len, ← r2.len]; exact hc, fun p hp => q p _ hp (DRs.append r2 r1)⟩
    · cases eq
  · cases eq
def addL (a b : D) : Option D := (addLL a b).map .lst
theorem d_addL : OpD K rCat addL := fun Z H a b c x y Q t ha hb eq q => by
  unfold addL at eq
  obtain ⟨zs, h1, rfl⟩ := Option.map_eq_some_iff.mp eq
  exact l_add Z H a b zs x y Q t ha hb h1 fun p vs hp r => by
    obtain ⟨s, r⟩ := new_lst t hp r
    exact q _ _ s r
def addD (a b : D) : Option D := (addI a b).or ((addS a b).or ((addT a b).or (addL a b)))
abbrev rAddD (K : PySem.W.Frag) : R2 := fun x y H Q => rI0 (fun i j => .int (i + j)) x y H Q ∨ rAddS x y H Q ∨ rCatA K x y H Q ∨ rCat x y H Q
theorem d_add : OpD K (rAddD K) addD := opd_or d_addI (opd_or d_addS (opd_or d_addT d_addL))
theorem o_add : OpR X (binaryOp .Add) (rAddD X.K) := op_add.or (op_add_str.or (op_catA.or op_cat))
@[simp] theorem addD_int (i j : Int) : addD (.int i) (.int j) = some (.int (i + j)) := rfl
theorem addD_str {a b : Str} (h : a.length + b.length ≤ sizeLine) : addD (.str a) (.str b) = some (.str (a ++ b)) := by simp [addD, addI, intOp, addS, h]
theorem addD_tup {a b : List D} (h : a.length + b.length ≤ sizeLine) : addD (.tup a) (.tup b) = some (.tup (a ++ b)) := by simp [addD, addI, intOp, addS, addT, h]
theorem addD_lst {a b : List D} (h : a.length + b.length ≤ sizeLine) : addD (.lst a) (.lst b) = some (.lst (a ++ b)) := by simp [addD, addI, intOp, addS, addT, addL, addLL, h]
/-! comparing -/
def ltI : D → D → Option D := intOp fun i j => some (.bl (decide (i < j)))
def leI : D → D → Option D := intOp fun i j => some (.bl (decide (i ≤ j)))
def gtI : D → D → Option D := intOp fun i j => some (.bl (decide (j < i)))
def geI : D → D → Option D := intOp fun i j => some (.bl (decide (j ≤ i)))
theorem d_lt : OpD K (rI0 fun i j => .bl (decide (i < j))) ltI := opd_int0 fun i j F => .bl _
theorem d_le : OpD K (rI0 fun i j => .bl (decide (i ≤ j))) leI := opd_int0 fun i j F => .bl _
theorem d_gt : OpD K (rI0 fun i j => .bl (decide (j < i))) gtI := opd_int0 fun i j F => .bl _
theorem d_ge : OpD K (rI0 fun i j => .bl (decide (j ≤ i))) geI := opd_int0 fun i j F => .bl _
/-! data of the model's own kind -/
mutual
def toPy : D → Option PyData
  | .non => some .none
  | .bl b => some (.bool b)
  | .int i => some (.int i)
  | .str x => some (.str x)
  | .tup xs => (toPys xs).map .tuple
  | .lst xs => (toPys xs).map .list
  | _ => none
def toPys : List D → Option (List PyData)
  | [] => some []
  | d :: ds => match toPy d, toPys ds with
    | some p, some ps => some (p :: ps)
    | _, _ => none
end
mutual
theorem DR.dp {F : Hp} : ∀ (d : D) (v : V) (p : PyData), DR K F d v → toPy d = some p → Dp K F v p
  | .non, _, _, h, e => by cases h; cases e; exact .non
  | .bl b, _, _, h, e => by cases h; cases e; exact .bl b
  | .int b, _, _, h, e => by cases h; cases e; exact .int b
  | .str b, _, _, h, e => by cases h; cases e; exact .str b
  | .tup xs, _, _, h, e => by
    cases h with | tup q r =>
      simp only [toPy, Option.map_eq_some_iff] at e
      obtain ⟨ps, h1, rfl⟩ := e
      exact .tup (SqT.of q) (DRs.dp xs _ ps r h1)
  | .lst xs, _, _, h, e => by
    cases h with | lst q r =>
      simp only [toPy, Option.map_eq_some_iff] at e
      obtain ⟨ps, h1, rfl⟩ := e
      exact .lst (SqL.of q) (DRs.dp xs _ ps r h1)
  | .ty _, _, _, _, e => by cases e
  | .gl _, _, _, _, e => by cases e
  | .fl _, _, _, _, e => by cases e
  | .dK _, _, _, _, e => by cases e
  | .dT _, _, _, _, e => by cases e
  | .obj _ _, _, _, _, e => by cases e
  | .exn _ _ _ _, _, _, _, e => by cases e
  | .err _ _, _, _, _, e => by cases e
theorem DRs.dp {F : Hp} : ∀ (d : List D) (v : List V) (p : List PyData), DRs K F d v → toPys d = some p → DpAll K F v p
  | [], _, _, h, e => by cases h; cases e; exact .nil
  | d :: ds, _, _, h, e => by
    cases h with | cons a b =>
      simp only [toPys] at e
      split at e
      · rename_i p ps h1 h2
        cases e
        exact .cons (DR.dp d _ p a h1) (DRs.dp ds _ ps b h2)
      · cases e
end
mutual
theorem Dp.mono {F F' : Hp} (e : Same F F') : ∀ (p : PyData) (v : V), Dp K F v p → Dp K F' v p
  | .none, _, h => by cases h; exact .non
  | .bool b, _, h => by cases h; exact .bl b
  | .int i, _, h => by cases h; exact .int i
  | .str x, _, h => by cases h; exact .str x
  | .tuple ds, _, h => by cases h with | tup q r => exact .tup (same_t e q) (DpAll.mono e ds _ r)
  | .list ds, _, h => by cases h with | lst q r => exact .lst (e.seq q) (DpAll.mono e ds _ r)
  | .dict _, _, h => by cases h
theorem DpAll.mono {F F' : Hp} (e : Same F F') : ∀ (p : List PyData) (v : List V), DpAll K F v p → DpAll K F' v p
  | [], _, h => by cases h; exact .nil
  | d :: ds, _, h => by cases h with | cons a b => exact .cons (Dp.mono e d _ a) (DpAll.mono e ds _ b)
end
theorem DV.dp {Z : List Addr} {H : Hp} {d : D} {v : V} {p : PyData} (h : DV K Z H d v) (e : toPy d = some p) : Dp K H v p := by
  cases h with
  | d h => exact Dp.mono (mask_same _ _) _ _ (DR.dp d v p h e)
  | lst q r =>
    simp only [toPy, Option.map_eq_some_iff] at e
    obtain ⟨ps, h1, rfl⟩ := e
    exact .lst (SqL.of q) (DpAll.mono (mask_same _ _) _ _ (DRs.dp _ _ ps r h1))
  | dK q r => cases e
  | dT q r => cases e
/-- == -/
def eqL (a b : D) : Option Bool := match toPy a, toPy b with
  | some p, some q => if SeqAt.shaped p = true ∧ SeqAt.shaped q = true then some (PyData.eqv p q) else none
  | _, _ => none
def eqB : D → D → Option Bool
  | .int i, .int j => some (decide (i = j))
  | .str i, .str j => some (decide (i = j))
  | .bl i, .bl j => some (decide (i = j))
  | .non, .non => some true
  | .non, .int _ => some false
  | .int _, .non => some false
  | .non, .str _ => some false
  | .str _, .non => some false
  | .non, .bl _ => some false
  | .bl _, .non => some false
  | .int _, .str _ => some false
  | .str _, .int _ => some false
  | .bl _, .str _ => some false
  | .str _, .bl _ => some false
  | .lst xs, .lst ys => if xs.length = ys.length then eqL (.lst xs) (.lst ys) else some false
  | a, b => eqL a b
def eqD (a b : D) : Option D := (eqB a b).map .bl
def neD (a b : D) : Option D := (eqB a b).map fun b => .bl !b
def rLen (K : PySem.W.Frag) (k : Bool) : R2 := fun x y H Q => ∃ a b xs ys, x = .ref a ∧ y = .ref b ∧ SqL K H a xs ∧ SqL K H b ys ∧ xs.length ≠ ys.length ∧ Q (.bl k) H
theorem len_size {K : PySem.W.Frag} {xs ys : List V} {us vs : List Value} (r1 : Vals xs us) (r2 : Vals ys vs) (h : xs.length ≠ ys.length) : (us.toArray.size != vs.toArray.size) = true := by
  rw [List.size_toArray, List.size_toArray, ← r1.length, ← r2.length]
  simpa using h
theorem op_eqLen (hu : X.A.units + 64 < cLine) : OpR X (compareOp .Eq) (rLen X.K false) := by
  intro pins s σ H x y v u Q I rx ry ⟨a, b, xs, ys, ex, ey, h1, h2, hn, q⟩
  subst ex ey
  cases (show v = Value.ref a from rx)
  cases (show u = Value.ref b from ry)
  obtain ⟨us, r1, p1, _⟩ := I.list h1
  obtain ⟨vs, r2, p2, _⟩ := I.list h2
  exact SeqAt.eq_list_lengthsAt p1.isList p2.isList (len_size (K := X.K) r1 r2 hn) (by omega) ⟨.bl false, H, I, rfl, q⟩
theorem op_neLen (hu : X.A.units + 64 < cLine) : OpR X (compareOp .NotEq) (rLen X.K true) := by
  intro pins s σ H x y v u Q I rx ry ⟨a, b, xs, ys, ex, ey, h1, h2, hn, q⟩
  subst ex ey
  cases (show v = Value.ref a from rx)
  cases (show u = Value.ref b from ry)
  obtain ⟨us, r1, p1, _⟩ := I.list h1
  obtain ⟨vs, r2, p2, _⟩ := I.list h2
  exact SeqAt.RcNeAt.lists_lengths p1.isList p2.isList (len_size (K := X.K) r1 r2 hn) (by omega) _ _ _ _ ⟨.bl true, H, I, rfl, q⟩
theorem eqL_ok {Z : List Addr} {H : Hp} {a b : D} {x y : V} {k : Bool} (ha : DV K Z H a x) (hb : DV K Z H b y) (e : eqL a b = some k) : ∃ d e, Dp K H x d ∧ Dp K H y e ∧ SeqAt.shaped d = true ∧ SeqAt.shaped e = true ∧ PyData.eqv d e = k := by
  unfold eqL at e
  split at e
  · rename_i p q h1 h2
    split at e
    · rename_i hs; cases e; exact ⟨p, q, ha.dp h1, hb.dp h2, hs.1, hs.2, rfl⟩
    · cases e
  · cases e
theorem eqB_ok {Z : List Addr} {H : Hp} {a b : D} {x y : V} {k : Bool} (ha : DV K Z H a x) (hb : DV K Z H b y) (e : eqB a b = some k) : (scal x y = true ∧ decide (x = y) = k) ∨ (∃ d e, Dp K H x d ∧ Dp K H y e ∧ SeqAt.shaped d = true ∧ SeqAt.shaped e = true ∧ PyData.eqv d e = k) ∨
    (k = false ∧ ∃ a b xs ys, x = .ref a ∧ y = .ref b ∧ SqL K H a xs ∧ SqL K H b ys ∧ xs.length ≠ ys.length) := by
  unfold eqB at e
  split at e
  · cases e; rw [ha.int, hb.int]; exact .inl ⟨rfl, by simp⟩
  · cases e; rw [ha.str, hb.str]; exact .inl ⟨rfl, by simp⟩
  · cases e; rw [ha.bl, hb.bl]; exact .inl ⟨rfl, by simp⟩
  · cases e; rw [ha.non, hb.non]; exact .inl ⟨rfl, by simp⟩
  · cases e; rw [ha.non, hb.int]; exact .inl ⟨rfl, by simp⟩
  · cases e; rw [ha.int, hb.non]; exact .inl ⟨rfl, by simp⟩
  · cases e; rw [ha.non, hb.str]; exact .inl ⟨rfl, by simp⟩
  · cases e; rw [ha.str, hb.non]; exact .inl ⟨rfl, by simp⟩
  · cases e; rw [ha.non, hb.bl]; exact .inl ⟨rfl, by simp⟩
  · cases e; rw [ha.bl, hb.non]; exact .inl ⟨rfl, by simp⟩
  · cases e; rw [ha.int, hb.str]; exact .inl ⟨rfl, by simp⟩
  · cases e; rw [ha.str, hb.int]; exact .inl ⟨rfl, by simp⟩
  · cases e; rw [ha.bl, hb.str]; exact .inl ⟨rfl, by simp⟩
  · cases e; rw [ha.str, hb.bl]; exact .inl ⟨rfl, by simp⟩
  · rename_i xs ys
    split at e
    · exact .inr (.inl (eqL_ok ha hb e))
    · rename_i hn
      cases e
      obtain ⟨p, us, rfl, h1, h2⟩ := ha.list
      obtain ⟨q, vs, rfl, h3, h4⟩ := hb.list
      exact .inr (.inr ⟨rfl, p, q, us, vs, rfl, rfl, SqL.of h1, SqL.of h3, by rw [← h2.len, ← h4.len]; exact hn⟩)
  · exact .inr (.inl (eqL_ok ha hb e))
abbrev rEqX (K : PySem.W.Frag) : R2 := fun x y H Q => rEq x y H Q ∨ rEqD K x y H Q ∨ rLen K false x y H Q
abbrev rNeX (K : PySem.W.Frag) : R2 := fun x y H Q => rNe x y H Q ∨ rNeD K x y H Q ∨ rLen K true x y H Q
theorem d_eq : OpD K (rEqX K) eqD := fun Z H a b c x y Q t ha hb eq q => by
  obtain ⟨k, h1, rfl⟩ := Option.map_eq_some_iff.mp eq
  rcases eqB_ok ha hb h1 with ⟨h2, h3⟩ | ⟨d, e, h2, h3, h4, h5, h6⟩ | ⟨rfl, p, r, xs, ys, h2, h3, h4, h5, h6⟩
  · exact .inl ⟨h2, by rw [h3]; exact same_ok q (.bl _)⟩
  · exact .inr (.inl ⟨d, e, h2, h3, h4, h5, by rw [h6]; exact same_ok q (.bl _)⟩)
  · exact .inr (.inr ⟨p, r, xs, ys, h2, h3, h4, h5, h6, same_ok q (.bl _)⟩)
theorem d_ne : OpD K (rNeX K) neD := fun Z H a b c x y Q t ha hb eq q => by
  obtain ⟨k, h1, rfl⟩ := Option.map_eq_some_iff.mp eq
  rcases eqB_ok ha hb h1 with ⟨h2, h3⟩ | ⟨d, e, h2, h3, h4, h5, h6⟩ | ⟨rfl, p, r, xs, ys, h2, h3, h4, h5, h6⟩
  · exact .inl ⟨h2, by rw [h3]; exact same_ok q (.bl _)⟩
  · exact .inr (.inl ⟨d, e, h2, h3, h4, h5, by rw [h6]; exact same_ok q (.bl _)⟩)
  · exact .inr (.inr ⟨p, r, xs, ys, h2, h3, h4, h5, h6, same_ok q (.bl _)⟩)
theorem o_eq (hu : X.A.units + 64 < cLine) : OpR X (compareOp .Eq) (rEqX X.K) := op_eq.or ((op_eqD hu).or (op_eqLen hu))
theorem o_ne (hu : X.A.units + 64 < cLine) : OpR X (compareOp .NotEq) (rNeX X.K) := op_ne.or ((op_neD hu).or (op_neLen hu))
/-! is None -/
def isN : D → D → Option D
  | .non, .non => some (.bl true)
  | .gl _, .non => none
  | _, .non => some (.bl false)
  | _, _ => none
def notN : D → D → Option D
  | .non, .non => some (.bl false)
  | .gl _, .non => none
  | _, .non => some (.bl true)
  | _, _ => none
theorem DV.isnon {Z : List Addr} {H : Hp} {d : D} {v : V} (h : DV K Z H d v) : decide (v = .non) = (match d with | .non => true | _ => false) := by
  cases h with
  | d h => cases h <;> simp
  | _ => simp
theorem d_isN : OpD K (fun x y H Q => y = .non ∧ Q (.bl (decide (x = .non))) H) isN := fun Z H a b c x y Q t ha hb eq q => by
  have hx := ha.isnon
  cases b with
  | non =>
    refine ⟨hb.non, ?_⟩
    rw [hx]
    cases a <;> simp only [isN] at eq <;> cases eq <;> exact same_ok q (.bl _)
  | _ => cases a <;> cases eq
theorem d_notN : OpD K (fun x y H Q => y = .non ∧ Q (.bl (!decide (x = .non))) H) notN := fun Z H a b c x y Q t ha hb eq q => by
  have hx := ha.isnon
  cases b with
  | non =>
    refine ⟨hb.non, ?_⟩
    rw [hx]
    cases a <;> simp only [notN] at eq <;> cases eq <;> exact same_ok q (.bl _)
  | _ => cases a <;> cases eq
/-! items -/
def ixD : D → D → Option D
  | .lst xs, .int i => atI xs i
  | .tup xs, .int i => atI xs i
  | .fl xs, .int i => atI xs i
  | .str z, .int i => if z.length ≤ sizeLine then (atI z.cps.toList i).map fun c => .str ⟨#[c]⟩ else none
  | _, _ => none
theorem DRs.atI {F : Hp} {xs : List D} {vs : List V} (h : DRs K F xs vs) {i : Int} {d : D} (e : atI xs i = some d) : ∃ v, L2.atI vs i = some v ∧ DR K F d v := by
  unfold L2.atI at e ⊢
  rw [← h.len]
  cases q : ixN xs.length i with
  | none => rw [q] at e; cases e
  | some j =>
    rw [q] at e
    obtain ⟨v, h1, h2⟩ := h.get (i := j) e
    exact ⟨v, h1, h2⟩
theorem d_ix : OpD K (rIx K) ixD := fun Z H a b c x y Q t ha hb eq q => by
  unfold ixD at eq
  split at eq
  · rename_i xs i
    obtain ⟨p, vs, rfl, h1, r1⟩ := ha.list
    obtain ⟨v, h2, h3⟩ := r1.atI eq
    exact .inl ⟨p, vs, i, v, rfl, hb.int, SqL.of h1, h2, same_ok q h3⟩
  · rename_i xs i
    obtain ⟨p, vs, rfl, h1, r1⟩ := ha.tup
    obtain ⟨v, h2, h3⟩ := r1.atI eq
    exact .inr (.inl ⟨p, vs, i, v, rfl, hb.int, SqT.of h1, h2, same_ok q h3⟩)
  · rename_i xs i
    obtain ⟨p, vs, rfl, h1, r1⟩ := ha.flist
    obtain ⟨v, h2, h3⟩ := r1.atI eq
    exact .inl ⟨p, vs, i, v, rfl, hb.int, h1, h2, same_ok q h3⟩
  · rename_i z i
    split at eq
    · rename_i hz
      obtain ⟨c, h1, rfl⟩ := Option.map_eq_some_iff.mp eq
      exact .inr (.inr ⟨z, i, c, ha.str, hb.int, hz, h1, same_ok q (.str _)⟩)
    · cases eq
  · cases eq
/-! calls of built-ins -/
theorem dvs1 {Z : List Addr} {H : Hp} {a : D} {xs : List V} (h : DVs K Z H [a] xs) : ∃ x, xs = [x] ∧ DV K Z H a x := by
  cases h with | cons h r => cases r; exact ⟨_, rfl, h⟩
theorem dvs2 {Z : List Addr} {H : Hp} {a b : D} {xs : List V} (h : DVs K Z H [a, b] xs) : ∃ x y, xs = [x, y] ∧ DV K Z H a x ∧ DV K Z H b y := by
  cases h with | cons h r => obtain ⟨y, rfl, h2⟩ := dvs1 r; exact ⟨_, y, rfl, h, h2⟩
def one (g : D → Option D) : List D → Option D
  | [a] => g a
  | _ => none
def lenD : D → Option D
  | .str y => if y.length ≤ sizeLine then some (.int y.length) else none
  | .lst xs => some (.int xs.length)
  | .fl xs => some (.int xs.length)
  | .tup xs => some (.int xs.length)
  | _ => none
theorem c_len : CallD K (fun xs H Q => ∃ x n, xs = [x] ∧ LenV K x H n ∧ Q (.int n) H) (one lenD) := fun Z H as c xs Q t ha eq q => by
  unfold one at eq
  split at eq
  · rename_i a
    obtain ⟨x, rfl, h⟩ := dvs1 ha
    cases a with
    | str y =>
      simp only [lenD] at eq
      split at eq
      · rename_i hl; cases eq; exact ⟨x, y.length, rfl, by rw [h.str]; exact ⟨hl, rfl⟩, same_ok q (.int _)⟩
      · cases eq
    | lst ys => obtain ⟨p, vs, rfl, h1, r1⟩ := h.list; cases eq; exact ⟨_, ys.length, rfl, .inl ⟨vs, SqL.of h1, r1.len⟩, same_ok q (.int _)⟩
    | fl ys => obtain ⟨p, vs, rfl, h1, r1⟩ := h.flist; cases eq; exact ⟨_, ys.length, rfl, .inl ⟨vs, h1, r1.len⟩, same_ok q (.int _)⟩
    | tup ys => obtain ⟨p, vs, rfl, h1, r1⟩ := h.tup; cases eq; exact ⟨_, ys.length, rfl, .inr ⟨vs, SqT.of h1, r1.len⟩, same_ok q (.int _)⟩
    | _ => cases eq
  · cases eq
def absD : D → Option D
  | .int i => some (.int (if i < 0 then -i else i))
  | _ => none
theorem c_abs : CallD K (fun xs H Q => ∃ i, xs = [.int i] ∧ Q (.int (if i < 0 then -i else i)) H) (one absD) := fun Z H as c xs Q t ha eq q => by
  unfold one at eq
  split at eq
  · rename_i a
    obtain ⟨x, rfl, h⟩ := dvs1 ha
    cases a with
    | int i => cases eq; exact ⟨i, by rw [h.int], same_ok q (.int _)⟩
    | _ => cases eq
  · cases eq
def intD : D → Option D
  | .int i => some (.int i)
  | .bl k => some (.int (if k then 1 else 0))
  | _ => none
theorem c_int : CallD K (fun xs H Q => (∃ i, xs = [.int i] ∧ Q (.int i) H) ∨ ∃ k, xs = [.bl k] ∧ Q (.int (if k then 1 else 0)) H) (one intD) := fun Z H as c xs Q t ha eq q => by
  unfold one at eq
  split at eq
  · rename_i a
    obtain ⟨x, rfl, h⟩ := dvs1 ha
    cases a with
    | int i => cases eq; exact .inl ⟨i, by rw [h.int], same_ok q (.int _)⟩
    | bl i => cases eq; exact .inr ⟨i, by rw [h.bl], same_ok q (.int _)⟩
    | _ => cases eq
  · cases eq
def boolD : D → Option D
  | .int i => some (.bl (i != 0))
  | .bl k => some (.bl k)
  | _ => none
theorem c_bool : CallD K (fun xs H Q => (∃ i, xs = [.int i] ∧ Q (.bl (i != 0)) H) ∨ ∃ k, xs = [.bl k] ∧ Q (.bl k) H) (one boolD) := fun Z H as c xs Q t ha eq q => by
  unfold one at eq
  split at eq
  · rename_i a
    obtain ⟨x, rfl, h⟩ := dvs1 ha
    cases a with
    | int i => cases eq; exact .inl ⟨i, by rw [h.int], same_ok q (.bl _)⟩
    | bl i => cases eq; exact .inr ⟨i, by rw [h.bl], same_ok q (.bl _)⟩
    | _ => cases eq
  · cases eq
def max2 : List D → Option D
  | [.int i, .int j] => some (.int (if j > i then j else i))
  | _ => none
def min2 : List D → Option D
  | [.int i, .int j] => some (.int (if j < i then j else i))
  | _ => none
theorem c_max2 : CallD K (fun xs H Q => ∃ i j, xs = [.int i, .int j] ∧ Q (.int (if j > i then j else i)) H) max2 := fun Z H as c xs Q t ha eq q => by
  unfold max2 at eq
  split at eq
  · rename_i i j
    obtain ⟨x, y, rfl, h1, h2⟩ := dvs2 ha
    cases eq
    exact ⟨i, j, by rw [h1.int, h2.int], same_ok q (.int _)⟩
  · cases eq
theorem c_min2 : CallD K (fun xs H Q => ∃ i j, xs = [.int i, .int j] ∧ Q (.int (if j < i then j else i)) H) min2 := fun Z H as c xs Q t ha eq q => by
  unfold min2 at eq
  split at eq
  · rename_i i j
    obtain ⟨x, y, rfl, h1, h2⟩ := dvs2 ha
    cases eq
    exact ⟨i, j, by rw [h1.int, h2.int], same_ok q (.int _)⟩
  · cases eq
/-- list(..), tuple(..) -/
def listL : List D → Option (List D)
  | [.lst xs] => some xs
  | [.fl xs] => some xs
  | [.tup xs] => some xs
  | _ => none
theorem cl_list : CallL K (fun xs H Q => ∃ p ys, xs = [.ref p] ∧ (SqL K H p ys ∨ SqT K H p ys) ∧ ∀ l, H l = none → Q (.ref l) (upd H l (.lst ys))) listL := fun Z H as c xs Q t ha eq q => by
  unfold listL at eq
  split at eq
  · obtain ⟨x, rfl, h⟩ := dvs1 ha; cases eq; obtain ⟨p, vs, rfl, h1, r1⟩ := h.list; exact ⟨p, vs, rfl, .inl (SqL.of h1), fun l hl => q l vs hl r1⟩
  · obtain ⟨x, rfl, h⟩ := dvs1 ha; cases eq; obtain ⟨p, vs, rfl, h1, r1⟩ := h.flist; exact ⟨p, vs, rfl, .inl h1, fun l hl => q l vs hl r1⟩
  · obtain ⟨x, rfl, h⟩ := dvs1 ha; cases eq; obtain ⟨p, vs, rfl, h1, r1⟩ := h.tup; exact ⟨p, vs, rfl, .inr (SqT.of h1), fun l hl => q l vs hl r1⟩
  · cases eq
def listS : List D → Option (List D)
  | [.str x] => if x.length ≤ sizeLine then some (chars x) else none
  | _ => none
theorem sgn_drs {F : Hp} : ∀ cs : List Nat, DRs K F (cs.map fun c => D.str ⟨#[c]⟩) (cs.map sgn)
  | [] => .nil
  | c :: cs => .cons (.str _) (sgn_drs cs)
theorem cl_listS : CallL K (fun xs H Q => ∃ x : Str, xs = [.str x] ∧ x.length ≤ sizeLine ∧ ∀ l, H l = none → Q (.ref l) (upd H l (.lst (x.cps.toList.map sgn)))) listS := fun Z H as c xs Q t ha eq q => by
  unfold listS at eq
  split at eq
  · rename_i z
    obtain ⟨x, rfl, h⟩ := dvs1 ha
    split at eq
    · rename_i hz; cases eq; exact ⟨z, by rw [h.str], hz, fun l hl => q l _ hl (sgn_drs _)⟩
    · cases eq
  · cases eq
def tupD : D → Option D
  | .lst xs => some (.tup xs)
  | .fl xs => some (.tup xs)
  | .tup xs => some (.tup xs)
  | _ => none
theorem c_tuple : CallD K (fun xs H Q => ∃ p ys, xs = [.ref p] ∧ ((SqL K H p ys ∧ ∀ l, H l = none → Q (.ref l) (upd H l (.tup ys))) ∨ (SqT K H p ys ∧ Q (.ref p) H))) (one tupD) := fun Z H as c xs Q t ha eq q => by
  unfold one at eq
  split at eq
  · rename_i a
    obtain ⟨x, rfl, h⟩ := dvs1 ha
    have new : ∀ {vs : List V} {ys : List D}, DRs K (mask H Z) ys vs → c = .tup ys → ∀ l, H l = none → Q (.ref l) (upd H l (.tup vs)) := fun r e l hl => by
      obtain ⟨s, r⟩ := new_tup t hl r
      exact q _ _ s (by rw [e]; exact r)
    cases a with
    | lst ys => cases eq; obtain ⟨p, vs, rfl, h1, r1⟩ := h.list; exact ⟨p, vs, rfl, .inl ⟨SqL.of h1, new r1 rfl⟩⟩
    | fl ys => cases eq; obtain ⟨p, vs, rfl, h1, r1⟩ := h.flist; exact ⟨p, vs, rfl, .inl ⟨h1, new r1 rfl⟩⟩
    | tup ys =>
      cases eq
      have hr := h.tupR
      obtain ⟨p, vs, rfl, h1, r1⟩ := h.tup
      exact ⟨p, vs, rfl, .inr ⟨SqT.of h1, same_ok q hr⟩⟩
    | _ => cases eq
  · cases eq
/-- repr -/
def reprD (d : D) : Option D := match toPy d with
  | some p => if p.showable = true ∧ p.shown.length ≤ sizeLine ∧ p.depth ≤ 180 then some (.str p.shown) else none
  | none => none
theorem c_repr : CallD K (rRepr K) (one reprD) := fun Z H as c xs Q t ha eq q => by
  unfold one at eq
  split at eq
  · rename_i a
    obtain ⟨x, rfl, h⟩ := dvs1 ha
    unfold reprD at eq
    split at eq
    · rename_i p hp
      split at eq
      · rename_i hs; cases eq; exact ⟨x, p, rfl, h.dp hp, hs.1, hs.2.1, hs.2.2, same_ok q (.str _)⟩
      · cases eq
    · cases eq
  · cases eq
/-- isinstance with built-in classes -/
def tyD : D → Option String
  | .non => some "NoneType"
  | .bl _ => some "bool"
  | .int _ => some "int"
  | .str _ => some "str"
  | .tup _ => some "tuple"
  | .lst _ => some "list"
  | .dK _ => some "dict"
  | .dT _ => some "dict"
  | _ => none
def isTy (t n : String) : Bool := t == n || (t == "bool" && n == "int")
def tys : List String := ["NoneType", "bool", "int", "str", "tuple", "list", "dict"]
theorem kit_is : ∀ t ∈ tys, ∀ n ∈ tys, kitB t n = some (isTy t n) := by decide +kernel
theorem tyD_mem {d : D} {t : String} (e : tyD d = some t) : t ∈ tys := by cases d <;> cases e <;> decide
theorem tyD_ok {Z : List Addr} {H : Hp} {d : D} {x : V} {t : String} (h : DV K Z H d x) (e : tyD d = some t) : TyX K H x (.type t) := by
  cases h with
  | d h => cases h with
    | non => cases e; exact .base .non
    | bl b => cases e; exact .base (.bl b)
    | int b => cases e; exact .base (.int b)
    | str b => cases e; exact .base (.str b)
    | tup q r => cases e; exact .base (.tup (mask_same _ _ _ _ q))
    | lst q r => cases e; exact .base (.lst (mask_same _ _ _ _ q))
    | dK q r => cases e; exact .base (.dK (mask_same _ _ _ _ q))
    | dT q r => cases e; exact .base (.dT (mask_same _ _ _ _ q))
    | _ => cases e
  | lst q r => cases e; exact .base (.lst q)
  | dK q r => cases e; exact .base (.dK q)
  | dT q r => cases e; exact .base (.dT q)
def isiD : List D → Option D
  | [d, .ty n] => match tyD d with
    | some t => if n ∈ tys then some (.bl (isTy t n)) else none
    | none => none
  | _ => none
theorem c_isi : CallD K (rIsi K) isiD := fun Z H as c xs Q t ha eq q => by
  unfold isiD at eq
  split at eq
  · rename_i d n
    obtain ⟨x, y, rfl, h1, h2⟩ := dvs2 ha
    split at eq
    · rename_i ty hty
      split at eq
      · rename_i hn
        cases eq
        cases h2 with | d h2 => cases h2 with | ty => exact ⟨x, _, _, _, _, rfl, .ty n, tyD_ok h1 hty, kit_ty (kit_is ty (tyD_mem hty) n hn), same_ok q (.bl _)⟩
      · cases eq
    · cases eq
  · cases eq
/-- .. with a tuple of two -/
def isiD2 : List D → Option D
  | [d, .tup [.ty n, .ty m]] => match tyD d with
    | some t => if n ∈ tys ∧ m ∈ tys then some (.bl (isTy t n || isTy t m)) else none
    | none => none
  | _ => none
theorem c_isi2 : CallD K (rIsiT K) isiD2 := fun Z H as c xs Q t ha eq q => by
  unfold isiD2 at eq
  split at eq
  · rename_i d n m
    obtain ⟨x, y, rfl, h1, h2⟩ := dvs2 ha
    split at eq
    · rename_i ty hty
      split at eq
      · rename_i hn
        cases eq
        obtain ⟨a, vs, rfl, h3, r⟩ := h2.tup
        cases r with | cons r1 r => cases r with | cons r2 r => cases r with | nil => cases r1 with | ty => cases r2 with | ty =>
          refine ⟨x, a, _, _, [.type n, .type m], _, rfl, h3, .cons (.ty n) (.cons (.ty m) .nil), tyD_ok h1 hty, ?_, same_ok q (.bl _)⟩
          refine kitAny_cons (kit_ty (kit_is ty (tyD_mem hty) n hn.1)) (fun e => ?_) (fun e => by rw [e]; rfl)
          rw [e, Bool.false_or]
          exact kitAny_cons (kit_ty (kit_is ty (tyD_mem hty) m hn.2)) (fun e => by rw [e]; rfl) (fun e => e)
      · cases eq
    · cases eq
  · cases eq
/-- all, any, sum of a list -/
def bools : List D → Option (List Bool)
  | [] => some []
  | .bl b :: r => (bools r).map (b :: ·)
  | _ => none
def nums : List D → Option (List Int)
  | [] => some []
  | .int b :: r => (nums r).map (b :: ·)
  | _ => none
theorem bools_ok {F : Hp} : ∀ {xs : List D} {vs : List V} {bs : List Bool}, DRs K F xs vs → bools xs = some bs → vs = bs.map V.bl
  | _, _, _, .nil, e => by cases e; rfl
  | _, _, _, .cons a b, e => by
    cases a <;> simp only [bools] at e <;> first | cases e | skip
    obtain ⟨r, h1, rfl⟩ := Option.map_eq_some_iff.mp e
    rw [bools_ok b h1]; rfl
theorem nums_ok {F : Hp} : ∀ {xs : List D} {vs : List V} {bs : List Int}, DRs K F xs vs → nums xs = some bs → vs = bs.map V.int
  | _, _, _, .nil, e => by cases e; rfl
  | _, _, _, .cons a b, e => by
    cases a <;> simp only [nums] at e <;> first | cases e | skip
    obtain ⟨r, h1, rfl⟩ := Option.map_eq_some_iff.mp e
    rw [nums_ok b h1]; rfl
def allD : D → Option D
  | .lst xs => (bools xs).map fun bs => .bl (bs.all id)
  | _ => none
def anyD : D → Option D
  | .lst xs => (bools xs).map fun bs => .bl (bs.any id)
  | _ => none
def sumD : D → Option D
  | .lst xs => (nums xs).map fun bs => .int bs.sum
  | _ => none
theorem c_all : CallD K (rAll K) (one allD) := fun Z H as c xs Q t ha eq q => by
  unfold one at eq
  split at eq
  · rename_i a
    obtain ⟨x, rfl, h⟩ := dvs1 ha
    cases a with
    | lst ys =>
      obtain ⟨p, vs, rfl, h1, r1⟩ := h.list
      obtain ⟨bs, h2, rfl⟩ := Option.map_eq_some_iff.mp eq
      exact ⟨p, bs, rfl, by rw [← bools_ok r1 h2]; exact SqL.of h1, same_ok q (.bl _)⟩
    | _ => cases eq
  · cases eq
theorem c_any : CallD K (rAny K) (one anyD) := fun Z H as c xs Q t ha eq q => by
  unfold one at eq
  split at eq
  · rename_i a
    obtain ⟨x, rfl, h⟩ := dvs1 ha
    cases a with
    | lst ys =>
      obtain ⟨p, vs, rfl, h1, r1⟩ := h.list
      obtain ⟨bs, h2, rfl⟩ := Option.map_eq_some_iff.mp eq
      exact ⟨p, bs, rfl, by rw [← bools_ok r1 h2]; exact SqL.of h1, same_ok q (.bl _)⟩
    | _ => cases eq
  · cases eq
theorem c_sum : CallD K (rSum K) (one sumD) := fun Z H as c xs Q t ha eq q => by
  unfold one at eq
  split at eq
  · rename_i a
    obtain ⟨x, rfl, h⟩ := dvs1 ha
    cases a with
    | lst ys =>
      obtain ⟨p, vs, rfl, h1, r1⟩ := h.list
      obtain ⟨bs, h2, rfl⟩ := Option.map_eq_some_iff.mp eq
      exact ⟨p, bs, rfl, by rw [← nums_ok r1 h2]; exact SqL.of h1, same_ok q (.int _)⟩
    | _ => cases eq
  · cases eq
def negD : D → Option D
  | .int i => some (.int (-i))
  | _ => none
theorem u_neg : UnD K (rU fun i => .int (-i)) negD := fun Z H a c x Q t ha eq q => by
  cases a with
  | int i => cases eq; exact ⟨i, ha.int, same_ok q (.int _)⟩
  | _ => cases eq
end
end TT

namespace TT
open PySem L2
variable [TB]
/-! match over tuples whose first item is a text -/
inductive Caps (X : Cx) : List Pattern → List Str → List Nat → Prop
  | nil : Caps X [] [] []
  | cons {ps : List Pattern} {ns : List Str} {is : List Nat} {n : Str} {i : Nat} {pos : Pos} : X.N[i]? = some n → Loc X.env.scope n → (X.fn n = true ∨ X.env.scope.names.lookup n = some .local) → Caps X ps ns is → Caps X (.MatchAs none (some n) pos :: ps) (n :: ns) (i :: is)
theorem caps_cons {X : Cx} {ps : List Pattern} {ns : List Str} {is : List Nat} {n : Str} {i : Nat} {pos : Pos} (h1 : X.N[i]? = some n) (h2 : Loc X.env.scope n) (h : Caps X ps ns is) (h3 : X.fn n = true ∨ X.env.scope.names.lookup n = some .local := by first | exact .inl rfl | exact .inr rfl) : Caps X (.MatchAs none (some n) pos :: ps) (n :: ns) (i :: is) := .cons h1 h2 h3 h
def setAll (ρ : En) : List Nat → List D → En
  | i :: is, d :: ds => setAll (ρ.set i (some (.d d))) is ds
  | _, _ => ρ
theorem Caps.len {X : Cx} : ∀ {ps : List Pattern} {ns : List Str} {is : List Nat}, Caps X ps ns is → ns.length = ps.length ∧ is.length = ps.length
  | _, _, _, .nil => ⟨rfl, rfl⟩
  | _, _, _, .cons _ _ _ h => ⟨congrArg (· + 1) h.len.1, congrArg (· + 1) h.len.2⟩
theorem caps_each {X : Cx} {M : Model} {A : Around} {E : Value → Shared → Prop} {s : Shared} : ∀ {ps : List Pattern} {ns : List Str} {is : List Nat} {us : List Value} {Q : Option (List (Str × Value)) → Shared → Prop}, Caps X ps ns is → us.length = ps.length → Q (some (ns.zip us)) s → wpAny M A (matchEach ps X.env us) Q E s
  | _, _, _, [], Q, .nil, _, q => wpAny_matchEach_nil q
  | _, _, _, _ :: _, Q, .nil, h, q => by cases h
  | _, _, _, [], Q, .cons _ _ _ c, h, q => by cases h
  | _, _, _, u :: us, Q, .cons _ _ _ c, h, q => by
    refine wpAny_matchEach_cons (wpAny_matchPattern_Capture ?_)
    refine caps_each c (Nat.succ.inj h) ?_
    exact q
theorem caps_store {X : Cx} {M : Model} {A : Around} {E : Value → Shared → Prop} (hN : X.N.Nodup) : ∀ {ps : List Pattern} {ns : List Str} {is : List Nat} {us : List Value} {vs : List V} {ds : List D} {pins : List (Addr × Obj)} {s : Shared} {σ : St} {H : Hp} {Z ι : List Addr} {ρ : En} {μ : List MO} {Q : Unit → Shared → Prop},
    Caps X ps ns is → Inv X pins σ H s → Vals vs us → DRs X.K (mask H Z) ds vs → ds.length = ps.length → Rel X.K Z ι ρ μ σ H → (∀ s' σ', Inv X pins σ' H s' → Rel X.K Z ι (setAll ρ is ds) μ σ' H → Q () s') →
    wpAny M A (assignInOrder ((ns.zip us).map fun (n, _) => bindName X.env n) ((ns.zip us).map (·.2))) Q E s
  | _, _, _, us, vs, [], _, _, _, _, _, _, _, _, Q, .nil, I, r, d, h, R, q => wpAny_assignInOrder_none (q _ _ I R)
  | _, _, _, us, vs, _ :: _, _, _, _, _, _, _, _, _, Q, .nil, I, r, d, h, R, q => by cases h
  | _, _, _, us, vs, [], _, _, _, _, _, _, _, _, Q, .cons _ _ _ c, I, r, d, h, R, q => by cases h
  | _, _, _, us, vs, x :: ds, _, _, _, _, _, _, _, _, Q, .cons h1 h2 h3 c, I, r, d, h, R, q => by
    cases d with | cons d dr =>
      cases r with | cons r rr =>
        refine wpAny_assignInOrder_more (wpAny_bindName (store_ok I hN h1 h2 r (fun s' I' => ?_) h3))
        exact caps_store hN c I' rr dr (Nat.succ.inj h) ⟨R.sta, R.rs.set (.d d) _⟩ q
/-- the cases of a match, by the subject -/
abbrev MM := D → MS
def FMs (X : Cx) (W : WX) (cs : List MatchCase) (mm : MM) : Prop := ∀ (pins : List (Addr × Obj)) (s : Shared) (σ : St) (H : Hp) (E : Ends) (first : Bool) (u : Value) (v : V) (d : D) Z ι ρ μ, Inv X pins σ H s → RelV v u → Rel X.K Z ι ρ μ σ H → DR X.K (mask H Z) d v → OutS X.K W Z ι H (mm d ρ μ) E →
  wpAny (model X.prog X.w) X.A (matchCases cs X.env u first) (SP X pins E) X.xe s
def cNo : MM := fun _ ρ μ => .nx ρ μ
def cAny (m : MS) : MM := fun _ => m
def cSeq (tag : Str) (is : List Nat) (m : MS) (r : MM) : MM := fun d ρ μ => match d with
  | .tup xs => if xs.length = is.length + 1 then (match xs with
    | y :: ys => match eqB y (.str tag) with
      | some true => m (setAll ρ is ys) μ
      | some false => r d ρ μ
      | none => .bad
    | [] => .bad) else r d ρ μ
  | _ => .bad
section
variable {X : Cx} {W : WX} {body : List Stmt} {m : MS} {r : MM} {rest : List MatchCase}
theorem fm_nil : FMs X W [] cNo := fun pins s σ H E first u v d Z ι ρ μ I rv R dr o => wpAny_matchCases_nil ⟨σ, H, I, o.next R⟩
theorem fm_any {pos : Pos} (hb : FSs X W body m) : FMs X W (⟨.MatchAs none none pos, none, body⟩ :: rest) (cAny m) := fun pins s σ H E first u v d Z ι ρ μ I rv R dr o => by
  refine wpAny_matchCases_cons (wpAny_matchPattern_Capture ?_)
  exact wpAny_assignInOrder_none (hb.run pins s σ H E I ⟨Z, ι, ρ, μ, R, o⟩)
theorem fm_seq {tag : Str} {j : Nat} {p1 p2 pos : Pos} {ps : List Pattern} {ns : List Str} {is : List Nat} {j1} (hc : X.calm = true) (hu : X.A.units + 64 < cLine) (hN : X.N.Nodup) (cp : Caps X ps ns is) (hb : FSs X W body m) (hr : FMs X W rest r)
    (hstar : (Pattern.MatchValue (.Constant (.str tag) j1 p1) p2 :: ps).findIdx? (·.isStar) = none := by rfl) (hwild : ((Pattern.MatchValue (.Constant (.str tag) j1 p1) p2 :: ps).all fun p => p.isWildcard || (p.isStar && p.names.isEmpty)) = false := by rfl) :
    FMs X W (⟨.MatchSequence (.MatchValue (.Constant (.str tag) j1 p1) p2 :: ps) pos, none, body⟩ :: rest) (cSeq tag is m r) := fun pins s σ H E first u v d Z ι ρ μ I rv R dr o => by
  cases d with
  | tup xs =>
    have hd := dr
    cases dr with | tup h1 h2 =>
      rename_i a vs
      have h3 := mask_same _ _ _ _ h1
      have hl := cp.len
      cases rv
      obtain ⟨its, r1, p1', hz⟩ := I.tuple (SqT.of (K := X.K) h3)
      have hsz : its.toArray.size = xs.length := by rw [List.size_toArray, ← r1.length, h2.len]
      have hfit : (its.toArray.size : Int) < 2 ^ 63 := by
        have : vs.length ≤ 16777216 := hz
        rw [hsz, h2.len]
        omega
      simp only [cSeq] at o
      split at o
      · rename_i hn
        cases xs with
        | nil => exact o.elim
        | cons y ys =>
          cases h2 with | cons hy hys =>
            rename_i w ws
            cases r1 with | cons ry rys =>
              rename_i uy uys
              have hlen : uys.length = ps.length := by
                rw [← rys.length, ← hys.len]
                have : ys.length + 1 = is.length + 1 := hn
                omega
              refine wpAny_matchCases_cons (PyProof.Rows.matchSeq_tuple_hit (items := (uy :: uys).toArray) p1' hfit (by simp [hlen]) ?_ hstar hwild)
              have hcount : (Pattern.MatchValue (.Constant (.str tag) j1 p1) p2 :: ps).length = (uy :: uys).toArray.size := by simp [hlen]
              rw [hcount]
              refine PyProof.Rows.unpackItems_tuple (I.ok.hd hc) p1' fun h' hx => ?_
              have I1 : Inv X pins σ H { s with heap := h', toks := s.toks + 1 + 1 } := I.kept fun b ob e => hx b ob (Nat.ne_of_lt (Heap.lt_size e)) e
              refine wpAny_matchEach_cons (wpAny_matchPattern_Value (Calls.Constant_str ?_))
              simp only at o
              -- the comparison
              have key : ∀ k, eqB y (.str tag) = some k → ∀ (tk : Tok) (s2 : Shared), Inv X pins σ H s2 → ∀ Q : Value → Shared → Prop, (∀ s3, Inv X pins σ H s3 → Q (.bool k) s3) → wpAny (model X.prog X.w) X.A (compareOp .Eq uy (.str tag tk)) Q X.xe s2 := fun k hk tk s2 I2 Q q => by
                have fin : ∀ c s3, EP X pins σ (fun z H' => z = .bl k ∧ H' = H) c s3 → Q c s3 := fun c s3 ⟨z, H3, I3, r3, e1, e2⟩ => by
                  subst e1; subst e2; cases r3; exact q s3 I3
                rcases eqB_ok (K := X.K) (Z := Z) (H := H) (.d hy) (.d (.str tag)) hk with ⟨h4, h5⟩ | ⟨d1, d2, h4, h5, h6, h7, h8⟩ | ⟨_, _, _, _, _, _, h4, _⟩
                · exact thn (op_eq pins s2 σ H w (.str tag) uy (.str tag tk) _ I2 ry ⟨tk, rfl⟩ ⟨h4, by rw [h5]; exact ⟨rfl, rfl⟩⟩) fin
                · exact thn (op_eqD hu pins s2 σ H w (.str tag) uy (.str tag tk) _ I2 ry ⟨tk, rfl⟩ ⟨d1, d2, h4, h5, h6, h7, by rw [h8]; exact ⟨rfl, rfl⟩⟩) fin
                · cases h4
              cases hk : eqB y (.str tag) with
              | none => rw [hk] at o; exact o.elim
              | some k =>
                rw [hk] at o
                refine key k hk _ _ (I1.tok _) _ fun s3 I3 => wpAny_truthy_bool ?_
                cases k with
                | false => exact hr pins s3 σ H E false _ (.ref a) _ Z ι ρ μ I3 rfl R hd o
                | true =>
                  refine caps_each cp hlen ?_
                  refine caps_store hN cp I3 rys hys (by rw [hys.len, rys.length]; exact hlen) R fun s' σ' I' R' => ?_
                  exact hb.run pins s' σ' H E I' ⟨Z, ι, _, μ, R', o⟩
      · rename_i hn
        refine wpAny_matchCases_cons (PyProof.Rows.matchSeq_tuple_miss (items := its.toArray) p1' hfit ?_ ?_ hstar hwild)
        · rw [hsz]
          show xs.length ≠ ps.length + 1
          rw [← hl.2]; exact hn
        · exact hr pins _ σ H E false _ (.ref a) _ Z ι ρ μ ((I.tok (s.toks + 1 + 1))) rfl R hd o
  | _ => exact o.elim
/-- match e: -/
def mMatch (ma : ME) (r : MM) : MS := fun ρ μ => (ma ρ μ).stm ρ fun v μ1 => match v with
  | .d d => r d ρ μ1
  | .ref _ => .bad
theorem fs_match {e : Expr} {pos : Pos} {ma : ME} {cs : List MatchCase} (he : FE X W e ma) (hc : FMs X W cs r) : FS X W (.Match e cs pos) (mMatch ma r) := by
  refine ⟨fun pins s σ H E I ⟨Z, ι, ρ, μ, R, o⟩ => wpAny_Match (thn (he.run pins s σ H (fun x H1 => ∃ Z1 ι1 μ1 d, Rel X.K Z1 ι1 ρ μ1 σ H1 ∧ DR X.K (mask H1 Z1) d x ∧ OutS X.K W Z1 ι1 H1 (r d ρ μ1) E) I (tM_stm R o fun v μ' Z' ι' H' x x1 R1 r1 o1 => ?_)) fun u s1 ⟨x, H1, I1, r1, Z1, ι1, μ1, d, R1, d1, o1⟩ => ?_)⟩
  · cases r1 with
    | d r1 => exact ⟨Z', ι', μ', _, R1, r1, o1⟩
    | ref r1 => exact o1.elim
  · exact hc pins s1 σ H1 E true u x d Z1 ι1 ρ μ1 I1 r1 R1 d1 o1
end
end TT

namespace TT
open PySem L2
variable [TB]
/-! objects of the store written -/
theorem Sta.put {K : PySem.W.Frag} {Z ι : List Addr} {μ : List MO} {H : Hp} (s : Sta K Z ι μ H) {n : Nat} {a : Addr} {o : MO} {ho : HO} (h : ι[n]? = some a) (r : RO K (mask H Z) ι o ho) : Sta K Z ι (μ.set n o) (upd H a ho) ∧ Ext Z ι H Z ι (upd H a ho) := by
  have hz : a ∈ Z := s.sub a (List.mem_of_getElem? h)
  have ms : Same (mask H Z) (mask (upd H a ho) Z) := fun b u e => by
    obtain ⟨n1, e1⟩ := of_mask e
    exact mask_in n1 ((upd_ne fun q => n1 (by rw [q]; exact hz)).trans e1) (mask_nt e)
  have hl0 : n < μ.length := by rw [← s.len]; exact (List.getElem?_eq_some_iff.mp h).1
  obtain ⟨o0, ho0⟩ : ∃ o0, μ[n]? = some o0 := ⟨μ[n], by simp [hl0]⟩
  obtain ⟨h0, e0, r0⟩ := s.obj n a o0 h ho0
  refine ⟨⟨s.sub, s.nd, by rw [List.length_set]; exact s.len, fun b hb => ?_, tabs_upd s.tab e0 (fun ps z => ?_) (fun c q z => ?_), fun k b o' h1 h2 => ?_⟩, ⟨s.sub, fun _ h => h, fun _ _ h => h, fun b u nb _ e => (upd_ne fun q => nb (by rw [q]; exact List.mem_of_getElem? h)).trans e, fun b ps e => ⟨ps, (upd_ne fun q => ?_).trans e⟩, fun _ h => .inl h, fun _ h => .inl h⟩⟩
  · by_cases q : b = a
    · rw [q]; exact ⟨ho, upd_same⟩
    · obtain ⟨u, e⟩ := s.trk b hb; exact ⟨u, (upd_ne q).trans e⟩
  · have := r0.nt; rw [z] at this; exact this
  · rw [z] at r0; cases r0
  rotate_left
  · rw [q, e0] at e; cases e; exact r0.nt
  · by_cases hk : k = n
    · subst hk
      rw [h] at h1; cases h1
      have hl : k < μ.length := by rw [← s.len]; exact (List.getElem?_eq_some_iff.mp h).1
      rw [List.getElem?_set_self hl] at h2
      cases h2
      exact ⟨ho, upd_same, r.mono ms (fun _ _ h => h)⟩
    · rw [List.getElem?_set_ne (Ne.symm hk)] at h2
      obtain ⟨hb, h3, h4⟩ := s.obj k b o' h1 h2
      refine ⟨hb, (upd_ne fun q => hk ?_).trans h3, h4.mono ms (fun _ _ h => h)⟩
      subst q
      exact nodup_at s.nd h1 h
/-- a method that changes a list: by its items and the arguments the answer and the items behind it -/
abbrev Mut1 := List D → List D → Option (D × List D)
def MutOk (K : PySem.W.Frag) (r : V → List V → Hp → VK → Prop) (f : Mut1) : Prop := ∀ (Z : List Addr) (H : Hp) (l : Addr) (vs : List V) (xs as : List D) (ws : List V) (ret : D) (xs' : List D) (Q : VK), Trk Z H → H l = some (.lst vs) → DRs K (mask H Z) xs vs → DRs K (mask H Z) as ws →
  f xs as = some (ret, xs') → (∀ vs' x, DRs K (mask H Z) xs' vs' → DR K (mask H Z) ret x → Q x (upd H l (.lst vs'))) → r (.ref l) ws H Q
def isLst (μ : List MO) (n : Nat) : Bool := match μ[n]? with
  | some (.lst _) => true
  | _ => false
def mutL (f : Mut1) (n : Nat) (as : List MV) (μ : List MO) : Res MV := match datas as with
  | some ds => match μ[n]? with
    | some (.lst xs) => match f xs ds with
      | some (ret, xs') => .ok (.d ret) (μ.set n (.lst xs'))
      | none => .bad
    | _ => .bad
  | none => .bad
def mMut (f : Mut1) (ma : ME) (ms : MA) : ME := fun ρ μ => (ma ρ μ).bind fun v μ1 => match v with
  | .ref n => if isLst μ1 n = true then (ms ρ μ1).bind fun as μ2 => mutL f n as μ2 else .bad
  | .d _ => .bad
section
variable {X : Cx} {W : WX} {o e : Expr} {es : List Expr} {name : Str} {apos cpos : Pos} {id : String} {r : V → List V → Hp → VK → Prop} {f : Mut1} {ma : ME} {ms : MA}
theorem mutL_ok {K : PySem.W.Frag} {Z ι : List Addr} {μ : List MO} {H : Hp} {σ : St} {a : Addr} {n : Nat} {as : List MV} {ws : List V} {Q : VK} (hf : MutOk K r f) (s : Sta K Z ι μ H) (ha : ι[n]? = some a) (rw' : RMs K (mask H Z) ι as ws) (o : Out K W σ Z ι H (mutL f n as μ) (Val K Q)) : r (.ref a) ws H Q := by
  unfold mutL at o
  split at o
  · rename_i ds hd
    split at o
    · rename_i xs hx
      split at o
      · rename_i ret xs' hf2
        obtain ⟨ho, h1, h2⟩ := s.obj n a _ ha hx
        cases h2 with
        | lst d =>
          refine hf Z H a _ xs ds ws ret xs' Q s.trk h1 d (datas_ok rw' hd) hf2 fun vs' x d' dx => ?_
          obtain ⟨s2, x2⟩ := s.put ha (.lst d')
          exact o Z ι _ x2 s2 x (.d (DR.mono x2.same _ _ dx))
      · exact o.elim
    · exact o.elim
  · exact o.elim
theorem lst_ty {K : PySem.W.Frag} {Z ι : List Addr} {μ : List MO} {H : Hp} {a : Addr} {n : Nat} (s : Sta K Z ι μ H) (ha : ι[n]? = some a) (hl : isLst μ n = true) : tyV K "list" (.ref a) H := by
  unfold isLst at hl
  split at hl
  · rename_i xs hx
    obtain ⟨ho, h1, h2⟩ := s.obj n a _ ha hx
    cases h2 with | lst d => exact .inl ⟨rfl, _, SqL.of h1⟩
  · cases hl
theorem fe_mut (pa : PlainAttrs "list") (slot : Slot "list" name id) (hty : typeOf (.builtin id) = pure (.type "method_descriptor")) (hm : MtM X id r) (hf : MutOk X.K r f) (ho : FE X W o ma) (ha : FA X W (e :: es) ms)
    (hbase : attributeBase o name X.env (eval o X.env) = eval o X.env := by rfl)
    (hfew : ((backTo cpos (starEach (e :: es) X.env)).all (fun x => !x.1) && (backToKw cpos (keywordEach [] X.env)).all (fun x => x.1.isSome)
      && decide ((e :: es).length + ([] : List Keyword).length + (if ([] : List Keyword).isEmpty then 0 else 1) < 30)) = true := by rfl)
    (hline : (apos.endLine == cpos.line) = true := by rfl) (hs : starEach (e :: es) X.env = (false, eval e X.env) :: starEach es X.env := by rfl) (hplain : (backTo cpos (starEach es X.env)).any (·.1) = false := by rfl) :
    FE X W (.Call (.Attribute o name apos) (e :: es) [] cpos) (mMut f ma ms) := by
  refine pe_imp (pe_bm pa slot hty hm ho ha hbase hfew hline hs hplain) fun σ H Q ⟨Z, ι, ρ, μ, R, o⟩ => ?_
  refine tM_bind R o fun v μ' Z' ι' H' x x1 R1 r1 o1 => ?_
  cases r1 with
  | d r1 => exact o1.elim
  | ref r1 =>
    simp only at o1
    split at o1
    · rename_i hl
      refine ⟨lst_ty R1.sta r1 hl, tMA_bind R1 o1 fun v2 μ2 Z2 ι2 H2 x2 x2' R2 r2 o2 => ?_⟩
      exact mutL_ok hf R2.sta (x2'.i _ _ r1) r2 o2
    · exact o1.elim
theorem fe_mut0 (pa : PlainAttrs "list") (slot : Slot "list" name id) (hty : typeOf (.builtin id) = pure (.type "method_descriptor")) (hm : MtM X id r) (hf : MutOk X.K r f) (ho : FE X W o ma)
    (hbase : attributeBase o name X.env (eval o X.env) = eval o X.env := by rfl) (hline : (apos.endLine == cpos.line) = true := by rfl) : FE X W (.Call (.Attribute o name apos) [] [] cpos) (mMut f ma mNil) := by
  refine pe_imp (pe_bm0 pa slot hty hm ho hbase hline) fun σ H Q ⟨Z, ι, ρ, μ, R, o⟩ => ?_
  refine tM_bind R o fun v μ' Z' ι' H' x x1 R1 r1 o1 => ?_
  cases r1 with
  | d r1 => exact o1.elim
  | ref r1 =>
    simp only at o1
    split at o1
    · rename_i hl
      exact ⟨lst_ty R1.sta r1 hl, mutL_ok hf R1.sta r1 .nil o1⟩
    · exact o1.elim
end
section
variable {K : PySem.W.Frag}
def apD : Mut1 := fun xs as => match as with
  | [y] => if xs.length < sizeLine then some (.non, xs ++ [y]) else none
  | _ => none
theorem m_append : MutOk K rAppend apD := fun Z H l vs xs as ws ret xs' Q t h d da e q => by
  unfold apD at e
  split at e
  · split at e
    · rename_i hl
      cases e
      cases da with | cons da r => cases r; exact ⟨l, vs, _, rfl, rfl, h, by rw [← d.len]; exact hl, q _ _ (DRs.append (.cons da .nil) d) .non⟩
    · cases e
  · cases e
theorem DRs.dropLast {F : Hp} : ∀ {xs : List D} {vs : List V}, DRs K F xs vs → DRs K F xs.dropLast vs.dropLast
  | _, _, .nil => .nil
  | _, _, .cons a .nil => .nil
  | _, _, .cons a (.cons b c) => .cons a (DRs.dropLast (.cons b c))
theorem DRs.erase {F : Hp} : ∀ {xs : List D} {vs : List V}, DRs K F xs vs → ∀ k, DRs K F (xs.eraseIdx k) (vs.eraseIdx k)
  | _, _, .nil, _ => .nil
  | _, _, .cons a b, 0 => b
  | _, _, .cons a b, k + 1 => .cons a (DRs.erase b k)
theorem DRs.setL {F : Hp} {d : D} {v : V} (r : DR K F d v) : ∀ {xs : List D} {vs : List V}, DRs K F xs vs → ∀ k, DRs K F (xs.set k d) (vs.set k v)
  | _, _, .nil, _ => .nil
  | _, _, .cons a b, 0 => .cons r b
  | _, _, .cons a b, k + 1 => .cons a (DRs.setL r b k)
theorem DRs.take {F : Hp} : ∀ {xs : List D} {vs : List V}, DRs K F xs vs → ∀ k, DRs K F (xs.take k) (vs.take k)
  | _, _, .nil, k => by simp; exact .nil
  | _, _, .cons a b, 0 => .nil
  | _, _, .cons a b, k + 1 => .cons a (DRs.take b k)
theorem DRs.drop {F : Hp} : ∀ {xs : List D} {vs : List V}, DRs K F xs vs → ∀ k, DRs K F (xs.drop k) (vs.drop k)
  | _, _, .nil, k => by simp; exact .nil
  | _, _, .cons a b, 0 => .cons a b
  | _, _, .cons a b, k + 1 => DRs.drop b k
theorem DRs.rev {F : Hp} : ∀ {xs : List D} {vs : List V}, DRs K F xs vs → DRs K F xs.reverse vs.reverse
  | _, _, .nil => .nil
  | _, _, .cons a b => by rw [List.reverse_cons, List.reverse_cons]; exact DRs.append (.cons a .nil) (DRs.rev b)
def popD : Mut1 := fun xs as => match as with
  | [] => match xs[xs.length - 1]? with
    | some y => some (y, xs.dropLast)
    | none => none
  | _ => none
theorem m_pop : MutOk K rPop popD := fun Z H l vs xs as ws ret xs' Q t h d da e q => by
  unfold popD at e
  split at e
  · split at e
    · rename_i y hy
      cases e
      cases da
      obtain ⟨v, h1, h2⟩ := d.get hy
      exact ⟨l, vs, v, rfl, rfl, h, by rw [← d.len]; exact h1, q _ _ d.dropLast h2⟩
    · cases e
  · cases e
def popAt : Mut1 := fun xs as => match as with
  | [.int i] => if -(2 ^ 63) ≤ i ∧ i < 2 ^ 63 then (match seqIndex? i xs.length with
    | some k => match xs[k]? with
      | some y => some (y, xs.eraseIdx k)
      | none => none
    | none => none) else none
  | _ => none
theorem m_popAt : MutOk K rPopAt popAt := fun Z H l vs xs as ws ret xs' Q t h d da e q => by
  unfold popAt at e
  split at e
  · rename_i i
    split at e
    · rename_i hb
      split at e
      · rename_i k hk
        split at e
        · rename_i y hy
          cases e
          obtain ⟨v, h1, h2⟩ := d.get hy
          cases da with | cons da r => cases r; cases da; exact ⟨l, vs, i, k, v, rfl, rfl, h, hb.1, hb.2, by rw [← d.len]; exact hk, h1, q _ _ (d.erase k) h2⟩
        · cases e
      · cases e
    · cases e
  · cases e
def extD : Mut1 := fun xs as => match as with
  | [.lst ys] => if xs.length + ys.length ≤ sizeLine then some (.non, xs ++ ys) else none
  | _ => none
theorem m_extend : MutOk K rExtend extD := fun Z H l vs xs as ws ret xs' Q t h d da e q => by
  unfold extD at e
  split at e
  · rename_i ys
    split at e
    · rename_i hl
      cases e
      cases da with | cons da r =>
        cases r
        cases da with | lst h1 h2 => exact ⟨l, _, vs, _, rfl, rfl, h, mask_same _ _ _ _ h1, by rw [← d.len, ← h2.len]; exact hl, q _ _ (DRs.append h2 d) .non⟩
    · cases e
  · cases e
def clearD : Mut1 := fun xs as => match as with
  | [] => some (.non, [])
  | _ => none
theorem m_clear : MutOk K rClear clearD := fun Z H l vs xs as ws ret xs' Q t h d da e q => by
  unfold clearD at e
  split at e
  · cases e; cases da; exact ⟨l, vs, rfl, rfl, h, q _ _ .nil .non⟩
  · cases e
end
/-! xs[i] = e -/
def putL (o i v : MV) (μ : List MO) : Option (List MO) := match o, i, v with
  | .ref n, .d (.int k), .d x => match μ[n]? with
    | some (.lst xs) => match ixN xs.length k with
      | some j => some (μ.set n (.lst (xs.set j x)))
      | none => none
    | _ => none
  | _, _, _ => none
def mSetIx (mv mo mi : ME) : MS := fun ρ μ => (mv ρ μ).stm ρ fun v μ1 => (mo ρ μ1).stm ρ fun o μ2 => (mi ρ μ2).stm ρ fun i μ3 => match putL o i v μ3 with
  | some μ4 => .nx ρ μ4
  | none => .bad
section
variable {X : Cx} {W : WX} {o i e : Expr} {pos p2 : Pos} {mv mo mi : ME}
theorem fs_setix (he : FE X W e mv) (ho : FE X W o mo) (hi : FE X W i mi)
    (ha : ∀ v, assign (.Subscript o i p2) X.env v = (do
      let ov ← holding [v] (eval o X.env)
      let iv ← holding [v, ov] (eval i X.env)
      standAt p2
      holding [v, ov, iv] (setItem ov iv v)
      release [v, ov, iv] []) := by intro _; rfl)
    (hs : swapsWithSole [.Subscript o i p2] e pos.line X.env = pure false := by rfl) (hw : swappedStores [.Subscript o i p2] e X.env = pure none := by rfl)
    (h1 : (assignEach [.Subscript o i p2] X.env).map (·.2) = [assign (.Subscript o i p2) X.env] := by rfl) : FS X W (.Assign [.Subscript o i p2] e pos) (mSetIx mv mo mi) := by
  refine ps_imp (ps_asg he (pg_sub ho hi set_list ha) hs hw h1) fun E σ H ⟨Z, ι, ρ, μ, R, o⟩ => tM_stm R o fun v μ' Z' ι' H' x x1 R1 r1 o1 => ?_
  refine tM_stm R1 o1 fun v2 μ2 Z2 ι2 H2 y x2 R2 r2 o2 => tM_stm R2 o2 fun v3 μ3 Z3 ι3 H3 z x3 R3 r3 o3 => ?_
  split at o3
  · rename_i μ4 hp
    unfold putL at hp
    split at hp
    · rename_i n k d
      split at hp
      · rename_i xs hx
        split at hp
        · rename_i j hj
          cases hp
          have r2' := r2.mono x3.same x3.i
          cases r2' with | ref r2' =>
            cases r3 with | d r3 => cases r3 with | int =>
              have r1' := (r1.mono x2.same x2.i).mono x3.same x3.i
              cases r1' with | d r1' =>
                obtain ⟨ho, h3, h4⟩ := R3.sta.obj n _ _ r2' hx
                cases h4 with | lst dl =>
                  obtain ⟨s4, x4⟩ := R3.sta.put r2' (.lst (DRs.setL r1' dl j))
                  exact ⟨_, _, k, j, rfl, rfl, h3, by rw [← dl.len]; exact hj, o3 Z3 ι3 _ σ x4 (R3.ext x4 s4)⟩
        · cases hp
      · cases hp
    · cases hp
  · exact o3.elim
end
/-! slices -/
abbrev MP := En → List MO → Res (Option Int)
def tMP (K : PySem.W.Frag) (W : WX) (m : MP) : TO := fun σ H Q => ∃ Z ι ρ μ, Rel K Z ι ρ μ σ H ∧ Out K W σ Z ι H (m ρ μ) (fun i _ _ H' => Q i H')
abbrev FP (X : Cx) (W : WX) (e : Option Expr) (m : MP) : Prop := PO X e (tMP X.K W m)
def pNone : MP := fun _ μ => .ok none μ
def pSome (ma : ME) : MP := fun ρ μ => (ma ρ μ).bind fun v μ1 => match v with
  | .d (.int i) => .ok (some i) μ1
  | _ => .bad
section
variable {X : Cx} {W : WX} {e : Expr} {lo hi : Option Expr} {pos p2 : Pos} {ma : ME} {ml mh : MP}
theorem po_imp {e : Option Expr} {t t' : TO} (h : PO X e t) (i : ∀ σ H Q, t' σ H Q → t σ H Q) : PO X e t' := ⟨fun pins s σ H Q I w => h.run pins s σ H Q I (i σ H Q w)⟩
theorem fp_none : FP X W none pNone := po_imp po_none fun σ H Q ⟨Z, ι, ρ, μ, R, o⟩ => o Z ι H (Ext.refl R.sta.sub) R.sta
theorem fp_some (h : FE X W e ma) : FP X W (some e) (pSome ma) := by
  refine po_imp (po_some h) fun σ H Q ⟨Z, ι, ρ, μ, R, o⟩ => tM_bind R o fun v μ' Z' ι' H' x x1 R1 r1 o1 => ?_
  cases r1 with
  | ref r => exact o1.elim
  | d r => cases r with
    | int i => exact ⟨i, rfl, o1 Z' ι' H' (Ext.refl R1.sta.sub) R1.sta⟩
    | _ => exact o1.elim
theorem tMP_bind {K : PySem.W.Frag} {σ : St} {Z ι : List Addr} {ρ : En} {μ : List MO} {H : Hp} {β : Type} {m : MP} {k : Option Int → List MO → Res β} {P : β → List Addr → List Addr → Hp → Prop} {Q : Option Int → Hp → Prop} (R : Rel K Z ι ρ μ σ H) (o : Out K W σ Z ι H ((m ρ μ).bind k) P)
    (h : ∀ v μ' Z' ι' H', Ext Z ι H Z' ι' H' → Rel K Z' ι' ρ μ' σ H' → Out K W σ Z' ι' H' (k v μ') P → Q v H') : tMP K W m σ H Q := by
  refine ⟨Z, ι, ρ, μ, R, ?_⟩
  cases e : m ρ μ with
  | ok v μ' =>
    rw [e] at o
    exact fun Z2 ι2 H2 x2 s2 => h v μ' Z2 ι2 H2 x2 (R.ext x2 s2) (Out.base o x2)
  | exc C fs μ' => rw [e] at o; exact o
  | bad => rw [e] at o; exact o
def cutD (xs : List D) (lo hi : Option Int) : List D := (xs.drop (HT.sIx xs.length 0 lo)).take (HT.sIx xs.length xs.length hi - HT.sIx xs.length 0 lo)
theorem DRs.cut {K : PySem.W.Frag} {F : Hp} {xs : List D} {vs : List V} (h : DRs K F xs vs) (lo hi : Option Int) : DRs K F (cutD xs lo hi) (cutV vs lo hi) := by
  unfold cutD cutV
  rw [h.len]
  exact (h.drop _).take _
def sliceD (d : D) (lo hi : Option Int) : Option D := match d with
  | .lst xs => some (.lst (cutD xs lo hi))
  | .fl xs => some (.lst (cutD xs lo hi))
  | .tup xs => some (.tup (cutD xs lo hi))
  | .str z => if z.length ≤ sizeLine then some (.str (cutS z lo hi)) else none
  | _ => none
def mSlice (ma : ME) (ml mh : MP) : ME := fun ρ μ => (ma ρ μ).bind fun v μ1 => (ml ρ μ1).bind fun l μ2 => (mh ρ μ2).bind fun h μ3 => op1 (fun d => sliceD d l h) v μ3
abbrev rSlX (K : PySem.W.Frag) : V → Option Int → Option Int → Hp → VK → Prop := fun x lo hi H Q => rSlL K x lo hi H Q ∨ rSlA K x lo hi H Q ∨ rSlS x lo hi H Q
theorem u_slice {K : PySem.W.Frag} (lo hi : Option Int) : UnD K (fun x H Q => rSlX K x lo hi H Q) (fun d => sliceD d lo hi) := fun Z H a c x Q t ha eq q => by
  have newL : ∀ {vs : List V} {ys : List D}, DRs K (mask H Z) ys vs → c = .lst (cutD ys lo hi) → ∀ l, H l = none → Q (.ref l) (upd H l (.lst (cutV vs lo hi))) := fun r e l hl => by
    obtain ⟨s, r⟩ := new_lst t hl (r.cut lo hi)
    exact q _ _ s (by rw [e]; exact r)
  cases a with
  | lst xs => cases eq; obtain ⟨p, vs, rfl, h1, r1⟩ := ha.list; exact .inl ⟨p, vs, rfl, SqL.of h1, newL r1 rfl⟩
  | fl xs => cases eq; obtain ⟨p, vs, rfl, h1, r1⟩ := ha.flist; exact .inl ⟨p, vs, rfl, h1, newL r1 rfl⟩
  | tup xs =>
    cases eq
    have hr := ha.tupR
    obtain ⟨p, vs, rfl, h1, r1⟩ := ha.tup
    refine .inr (.inl ⟨p, vs, rfl, SqT.of h1, fun hw => ?_, fun _ l hl => ?_⟩)
    · have e : cutD xs lo hi = xs := by
        unfold cutD
        rw [r1.len, hw.1, hw.2, List.drop_zero, Nat.sub_zero, ← r1.len, List.take_length]
      rw [e] at q
      exact same_ok q hr
    · obtain ⟨s, r⟩ := new_tup t hl (r1.cut lo hi)
      exact q _ _ s r
  | str z =>
    simp only [sliceD] at eq
    split at eq
    · rename_i hz; cases eq; exact .inr (.inr ⟨z, ha.str, hz, same_ok q (.str _)⟩)
    · cases eq
  | _ => cases eq
theorem fe_slice (he : FE X W e ma) (hl : FP X W lo ml) (hh : FP X W hi mh) : FE X W (.Subscript e (.Slice lo hi none p2) pos) (mSlice ma ml mh) := by
  refine pe_imp (pe_slice (sl_list.or (sl_tupA.or sl_str)) he hl hh) fun σ H Q ⟨Z, ι, ρ, μ, R, o⟩ => ?_
  exact tM_bind R o fun v μ1 Z1 ι1 H1 x x1 R1 r1 o1 => tMP_bind R1 o1 fun l μ2 Z2 ι2 H2 x2 R2 o2 => tMP_bind R2 o2 fun h μ3 Z3 ι3 H3 x3 R3 o3 =>
    op1_ok (u_slice l h) R3.sta ((r1.mono x2.same x2.i).mono x3.same x3.i) o3
/-- a list's slice as a new list -/
def mSliceL (ma : ME) (ml mh : MP) : ML := fun ρ μ => (ma ρ μ).bind fun v μ1 => (ml ρ μ1).bind fun l μ2 => (mh ρ μ2).bind fun h μ3 => match view μ3 v with
  | some (.lst xs) => .ok (cutD xs l h) μ3
  | some (.fl xs) => .ok (cutD xs l h) μ3
  | _ => .bad
theorem fl_slice (he : FE X W e ma) (hl : FP X W lo ml) (hh : FP X W hi mh) : FL X W (.Subscript e (.Slice lo hi none p2) pos) (mSliceL ma ml mh) := by
  refine pe_imp (pe_slice sl_list he hl hh) fun σ H Q ⟨Z, ι, ρ, μ, R, o⟩ => ⟨Z, ι, ρ, μ, R, ?_⟩
  unfold mSliceL at o
  cases q : ma ρ μ with
  | exc C fs μ' => rw [q] at o; exact o
  | bad => rw [q] at o; exact o
  | ok v μ1 =>
    rw [q] at o
    intro Z1 ι1 H1 x1 s1 x rx
    have R1 := R.ext x1 s1
    refine ⟨Z1, ι1, ρ, μ1, R1, ?_⟩
    simp only [Res.bind_ok] at o
    cases q2 : ml ρ μ1 with
    | exc C fs μ' => rw [q2] at o; exact fun Z2 ι2 H2 d fs' x2 s2 => o Z2 ι2 H2 d fs' (x1.trans x2) s2
    | bad => rw [q2] at o; exact o
    | ok l μ2 =>
      rw [q2] at o
      intro Z2 ι2 H2 x2 s2
      have R2 := R1.ext x2 s2
      refine ⟨Z2, ι2, ρ, μ2, R2, ?_⟩
      simp only [Res.bind_ok] at o
      cases q3 : mh ρ μ2 with
      | exc C fs μ' => rw [q3] at o; exact fun Z3 ι3 H3 d fs' x3 s3 => o Z3 ι3 H3 d fs' ((x1.trans x2).trans x3) s3
      | bad => rw [q3] at o; exact o
      | ok h μ3 =>
        rw [q3] at o
        intro Z3 ι3 H3 x3 s3
        simp only [Res.bind_ok] at o
        have rx3 := (rx.mono x2.same x2.i).mono x3.same x3.i
        split at o
        · rename_i xs hx
          obtain ⟨p, vs, rfl, h1, r1⟩ := (view_ok s3 rx3 hx).list
          exact ⟨p, vs, rfl, SqL.of h1, fun p hp => fr_new ((x1.trans x2).trans x3) s3 (r1.cut l h) o hp⟩
        · rename_i xs hx
          obtain ⟨p, vs, rfl, h1, r1⟩ := (view_ok s3 rx3 hx).flist
          exact ⟨p, vs, rfl, h1, fun p hp => fr_new ((x1.trans x2).trans x3) s3 (r1.cut l h) o hp⟩
        · exact o.elim
/-- xs[::-1] -/
def revD : D → Option D
  | .lst xs => some (.lst xs.reverse)
  | _ => none
theorem fe_rev {k : Nat} {p1 p2 p3 : Pos} (he : FE X W e ma) : FE X W (.Subscript e (.Slice none none (some (.UnaryOp .USub (.Constant (.int 1) k p1) p2)) p3) pos) (mUn revD ma) := by
  refine pe_imp (pe_revL he) fun σ H Q ⟨Z, ι, ρ, μ, R, o⟩ => tM_bind R o fun v μ' Z' ι' H' x x1 R1 r1 o1 => ?_
  refine op1_ok (r := fun x H1 Q => ∃ a xs, x = .ref a ∧ SqL X.K H1 a xs ∧ ∀ p, H1 p = none → Q (.ref p) (upd H1 p (.lst xs.reverse))) (fun Z H a c x Q t ha eq q => ?_) R1.sta r1 o1
  cases a with
  | lst xs =>
    cases eq
    obtain ⟨p, vs, rfl, h1, r1⟩ := ha.list
    refine ⟨p, vs, rfl, SqL.of h1, fun l hl => ?_⟩
    obtain ⟨s, r⟩ := new_lst t hl r1.rev
    exact q _ _ s r
  | _ => cases eq
/-! chains of comparisons -/
theorem chain_ok {K : PySem.W.Frag} {σ : St} {Z ι : List Addr} {ρ : En} {μ : List MO} {H : Hp} {g g' : D → D → Option D} {ma mb mc : ME} {r r' : R2} {Q : VK} (hg : OpD K r g) (hg' : OpD K r' g') (R : Rel K Z ι ρ μ σ H) (o : Out K W σ Z ι H (mChain g g' ma mb mc ρ μ) (Val K Q)) :
    tChain r r' (tM K W ma) (tM K W mb) (tM K W mc) σ H Q := by
  refine tM_bind R o fun v μ1 Z1 ι1 H1 x x1 R1 r1 o1 => tM_bind R1 o1 fun w μ2 Z2 ι2 H2 y x2 R2 r2 o2 => ?_
  have r1' := r1.mono x2.same x2.i
  unfold op2 at o2
  split at o2
  · rename_i d hd
    split at o2
    · rename_i e he
      split at o2
      · rename_i z hz
        refine hg Z2 H2 d e z x y _ R2.sta.trk (view_ok R2.sta r1' hd) (view_ok R2.sta r2 he) hz fun H3 u sm du => ?_
        obtain ⟨s3, x3⟩ := R2.sta.grow sm
        have R3 := R2.ext x3 s3
        have o3 := Out.base o2 x3
        simp only [Res.bind_ok] at o3
        cases du with
        | bl k =>
          refine ⟨k, rfl, ?_⟩
          cases k with
          | false => exact Out.ret R3.sta o3 (.d (.bl false))
          | true =>
            exact tM_bind R3 o3 fun c μ4 Z4 ι4 H4 w4 x4 R4 r4 o4 => op2_ok hg' R4.sta ((r2.mono x3.same x3.i).mono x4.same x4.i) r4 o4
        | _ => exact o3.elim
      · exact o2.elim
    · exact o2.elim
  · exact o2.elim
theorem fe_chain {op op' : CmpOp} {r r' : R2} {g g' : D → D → Option D} {a b c : Expr} {ma mb mc : ME} (ho : OpR X (compareOp op) r) (hg : OpD X.K r g) (ho' : OpR X (compareOp op') r') (hg' : OpD X.K r' g') (ha : FE X W a ma) (hb : FE X W b mb) (hc : FE X W c mc)
    (hm : lastMarks [op, op'] [b, c] = false := by with_unfolding_all rfl) : FE X W (.Compare a [op, op'] [b, c] pos) (mChain g g' ma mb mc) :=
  pe_imp (pe_chain ho ho' ha hb hc hm) fun σ H Q ⟨Z, ι, ρ, μ, R, o⟩ => chain_ok hg hg' R o
theorem ft_chain {op op' : CmpOp} {r r' : R2} {g g' : D → D → Option D} {a b c : Expr} {ma mb mc : ME} (ho : OpR X (compareOp op) r) (hg : OpD X.K r g) (ho' : OpR X (compareOp op') r') (hg' : OpD X.K r' g') (ha : FE X W a ma) (hb : FE X W b mb) (hc : FE X W c mc)
    (hm : lastMarks [op, op'] [b, c] = false := by with_unfolding_all rfl) : FT X W (.Compare a [op, op'] [b, c] pos) (mB (mChain g g' ma mb mc)) := by
  refine pt_imp (pt_chain ho ho' ha hb hc hm) fun σ H Q ⟨Z, ι, ρ, μ, R, o⟩ => chain_ok hg hg' R ?_
  unfold mB at o
  cases q : mChain g g' ma mb mc ρ μ with
  | exc C fs μ' => rw [q] at o; exact o
  | bad => rw [q] at o; exact o
  | ok v μ' =>
    rw [q] at o
    intro Z1 ι1 H1 x1 s1 x rx
    exact bool_rule s1 rx (Out.base o x1)
end
end TT

namespace TT
open PySem L2
variable [TB]
section
variable {X : Cx} {W : WX}
theorem mv (i : Nat) {x : Str} {pos : Pos} (hN : X.N[i]? = some x := by rfl) (hv : Vis X.env.scope x := by first | exact Or.inl rfl | exact Or.inr (Or.inl rfl) | exact Or.inr (Or.inr rfl)) (hd : (x == ("__debug__" : Str)) = false := by decide)
    (hcd : (x == ("__classdict__" : Str)) = false := by decide) : FE X W (.Name x pos) (mVar i) := fe_var hN hv hd hcd
theorem fe_gint {x : Str} {pos : Pos} {i : Int} (h : ∃ t, X.mg x = some (.int i t)) (hg : Gl X x := by rfl) (hd : (x == ("__debug__" : Str)) = false := by decide) : FE X W (.Name x pos) (mC (.int i)) := by
  obtain ⟨t, h⟩ := h
  exact fe_c (pe_glob (v := .int i) hg h ⟨t, rfl⟩ hd) fun _ => .int i
theorem fe_gstr {x : Str} {pos : Pos} {i : Str} (h : ∃ t, X.mg x = some (.str i t)) (hg : Gl X x := by rfl) (hd : (x == ("__debug__" : Str)) = false := by decide) : FE X W (.Name x pos) (mC (.str i)) := by
  obtain ⟨t, h⟩ := h
  exact fe_c (pe_glob (v := .str i) hg h ⟨t, rfl⟩ hd) fun _ => .str i
theorem fe_gfn {x : Str} {pos : Pos} {a : Addr} (h : X.mg x = some (.ref a)) (hg : Gl X x := by rfl) (hd : (x == ("__debug__" : Str)) = false := by decide) : FE X W (.Name x pos) (mC (.gl a)) :=
  fe_c (pe_glob (v := .ref a) hg h rfl hd) fun _ => .gl a
theorem fe_ty {x : Str} {pos : Pos} {n : String} (h : X.mg x = none) (hv : bootBuiltins x = some (.type n)) (hg : Gl X x := by rfl) (hn : x ≠ "__name__" := by decide) (hd : (x == ("__debug__" : Str)) = false := by decide) : FE X W (.Name x pos) (mC (.ty n)) :=
  fe_c (pe_bltn (v := .ty n) hg h hv rfl hn hd) fun _ => .ty n
end
theorem d_ipadd {K : PySem.W.Frag} : OpD K (ipI fun i j => i + j) addI := fun Z H a b c x y Q t ha hb eq q => by
  unfold addI intOp at eq
  split at eq
  · rename_i i j; cases eq; exact ⟨i, j, ha.int, hb.int, same_ok q (.int _)⟩
  · cases eq
theorem d_ipsub {K : PySem.W.Frag} : OpD K (ipI fun i j => i - j) subD := fun Z H a b c x y Q t ha hb eq q => by
  unfold subD intOp at eq
  split at eq
  · rename_i i j; cases eq; exact ⟨i, j, ha.int, hb.int, same_ok q (.int _)⟩
  · cases eq
/-- how many turns a while may make -/
def fuelW : Nat := 1000000
theorem CalG.mono {CX : CXT} {P : Program} {w : World} {K : PySem.W.Frag} {mg : Str → Option Value} {base : Heap} {j k : Nat} {x : Str} {sp : Sp} (c : CalG CX P w K mg base j x sp) (h : j ≤ k) : CalG CX P w K mg base k x sp := by
  obtain ⟨f, G, hm, kp⟩ := c.ex
  exact ⟨f, fun A outer s H us vs Q E hr hg => G A outer s H us vs Q E (hr.mono h) hg, hm, kp⟩
end TT

namespace TT
open PySem L2
variable [TB]
/-! try with clauses of both kinds: except X and except X as n -/
abbrev Cl := Value × Option Nat × (Addr → Value → Option Addr → TS)
/-- where a clause's own name goes behind its suite -/
def offI (i : Option Nat) (τ : St) : St := match i with
  | some j => τ.set j none
  | none => τ
def offE (i : Option Nat) (E : Ends) : Ends := { nx := fun τ G => E.nx (offI i τ) G, rt := E.rt, bk := fun τ G => E.bk (offI i τ) G, ct := fun τ G => E.ct (offI i τ) G }
def onI (i : Option Nat) (a : Addr) (τ : St) : St := match i with
  | some j => τ.set j (some (.ref a))
  | none => τ
def wMix (K : PySem.W.Frag) (Wo : WX) (E : Ends) : List Cl → WX
  | [] => Wo
  | (c, i, ts) :: r => fun cls d τ G => ∃ b, PySem.W.exmOne K cls c = some b ∧ (b = true → ∀ a, G a = none → ts a cls d (offE i E) (onI i a τ) G) ∧ (b = false → wMix K Wo E r cls d τ G)
inductive ClsOk (X : Cx) : List ExceptHandler → List Cl → Prop
  | nil : ClsOk X [] []
  | plain {x : Str} {c : Value} {ts : Addr → Value → Option Addr → TS} {st : Stmt} {sts : List Stmt} {np hp : Pos} {hs : List ExceptHandler} {l : List Cl} (hc : Names X x c)
      (su : ∀ (a : Addr) (oe : Obj) (cls : Value) (d : Option Addr) (pn : List (Addr × Obj)), Zc cls d oe → (∃ vs, oe.data = .fields vs) → PSs (X.suite a ((a, oe) :: pn)) (st :: sts) (ts a cls d)) (r : ClsOk X hs l) :
      ClsOk X (.ExceptHandler (some (.Name x np)) none (st :: sts) hp :: hs) ((c, none, ts) :: l)
  | named {x n : Str} {i : Nat} {c : Value} {ts : Addr → Value → Option Addr → TS} {st : Stmt} {sts : List Stmt} {np hp : Pos} {hs : List ExceptHandler} {l : List Cl} (hc : Names X x c) (hi : X.N[i]? = some n) (hl : X.env.kindOf n = some .local)
      (su : ∀ (a : Addr) (oe : Obj) (cls : Value) (d : Option Addr) (pn : List (Addr × Obj)), Zc cls d oe → (∃ vs, oe.data = .fields vs) → PSs (X.suite a ((a, oe) :: pn)) (st :: sts) (ts a cls d)) (r : ClsOk X hs l) :
      ClsOk X (.ExceptHandler (some (.Name x np)) (some n) (st :: sts) hp :: hs) ((c, some i, ts) :: l)
section
variable {X : Cx} {body : List Stmt} {h0 : ExceptHandler} {hs : List ExceptHandler} {l : List Cl} {pos : Pos} {tb : WX → TS} {Wo : WX}
theorem ps_tryM (es : X.stack = X.env :: X.outer) (ef : X.env.frame = some X.env.locals) (hN : X.N.Nodup) (tk : Takes X Wo)
    (hb : ∀ (W : WX) (pn : List (Addr × Obj)) (xe : Value → Shared → Prop), Takes (X.tr pn xe) W → PassesOwn (model X.prog X.w) X.A X.env xe → PSs (X.tr pn xe) body (tb W))
    (ho : ClsOk X (h0 :: hs) l) : PS X (.Try body (h0 :: hs) [] [] pos) (fun E τ G => tb (wMix X.K Wo E l) E τ G) := by
  refine ⟨fun pins s τ G E I hw => ?_⟩
  have iok := I.ok
  have hfr : X.A.frames = some (X.env :: X.outer) := iok.frames.trans (congrArg some es)
  refine wpAny_Try_except (wpAny_mono ((hb _ (X.pn ++ pins) (fun e s1 => wpAny (model X.prog X.w) X.A (noteFrame e X.env) (fun _ s2 => wpAny (model X.prog X.w) X.A (setFlight e none) (fun _ s3 =>
    wpAny (model X.prog X.w) X.A (handleBy e X.env (h0 :: hs)) (SP X pins E) X.xe s3) X.xe s2) X.xe s1) (fun u t' up => ?_) PassesOwn.looking).run [] s τ G E (I.toTry _) hw) (fun fl t1 hp => ?_) (fun _ _ z => z))
  · obtain ⟨a, B, sI, pins1, τ1, G1, cls, d, rfl, J0, nb, upx, sky, na, eos, ag, w⟩ := up
    have J : Inv X pins τ1 G1 sI := J0.ofTry iok
    show wpAny (model X.prog X.w) X.A (noteFrame (.ref a) X.env) _ _ _
    refine Sky.land Zc.steady hfr ef (by rw [← es]; exact sky) fun g3 fl3 up3 => ?_
    have J3 : Inv X pins τ1 G1 { t' with heap := g3 } := J.landed nb fl3.1 (upx.trans up3) eos ag
    obtain ⟨o3, v3, e3, z3, d3⟩ := fl3.there
    have out : a ∉ frs (X.env :: X.outer) := fun hm => by
      obtain ⟨_, o', e', hnf⟩ := fl3.2.2.1.mem hm
      rw [e3] at e'; cases e'
      exact hnf _ d3
    have nL : a ≠ X.env.locals := fun z => out (List.mem_filterMap.mpr ⟨X.env, List.mem_cons_self, by rw [ef, z]⟩)
    have nF : a ∉ X.fs := fun hm => by
      obtain ⟨en, h1, h2⟩ := List.mem_filterMap.mp hm
      exact out (List.mem_filterMap.mpr ⟨en, List.mem_cons_of_mem _ h1, h2⟩)
    have S3 := J3.suite e3 d3 na nL nF
    have LT : PySem.W.Looks (model X.prog X.w) g3 (typeOf (.ref a)) cls := fun A Q E s k qq => wpAny_typeOf_ref (k _ _ e3) (by rw [z3.1]; exact qq)
    have look : ∀ {x : Str} {c : Value} {np : Pos}, Names X x c → ∀ {Q : Value → Shared → Prop} {E' : Value → Shared → Prop}, Q c { t' with heap := g3 } → wpAny (model X.prog X.w) (X.A.mark (some (.ref a))) (eval (.Name x np) X.env) Q E' { t' with heap := g3 } := fun {x c np} hc {Q E'} qq => by
      obtain ⟨hg, hdb, hm | ⟨hm, hv, hnn⟩⟩ := hc
      · exact ld_glob (X := X.suite a ((a, o3) :: (X.pn ++ pins))) S3 hg hm qq hdb
      · exact ld_blt (X := X.suite a ((a, o3) :: (X.pn ++ pins))) S3 hg hm hv qq hnn hdb
    have go : ∀ {hs' : List ExceptHandler} {l' : List Cl}, ClsOk X hs' l' → wMix X.K Wo E l' cls d τ1 G1 → wpAny (model X.prog X.w) X.A (handleBy (.ref a) X.env hs') (SP X pins E) X.xe { t' with heap := g3 } := by
      intro hs' l' hk
      induction hk with
      | nil =>
        intro w
        refine wpAny_handleBy_nil ?_
        obtain ⟨k1, k2, k3, oe, vs, T, oT, tt, he, hz, hd, h1, hr⟩ := id fl3
        unfold PySem.passOn
        refine wpAny_bind (wpAny_field he hd h1 ?_)
        rw [if_neg (by simp)]
        have fin : wpAny (model X.prog X.w) X.A (setFlight (.ref a) X.env.frame) (fun _ s4 => wpAny (model X.prog X.w) X.A (throw (.ref a) : Sem Flow) (SP X pins E) X.xe s4) X.xe { t' with heap := g3 } := by
          rw [ef]
          refine HandSPX.setFlight_upZ fl3 fun g4 x4 up4 => wpAny_throw (tk _ _ ?_)
          exact ⟨a, B, sI, pins, τ1, G1, cls, d, rfl, J, nb, (upx.trans up3).trans up4, .inr (.inr (by rw [es]; exact x4)), na, eos, ag, w⟩
        first
          | exact wpAny_bind (wpAny_pure (wpAny_bind fin))
          | exact wpAny_bind fin
      | @plain x c ts st sts np hp hs2 l2 hc su r ih =>
        rintro ⟨b, e1, yes, no⟩
        refine wpAny_handleBy_cons (codeAny_handlers_test (look hc ((PySem.W.exm_one (M := model X.prog X.w) J3.kIn LT e1).here ?_))) (by intro z; cases z)
        cases b with
        | false => exact ih (no rfl)
        | true =>
          refine codeAny_handlers_suite (HandSPX.lands_againZ fl3 fun g4 fl4 up4 => ?_)
          have J4 : Inv X pins τ1 G1 { t' with heap := g4 } := J.landed nb fl4.1 ((upx.trans up3).trans up4) eos ag
          obtain ⟨o4, v4, e4, z4, d4⟩ := fl4.there
          refine wpAny_mono ((su a o4 cls d (X.pn ++ pins) z4 ⟨_, d4⟩).run [] _ _ G1 _ (J4.suite e4 d4 na nL nF) (yes rfl a na)) (fun f s6 hsp => ?_) (fun _ _ z => z.elim)
          cases f with
          | next => obtain ⟨τ6, G6, S6, q6⟩ := hsp; exact ⟨_, _, S6.unsuite iok, q6⟩
          | brk => obtain ⟨τ6, G6, S6, q6⟩ := hsp; exact ⟨_, _, S6.unsuite iok, q6⟩
          | cont => obtain ⟨τ6, G6, S6, q6⟩ := hsp; exact ⟨_, _, S6.unsuite iok, q6⟩
          | ret u => obtain ⟨v6, τ6, G6, S6, r6, q6⟩ := hsp; exact ⟨_, _, _, S6.unsuite iok, r6, q6⟩
      | @named x n i c ts st sts np hp hs2 l2 hc hi hl su r ih =>
        rintro ⟨b, e1, yes, no⟩
        refine wpAny_handleBy_cons (codeAny_handlers_test (look hc ((PySem.W.exm_one (M := model X.prog X.w) J3.kIn LT e1).here ?_))) (by intro z; cases z)
        cases b with
        | false => exact ih (no rfl)
        | true =>
          refine codeAny_handlers_suite_as (HandSPX.lands_againZ fl3 fun g4 fl4 up4 => ?_)
          have J4 : Inv X pins τ1 G1 { t' with heap := g4 } := J.landed nb fl4.1 ((upx.trans up3).trans up4) eos ag
          obtain ⟨o4, v4, e4, z4, d4⟩ := fl4.there
          refine store_ok (X := X.suite a ((a, o4) :: (X.pn ++ pins))) (v := .ref a) (J4.suite e4 d4 na nL nF) hN hi (.inl hl) rfl (fun s5 S5 => ?_) (.inr hl)
          refine wpAny_mono ((su a o4 cls d (X.pn ++ pins) z4 ⟨_, d4⟩).run [] s5 _ G1 _ S5 (yes rfl a na)) (fun f s6 hsp => ?_) (fun _ _ z => z.elim)
          have off : ∀ {τ6 : St} {G6 : Hp} {Q : Shared → Prop}, Inv (X.suite a ((a, o4) :: (X.pn ++ pins))) [] τ6 G6 s6 → (∀ s7, Inv X pins (τ6.set i none) G6 s7 → Q s7) → wpAny (model X.prog X.w) X.A (do bindName X.env n .none; unbindBehindTheSuite X.env n hp) (fun _ s7 => Q s7) X.xe s6 :=
            fun {τ6 G6 Q} S6 hq => gone_ok (S6.unsuite iok) hN hi hl hq
          cases f with
          | next => obtain ⟨τ6, G6, S6, q6⟩ := hsp; exact off S6 fun s7 J7 => ⟨_, _, J7, q6⟩
          | brk => obtain ⟨τ6, G6, S6, q6⟩ := hsp; exact off S6 fun s7 J7 => ⟨_, _, J7, q6⟩
          | cont => obtain ⟨τ6, G6, S6, q6⟩ := hsp; exact off S6 fun s7 J7 => ⟨_, _, J7, q6⟩
          | ret u => obtain ⟨v6, τ6, G6, S6, r6, q6⟩ := hsp; exact off S6 fun s7 J7 => ⟨_, _, _, J7, r6, q6⟩
    exact go ho w
  · cases fl with
    | next => obtain ⟨τ1, G1, J1, q1⟩ := hp; exact wpAny_execs_nil ⟨τ1, G1, J1.ofTry iok, q1⟩
    | brk => obtain ⟨τ1, G1, J1, q1⟩ := hp; exact ⟨τ1, G1, J1.ofTry iok, q1⟩
    | cont => obtain ⟨τ1, G1, J1, q1⟩ := hp; exact ⟨τ1, G1, J1.ofTry iok, q1⟩
    | ret u => obtain ⟨v, τ1, G1, J1, r1, q1⟩ := hp; exact ⟨v, τ1, G1, J1.ofTry iok, r1, q1⟩
end
end TT

namespace TT
open PySem L2
variable [TB]
/-! try, by data -/
open Classical in
/-- an end that hangs on no address -/
noncomputable def allAD (h : Addr → Addr → SR) : SR := if x : ∃ r, ∀ a d, h a d = r then Classical.choose x else .bad
theorem allAD_eq {h : Addr → Addr → SR} {r : SR} (e : ∀ a d, h a d = r) : allAD h = r := by
  have x : ∃ r, ∀ a d, h a d = r := ⟨r, e⟩
  unfold allAD
  rw [dif_pos x]
  exact (Classical.choose_spec x 0 0).symm.trans (e 0 0)
theorem allAD_of {K : PySem.W.Frag} {W : WX} {Z ι : List Addr} {H : Hp} {E : Ends} {h : Addr → Addr → SR} (o : OutS K W Z ι H (allAD h) E) (a d : Addr) : OutS K W Z ι H (h a d) E := by
  unfold allAD at o
  split at o
  · rename_i x
    rw [← Classical.choose_spec x a d] at o
    exact o
  · exact o.elim
/-- a clause: which classes it takes, which it lets by, its name's slot, its suite -/
structure MC where
  yes : List Addr
  no : List Addr
  i : Option Nat
  h : Addr → Addr → MS
def offR (i : Option Nat) (ρ : En) : En := match i with
  | some j => ρ.set j none
  | none => ρ
def SR.off (i : Option Nat) : SR → SR
  | .nx ρ μ => .nx (offR i ρ) μ
  | .bk ρ μ => .bk (offR i ρ) μ
  | .ct ρ μ => .ct (offR i ρ) μ
  | .rt v μ => .rt v μ
  | _ => .bad
def onR (i : Option Nat) (x : D) (ρ : En) : En := match i with
  | some j => ρ.set j (some (.d x))
  | none => ρ
noncomputable def tryH : List MC → Addr → List (Str × D) → En → List MO → SR
  | [], C, fs, ρ, μ => .exc C fs ρ μ
  | c :: cs, C, fs, ρ, μ => if C ∈ c.yes then allAD fun a d => (c.h a d (onR c.i (.exn a d C fs) ρ) μ).off c.i else if C ∈ c.no then tryH cs C fs ρ μ else .bad
noncomputable def mTry (b : MS) (cs : List MC) : MS := fun ρ μ => match b ρ μ with
  | .exc C fs ρ' μ' => tryH cs C fs ρ' μ'
  | r => r
/-- the suite's reading -/
def tSu (K : PySem.W.Frag) (yes : List Addr) (h : Addr → Addr → MS) : Addr → Value → Option Addr → TS := fun a cls d E τ G => ∃ dd C, C ∈ yes ∧ cls = .ref C ∧ d = some dd ∧ tMS K W0 (h a dd) E τ G
inductive HMs (X : Cx) : List ExceptHandler → List MC → List Cl → Prop
  | nil : HMs X [] [] []
  | plain {x : Str} {c : Value} {yes no : List Addr} {h : Addr → Addr → MS} {st : Stmt} {sts : List Stmt} {np hp : Pos} {hs : List ExceptHandler} {cs : List MC} {l : List Cl} (hc : Names X x c)
      (hy : ∀ C ∈ yes, PySem.W.exmOne X.K (.ref C) c = some true) (hn : ∀ C ∈ no, PySem.W.exmOne X.K (.ref C) c = some false)
      (su : ∀ (a : Addr) (oe : Obj) (C : Addr) (d : Addr) (pn : List (Addr × Obj)), C ∈ yes → Zc (.ref C) (some d) oe → (∃ vs, oe.data = .fields vs) → FSs (X.suite a ((a, oe) :: pn)) W0 (st :: sts) (h a d)) (r : HMs X hs cs l) :
      HMs X (.ExceptHandler (some (.Name x np)) none (st :: sts) hp :: hs) (⟨yes, no, none, h⟩ :: cs) ((c, none, tSu X.K yes h) :: l)
  | named {x n : Str} {i : Nat} {c : Value} {yes no : List Addr} {h : Addr → Addr → MS} {st : Stmt} {sts : List Stmt} {np hp : Pos} {hs : List ExceptHandler} {cs : List MC} {l : List Cl} (hc : Names X x c) (hi : X.N[i]? = some n) (hl : X.env.kindOf n = some .local)
      (hy : ∀ C ∈ yes, PySem.W.exmOne X.K (.ref C) c = some true) (hn : ∀ C ∈ no, PySem.W.exmOne X.K (.ref C) c = some false)
      (su : ∀ (a : Addr) (oe : Obj) (C : Addr) (d : Addr) (pn : List (Addr × Obj)), C ∈ yes → Zc (.ref C) (some d) oe → (∃ vs, oe.data = .fields vs) → FSs (X.suite a ((a, oe) :: pn)) W0 (st :: sts) (h a d)) (r : HMs X hs cs l) :
      HMs X (.ExceptHandler (some (.Name x np)) (some n) (st :: sts) hp :: hs) (⟨yes, no, some i, h⟩ :: cs) ((c, some i, tSu X.K yes h) :: l)
theorem suite_of {X : Cx} {yes : List Addr} {h : Addr → Addr → MS} {sts : List Stmt} (su : ∀ (a : Addr) (oe : Obj) (C : Addr) (d : Addr) (pn : List (Addr × Obj)), C ∈ yes → Zc (.ref C) (some d) oe → (∃ vs, oe.data = .fields vs) → FSs (X.suite a ((a, oe) :: pn)) W0 sts (h a d)) :
    ∀ (a : Addr) (oe : Obj) (cls : Value) (d : Option Addr) (pn : List (Addr × Obj)), Zc cls d oe → (∃ vs, oe.data = .fields vs) → PSs (X.suite a ((a, oe) :: pn)) sts (tSu X.K yes h a cls d) := fun a oe cls d pn hz hf => ⟨fun pins s σ H E I w => by
  obtain ⟨dd, C, hC, rfl, rfl, t⟩ := w
  exact (su a oe C dd pn hC hz hf).run pins s σ H E I t⟩
theorem HMs.ok {X : Cx} : ∀ {hs : List ExceptHandler} {cs : List MC} {l : List Cl}, HMs X hs cs l → ClsOk X hs l
  | _, _, _, .nil => .nil
  | _, _, _, .plain hc _ _ su r => .plain hc (suite_of su) r.ok
  | _, _, _, .named hc hi hl _ _ su r => .named hc hi hl (suite_of su) r.ok
theorem OutS.off {K : PySem.W.Frag} {W : WX} {Z ι : List Addr} {H : Hp} {E : Ends} {i : Option Nat} {r : SR} (o : OutS K W Z ι H (r.off i) E) : OutS K W0 Z ι H r (offE i E) := by
  have k : ∀ {Z' ι' : List Addr} {ρ : En} {μ : List MO} {σ : St} {H' : Hp}, Rel K Z' ι' ρ μ σ H' → Rel K Z' ι' (offR i ρ) μ (offI i σ) H' := fun R => by
    cases i with
    | none => exact R
    | some j => exact ⟨R.sta, R.rs.setN j none⟩
  cases r with
  | nx ρ μ => exact fun Z2 ι2 H2 σ2 x2 R2 => o Z2 ι2 H2 _ x2 (k R2)
  | bk ρ μ => exact fun Z2 ι2 H2 σ2 x2 R2 => o Z2 ι2 H2 _ x2 (k R2)
  | ct ρ μ => exact fun Z2 ι2 H2 σ2 x2 R2 => o Z2 ι2 H2 _ x2 (k R2)
  | rt v μ => exact o
  | exc C fs ρ μ => exact o.elim
  | bad => exact o.elim
theorem tryH_ok {X : Cx} {W : WX} {E : Ends} {C : Addr} {fs : List (Str × D)} {fs' : List (Str × V)} {d : Addr} : ∀ {hs : List ExceptHandler} {cs : List MC} {l : List Cl}, HMs X hs cs l → ∀ {Z ι : List Addr} {ρ : En} {μ : List MO} {σ : St} {H : Hp}, Rel X.K Z ι ρ μ σ H → H d = some (.xd fs') → d ∉ Z → DRf X.K (mask H Z) fs fs' →
    OutS X.K W Z ι H (tryH cs C fs ρ μ) E → wMix X.K W E l (.ref C) (some d) σ H
  | _, _, _, .nil, Z, ι, ρ, μ, σ, H, R, e, n, dr, o => o Z ι H σ d fs' (Ext.refl R.sta.sub) R e n dr
  | _, _, _, .plain (yes := yes) (no := no) (h := h) hc hy hn su r, Z, ι, ρ, μ, σ, H, R, e, n, dr, o => by
    simp only [tryH] at o
    split at o
    · rename_i hm
      exact ⟨true, hy C hm, fun _ a _ => ⟨d, C, hm, rfl, rfl, Z, ι, ρ, μ, R, OutS.off (allAD_of o a d)⟩, fun z => by cases z⟩
    · split at o
      · rename_i hm; exact ⟨false, hn C hm, (fun z => by cases z), fun _ => tryH_ok r R e n dr o⟩
      · exact o.elim
  | _, _, _, .named (i := i) (yes := yes) (no := no) (h := h) hc hi hl hy hn su r, Z, ι, ρ, μ, σ, H, R, e, n, dr, o => by
    simp only [tryH] at o
    split at o
    · rename_i hm
      exact ⟨true, hy C hm, fun _ a _ => ⟨d, C, hm, rfl, rfl, Z, ι, _, μ, ⟨R.sta, R.rs.set (.d (.exn (mask_in n e) dr)) i⟩, OutS.off (allAD_of o a d)⟩, fun z => by cases z⟩
    · split at o
      · rename_i hm; exact ⟨false, hn C hm, (fun z => by cases z), fun _ => tryH_ok r R e n dr o⟩
      · exact o.elim
section
variable {X : Cx} {W : WX} {body : List Stmt} {h0 : ExceptHandler} {hs : List ExceptHandler} {cs : List MC} {l : List Cl} {pos : Pos} {b : MS}
theorem fs_try (es : X.stack = X.env :: X.outer) (ef : X.env.frame = some X.env.locals) (hN : X.N.Nodup) (tk : Takes X W)
    (hb : ∀ (W' : WX) (pn : List (Addr × Obj)) (xe : Value → Shared → Prop), Takes (X.tr pn xe) W' → PassesOwn (model X.prog X.w) X.A X.env xe → FSs (X.tr pn xe) W' body b) (hm : HMs X (h0 :: hs) cs l) :
    FS X W (.Try body (h0 :: hs) [] [] pos) (mTry b cs) := by
  refine ps_imp (ps_tryM (tb := fun W' => tMS X.K W' b) es ef hN tk hb hm.ok) fun E σ H ⟨Z, ι, ρ, μ, R, o⟩ => ⟨Z, ι, ρ, μ, R, ?_⟩
  unfold mTry at o
  cases q : b ρ μ with
  | exc C fs ρ' μ' =>
    rw [q] at o
    exact fun Z2 ι2 H2 σ2 d fs' x2 R2 e n dr => tryH_ok hm R2 e n dr (OutS.base o x2)
  | nx ρ' μ' => rw [q] at o; exact o
  | bk ρ' μ' => rw [q] at o; exact o
  | ct ρ' μ' => rw [q] at o; exact o
  | rt v μ' => rw [q] at o; exact o
  | bad => rw [q] at o; exact o
end
/-! fields of what was caught -/
def mXf (a d : Addr) (f : Str) (ma : ME) : ME := fun ρ μ => (ma ρ μ).bind fun v μ1 => match v with
  | .d (.exn a' d' _ fs) => if a' = a ∧ d' = d then (match fs.lookup f with
    | some x => .ok (.d x) μ1
    | none => .bad) else .bad
  | _ => .bad
theorem DRf.look {K : PySem.W.Frag} {F : Hp} {f : Str} : ∀ {xs : List (Str × D)} {vs : List (Str × V)}, DRf K F xs vs → ∀ {d : D}, xs.lookup f = some d → ∃ v, vs.lookup f = some v ∧ DR K F d v
  | _, _, .nil, d, e => by cases e
  | _, _, .cons (k := k) a b, d, e => by
    by_cases h : f = k
    · subst h
      simp only [List.lookup, beq_self_eq_true] at e ⊢
      cases e
      exact ⟨_, rfl, a⟩
    · have hk : (f == k) = false := by simpa using h
      simp only [List.lookup, hk] at e ⊢
      exact DRf.look b e
section
variable {X : Cx} {a d C : Addr} {oe : Obj} {pn : List (Addr × Obj)} {e : Expr} {pos : Pos} {f : Str} {ma : ME}
theorem fe_xf (T : XfC X.K C) (hno : PySem.W.findIn X.K (.ref C) f = some none) (hz : Zc (.ref C) (some d) oe) (hf : ∃ vs, oe.data = .fields vs) (he : FE (X.suite a ((a, oe) :: pn)) W0 e ma)
    (hb : attributeBase e f X.env (eval e X.env) = eval e X.env := by rfl) : FE (X.suite a ((a, oe) :: pn)) W0 (.Attribute e f pos) (mXf a d f ma) := by
  refine pe_imp (pe_xf T hno hz hf he hb) fun σ H Q ⟨Z, ι, ρ, μ, R, o⟩ => tM_bind R o fun v μ' Z' ι' H' x x1 R1 r1 o1 => ?_
  split at o1
  · rename_i a' d' C' fs
    split at o1
    · rename_i hh
      obtain ⟨rfl, rfl⟩ := hh
      split at o1
      · rename_i y hy
        cases r1 with | d r1 => cases r1 with | exn q r =>
          obtain ⟨v, h4, h5⟩ := r.look hy
          exact ⟨rfl, rfl, _, _, v, rfl, mask_same _ _ _ _ q, h4, Out.ret R1.sta o1 (.d h5)⟩
      · exact o1.elim
    · exact o1.elim
  · exact o1.elim
end
/-! raising: an own class whose __init__ stores its arguments -/
/-- a class over ValueError with one field, two fields -/
def spX1 (C : Addr) (f : Str) : Sp := fun vs H Q _ => ∃ (a : Addr) (v : V), vs = [.ref a, v] ∧ H a = some (exo a C none) ∧ ∀ dx, H dx = none → dx ≠ a → Q .non (upd (upd H dx (exd dx [(f, v)])) a (exo a C (some dx)))
def spX2 (C : Addr) (f g : Str) : Sp := fun vs H Q _ => ∃ (a : Addr) (v u : V), vs = [.ref a, v, u] ∧ H a = some (exo a C none) ∧ ∀ dx, H dx = none → dx ≠ a → Q .non (upd (upd (upd H dx (exd dx [(f, v)])) a (exo a C (some dx))) dx (exd dx [(g, u), (f, v)]))
/-- what is known of such a class: it stands under x at C; its __init__ keeps sp, by calls of at most k -/
structure Exc (P : Program) (w : World) (K : PySem.W.Frag) (mg : Str → Option Value) (base : Heap) (k : Nat) (x : Str) (C : Addr) (n : Nat) (sp : Sp) : Prop where
  T : OexC K C
  g : mg x = some (.ref C)
  fn : ∃ (fI : Addr) (fd : FuncData) (ps : List Str), PySem.W.findIn K (.ref C) "__init__" = some (some (.ref fI)) ∧ PySem.W.typeIn K (.ref fI) = some (.type "function") ∧ FnOk P w K mg base CX0 k fI fd ps sp ∧ Binds K fd ps []
def mkX (C : Addr) (ks : List Str) (as : List MV) (ρ : En) (μ : List MO) : SR := match datas as with
  | some ds => if ds.length = ks.length then .exc C (ks.zip ds).reverse ρ μ else .bad
  | none => .bad
def mRaise (C : Addr) (ks : List Str) (ms : MA) : MS := fun ρ μ => (ms ρ μ).stm ρ fun as μ1 => mkX C ks as ρ μ1
theorem raise_end {K : PySem.W.Frag} {W : WX} {E : Ends} {Z ι : List Addr} {ρ : En} {μ : List MO} {σ : St} {H H2 : Hp} {C d : Addr} {fs : List (Str × D)} {fs' : List (Str × V)} (R : Rel K Z ι ρ μ σ H) (hd : H d = none) (e : H2 = upd H d (.xd fs')) (dr : DRf K (mask H Z) fs fs')
    (o : OutS K W Z ι H (.exc C fs ρ μ) E) : W (.ref C) (some d) σ H2 := by
  subst e
  have sm : Same H (upd H d (.xd fs')) := fun b u q => (upd_ne (ne_of_none q hd)).trans q
  obtain ⟨s2, x2⟩ := R.sta.grow sm
  have nd : d ∉ Z := fun q => by obtain ⟨u, z⟩ := R.sta.trk d q; rw [hd] at z; cases z
  exact o Z ι _ σ d fs' x2 (R.ext x2 s2) upd_same nd (dr.mono x2.same _ _)
section
variable {X : Cx} {W : WX} {x : Str} {C : Addr} {k j : Nat} {e e2 : Expr} {p pos rpos : Pos} {f g : Str} {ms : MA}
theorem fs_raise1 (c : Exc X.prog X.w X.K X.mg X.base k x C 1 (spX1 C f)) (tk : Takes X W) (hc : X.calm = true) (hr : Room j X.A) (ha : FA X W [e] ms) (hk : k + 1 ≤ j := by decide) (hgl : Gl X x := by rfl)
    (hdb : (x == ("__debug__" : Str)) = false := by decide) (he : starEach [e] X.env = (false, eval e X.env) :: starEach [] X.env := by rfl) (hpl : (backTo pos (starEach [] X.env)).any (·.1) = false := by rfl) :
    FS X W (.Raise (some (.Call (.Name x p) [e] [] pos)) none rpos) (mRaise C [f] ms) := by
  obtain ⟨fI, fd, ps, h1, h2, h3, h4⟩ := c.fn
  refine ps_imp (ps_raise hc tk (pmk_oex c.T h1 h2 h3 (hr.mono hk) h4 .nil pass0 hgl c.g ha hdb he hpl)) fun E σ H ⟨Z, ι, ρ, μ, R, o⟩ => tMA_stm R o fun v μ' Z' ι' H' x x1 R1 r1 o1 => ?_
  unfold mkX at o1
  split at o1
  · rename_i ds hd
    have dr := datas_ok r1 hd
    split at o1
    · rename_i hl
      match ds, dr, hl with
      | [d0], .cons (v := v0) r0 .nil, _ =>
        refine ⟨by show 1 ≤ 1000; decide, fun a ha' => ⟨a, v0, rfl, upd_same, fun dx hdx ne => ⟨rfl, dx, [(f, v0)], ?_, ?_, ?_, ?_⟩⟩⟩
        · rw [upd_same]
        · rw [upd_ne ne, upd_same]
        · rw [upd_ne ne] at hdx; exact hdx
        · rw [upd_ne ne] at hdx
          refine raise_end R1 hdx ?_ (.cons r0 .nil) o1
          funext b
          by_cases q1 : b = dx
          · subst q1; rw [upd_same, upd_same]
          · rw [upd_ne q1, upd_ne q1]
            unfold del
            by_cases q2 : b = a
            · subst q2; rw [if_pos rfl]; exact ha'.symm
            · rw [if_neg q2, upd_ne q2, upd_ne q1, upd_ne q2]
    · exact o1.elim
  · exact o1.elim
theorem fs_raise2 (c : Exc X.prog X.w X.K X.mg X.base k x C 2 (spX2 C f g)) (tk : Takes X W) (hc : X.calm = true) (hr : Room j X.A) (ha : FA X W [e, e2] ms) (hk : k + 1 ≤ j := by decide) (hgl : Gl X x := by rfl)
    (hdb : (x == ("__debug__" : Str)) = false := by decide) (he : starEach [e, e2] X.env = (false, eval e X.env) :: starEach [e2] X.env := by rfl) (hpl : (backTo pos (starEach [e2] X.env)).any (·.1) = false := by rfl) :
    FS X W (.Raise (some (.Call (.Name x p) [e, e2] [] pos)) none rpos) (mRaise C [f, g] ms) := by
  obtain ⟨fI, fd, ps, h1, h2, h3, h4⟩ := c.fn
  refine ps_imp (ps_raise hc tk (pmk_oex c.T h1 h2 h3 (hr.mono hk) h4 .nil pass0 hgl c.g ha hdb he hpl)) fun E σ H ⟨Z, ι, ρ, μ, R, o⟩ => tMA_stm R o fun v μ' Z' ι' H' x x1 R1 r1 o1 => ?_
  unfold mkX at o1
  split at o1
  · rename_i ds hd
    have dr := datas_ok r1 hd
    split at o1
    · rename_i hl
      match ds, dr, hl with
      | [d0, d1], .cons (v := v0) r0 (.cons (v := v1) r1' .nil), _ =>
        refine ⟨by show 2 ≤ 1000; decide, fun a ha' => ⟨a, v0, v1, rfl, upd_same, fun dx hdx ne => ⟨rfl, dx, [(g, v1), (f, v0)], ?_, ?_, ?_, ?_⟩⟩⟩
        · rw [upd_ne (Ne.symm ne), upd_same]
        · rw [upd_same]
        · rw [upd_ne ne] at hdx; exact hdx
        · rw [upd_ne ne] at hdx
          refine raise_end R1 hdx ?_ (.cons r1' (.cons r0 .nil)) o1
          funext b
          by_cases q1 : b = dx
          · subst q1; rw [upd_same, upd_same]
          · rw [upd_ne q1, upd_ne q1]
            unfold del
            by_cases q2 : b = a
            · subst q2; rw [if_pos rfl]; exact ha'.symm
            · rw [if_neg q2, upd_ne q1, upd_ne q2, upd_ne q1, upd_ne q2]
    · exact o1.elim
  · exact o1.elim
end
section
variable {P : Program} {w : World} {K : PySem.W.Frag} {mg : Str → Option Value} {base : Heap} {C fI : Addr} {x qual f g : Str} {st : Stmt} {fd : FuncData}
/-- the promise of __init__ by its text -/
theorem x1_init {a1 : Str} {p1 p2 p3 pos : Pos} (T : OexC K C) (hno : PySem.W.findIn K (.ref C) f = some none) (F : Fun K "__init__" qual st fI fd) (S : FnScope ["self", a1] ["self", a1] (defScope st))
    (hb : defBody st = [.Assign [.Attribute (.Name "self" p1) f p2] (.Name a1 p3) pos])
    (hv : (defScope st).names.lookup ("self" : Str) = some .local) (hv1 : (defScope st).names.lookup a1 = some .local) (hd : (a1 == ("__debug__" : Str)) = false) (hcd : (a1 == ("__classdict__" : Str)) = false)
    (hs : ∀ env : Env, swapsWith (.Name a1 p3) (some (.Attribute (.Name "self" p1) f p2)) pos.line env = pure false) : FnOk P w K mg base CX0 1 fI fd ["self", a1] (spX1 C f) := by
  refine F.ok S (fun vs H Q E h => ?_) (fun cdv A outer s H vs Q E hr h => ?_)
  · obtain ⟨a, v, rfl, _⟩ := h; rfl
  · obtain ⟨a, v, rfl, ha, k⟩ := h
    rw [hb]
    refine ⟨_, pss_one (ps_ost (pe_var (i := 0) rfl (.inl hv)) (pe_var (i := 1) rfl (.inl hv1) hd hcd) (hs _)), ?_⟩
    exact ⟨_, rfl, _, rfl, a, C, rfl, T, hno, .inl ⟨ha, fun dx h1 h2 => k dx h1 h2⟩⟩
theorem x2_init {a1 a2 : Str} {p1 p2 p3 q1 q2 q3 pos pos2 : Pos} (T : OexC K C) (hno : PySem.W.findIn K (.ref C) f = some none) (hno2 : PySem.W.findIn K (.ref C) g = some none) (F : Fun K "__init__" qual st fI fd) (S : FnScope ["self", a1, a2] ["self", a1, a2] (defScope st))
    (hb : defBody st = [.Assign [.Attribute (.Name "self" p1) f p2] (.Name a1 p3) pos, .Assign [.Attribute (.Name "self" q1) g q2] (.Name a2 q3) pos2])
    (hv : (defScope st).names.lookup ("self" : Str) = some .local) (hv1 : (defScope st).names.lookup a1 = some .local) (hv2 : (defScope st).names.lookup a2 = some .local) (hd : (a1 == ("__debug__" : Str)) = false) (hcd : (a1 == ("__classdict__" : Str)) = false) (hd2 : (a2 == ("__debug__" : Str)) = false) (hcd2 : (a2 == ("__classdict__" : Str)) = false)
    (hs : ∀ env : Env, swapsWith (.Name a1 p3) (some (.Attribute (.Name "self" p1) f p2)) pos.line env = pure false) (hs2 : ∀ env : Env, swapsWith (.Name a2 q3) (some (.Attribute (.Name "self" q1) g q2)) pos2.line env = pure false) : FnOk P w K mg base CX0 1 fI fd ["self", a1, a2] (spX2 C f g) := by
  refine F.ok S (fun vs H Q E h => ?_) (fun cdv A outer s H vs Q E hr h => ?_)
  · obtain ⟨a, v, u, rfl, _⟩ := h; rfl
  · obtain ⟨a, v, u, rfl, ha, k⟩ := h
    rw [hb]
    refine ⟨_, pss_cons (ps_ost (pe_var (i := 0) rfl (.inl hv)) (pe_var (i := 1) rfl (.inl hv1) hd hcd) (hs _)) (pss_one (ps_ost (pe_var (i := 0) rfl (.inl hv)) (pe_var (i := 2) rfl (.inl hv2) hd2 hcd2) (hs2 _))), ?_⟩
    refine ⟨_, rfl, _, rfl, a, C, rfl, T, hno, .inl ⟨ha, fun dx h1 h2 => ?_⟩⟩
    exact ⟨_, rfl, _, rfl, a, C, rfl, T, hno2, .inr ⟨dx, [(f, v)], upd_same, (upd_ne h2).trans upd_same, (by show 1 ≤ 900; decide), k dx h1 h2⟩⟩
end
end TT

namespace TT
open PySem L2
variable [TB]
/-! fields -/
def putM (f : Str) (v : MV) : List (Str × MV) → List (Str × MV)
  | [] => [(f, v)]
  | (g, x) :: r => if g = f then (g, v) :: r else (g, x) :: putM f v r
theorem RMf.put {K : PySem.W.Frag} {F : Hp} {ι : List Addr} {f : Str} {m : MV} {v : V} (r : RM K F ι m v) : ∀ {xs : List (Str × MV)} {vs : List (Str × V)}, RMf K F ι xs vs → RMf K F ι (putM f m xs) (putF f v vs)
  | _, _, .nil => .cons r .nil
  | _, _, .cons (k := k) a b => by
    unfold putM putF
    by_cases h : k = f
    · rw [if_pos h, if_pos h]; exact .cons r b
    · rw [if_neg h, if_neg h]; exact .cons a (RMf.put r b)
theorem RMf.look {K : PySem.W.Frag} {F : Hp} {ι : List Addr} {f : Str} : ∀ {xs : List (Str × MV)} {vs : List (Str × V)}, RMf K F ι xs vs → ∀ {d : MV}, xs.lookup f = some d → ∃ v, vs.lookup f = some v ∧ RM K F ι d v
  | _, _, .nil, d, e => by cases e
  | _, _, .cons (k := k) a b, d, e => by
    by_cases h : f = k
    · subst h
      simp only [List.lookup, beq_self_eq_true] at e ⊢
      cases e
      exact ⟨_, rfl, a⟩
    · have hk : (f == k) = false := by simpa using h
      simp only [List.lookup, hk] at e ⊢
      exact RMf.look b e
theorem RMf.keys {K : PySem.W.Frag} {F : Hp} {ι : List Addr} : ∀ {xs : List (Str × MV)} {vs : List (Str × V)}, RMf K F ι xs vs → xs.length = vs.length ∧ ∀ f, xs.lookup f = none → vs.lookup f = none
  | _, _, .nil => ⟨rfl, fun _ _ => rfl⟩
  | _, _, .cons (k := k) a b => by
    obtain ⟨h1, h2⟩ := RMf.keys b
    refine ⟨congrArg (· + 1) h1, fun f e => ?_⟩
    by_cases h : f = k
    · subst h; simp [List.lookup] at e
    · have hk : (f == k) = false := by simpa using h
      simp only [List.lookup, hk] at e ⊢
      exact h2 f e
theorem DRf.keys {K : PySem.W.Frag} {F : Hp} : ∀ {xs : List (Str × D)} {vs : List (Str × V)}, DRf K F xs vs → ∀ f, xs.lookup f = none → vs.lookup f = none
  | _, _, .nil, _, _ => rfl
  | _, _, .cons (k := k) a b, f, e => by
    by_cases h : f = k
    · subst h; simp [List.lookup] at e
    · have hk : (f == k) = false := by simpa using h
      simp only [List.lookup, hk] at e ⊢
      exact DRf.keys b f e
def fldOf (C : Addr) (f : Str) (v : MV) (μ : List MO) : Res MV := match v with
  | .d (.obj C' fs) => if C' = C then (match fs.lookup f with
    | some x => .ok (.d x) μ
    | none => .bad) else .bad
  | .ref n => match μ[n]? with
    | some (.ins C' fs) => if C' = C then (match fs.lookup f with
      | some x => .ok x μ
      | none => .bad) else .bad
    | _ => .bad
  | _ => .bad
def mFld (C : Addr) (f : Str) (ma : ME) : ME := fun ρ μ => (ma ρ μ).bind (fldOf C f)
section
variable {X : Cx} {W : WX} {C : Addr} {f : Str} {e o : Expr} {es : List Expr} {pos p2 : Pos} {ma mv mo : ME} {ms : MA}
theorem fe_fld (c : Cls X.K C) (hn : NoAttr X.K C f) (he : FE X W e ma) (hb : attributeBase e f X.env (eval e X.env) = eval e X.env := by rfl) : FE X W (.Attribute e f pos) (mFld C f ma) := by
  refine pe_imp (pe_fld he hb) fun σ H Q ⟨Z, ι, ρ, μ, R, o⟩ => tM_bind R o fun v μ' Z' ι' H' x x1 R1 r1 o1 => ?_
  unfold fldOf at o1
  split at o1
  · split at o1
    · rename_i hC
      subst hC
      split at o1
      · rename_i y hy
        cases r1 with | d r1 => cases r1 with | obj q r =>
          obtain ⟨v, h4, h5⟩ := r.look hy
          exact ⟨_, _, _, _, v, rfl, mask_same _ _ _ _ q, c, hn, h4, Out.ret R1.sta o1 (.d h5)⟩
      · exact o1.elim
    · exact o1.elim
  · rename_i n
    split at o1
    · rename_i C' fs hx
      split at o1
      · rename_i hC
        subst hC
        split at o1
        · rename_i y hy
          cases r1 with | ref r1 =>
            obtain ⟨ho, h1, h2⟩ := R1.sta.obj n _ _ r1 hx
            cases h2 with | ins r =>
              obtain ⟨v, h4, h5⟩ := r.look hy
              exact ⟨_, _, _, _, v, rfl, h1, c, hn, h4, Out.ret R1.sta o1 h5⟩
        · exact o1.elim
      · exact o1.elim
    · exact o1.elim
  · exact o1.elim
/-- o.f = e -/
def putFld (C : Addr) (f : Str) (v o : MV) (μ : List MO) : Option (List MO) := match o with
  | .ref n => match μ[n]? with
    | some (.ins C' fs) => if C' = C ∧ fs.length < 1000 then some (μ.set n (.ins C' (putM f v fs))) else none
    | _ => none
  | _ => none
def mSetF (C : Addr) (f : Str) (mv mo : ME) : MS := fun ρ μ => (mv ρ μ).stm ρ fun v μ1 => (mo ρ μ1).stm ρ fun o μ2 => match putFld C f v o μ2 with
  | some μ3 => .nx ρ μ3
  | none => .bad
theorem fs_fld (c : Cls X.K C) (hn : NoAttr X.K C f) (he : FE X W e mv) (ho : FE X W o mo) (hs : swapsWith e (some (.Attribute o f p2)) pos.line X.env = pure false := by rfl) : FS X W (.Assign [.Attribute o f p2] e pos) (mSetF C f mv mo) := by
  refine ps_imp (ps_fld ho he hs) fun E σ H ⟨Z, ι, ρ, μ, R, o⟩ => tM_stm R o fun v μ' Z' ι' H' x x1 R1 r1 o1 => tM_stm R1 o1 fun v2 μ2 Z2 ι2 H2 y x2 R2 r2 o2 => ?_
  split at o2
  · rename_i μ3 hp
    unfold putFld at hp
    split at hp
    · rename_i n
      split at hp
      · rename_i C' fs hx
        split at hp
        · rename_i hC
          obtain ⟨rfl, hl⟩ := hC
          cases hp
          cases r2 with | ref r2 =>
            obtain ⟨ho, h1, h2⟩ := R2.sta.obj n _ _ r2 hx
            cases h2 with | ins r =>
              obtain ⟨s3, x3⟩ := R2.sta.put r2 (.ins (dx := _) (RMf.put (f := f) (r1.mono x2.same x2.i) r))
              exact ⟨_, _, _, _, rfl, h1, c, hn, by rw [← r.keys.1]; exact hl, o2 Z2 ι2 _ σ x3 (R2.ext x3 s3)⟩
        · cases hp
      · cases hp
    · cases hp
  · exact o2.elim
end
/-! new instances -/
/-- the class under x at C, its __init__ at f keeping F (self and n - 1 more) -/
structure Mak' (P : Program) (w : World) (K : PySem.W.Frag) (mg : Str → Option Value) (base : Heap) (k : Nat) (x : Str) (C : Addr) (n : Nat) (F : MF) : Prop where
  g : mg x = some (.ref C)
  ex : ∃ f, Mk K C f ∧ FnG P w K mg base (L2.CX P w) k f (spF K n F)
theorem sta_made {K : PySem.W.Frag} {Z ι : List Addr} {μ : List MO} {H : Hp} (s : Sta K Z ι μ H) {x dx C : Addr} (hx : H x = none) (hd : H dx = none) (ne : dx ≠ x) :
    Sta K (x :: Z) (ι ++ [x]) (μ ++ [.ins C []]) (upd (upd H dx (.own x)) x (.ins C dx [])) ∧ Ext Z ι H (x :: Z) (ι ++ [x]) (upd (upd H dx (.own x)) x (.ins C dx [])) := by
  have hx2 : (upd H dx (.own x)) x = none := (upd_ne (Ne.symm ne)).trans hx
  have sm : Same H (upd (upd H dx (.own x)) x (.ins C dx [])) := fun b o e => (upd_ne (ne_of_none e hx)).trans ((upd_ne (ne_of_none e hd)).trans e)
  have nz : x ∉ Z := fun q => by obtain ⟨o, e⟩ := s.trk x q; rw [hx] at e; cases e
  have nι : x ∉ ι := fun q => nz (s.sub x q)
  have ms : Same (mask H Z) (mask (upd (upd H dx (.own x)) x (.ins C dx [])) (x :: Z)) := fun b o e => by
    have t := mask_nt e
    obtain ⟨n, e⟩ := of_mask e
    refine mask_in (fun q => ?_) (sm b o e) t
    rcases List.mem_cons.mp q with z | z
    · rw [z, hx] at e; cases e
    · exact n z
  have s1 : Sta K (x :: Z) ι μ (upd (upd H dx (.own x)) x (.ins C dx [])) := by
    refine ⟨fun b hb => List.mem_cons_of_mem _ (s.sub b hb), s.nd, s.len, fun b hb => ?_, s.tab.ext sm, fun k b o h1 h2 => ?_⟩
    · rcases List.mem_cons.mp hb with z | z
      · rw [z]; exact ⟨_, upd_same⟩
      · obtain ⟨o, e⟩ := s.trk b z; exact ⟨o, sm b o e⟩
    · obtain ⟨ho, h3, h4⟩ := s.obj k b o h1 h2
      exact ⟨ho, sm b ho h3, h4.mono ms (fun _ _ h => h)⟩
  refine ⟨s1.own List.mem_cons_self nι upd_same (.ins .nil), ⟨s.sub, fun b hb => List.mem_cons_of_mem _ hb, fun n b h => ?_, fun b o _ _ e => sm b o e, fun b ps e => ⟨ps, sm b _ e⟩, fun b hb => ?_, fun b hb => ?_⟩⟩
  · rw [List.getElem?_append_left (List.getElem?_eq_some_iff.mp h).1]; exact h
  · rcases List.mem_cons.mp hb with z | z
    · rw [z]; exact .inr hx
    · exact .inl z
  · rcases List.mem_append.mp hb with z | z
    · exact .inl z
    · rw [List.mem_singleton.mp z]; exact .inr hx
def mkO (C : Addr) (F : MF) (n : Nat) (as : List MV) (μ : List MO) : Res MV := if as.length + 1 = n then (match callF F (.ref μ.length :: as) (μ ++ [.ins C []]) with
  | .ok (.d .non) μ' => .ok (.ref μ.length) μ'
  | .exc C' fs μ' => if trimmable μ.length (.d .non) μ' = true then .exc C' fs (μ'.take μ.length) else .exc C' fs μ'
  | _ => .bad) else .bad
def dataF : List (Str × MV) → Option (List (Str × D))
  | [] => some []
  | (f, .d x) :: r => (dataF r).map ((f, x) :: ·)
  | _ => none
theorem dataF_ok {K : PySem.W.Frag} {F : Hp} {ι : List Addr} : ∀ {xs : List (Str × MV)} {vs : List (Str × V)} {ds : List (Str × D)}, RMf K F ι xs vs → dataF xs = some ds → DRf K F ds vs
  | _, _, _, .nil, e => by cases e; exact .nil
  | _, _, _, .cons (.d r) b, e => by
    simp only [dataF] at e
    obtain ⟨r', h1, rfl⟩ := Option.map_eq_some_iff.mp e
    exact .cons r (dataF_ok b h1)
  | _, _, _, .cons (.ref r) b, e => by cases e
/-- .. as data -/
def mkF (C : Addr) (F : MF) (n : Nat) (as : List MV) (μ : List MO) : Res MV := (mkO C F n as μ).bind fun v μ' => match v with
  | .ref k => match μ'[k]? with
    | some (.ins C' fs) => match dataF fs with
      | some ds => if k = μ.length ∧ trimmable μ.length (.d .non) μ' = true then .ok (.d (.obj C' ds)) (μ'.take μ.length) else .bad
      | none => .bad
    | _ => .bad
  | _ => .bad
section
variable {X : Cx} {W : WX} {k j n : Nat} {x : Str} {C : Addr} {F : MF} {p pos : Pos} {e : Expr} {es : List Expr} {ms : MA}
theorem make_step {K : PySem.W.Frag} {Z ι : List Addr} {μ : List MO} {H : Hp} {σ : St} {as : List MV} {vs : List V} {Q : VK} (s : Sta K Z ι μ H) (r : RMs K (mask H Z) ι as vs) (o : Out K W σ Z ι H (mkO C F n as μ) (Val K Q)) :
    ∀ x dx, H x = none → H dx = none → dx ≠ x → spF K n F (.ref x :: vs) (upd (upd H dx (.own x)) x (.ins C dx [])) (fun v H2 => v = .non ∧ Q (.ref x) H2) (WE W σ) := fun x dx hx hd ne => by
  obtain ⟨s1, x1⟩ := sta_made (C := C) s hx hd ne
  unfold mkO at o
  split at o
  · rename_i hl
    refine call_frame (W := W) (as := .ref μ.length :: as) s1 (.cons (.ref (by rw [← s.len, List.getElem?_concat_length])) (r.mono x1.same x1.i)) (by rw [List.length_cons, ← r.len]; exact hl) ?_
    cases q : callF F (.ref μ.length :: as) (μ ++ [.ins C []]) with
    | ok v μ' =>
      rw [q] at o
      intro Z2 ι2 H2 x2 s2 w rw'
      cases rw' with
      | ref rw' => exact o.elim
      | d rw' => cases rw' with
        | non => exact ⟨rfl, o Z2 ι2 H2 (x1.trans x2) s2 _ (.ref (x2.i _ _ (by rw [← s.len, List.getElem?_concat_length])))⟩
        | _ => exact o.elim
    | exc C' fs μ' =>
      rw [q] at o
      intro Z2 ι2 H2 d fs' x2 s2 hd2 nd2 dr
      simp only at o
      split at o
      · rename_i t
        obtain ⟨s3, x3, _⟩ := Sta.cut (x1.trans x2) s2 s.len t
        exact o Z2 ι H2 d fs' x3 s3 hd2 nd2 dr
      · exact o Z2 ι2 H2 d fs' (x1.trans x2) s2 hd2 nd2 dr
    | bad => rw [q] at o; exact o.elim
  · exact o.elim
def mMkO (C : Addr) (F : MF) (n : Nat) (ms : MA) : ME := fun ρ μ => (ms ρ μ).bind (mkO C F n)
def mMkF (C : Addr) (F : MF) (n : Nat) (ms : MA) : ME := fun ρ μ => (ms ρ μ).bind (mkF C F n)
theorem run_mk {f : Addr} {pins : List (Addr × Obj)} {σ : St} {H : Hp} {s : Shared} {Q : VK} {us : List Value} {vs : List V} (M : Mk X.K C f) (G : FnG X.prog X.w X.K X.mg X.base (L2.CX X.prog X.w) k f (spF X.K n F)) (tk : Takes X W) (hg : X.A.guards = some []) (hr : Room (k + 1) X.A)
    (I : Inv X pins σ H s) (r : Vals vs us) (h : ∀ x dx, H x = none → H dx = none → dx ≠ x → spF X.K n F (.ref x :: vs) (upd (upd H dx (.own x)) x (.ins C dx [])) (fun v H2 => v = .non ∧ Q (.ref x) H2) (WE W σ)) :
    wpAny (model X.prog X.w) X.A (call (.ref C) us) (EP X pins σ Q) X.xe s := by
  have hq := h (s.heap.objs.size + 1) s.heap.objs.size (I.hok.fresh (Nat.le_succ _)) (I.hok.fresh (Nat.le_refl _)) (Nat.ne_of_lt (Nat.lt_succ_self _))
  have J := Inv.made (C := C) I
  refine wpAny_call (make_map (f := f) I.kIn M.makes M.init (beq_iff_eq.mp M.fn) (codeAny_mono (G _ X.stack _ _ (Value.ref (s.heap.objs.size + 1) :: us) (V.ref (s.heap.objs.size + 1) :: vs) _ _ (hr.make C us []) hg (J.env0.make C us []) (.cons rfl r) hq) fun z t hz => ?_))
  cases z with
  | error u => exact passAt tk σ pins _ _ u t J hz
  | ok fl => cases fl with
    | ret u =>
      obtain ⟨v, G', J2, rv, ev, q3⟩ := J.after hz
      subst ev
      exact ⟨rv, ⟨V.ref (s.heap.objs.size + 1), G', J2, rfl, q3⟩⟩
    | _ => exact hz.elim
theorem fe_mkX {kk : List MV → List MO → Res MV} (hkk : ∀ {K : PySem.W.Frag} {Z ι : List Addr} {μ : List MO} {H : Hp} {σ : St} {as : List MV} {Q : VK}, Sta K Z ι μ H → Out K W σ Z ι H (kk as μ) (Val K Q) → Out K W σ Z ι H (mkO C F n as μ) (Val K Q)) (c : Mak' X.prog X.w X.K X.mg X.base k x C n F) (tk : Takes X W) (hg : X.A.guards = some []) (hr : Room j X.A) (ha : FA X W (e :: es) ms) (hk : k + 1 ≤ j := by decide) (hgl : Gl X x := by rfl)
    (hdb : (x == ("__debug__" : Str)) = false := by decide) (he : starEach (e :: es) X.env = (false, eval e X.env) :: starEach es X.env := by rfl) (hpl : (backTo pos (starEach es X.env)).any (·.1) = false := by rfl) :
    FE X W (.Call (.Name x p) (e :: es) [] pos) (fun ρ μ => (ms ρ μ).bind kk) := by
  obtain ⟨f, M, G⟩ := c.ex
  refine pe_imp (t := fun σ H Q => tMA X.K W ms σ H fun vs H1 => ∀ x dx, H1 x = none → H1 dx = none → dx ≠ x → spF X.K n F (.ref x :: vs) (upd (upd H1 dx (.own x)) x (.ins C dx [])) (fun v H2 => v = .non ∧ Q (.ref x) H2) (WE W σ)) ⟨?_⟩ ?_
  · intro pins s σ H Q I h
    refine PySem.wpAny_Call_Name_kw (ld_glob I hgl c.g ?_ hdb)
    refine PySem.W.callWith_K (h₀ := X.base) I.ok.mod.kin M.kp (thn (ha.run pos pins s σ H _ I h) fun us s1 hh => ?_) he hpl
    obtain ⟨vs, H1, I1, r, q⟩ := hh
    exact ⟨I1.kIn, run_mk M G tk hg (hr.mono hk) I1 r q⟩
  · rintro σ H Q ⟨Z, ι, ρ, μ, R, o⟩
    exact tMA_bind R o fun v μ' Z' ι' H' xs x1 R1 r1 o1 => make_step R1.sta r1 (hkk R1.sta o1)
theorem fe_mkX0 {kk : List MV → List MO → Res MV} (hkk : ∀ {K : PySem.W.Frag} {Z ι : List Addr} {μ : List MO} {H : Hp} {σ : St} {as : List MV} {Q : VK}, Sta K Z ι μ H → Out K W σ Z ι H (kk as μ) (Val K Q) → Out K W σ Z ι H (mkO C F 1 as μ) (Val K Q)) (c : Mak' X.prog X.w X.K X.mg X.base k x C 1 F) (tk : Takes X W) (hg : X.A.guards = some []) (hr : Room j X.A) (hk : k + 1 ≤ j := by decide) (hgl : Gl X x := by rfl)
    (hdb : (x == ("__debug__" : Str)) = false := by decide) : FE X W (.Call (.Name x p) [] [] pos) (fun ρ μ => (mNil ρ μ).bind kk) := by
  obtain ⟨f, M, G⟩ := c.ex
  refine ⟨fun pins s σ H Q I h => ?_⟩
  refine PySem.wpAny_Call_Name_kw (ld_glob I hgl c.g ?_ hdb)
  obtain ⟨Z, ι, ρ, μ, R, o⟩ := h
  exact PySem.W.callWith_K0 I.kIn M.kp (run_mk (us := []) M G tk hg (hr.mono hk) I .nil (make_step R.sta .nil (hkk R.sta o)))
/-- the new instance as data -/
theorem mkF_ok {K : PySem.W.Frag} {Z ι : List Addr} {μ : List MO} {H : Hp} {σ : St} {as : List MV} {Q : VK} (s : Sta K Z ι μ H) (o : Out K W σ Z ι H (mkF C F n as μ) (Val K Q)) : Out K W σ Z ι H (mkO C F n as μ) (Val K Q) := by
  unfold mkF at o
  cases q : mkO C F n as μ with
  | exc C' fs μ' => rw [q] at o; exact o
  | bad => rw [q] at o; exact o
  | ok v μ' =>
    rw [q] at o
    simp only [Res.bind_ok] at o
    intro Z2 ι2 H2 x2 s2 w rw'
    split at o
    · rename_i k
      split at o
      · rename_i C' fs hx
        split at o
        · rename_i ds hd
          split at o
          · rename_i hh
            obtain ⟨rfl, t⟩ := hh
            cases rw' with | ref rk =>
              obtain ⟨ho, h1, h2⟩ := s2.obj _ _ _ rk hx
              cases h2 with | ins r =>
                have dr := dataF_ok r hd
                obtain ⟨s3, x3⟩ := Sta.drop (d := .non) x2 s2 s.trk s.len (Nat.le_refl _) rk t
                refine o _ ι H2 x3 s3 _ (.d (.obj (mask_in (fun z => ?_) h1) (dr.mono (mask_less fun b hb => (List.mem_filter.mp hb).1) _ _)))
                exact of_decide_eq_true (List.mem_filter.mp z).2 rfl
          · exact o.elim
        · exact o.elim
      · exact o.elim
    · exact o.elim
theorem fe_mkO (c : Mak' X.prog X.w X.K X.mg X.base k x C n F) (tk : Takes X W) (hg : X.A.guards = some []) (hr : Room j X.A) (ha : FA X W (e :: es) ms) (hk : k + 1 ≤ j := by decide) (hgl : Gl X x := by rfl)
    (hdb : (x == ("__debug__" : Str)) = false := by decide) (he : starEach (e :: es) X.env = (false, eval e X.env) :: starEach es X.env := by rfl) (hpl : (backTo pos (starEach es X.env)).any (·.1) = false := by rfl) :
    FE X W (.Call (.Name x p) (e :: es) [] pos) (mMkO C F n ms) := fe_mkX (fun _ o => o) c tk hg hr ha hk hgl hdb he hpl
theorem fe_mkF (c : Mak' X.prog X.w X.K X.mg X.base k x C n F) (tk : Takes X W) (hg : X.A.guards = some []) (hr : Room j X.A) (ha : FA X W (e :: es) ms) (hk : k + 1 ≤ j := by decide) (hgl : Gl X x := by rfl)
    (hdb : (x == ("__debug__" : Str)) = false := by decide) (he : starEach (e :: es) X.env = (false, eval e X.env) :: starEach es X.env := by rfl) (hpl : (backTo pos (starEach es X.env)).any (·.1) = false := by rfl) :
    FE X W (.Call (.Name x p) (e :: es) [] pos) (mMkF C F n ms) := fe_mkX (fun s o => mkF_ok s o) c tk hg hr ha hk hgl hdb he hpl
theorem fe_mkO0 (c : Mak' X.prog X.w X.K X.mg X.base k x C 1 F) (tk : Takes X W) (hg : X.A.guards = some []) (hr : Room j X.A) (hk : k + 1 ≤ j := by decide) (hgl : Gl X x := by rfl)
    (hdb : (x == ("__debug__" : Str)) = false := by decide) : FE X W (.Call (.Name x p) [] [] pos) (mMkO C F 1 mNil) := fe_mkX0 (fun _ o => o) c tk hg hr hk hgl hdb
theorem fe_mkF0 (c : Mak' X.prog X.w X.K X.mg X.base k x C 1 F) (tk : Takes X W) (hg : X.A.guards = some []) (hr : Room j X.A) (hk : k + 1 ≤ j := by decide) (hgl : Gl X x := by rfl)
    (hdb : (x == ("__debug__" : Str)) = false := by decide) : FE X W (.Call (.Name x p) [] [] pos) (mMkF C F 1 mNil) := fe_mkX0 (fun s o => mkF_ok s o) c tk hg hr hk hgl hdb
end
/-! methods -/
section
variable {P : Program} {w : World} {K : PySem.W.Frag} {mg : Str → Option Value} {base : Heap}
/-- a def of a class's body, from its body -/
theorem Mdef.mini {x qual : Str} {st : Stmt} {N ps : List Str} {k n : Nat} {f : Addr} {fz : Bool} {m : MS} (D : Mdef K x qual st ps f) (S : FnScope N ps (defScope st)) (hn : ps.length = n)
    (body : ∀ (cdv : Value) (A : Around) (outer : List Env) (s : Shared) (H : Hp) (E : XK), (A.deeper (PyProof.Rows.envOfC qual (defScope st) s.heap.objs.size f cdv)).guards = some [] →
      Room k (A.deeper (PyProof.Rows.envOfC qual (defScope st) s.heap.objs.size f cdv)) →
      FSs (cxOf (L2.CX P w) P w K mg base N qual (defScope st) f cdv A outer s H E) (fun c d _ H' => E c d H') (defBody st) m) : FnG P w K mg base (L2.CX P w) (k + 1) f (spF K n (fnT fz N.length m)) := by
  obtain ⟨fd, F, b⟩ := D.ex
  exact fn_g F b S (fun vs H Q E h => h.1.trans hn.symm) fun cdv A outer s H vs Q E hg hr h => ⟨_, body cdv A outer s H E hg hr, bodyT_ok h⟩
end
/-- the method m of the class at C keeps F -/
structure Met (P : Program) (w : World) (K : PySem.W.Frag) (mg : Str → Option Value) (base : Heap) (k : Nat) (C : Addr) (m : Str) (n : Nat) (F : MF) : Prop where
  c : Cls K C
  ex : ∃ f, Meth K C m f ∧ FnG P w K mg base (L2.CX P w) k f (spF K n F)
/-- an instance of C without an own attribute m -/
def isIns (C : Addr) (m : Str) (v : MV) (μ : List MO) : Bool := match v with
  | .d (.obj C' fs) => decide (C' = C) && (fs.lookup m).isNone
  | .ref n => match μ[n]? with
    | some (.ins C' fs) => decide (C' = C) && (fs.lookup m).isNone
    | _ => false
  | _ => false
theorem isIns_ok {K : PySem.W.Frag} {Z ι : List Addr} {μ : List MO} {H : Hp} {C : Addr} {m : Str} {v : MV} {x : V} (s : Sta K Z ι μ H) (r : RM K (mask H Z) ι v x) (h : isIns C m v μ = true) : ∃ a dx fs, x = .ref a ∧ H a = some (.ins C dx fs) ∧ fs.lookup m = none := by
  unfold isIns at h
  split at h
  · simp only [Bool.and_eq_true, decide_eq_true_eq, Option.isNone_iff_eq_none] at h
    cases r with | d r => cases r with | obj q r => exact ⟨_, _, _, rfl, by rw [← h.1]; exact mask_same _ _ _ _ q, r.keys _ h.2⟩
  · split at h
    · rename_i C' fs hx
      simp only [Bool.and_eq_true, decide_eq_true_eq, Option.isNone_iff_eq_none] at h
      cases r with | ref r =>
        obtain ⟨ho, h1, h2⟩ := s.obj _ _ _ r hx
        cases h2 with | ins r2 => exact ⟨_, _, _, rfl, by rw [← h.1]; exact h1, r2.keys.2 _ h.2⟩
    · cases h
  · cases h
def mMeth (C : Addr) (m : Str) (F : MF) (n : Nat) (mo : ME) (ms : MA) : ME := fun ρ μ => (mo ρ μ).bind fun v μ1 => if isIns C m v μ1 = true then (ms ρ μ1).bind fun as μ2 => if as.length + 1 = n then callF F (v :: as) μ2 else .bad else .bad
section
variable {X : Cx} {W : WX} {k j n : Nat} {m : Str} {C : Addr} {F : MF} {apos pos : Pos} {o e : Expr} {es : List Expr} {mo : ME} {ms : MA}
theorem run_fg {f : Addr} {sp : Sp} {pins : List (Addr × Obj)} {σ : St} {H : Hp} {s : Shared} {Q : VK} {us : List Value} {vs : List V} (G : FnG X.prog X.w X.K X.mg X.base (L2.CX X.prog X.w) k f sp) (tk : Takes X W) (hg : X.A.guards = some []) (hr : Room k X.A)
    (I : Inv X pins σ H s) (r : Vals vs us) (h : sp vs H Q (WE W σ)) : wpAny (model X.prog X.w) X.A (call (.ref f) us) (EP X pins σ Q) X.xe s := by
  refine wpAny_call (codeAny_mono (G X.A X.stack s H us vs Q (WE W σ) hr hg I.env0 r h) fun z t hz => ?_)
  cases z with
  | error u => exact passAt tk σ pins H s u t I hz
  | ok fl => cases fl with
    | ret u => exact I.after hz
    | _ => exact hz.elim
theorem fe_meth {pl : Sem Bool} (c : Met X.prog X.w X.K X.mg X.base k C m n F) (tk : Takes X W) (hg : X.A.guards = some []) (hr : Room j X.A) (he : FE X W o mo) (ha : FA X W (e :: es) ms) (hk : k ≤ j := by decide)
    (hst : starEach (e :: es) X.env = (false, eval e X.env) :: starEach es X.env := by rfl) (hpl : (backTo pos (starEach es X.env)).any (·.1) = false := by rfl)
    (ht : eval (.Call (.Attribute o m apos) (e :: es) [] pos) X.env = (do
      let ov ← eval o X.env
      standAt apos.atName
      let (f, first) ← holding [ov] (getMethod ov m pl)
      callWith pos f first (backTo pos (starEach (e :: es) X.env)) (backToKw pos (keywordEach [] X.env))) := by rfl) :
    FE X W (.Call (.Attribute o m apos) (e :: es) [] pos) (mMeth C m F n mo ms) := by
  obtain ⟨f, hm, G⟩ := c.ex
  refine pe_imp (t := fun σ H Q => tM X.K W mo σ H fun x H1 => ∃ a dx fs, x = .ref a ∧ H1 a = some (.ins C dx fs) ∧ fs.lookup m = none ∧ tMA X.K W ms σ H1 fun vs H2 => spF X.K n F (x :: vs) H2 Q (WE W σ)) ⟨?_⟩ ?_
  · intro pins s σ H Q I h
    refine PySem.W.methodCall_KW (pl := pl) (thn (he.run pins s σ H _ I h) fun u s1 ⟨x, H1, I1, rx, a, dx, fs, ex, ea, l, q⟩ => ?_) ht
    subst ex
    obtain rfl : u = Value.ref a := rx
    refine getmeth_ok I1 ea c.c hm l ?_
    refine PySem.W.callWith_K (first := [.ref a]) (h₀ := X.base) I.ok.mod.kin hm.kp (thn (ha.run pos pins s1 σ H1 _ I1 q) fun us s2 ⟨vs, H2, I2, r, q2⟩ => ⟨I2.kIn, ?_⟩) hst hpl
    exact run_fg (us := .ref a :: us) (vs := .ref a :: vs) G tk hg (hr.mono hk) I2 (.cons rfl r) q2
  · rintro σ H Q ⟨Z, ι, ρ, μ, R, o⟩
    refine tM_bind R o fun v μ1 Z1 ι1 H1 x x1 R1 r1 o1 => ?_
    split at o1
    · rename_i hi
      obtain ⟨a, dx, fs, e1, e2, e3⟩ := isIns_ok R1.sta r1 hi
      refine ⟨a, dx, fs, e1, e2, e3, tMA_bind R1 o1 fun vs μ2 Z2 ι2 H2 xs x2 R2 r2 o2 => ?_⟩
      split at o2
      · rename_i hl; exact call_frame R2.sta (.cons (r1.mono x2.same x2.i) r2) (by rw [List.length_cons, ← r2.len]; exact hl) o2
      · exact o2.elim
    · exact o1.elim
theorem fe_meth0 {pl : Sem Bool} (c : Met X.prog X.w X.K X.mg X.base k C m 1 F) (tk : Takes X W) (hg : X.A.guards = some []) (hr : Room j X.A) (he : FE X W o mo) (hk : k ≤ j := by decide)
    (ht : eval (.Call (.Attribute o m apos) [] [] pos) X.env = (do
      let ov ← eval o X.env
      standAt apos.atName
      let (f, first) ← holding [ov] (getMethod ov m pl)
      callWith pos f first (backTo pos (starEach [] X.env)) (backToKw pos (keywordEach [] X.env))) := by rfl) :
    FE X W (.Call (.Attribute o m apos) [] [] pos) (mMeth C m F 1 mo mNil) := by
  obtain ⟨f, hm, G⟩ := c.ex
  refine pe_imp (t := fun σ H Q => tM X.K W mo σ H fun x H1 => ∃ a dx fs, x = .ref a ∧ H1 a = some (.ins C dx fs) ∧ fs.lookup m = none ∧ spF X.K 1 F [x] H1 Q (WE W σ)) ⟨?_⟩ ?_
  · intro pins s σ H Q I h
    refine PySem.W.methodCall_KW (pl := pl) (thn (he.run pins s σ H _ I h) fun u s1 ⟨x, H1, I1, rx, a, dx, fs, ex, ea, l, q⟩ => ?_) ht
    subst ex
    obtain rfl : u = Value.ref a := rx
    refine getmeth_ok I1 ea c.c hm l ?_
    exact PySem.W.callWith_K0 (first := [.ref a]) I1.kIn hm.kp (run_fg (us := [.ref a]) (vs := [.ref a]) G tk hg (hr.mono hk) I1 (.cons rfl .nil) q)
  · rintro σ H Q ⟨Z, ι, ρ, μ, R, o⟩
    refine tM_bind R o fun v μ1 Z1 ι1 H1 x x1 R1 r1 o1 => ?_
    split at o1
    · rename_i hi
      obtain ⟨a, dx, fs, e1, e2, e3⟩ := isIns_ok R1.sta r1 hi
      exact ⟨a, dx, fs, e1, e2, e3, call_frame R1.sta (.cons r1 .nil) rfl o1⟩
    · exact o1.elim
end
end TT

namespace TT
open PySem L2
variable [TB]
section
variable {X : Cx} {W : WX} {k j n : Nat} {C : Addr} {F : MF} {a b e : Expr} {pos p : Pos} {ma mb : ME}
/-- a def run in some surroundings -/
theorem run_fa {A' : Around} {f : Addr} {sp : Sp} {pins : List (Addr × Obj)} {σ : St} {H : Hp} {s : Shared} {Q : VK} {us : List Value} {vs : List V} (G : FnG X.prog X.w X.K X.mg X.base (L2.CX X.prog X.w) k f sp) (tk : Takes X W) (hg : A'.guards = some []) (hr : Room k A')
    (en : Env0 X.prog X.w X.K X.mg X.base A' X.stack s H) (I : Inv X pins σ H s) (r : Vals vs us) (h : sp vs H Q (WE W σ)) : wpAny (model X.prog X.w) A' (call (.ref f) us) (EP X pins σ Q) X.xe s := by
  refine wpAny_call (codeAny_mono (G A' X.stack s H us vs Q (WE W σ) hr hg en r h) fun z t hz => ?_)
  cases z with
  | error u => exact passAt tk σ pins H s u t I hz
  | ok fl => cases fl with
    | ret u => exact I.after hz
    | _ => exact hz.elim
/-- a special method of the class at C: found at f, keeping F -/
structure Spc (P : Program) (w : World) (K : PySem.W.Frag) (mg : Str → Option Value) (base : Heap) (k : Nat) (C : Addr) (m : Str) (n : Nat) (F : MF) : Prop where
  ex : ∃ f, PySem.W.findIn K (.ref C) m = some (some (.ref f)) ∧ PySem.W.isFn K (.ref f) = true ∧ PySem.W.fnIn K f = true ∧ FnG P w K mg base (L2.CX P w) k f (spF K n F)
def isInsC (C : Addr) (v : MV) (μ : List MO) : Bool := match v with
  | .d (.obj C' _) => decide (C' = C)
  | .ref n => match μ[n]? with
    | some (.ins C' _) => decide (C' = C)
    | _ => false
  | _ => false
theorem isInsC_ok {K : PySem.W.Frag} {Z ι : List Addr} {μ : List MO} {H : Hp} {C : Addr} {v : MV} {x : V} (s : Sta K Z ι μ H) (r : RM K (mask H Z) ι v x) (h : isInsC C v μ = true) : ∃ a dx fs, x = .ref a ∧ H a = some (.ins C dx fs) := by
  unfold isInsC at h
  split at h
  · simp only [decide_eq_true_eq] at h
    cases r with | d r => cases r with | obj q r => exact ⟨_, _, _, rfl, by rw [← h]; exact mask_same _ _ _ _ q⟩
  · split at h
    · rename_i C' fs hx
      simp only [decide_eq_true_eq] at h
      cases r with | ref r =>
        obtain ⟨ho, h1, h2⟩ := s.obj _ _ _ r hx
        cases h2 with | ins r2 => exact ⟨_, _, _, rfl, by rw [← h]; exact h1⟩
    · cases h
  · cases h
/-- len(o) -/
def mOLen (C : Addr) (F : MF) (ms : MA) : ME := fun ρ μ => (ms ρ μ).bind fun as μ1 => match as with
  | [v] => if isInsC C v μ1 = true then (callF F [v] μ1).bind fun r μ2 => match r with
    | .d (.int n) => if 0 ≤ n ∧ n < 2 ^ 63 then .ok (.d (.int n)) μ2 else .bad
    | _ => .bad else .bad
  | _ => .bad
theorem out_then {K : PySem.W.Frag} {σ : St} {Z ι : List Addr} {H : Hp} {r : Res MV} {g : MV → List MO → Res MV} {Q Q' : VK} (o : Out K W σ Z ι H (r.bind g) (Val K Q)) (h : ∀ v μ' Z' ι' H' x, Sta K Z' ι' μ' H' → RM K (mask H' Z') ι' v x → Out K W σ Z' ι' H' (g v μ') (Val K Q) → Q' x H') : Out K W σ Z ι H r (Val K Q') := by
  cases r with
  | ok v μ' => exact fun Z2 ι2 H2 x2 s2 x rx => h v μ' Z2 ι2 H2 x s2 rx (Out.base o x2)
  | exc C fs μ' => exact o
  | bad => exact o
theorem fe_olen (c : Spc X.prog X.w X.K X.mg X.base k C "__len__" 1 F) (tk : Takes X W) (hg : X.A.guards = some []) (hr : Room j X.A) (hm : X.mg "len" = none) {ms : MA} (ha : FA X W [e] ms) (hk : k + 1 ≤ j := by decide) (hgl : Gl X "len" := by rfl)
    (he : starEach [e] X.env = (false, eval e X.env) :: starEach [] X.env := by rfl) (hpl : (backTo pos (starEach [] X.env)).any (·.1) = false := by rfl) : FE X W (.Call (.Name "len" p) [e] [] pos) (mOLen C F ms) := by
  obtain ⟨f, h1, h2, h3, G⟩ := c.ex
  refine pe_imp (t := fun σ H Q => tMA X.K W ms σ H fun vs H1 => ∃ a dx fs, vs = [.ref a] ∧ H1 a = some (.ins C dx fs) ∧ spF X.K 1 F [.ref a] H1 (fun z H2 => ∃ n, z = .int n ∧ (0 ≤ n ∧ n < 2 ^ 63) ∧ Q (.int n) H2) (WE W σ)) ⟨?_⟩ ?_
  · intro pins s σ H Q I h
    refine PySem.wpAny_Call_Name_kw (ld_blt I hgl hm PySem.boot_len ?_)
    refine PyProof.Rows.callWith_builtin1 (thn (ha.run pos pins s σ H _ I h) fun us s1 hh => ?_) he hpl
    obtain ⟨vs, H1, I1, r1, a, dx, fs, rfl, ea, q⟩ := hh
    obtain ⟨u, rfl, ru⟩ := vals1 r1
    cases (show u = Value.ref a from ru)
    obtain ⟨mA, O, _⟩ := ins_get I1.hok ea
    obtain ⟨od, J, _⟩ := O.look
    obtain ⟨m, hF⟩ := I1.fr
    refine PySem.W.len_K hF I1.ok.mod.kin J h1 h2 (thn (run_fa (us := [.ref a]) (vs := [.ref a]) G tk hg (show Room k X.A.in1 from Room.in1 (hr.mono hk)) I1.env0.in1 I1 (.cons rfl .nil) q) fun z s2 hz => ?_)
    obtain ⟨v, H2, I2, rv, n, rfl, hb, q2⟩ := hz
    obtain ⟨t, rfl⟩ := rv
    exact ⟨hb, .int n, H2, I2.tok _, ⟨_, rfl⟩, q2⟩
  · rintro σ H Q ⟨Z, ι, ρ, μ, R, o⟩
    refine tMA_bind R o fun v μ' Z' ι' H' xs x1 R1 r1 o1 => ?_
    cases r1 with
    | nil => exact o1.elim
    | cons r1 rr => cases rr with
      | cons _ _ => exact o1.elim
      | nil =>
        simp only at o1
        split at o1
        · rename_i hi
          obtain ⟨a, dx, fs, rfl, e2⟩ := isInsC_ok R1.sta r1 hi
          refine ⟨a, dx, fs, rfl, e2, call_frame R1.sta (.cons r1 .nil) rfl (out_then o1 fun v μ2 Z2 ι2 H2 x s2 rx o2 => ?_)⟩
          split at o2
          · rename_i n
            split at o2
            · rename_i hb
              cases rx with | d rx => cases rx with | int => exact ⟨n, rfl, hb, Out.ret s2 o2 (.d (.int n))⟩
            · exact o2.elim
          · exact o2.elim
        · exact o1.elim
/-- a in o, a not in o -/
def mOIn (neg : Bool) (C : Addr) (F : MF) (ma mb : ME) : ME := fun ρ μ => (ma ρ μ).bind fun x μ1 => (mb ρ μ1).bind fun v μ2 => if isInsC C v μ2 = true then (callF F [v, x] μ2).bind fun r μ3 => match r with
  | .d (.bl c) => .ok (.d (.bl (if neg then !c else c))) μ3
  | _ => .bad else .bad
def tOIn (neg : Bool) (K : PySem.W.Frag) (W : WX) (C : Addr) (F : MF) (ma mb : ME) : TE := fun σ H Q => tM K W ma σ H fun x H1 => tM K W mb σ H1 fun y H2 => ∃ a dx fs, y = .ref a ∧ H2 a = some (.ins C dx fs) ∧ spF K 2 F [y, x] H2 (fun z H3 => ∃ c, z = .bl c ∧ Q (.bl (if neg then !c else c)) H3) (WE W σ)
theorem oin_read {neg : Bool} {K : PySem.W.Frag} {σ : St} {H : Hp} {Q : VK} (h : tM K W (mOIn neg C F ma mb) σ H Q) : tOIn neg K W C F ma mb σ H Q := by
  obtain ⟨Z, ι, ρ, μ, R, o⟩ := h
  refine tM_bind R o fun v μ1 Z1 ι1 H1 x x1 R1 r1 o1 => tM_bind R1 o1 fun w μ2 Z2 ι2 H2 y x2 R2 r2 o2 => ?_
  split at o2
  · rename_i hi
    obtain ⟨a, dx, fs, rfl, e2⟩ := isInsC_ok R2.sta r2 hi
    refine ⟨a, dx, fs, rfl, e2, call_frame R2.sta (.cons r2 (.cons (r1.mono x2.same x2.i) .nil)) rfl (out_then o2 fun v μ3 Z3 ι3 H3 z s3 rz o3 => ?_)⟩
    split at o3
    · rename_i c
      cases rz with | d rz => cases rz with | bl => exact ⟨c, rfl, Out.ret s3 o3 (.d (.bl _))⟩
    · exact o3.elim
  · exact o2.elim
theorem oin_run {neg : Bool} {op : CmpOp} (hop : op = if neg then .NotIn else .In) (c : Spc X.prog X.w X.K X.mg X.base k C "__contains__" 2 F) (tk : Takes X W) (hg : X.A.guards = some []) (hr : Room j X.A) (hk : k ≤ j) (ha : FE X W a ma) (hb : FE X W b mb) :
    ∀ (pins : List (Addr × Obj)) (s : Shared) (σ : St) (H : Hp) (Q : VK), Inv X pins σ H s → tOIn neg X.K W C F ma mb σ H Q →
      wpAny (model X.prog X.w) X.A (eval a X.env) (fun v s1 => wpAny (model X.prog X.w) X.A (eval b X.env) (fun u s2 => wpAny (model X.prog X.w) X.A (compareOp op v u) (EP X pins σ Q) X.xe s2) X.xe s1) X.xe s := by
  intro pins s σ H Q I h
  obtain ⟨f, h1, h2, h3, G⟩ := c.ex
  refine bin ha hb I h fun v u s2 x y H2 I2 rx ry q => ?_
  obtain ⟨a', dx, fs, rfl, ea, q⟩ := q
  cases (show u = Value.ref a' from ry)
  obtain ⟨mA, O, _⟩ := ins_get I2.hok ea
  obtain ⟨od, J, _⟩ := O.look
  obtain ⟨m, hF⟩ := I2.fr
  have run := run_fa (us := [.ref a', v]) (vs := [.ref a', x]) G tk hg (hr.mono hk) I2.env0 I2 (.cons rfl (.cons rx .nil)) q
  subst hop
  cases neg with
  | true =>
    refine PySem.W.notIn_K hF I2.ok.mod.kin J h1 h2 (thn run fun z s3 hz => ?_)
    obtain ⟨z', H3, I3, rz, c', rfl, q3⟩ := hz
    cases (show z = Value.bool c' from rz)
    exact wpAny_truthy_bool ⟨.bl _, H3, I3, rfl, q3⟩
  | false =>
    refine PySem.W.in_K hF I2.ok.mod.kin J h1 h2 (thn run fun z s3 hz => ?_)
    obtain ⟨z', H3, I3, rz, c', rfl, q3⟩ := hz
    cases (show z = Value.bool c' from rz)
    exact wpAny_truthy_bool ⟨.bl _, H3, I3, rfl, q3⟩
theorem fe_oin (c : Spc X.prog X.w X.K X.mg X.base k C "__contains__" 2 F) (tk : Takes X W) (hg : X.A.guards = some []) (hr : Room j X.A) (ha : FE X W a ma) (hb : FE X W b mb) (hk : k ≤ j := by decide) (hm : behindInMarks .In b = false := by rfl) : FE X W (.Compare a [.In] [b] pos) (mOIn false C F ma mb) :=
  ⟨fun pins s σ H Q I h => wpAny_Compare1 (oin_run (neg := false) rfl c tk hg hr hk ha hb pins s σ H Q I (oin_read h)) hm⟩
theorem fe_onotin (c : Spc X.prog X.w X.K X.mg X.base k C "__contains__" 2 F) (tk : Takes X W) (hg : X.A.guards = some []) (hr : Room j X.A) (ha : FE X W a ma) (hb : FE X W b mb) (hk : k ≤ j := by decide) (hm : behindInMarks .NotIn b = false := by rfl) : FE X W (.Compare a [.NotIn] [b] pos) (mOIn true C F ma mb) :=
  ⟨fun pins s σ H Q I h => wpAny_Compare1 (oin_run (neg := true) rfl c tk hg hr hk ha hb pins s σ H Q I (oin_read h)) hm⟩
/-- a test by a comparison of any kind -/
theorem ft_pc {op : CmpOp} {t : TE} {m : ME} (h : ∀ (pins : List (Addr × Obj)) (s : Shared) (σ : St) (H : Hp) (Q : VK), Inv X pins σ H s → t σ H Q → wpAny (model X.prog X.w) X.A (eval a X.env) (fun v s1 => wpAny (model X.prog X.w) X.A (eval b X.env) (fun u s2 => wpAny (model X.prog X.w) X.A (compareOp op v u) (EP X pins σ Q) X.xe s2) X.xe s1) X.xe s)
    (hi : ∀ σ H Q, tM X.K W m σ H Q → t σ H Q) (hm : behindInMarks op b = false := by rfl) : FT X W (.Compare a [op] [b] pos) (mB m) := by
  refine pt_imp (pt_cmp ⟨h⟩ hm) fun σ H Q ⟨Z, ι, ρ, μ, R, o⟩ => hi σ H _ ⟨Z, ι, ρ, μ, R, ?_⟩
  unfold mB at o
  cases q : m ρ μ with
  | exc C fs μ' => rw [q] at o; exact o
  | bad => rw [q] at o; exact o
  | ok v μ' => rw [q] at o; exact fun Z1 ι1 H1 x1 s1 x rx => bool_rule s1 rx (Out.base o x1)
theorem ft_oin (c : Spc X.prog X.w X.K X.mg X.base k C "__contains__" 2 F) (tk : Takes X W) (hg : X.A.guards = some []) (hr : Room j X.A) (ha : FE X W a ma) (hb : FE X W b mb) (hk : k ≤ j := by decide) (hm : behindInMarks .In b = false := by rfl) : FT X W (.Compare a [.In] [b] pos) (mB (mOIn false C F ma mb)) :=
  ft_pc (oin_run (neg := false) rfl c tk hg hr hk ha hb) (fun _ _ _ h => oin_read h) hm
theorem ft_onotin (c : Spc X.prog X.w X.K X.mg X.base k C "__contains__" 2 F) (tk : Takes X W) (hg : X.A.guards = some []) (hr : Room j X.A) (ha : FE X W a ma) (hb : FE X W b mb) (hk : k ≤ j := by decide) (hm : behindInMarks .NotIn b = false := by rfl) : FT X W (.Compare a [.NotIn] [b] pos) (mB (mOIn true C F ma mb)) :=
  ft_pc (oin_run (neg := true) rfl c tk hg hr hk ha hb) (fun _ _ _ h => oin_read h) hm
/-- o[i] -/
def mOIx (C : Addr) (F : MF) (ma mb : ME) : ME := fun ρ μ => (ma ρ μ).bind fun v μ1 => (mb ρ μ1).bind fun i μ2 => if isInsC C v μ2 = true then callF F [v, i] μ2 else .bad
theorem fe_oix (c : Spc X.prog X.w X.K X.mg X.base k C "__getitem__" 2 F) (tk : Takes X W) (hg : X.A.guards = some []) (hr : Room j X.A) (ha : FE X W a ma) (hb : FE X W b mb) (hk : k + 1 ≤ j := by decide)
    (hsl : ∀ v i, subscripted b true v i = runValue (.builtin "lifetime.subscript" ⟨[v, i], []⟩) := by intro _ _; with_unfolding_all rfl) : FE X W (.Subscript a b pos) (mOIx C F ma mb) := by
  obtain ⟨f, h1, h2, h3, G⟩ := c.ex
  refine pe_imp (t := fun σ H Q => tM X.K W ma σ H fun x H1 => tM X.K W mb σ H1 fun y H2 => ∃ a' dx fs, x = .ref a' ∧ H2 a' = some (.ins C dx fs) ∧ spF X.K 2 F [x, y] H2 Q (WE W σ)) ⟨?_⟩ ?_
  · intro pins s σ H Q I h
    refine PyProof.Rows.Subscript_ (binT ha hb I h fun v u s2 x y H2 I2 rx ry q => ?_)
    obtain ⟨a', dx, fs, rfl, ea, q⟩ := q
    cases (show v = Value.ref a' from rx)
    obtain ⟨mA, O, _⟩ := ins_get I2.hok ea
    obtain ⟨od, J, _⟩ := O.look
    obtain ⟨m, hF⟩ := I2.fr
    exact PySem.W.sub_K hF I2.ok.mod.kin J h1 h3 h2 (run_fa (us := [.ref a', u]) (vs := [.ref a', y]) G tk hg (show Room k X.A.in1 from Room.in1 (hr.mono hk)) I2.env0.in1 I2 (.cons rfl (.cons ry .nil)) q) (hsl _ _)
  · rintro σ H Q ⟨Z, ι, ρ, μ, R, o⟩
    refine tM_bind R o fun v μ1 Z1 ι1 H1 x x1 R1 r1 o1 => tM_bind R1 o1 fun w μ2 Z2 ι2 H2 y x2 R2 r2 o2 => ?_
    split at o2
    · rename_i hi
      have r1' := r1.mono x2.same x2.i
      obtain ⟨a', dx, fs, rfl, e2⟩ := isInsC_ok R2.sta r1' hi
      exact ⟨a', dx, fs, rfl, e2, call_frame R2.sta (.cons r1' (.cons r2 .nil)) rfl o2⟩
    · exact o2.elim
/-- C.NAME -/
theorem fe_cint {x f : Str} {i : Int} {mc : Value} {p2 : Pos} (hm : X.mg x = some (.ref C)) (r : ClX.CRead X.K C mc) (v : ∃ u, ClX.CVal X.K C mc f (.int i) u) (hgl : Gl X x := by rfl) (hd : (x == ("__debug__" : Str)) = false := by decide)
    (hb : attributeBase (.Name x p) f X.env (eval (.Name x p) X.env) = eval (.Name x p) X.env := by rfl) : FE X W (.Attribute (.Name x p) f p2) (mC (.int i)) := by
  obtain ⟨u, v⟩ := v
  exact pe_imp (ClX.pe_cval (pe_glob (v := .ref C) hgl hm rfl hd) hb) fun σ H Q ⟨Z, ι, ρ, μ, R, o⟩ => ⟨C, mc, .int i, u, rfl, r, v, Out.ret R.sta o (.d (.int i))⟩
/-- C.m(), a classmethod -/
structure CMt (P : Program) (w : World) (K : PySem.W.Frag) (mg : Str → Option Value) (base : Heap) (k : Nat) (C : Addr) (m : Str) (n : Nat) (F : MF) : Prop where
  ex : ∃ mc p g, ClX.CRead K C mc ∧ ClX.CMet K C mc m p g ∧ FnG P w K mg base (L2.CX P w) k g (spF K n F)
theorem fe_cmeth0 {x m : Str} {pl : Sem Bool} {p2 : Pos} (c : CMt X.prog X.w X.K X.mg X.base k C m 1 F) (hm : X.mg x = some (.ref C)) (tk : Takes X W) (hg : X.A.guards = some []) (hr : Room j X.A) (hk : k ≤ j := by decide) (hgl : Gl X x := by rfl) (hd : (x == ("__debug__" : Str)) = false := by decide)
    (ht : eval (.Call (.Attribute (.Name x p) m p2) [] [] pos) X.env = (do
      let ov ← eval (.Name x p) X.env
      standAt p2.atName
      let (f, first) ← holding [ov] (getMethod ov m pl)
      callWith pos f first (backTo pos (starEach [] X.env)) (backToKw pos (keywordEach [] X.env))) := by rfl) :
    FE X W (.Call (.Attribute (.Name x p) m p2) [] [] pos) (mCall F 1 (mCons (mC (.gl C)) mNil)) := by
  obtain ⟨mc, pp, g, r, cm, G⟩ := c.ex
  refine ⟨fun pins s σ H Q I h => ?_⟩
  obtain ⟨Z, ι, ρ, μ, R, o⟩ := h
  refine PySem.W.methodCall_KW (pl := pl) (ld_glob I hgl hm ?_ hd) ht
  refine ClX.getmethcm_ok I r cm fun s2 I2 => ?_
  have o1 : Out X.K W σ Z ι H (callF F [.d (.gl C)] μ) (Val X.K Q) := o
  have q : spF X.K 1 F [.ref C] H Q (WE W σ) := call_frame R.sta (.cons (.d (.gl C)) .nil) rfl o1
  have z : wpAny (model X.prog X.w) X.A (call (.ref _) []) (EP X ((_, PySem.W.methodObj (.ref g) (.ref C)) :: pins) σ Q) X.xe s2 :=
    wpAny_call (PySem.W.method_call (ClX.pin_at I2) (codeAny_mono (G X.A X.stack s2 H [.ref C] [.ref C] Q (WE W σ) (hr.mono hk) hg I2.env0 (.cons rfl .nil) q) fun z t hz => by
      cases z with
      | error u => exact passAt tk σ _ H s2 u t I2 hz
      | ok fl => cases fl with
        | ret u => exact I2.after hz
        | _ => exact hz.elim))
  exact PySem.W.callWith_M0 (first := []) ⟨ClX.pin_at I2, I2.kIn⟩ cm.fi (thn z fun _ _ y => ClX.unpinE y)
end
/-! a def that is handed over -/
/-- the defs that may be called through a name: at a, n arguments, keeping F -/
def tblAt (t : List (Addr × Nat × MF)) (a : Addr) : Option (Nat × MF) := match t with
  | [] => none
  | (b, n, F) :: r => if b = a then some (n, F) else tblAt r a
def mCallV (t : List (Addr × Nat × MF)) (i : Nat) (ms : MA) : ME := fun ρ μ => match ρ[i]? with
  | some (some (.d (.gl a))) => match tblAt t a with
    | some (n, F) => (ms ρ μ).bind fun as μ1 => if as.length = n then callF F as μ1 else .bad
    | none => .bad
  | _ => .bad
def TblOk (P : Program) (w : World) (K : PySem.W.Frag) (mg : Str → Option Value) (base : Heap) (k : Nat) (t : List (Addr × Nat × MF)) : Prop := ∀ a n F, tblAt t a = some (n, F) → FnG P w K mg base (L2.CX P w) k a (spF K n F) ∧ PySem.W.keepIn K (.ref a) = true
section
variable {X : Cx} {W : WX} {k j i : Nat} {t : List (Addr × Nat × MF)} {x : Str} {e : Expr} {es : List Expr} {pos p : Pos} {ms : MA}
theorem fe_callV (c : TblOk X.prog X.w X.K X.mg X.base k t) (tk : Takes X W) (hg : X.A.guards = some []) (hr : Room j X.A) (ha : FA X W (e :: es) ms) (hk : k ≤ j := by decide) (hN : X.N[i]? = some x := by rfl) (hv : Vis X.env.scope x := by first | exact Or.inl rfl | exact Or.inr (Or.inl rfl) | exact Or.inr (Or.inr rfl))
    (hd : (x == ("__debug__" : Str)) = false := by decide) (hcd : (x == ("__classdict__" : Str)) = false := by decide)
    (he : starEach (e :: es) X.env = (false, eval e X.env) :: starEach es X.env := by rfl) (hpl : (backTo pos (starEach es X.env)).any (·.1) = false := by rfl) : FE X W (.Call (.Name x p) (e :: es) [] pos) (mCallV t i ms) := by
  refine ⟨fun pins s σ H Q I h => ?_⟩
  obtain ⟨Z, ι, ρ, μ, R, o⟩ := h
  unfold mCallV at o
  split at o
  · rename_i a ha1
    split at o
    · rename_i n F hF
      obtain ⟨G, kp⟩ := c a n F hF
      obtain ⟨v, h1, h2⟩ := RS.get R.rs ha1
      cases h2 with | d h2 => cases h2 with | gl =>
        refine PySem.wpAny_Call_Name_kw (thn ((pe_var (X := X) (i := i) hN hv hd hcd).run pins s σ H (fun v H' => v = .ref a ∧ H' = H) I ⟨_, h1, rfl, rfl⟩) fun u s0 ⟨v, H0, I0, rv, e1, e2⟩ => ?_)
        subst e1 e2
        cases (show u = Value.ref a from rv)
        refine PySem.W.callWith_K (h₀ := X.base) I0.ok.mod.kin kp (thn (ha.run pos pins s0 σ H0 (fun vs H1 => spF X.K n F vs H1 Q (WE W σ)) I0 (tMA_bind R o fun v μ' Z' ι' H' xs x1 R1 r1 o1 => ?_)) fun us s1 hh => ?_) he hpl
        · split at o1
          · rename_i hl; exact call_frame R1.sta r1 (by rw [← r1.len]; exact hl) o1
          · exact o1.elim
        · obtain ⟨vs, H1, I1, r, q⟩ := hh
          exact ⟨I1.kIn, run_fg G tk hg (hr.mono hk) I1 r q⟩
    · exact o.elim
  · exact o.elim
end
end TT

namespace TT
open PySem L2 PyProof.Rows
variable [TB]
/-! the first item of a row, by a lambda -/
section
variable {prog : Program} {w : World} {A : Around} {E : Value → Shared → Prop} {s : Shared}
theorem lam0_call {f c' t : Addr} {q x : Str} {params : Arguments} {scope : Scope} {cl : List (Str × Addr)} {pm ctv u : Value} {its : Array Value} {p1 p2 p3 : Pos} {j : Nat} (hroom : A.depth < recursionLimit)
    (ho : s.heap.get? f = some (PySem.W.kla_obj "<lambda>" q params (.Subscript (.Name x p1) (.Constant (.int 0) j p2) p3) scope cl pm c' ctv)) (hcd : s.heap.CodeRec (.ref c') q) (lim : s.heap.NoLimit) (ht : IsTup s.heap t its) (hu : its[0]? = some u)
    (hb : ∀ v : Value, bindArgs (PySem.W.kla_fn "<lambda>" q params (.Subscript (.Name x p1) (.Constant (.int 0) j p2) p3) scope cl pm (.ref c') ctv) ⟨[v], []⟩ = pure [(x, v)]) (hn : scope.names = [(x, .local)]) (hk : scope.kind = .function) (hco : scope.isCoroutine = false) (hgn : scope.isGenerator = false)
    (hd : (x == ("__debug__" : Str)) = false) :
    wpAny (model prog w) A (call (.ref f) [.ref t]) (fun r s' => r = u ∧ ∃ h' tk, s' = { s with heap := h', toks := tk } ∧ ∀ b o, s.heap.get? b = some o → h'.get? b = some o) (fun _ _ => False) s := by
  have rc : codeAny (model prog w) A (.call (.ref f) ⟨[.ref t], []⟩) (fun z s' => z = .ok (.ret u) ∧ ∃ h' tk, s' = { s with heap := h', toks := tk } ∧ ∀ b o, s.heap.get? b = some o → h'.get? b = some o) s := by
    refine PySem.W.kla_callFunE hroom ho rfl hco hgn rfl hcd ?_
    rw [hb]
    refine wpAny_pure (wpAny_newFunctionEnv (fun y hy => ?_) (fun y hy => ?_) (fun h₁ hns hsb => ⟨lim.fresh _ hsb, ?_⟩) hk)
    · have hy : y ∈ scope.names := hy
      rw [hn] at hy
      rw [List.mem_singleton.mp hy]
      exact fun z => nomatch z
    · rw [List.mem_singleton.mp hy]
      show scope.names.lookup x = _
      rw [hn]
      simp [List.lookup]
    · have kp : ∀ b o, s.heap.get? b = some o → h₁.get? b = some o := fun b o e => hsb.extBut b o (Nat.ne_of_lt (Heap.lt_size e)) (Heap.get?_push_of_some _ e)
      refine PySem.W.kla_codeExpr (Subscript_ ?_)
      refine wpAny_Name (wpAny_loadName_local (m := fun y => ([(x, Value.ref t)] : List (Str × Value)).reverse.lookup y) (v := .ref t) hk ?_ hns (by simp [List.lookup]) ?_) hd
      · show scope.names.lookup x = _
        rw [hn]
        simp [List.lookup]
      · refine wpAny_Constant_int ?_
        have ht2 : IsTup h₁ t its := by
          obtain ⟨o, e, r⟩ := ht
          exact ⟨o, kp _ _ e, r⟩
        have hsz : 0 < its.size := (Array.getElem?_eq_some_iff.mp hu).1
        refine subscriptTail_builtinR (x := u) (T := "tuple") ht2.typeIs slot_tuple_getitem.lookup (getItem_tuple (j := 0) ht2 (by decide) (by decide) ?_ hu ⟨rfl, rfl, h₁, _, rfl, kp⟩) (by with_unfolding_all rfl)
        unfold seqIndex?
        simp [hsz]
  refine wpAny_call (codeAny_mono rc fun r s' ⟨e, h⟩ => ?_)
  subst e
  exact ⟨rfl, h⟩
end
/-! sorted by a key, of a list or a tuple -/
section
open PySem.W
variable {prog : Program} {w : World} {A : Around} {E : Value → Shared → Prop} {s : Shared} {β : Type} {vs : List Value} {bs : List β} {R : Value → β → Prop}
theorem sorted_seq {T : String} (hT : T = "list" ∨ T = "tuple") {l : Addr} {o : Obj} {n0 : Nat} {f : Value} {kw : List (Str × Value)} {b : Bool} {Q : Value → Shared → Prop} (k : β → PyData) (ho : s.heap.get? l = some o) (hc : o.cls = .type T) (hd : o.data = .seq vs.toArray n0)
    (e : EachIs R vs bs) (hal : AllAlike (bs.map k)) (hk : Sortable (bs.map k)) (hL : bs.length ≤ sizeLine) (hu : ∀ x, x ∈ bs → A.units + 2 + (k x).depth < cLine) (ha1 : argsOk "sorted" ⟨[.ref l], kw⟩) (ha2 : ∀ x, argsOk "list.sort" ⟨[.ref x], kw⟩) (ht : ∀ x, Builtin.«list.sort» ⟨[.ref x], kw⟩ = ksk_tree x f b)
    (turn : ∀ (v : Value) (x : β), R v x → x ∈ bs → ∀ (h : Heap) (tk : Nat), (∀ a o, s.heap.get? a = some o → h.get? a = some o) → wpAny (model prog w) A.in1.in1 (call f [v]) (KeyPure (k x) { s with heap := h, toks := tk }) (fun _ _ => False) { s with heap := h, toks := tk })
    (h : ∀ out c h' tk p, (∀ a o, s.heap.get? a = some o → h'.get? a = some o) → s.heap.get? p = none → h'.get? p = some (seqObj "list" (List.toArray out) c) → out.length = bs.length → EachIs R out (bs.mergeSort (dataLe b k)) → Q (.ref p) { s with heap := h', toks := tk }) :
    wpAny (model prog w) A (call (.builtin "sorted") [.ref l] kw) Q E s := by
  have hl : vs.length ≤ sizeLine := by rw [e.length]; exact hL
  refine call_function_entry_kw kind_sorted plain_sorted entry_sorted ha1 ?_
  unfold Builtin.«sorted»
  refine wpAny_bind (m := checkCount "sorted" 1 1 _) (wpAny_pure ?_)
  refine wpAny_bind (wpAny_collect_seq l hT ho hc hd (fun g hg => ?_) (by rw [List.size_toArray]; exact hl))
  refine wpAny_bind (wpAny_newList ?_ hl)
  have kg : ∀ a o, s.heap.get? a = some o → (g.push (seqObj "list" vs.toArray 0)).get? a = some o := fun a o q => Heap.get?_push_of_some _ (hg a o q)
  have hat : (g.push (seqObj "list" vs.toArray 0)).get? g.objs.size = some (seqObj "list" vs.toArray 0) := Heap.get?_push_size _ rfl
  have fr : s.heap.get? g.objs.size = none := by
    cases q : s.heap.get? g.objs.size with
    | none => rfl
    | some o => exact absurd (Heap.lt_size (hg _ _ q)) (Nat.lt_irrefl _)
  have up : ∀ {g1 : Heap}, KeepsBut g.objs.size (g.push (seqObj "list" vs.toArray 0)) g1 → ∀ a o, s.heap.get? a = some o → g1.get? a = some o := fun {g1} kp a o q => kp a o (fun z => by rw [z, fr] at q; cases q) (kg a o q)
  refine wpAny_bind (wpAny_holding (wpAny_call_entry_kw slot_list_sort ⟨_, hat, rfl⟩ entry_list_sort ?body (ha2 _)))
  case body =>
    show wpAny (model prog w) A.in1.in1 (Builtin.«list.sort» ⟨[.ref g.objs.size], kw⟩) _ _ _
    rw [ht]
    refine keyH_tree (kz := bs.map k) (s := { s with heap := g.push (seqObj "list" vs.toArray 0) }) hat (by rw [List.length_map]; exact e.length.symm) hl hal hk (bound_map (A := A.in1.in1) hu)
      (keyH_turns (s := { s with heap := g.push (seqObj "list" vs.toArray 0) }) e fun v x hR hx h tk kp => turn v x hR hx h tk (up kp)) fun h' tk out c kp hD ko => ⟨_, rfl, wpAny_pure ⟨_, rfl, ?_⟩⟩
    exact h out c h' tk _ (up kp) fr hD ((ko.length (by rw [List.length_map]; exact e.length.symm)).trans e.length) (keyedOut_each k ko e)
end
/-! a lambda is made -/
section
variable {X : Cx} {pins : List (Addr × Obj)} {σ : L2.St} {H : Hp} {s : Shared}
/-- the def has a table for the code objects of its lambdas -/
structure LamOk (X : Cx) (c P : Addr) : Prop where
  tb : LamX.TabB X.base X.mg c P
  code : X.env.code = .ref c
  mem : (P, X.env.qual ++ "<lambda>") ∈ TB.T
  uni : ∀ p ∈ TB.T, p.1 = P → p.2 = X.env.qual ++ "<lambda>"
theorem lam_mk {c P : Addr} {ps : Arguments} {bd : Expr} {sc : Scope} {lp : Pos} {E Q : Value → Shared → Prop} (I : Inv X pins σ H s) (L : LamOk X c P) (t : LamX.Tabs TB.T H) (hd : defaultsOf ps X.env = ([], [])) (hf : ∀ y ∈ sc.names, y.2 = .free → ∃ c, X.env.cells.lookup y.1 = some c)
    (h : ∀ (f c' : Addr) (pm ctv : Value) (cl : List (Str × Addr)) (H1 : Hp) (s' : Shared), Inv X pins σ H1 s' → (∀ b o, b ≠ P → H b = some o → H1 b = some o) → LamX.Tabs TB.T H1 →
      s'.heap.get? f = some (PySem.W.kla_obj "<lambda>" (X.env.qual ++ "<lambda>") ps bd sc cl pm c' ctv) → H1 c' = some (LamX.CodeO c' (X.env.qual ++ "<lambda>")) → Q (.ref f) s') :
    wpAny (model X.prog X.w) X.A (eval (.Lambda ps bd sc lp) X.env) Q E s := by
  obtain ⟨arr, e1, e2, e3⟩ := t _ L.mem
  have oP := I.hok P _ e1
  have bm := L.tb.bm.keeps I.bk
  have gl := I.mod.glob.keeps I.bk
  have cd := L.tb.code.keeps I.bk
  have clo := closure_ok hf
  refine PySem.W.kla_eval hd ?_
  cases q : codeAmong lp arr.toList with
  | some cv =>
    obtain ⟨c1, rfl, co⟩ := e3 lp cv q
    refine PySem.W.kla_makeFunctionHit (ps := arr) clo I.ok.glob gl L.code cd oP e2 q bm fun ctv g tk hx hsz => ?_
    exact h _ c1 _ ctv _ H _ (I.kept fun b o e => Heap.get?_push_of_some _ (hx b o e)) (fun b o _ e => e) t (Heap.get?_push_size _ rfl) co
  | none =>
    refine PySem.W.kla_makeFunction (ps := arr) clo I.ok.glob gl L.code cd oP e2 q L.tb.gP bm fun c1 ctv g tk hx hge hlt hrec htb => ?_
    obtain ⟨c2, oc, vs, tq, z, hoc, hdc, hv⟩ := hrec
    cases z
    have nC : H c1 = none := I.hok.fresh hge
    have ne : ∀ {b : Addr} {o : HO}, H b = some o → b ≠ c1 := fun e => ne_of_none e nC
    have I1 := LamX.inv_table (t' := tk) (more := #[rawInt lp.line, rawInt lp.col, .ref c1]) (q := X.env.qual ++ "<lambda>") (c := c1) (h' := g.push (PySem.W.kla_obj "<lambda>" (X.env.qual ++ "<lambda>") ps bd sc (cloFrom X.env.cells sc.names []) ((X.mg "__name__").getD .none) c1 ctv)) I e1
      (fun b o nb e => Heap.get?_push_of_some _ (hx b o nb e)) (Heap.get?_push_of_some _ htb) hge ⟨oc, vs, tq, Heap.get?_push_of_some _ hoc, hdc, hv⟩
    have kp : ∀ b o, b ≠ P → H b = some o → upd (upd H P (.tbl (arr ++ #[rawInt lp.line, rawInt lp.col, .ref c1]))) c1 (LamX.CodeO c1 (X.env.qual ++ "<lambda>")) b = some o := fun b o nb e => by
      rw [upd_ne (ne e), upd_ne nb]; exact e
    have kc : ∀ {b : Addr} {r : Str}, H b = some (LamX.CodeO b r) → b ≠ P := fun e z => by
      rw [z, e1] at e
      exact LamX.codeO_ne _ (Option.some.inj e).symm
    refine h _ c1 _ ctv _ _ _ I1 kp (fun p hp => ?_) (Heap.get?_push_size _ rfl) upd_same
    by_cases hb : p.1 = P
    · rw [hb, L.uni p hp hb]
      have el : (arr ++ #[rawInt lp.line, rawInt lp.col, .ref c1]).toList = arr.toList ++ [rawInt lp.line, rawInt lp.col, .ref c1] := by simp
      refine ⟨_, by rw [upd_ne (ne e1), upd_same], by rw [el]; exact PySem.TriplesOk_snoc _ _ _ _ e2, fun p' cv hcv => ?_⟩
      rw [el] at hcv
      rcases LamX.among_app _ e2 hcv with z | z
      · obtain ⟨c0, z1, z2⟩ := e3 p' cv z
        exact ⟨c0, z1, kp _ _ (kc z2) z2⟩
      · exact ⟨c1, z, upd_same⟩
    · obtain ⟨a0, a1, a2, a3⟩ := t p hp
      refine ⟨a0, kp _ _ hb a1, a2, fun p' cv hcv => ?_⟩
      obtain ⟨c0, z1, z2⟩ := a3 p' cv hcv
      exact ⟨c0, z1, kp _ _ (kc z2) z2⟩
end
/-! sorted(xs, key=lambda row: row[0]) -/
def key0 : D → Option Str
  | .tup (.str x :: _) => some x
  | _ => none
def keyD (d : D) : PyData := match key0 d with
  | some x => .str x
  | none => .none
def sortD (xs : List D) : Option (List D) := if xs.all (fun d => (key0 d).isSome) = true ∧ xs.length ≤ sizeLine then some (xs.mergeSort (PySem.W.dataLe false keyD)) else none
def sortV : D → Option (List D)
  | .lst xs => sortD xs
  | .fl xs => sortD xs
  | .tup xs => sortD xs
  | _ => none
def mSort (ms : MA) : ML := mNL (fun as => match as with | [d] => sortV d | _ => none) ms
section
variable {K : PySem.W.Frag} {Z ι : List Addr} {μ : List MO} {H H' : Hp} {P : Addr}
theorem Sta.growN (s : Sta K Z ι μ H) {ps qs : Array Value} (hP : H P = some (.tbl ps)) (hP' : H' P = some (.tbl qs)) (k : ∀ b o, b ≠ P → H b = some o → H' b = some o) (t : LamX.Tabs TB.T H') : Sta K Z ι μ H' ∧ Ext Z ι H Z ι H' := by
  have nP : ∀ {b : Addr} {o : HO}, NT o → H b = some o → b ≠ P := fun {b o} n e z => by rw [z, hP] at e; cases e; exact n
  have tr : ∀ {b : Addr} {o : HO}, H b = some o → ∃ o', H' b = some o' := fun {b o} e => by
    by_cases q : b = P
    · rw [q]; exact ⟨_, hP'⟩
    · exact ⟨o, k b o q e⟩
  have x : Ext Z ι H Z ι H' := ⟨s.sub, fun _ h => h, fun _ _ h => h, fun a o _ n h => k a o (nP n h) h, fun a qs h => ?_, fun _ h => .inl h, fun _ h => .inl h⟩
  · refine ⟨⟨s.sub, s.nd, s.len, fun a h => ?_, t, fun n a o h1 h2 => ?_⟩, x⟩
    · obtain ⟨o, h⟩ := s.trk a h
      exact tr h
    · obtain ⟨ho, h, r⟩ := s.obj n a o h1 h2
      exact ⟨ho, k a ho (nP r.nt h) h, r.mono x.same x.i⟩
  · by_cases q : a = P
    · rw [q]; exact ⟨_, hP'⟩
    · exact ⟨_, k a _ q h⟩
theorem sq_keep {a : Addr} {vs : List V} {ps : Array Value} (hP : H P = some (.tbl ps)) (k : ∀ b o, b ≠ P → H b = some o → H' b = some o) (h : SqL K H a vs) : SqL K H' a vs := by
  have nP : ∀ {b : Addr} {o : HO}, NT o → H b = some o → b ≠ P := fun {b o} n e z => by rw [z, hP] at e; cases e; exact n
  rcases h with (h | ⟨o, h⟩) | h
  · exact .inl (.inl (k _ _ (nP (o := .lst vs) True.intro h) h))
  · exact .inl (.inr ⟨o, k _ _ (nP (o := .frz o (.lst vs)) True.intro h) h⟩)
  · exact .inr h
end
section
variable {X : Cx} {W : WX} {k j : Nat} {c P : Addr} {e : Expr} {x : Str} {ps : Arguments} {sc : Scope} {p p1 p2 p3 lp kp pos : Pos} {ms : MA}
theorem each_split {K : PySem.W.Frag} {F : Hp} : ∀ {ds : List D} {us : List Value}, PySem.W.EachIs (fun (u : Value) (d : D) => ∃ y, DR K F d y ∧ RelV y u) us ds → ∃ vs, DRs K F ds vs ∧ Vals vs us
  | _, _, .nil => ⟨[], .nil, .nil⟩
  | _, _, .cons ⟨y, a, b⟩ t => by
    obtain ⟨vs, h1, h2⟩ := each_split t
    exact ⟨y :: vs, .cons a h1, .cons b h2⟩
theorem each_join {K : PySem.W.Frag} {F : Hp} : ∀ {ds : List D} {vs : List V} {us : List Value}, DRs K F ds vs → Vals vs us → PySem.W.EachIs (fun (u : Value) (d : D) => ∃ y, DR K F d y ∧ RelV y u) us ds
  | _, _, _, .nil, .nil => .nil
  | _, _, _, .cons a t, .cons b u => .cons ⟨_, a, b⟩ (each_join t u)
theorem key0_some {d : D} {y : Str} (h : key0 d = some y) : ∃ r, d = .tup (.str y :: r) := by
  unfold key0 at h
  split at h
  · cases h; exact ⟨_, rfl⟩
  · cases h
def Src (K : PySem.W.Frag) (u : Value) (s2 : Shared) (F : Hp) (ys : List D) : Prop := ∃ (a : Addr) (xs : List D) (vs : List V) (its : List Value) (T : String) (ob : Obj) (n0 : Nat), u = .ref a ∧ sortD xs = some ys ∧ DRs K F xs vs ∧ Vals vs its ∧ (T = "list" ∨ T = "tuple") ∧ s2.heap.get? a = some ob ∧ ob.cls = .type T ∧ ob.data = .seq its.toArray n0
theorem fl_sortK (L : LamOk X c P) (hm : X.mg "sorted" = none) (hr : Room j X.A) (ha : FA X W [e] ms) (hgl : Gl X "sorted" := by rfl) (hd : (x == ("__debug__" : Str)) = false := by decide) (hdf : defaultsOf ps X.env = ([], []) := by rfl)
    (hb : ∀ (q : Str) (cl : List (Str × Addr)) (pm cv ctv v : Value), bindArgs (PySem.W.kla_fn "<lambda>" q ps (.Subscript (.Name x p1) (.Constant (.int 0) k p2) p3) sc cl pm cv ctv) ⟨[v], []⟩ = pure [(x, v)] := by intros; rfl)
    (hn : sc.names = [(x, .local)] := by rfl) (hk : sc.kind = .function := by rfl) (hco : sc.isCoroutine = false := by rfl) (hgn : sc.isGenerator = false := by rfl)
    (he : backTo pos (starEach [e] X.env) = (false, eval e X.env) :: backTo pos (starEach [] X.env) := by rfl) (hpl : (backTo pos (starEach [e] X.env)).any (·.1) = false := by rfl) :
    FL X W (.Call (.Name "sorted" p) [e] [⟨some "key", .Lambda ps (.Subscript (.Name x p1) (.Constant (.int 0) k p2) p3) sc lp, kp⟩] pos) (mSort ms) := by
  refine ⟨fun pins s σ H Q I h => ?_⟩
  obtain ⟨Z, ι, ρ, μ, R, o⟩ := h
  refine PySem.wpAny_Call_Name_kw (ld_blt I hgl hm boot_sorted ?_)
  refine callWith_kw (thn (ha.run pos pins s σ H (fun vs H1 => ∃ Z1 ι1 μ1 v d ys, vs = [v] ∧ Ext Z ι H Z1 ι1 H1 ∧ Sta X.K Z1 ι1 μ1 H1 ∧ DV X.K Z1 H1 d v ∧ sortV d = some ys ∧ Out X.K W σ Z ι H (.ok ys μ1) (fun xs Z' ι' H' => ∀ a vs, H a = none → a ∈ Z' → a ∉ ι' → H' a = some (.lst vs) → DRs X.K (mask H' Z') xs vs → Q (.ref a) H')) I ⟨Z, ι, ρ, μ, R, ?_⟩) fun us s1 hh => ?_) he hpl (by rfl) (by rfl)
  · unfold mSort mNL at o
    cases q : ms ρ μ with
    | exc C fs μ' => rw [q] at o; exact o
    | bad => rw [q] at o; exact o
    | ok as μ' =>
      rw [q] at o
      intro Z1 ι1 H1 x1 s1 vs rv
      simp only [Res.bind_ok, opNL] at o
      split at o
      · rename_i xs hx
        have dv := views_ok s1 rv hx
        split at o
        · rename_i z hz
          split at hz
          · rename_i d
            cases dv with | cons dv t => cases t; exact ⟨Z1, ι1, μ', _, d, z, rfl, x1, s1, dv, hz, o⟩
          · cases hz
        · exact o.elim
      · exact o.elim
  obtain ⟨vs, H1, I1, r1, Z1, ι1, μ1, v, d, ys, rfl, x1, st1, dv, hs, o1⟩ := hh
  obtain ⟨u, rfl, ru⟩ := vals1 r1
  obtain ⟨arr, eP, _⟩ := st1.tab _ L.mem
  refine kws_cons (lam_mk I1 L st1.tab hdf (fun y hy z => ?_) fun f c' pm ctv cl H2 s2 I2 kp2 t2 hf hc => kws_nil ?_)
  · have hy : y ∈ sc.names := hy
    rw [hn] at hy
    rw [List.mem_singleton.mp hy] at z
    cases z
  obtain ⟨arr2, eP2, _⟩ := t2 _ L.mem
  obtain ⟨st2, x2⟩ := st1.growN eP eP2 kp2 t2
  -- what is sorted
  have src : Src X.K u s2 (mask H2 Z1) ys := by
    have ls : ∀ {a : Addr} {xs : List D} {vs : List V}, SqL X.K H1 a vs → DRs X.K (mask H1 Z1) xs vs → sortD xs = some ys → u = .ref a → Src X.K u s2 (mask H2 Z1) ys := fun {a xs vs} q r hs hu => by
      obtain ⟨its, rv, ⟨ob, n0, q1, q2, _, q3⟩, _⟩ := I2.list (sq_keep eP kp2 q)
      exact ⟨a, xs, vs, its, "list", ob, n0, hu, hs, r.mono x2.same _ _, rv, .inl rfl, q1, q2, q3⟩
    unfold sortV at hs
    split at hs
    · obtain ⟨a, vs, rfl, q, r⟩ := dv.list
      exact ls (.inl (.inl q)) r hs ru
    · obtain ⟨a, vs, rfl, q, r⟩ := dv.flist
      exact ls q r hs ru
    · obtain ⟨a, vs, rfl, q, r⟩ := dv.tup
      have nP : a ≠ P := fun z => by rw [z, eP] at q; cases q
      obtain ⟨its, rv, ⟨ob, q1, q2, n0, q3⟩, _⟩ := I2.tuple (.inl (.inl (kp2 _ _ nP q)))
      exact ⟨a, _, vs, its, "tuple", ob, n0, ru, hs, r.mono x2.same _ _, rv, .inr rfl, q1, q2, q3⟩
    · cases hs
  obtain ⟨a, xs, vs, its, T, ob, n0, rfl, hs, dr, rv, hT, q1, q2, q3⟩ := src
  unfold sortD at hs
  split at hs
  · rename_i hc2
    obtain ⟨hall, hL⟩ := hc2
    cases hs
    have key : ∀ d ∈ xs, ∃ y, key0 d = some y := fun d hd => Option.isSome_iff_exists.mp (List.all_eq_true.mp hall d hd)
    have keyd : ∀ d ∈ xs, ∃ y, keyD d = .str y := fun d hd => by
      obtain ⟨y, hy⟩ := key d hd
      exact ⟨y, by unfold keyD; rw [hy]⟩
    show wpAny _ _ (call (.builtin "sorted") [.ref a] [(Str.ofString "key", .ref f)]) _ _ _
    refine sorted_seq (β := D) (b := false) (R := fun (u : Value) (d : D) => ∃ y, DR X.K (mask H2 Z1) d y ∧ RelV y u) hT keyD q1 q2 q3 (each_join dr rv) ?_ ?_ hL ?_ (ksk_s1 _ _) (fun _ => ksk_l1 _ _) (fun y => ksk_t1 f y) ?_ ?_
    · intro d hd d' hd'
      obtain ⟨z, hz, rfl⟩ := List.mem_map.mp hd
      obtain ⟨z', hz', rfl⟩ := List.mem_map.mp hd'
      obtain ⟨y, e1⟩ := keyd z hz
      obtain ⟨y', e2⟩ := keyd z' hz'
      rw [e1, e2]
      rfl
    · refine .inr fun d hd => ?_
      obtain ⟨z, hz, rfl⟩ := List.mem_map.mp hd
      obtain ⟨y, e1⟩ := keyd z hz
      rw [e1]
      exact ⟨(fun z => nomatch z), (fun _ z => nomatch z)⟩
    · intro d hd
      obtain ⟨y, e1⟩ := keyd d hd
      rw [e1]
      have := hr.un
      simp [PyData.depth]
      omega
    · rintro w d ⟨y, dy, ry⟩ hdm g tk kg
      obtain ⟨z, hz⟩ := key d hdm
      have kz : keyD d = .str z := by unfold keyD; rw [hz]
      obtain ⟨r, rfl⟩ := key0_some hz
      cases dy with | tup q0 q4 =>
        rename_i t ws
        cases q4 with | cons q5 q6 =>
          cases q5
          cases (show w = Value.ref t from ry)
          obtain ⟨its', rv', it, _⟩ := I2.tuple (.inl (.inl (mask_same _ _ _ _ q0)))
          have it' : IsTup g t its'.toArray := by
            obtain ⟨o, e, r⟩ := it
            exact ⟨o, kg _ _ e, r⟩
          cases rv' with | cons rh rt =>
            obtain ⟨tk', rfl⟩ := rh
            obtain ⟨⟨oc, fs, tq, c1, c2, c3⟩, _, _⟩ := I2.hok c' _ hc
            refine wpAny_mono (lam0_call (s := { s2 with heap := g, toks := tk }) (t := t) (u := .str z tk') hr.depth (kg _ _ hf) ⟨c', oc, fs, tq, rfl, kg _ _ c1, c2, c3⟩ (I2.nolimit.keeps kg) it' (by simp) (fun v => hb _ _ _ _ _ v) hn hk hco hgn hd) (fun r s' ⟨e1, g', tk2, e2, e3⟩ => ?_) fun _ _ z => z
            subst e1
            rw [kz]
            exact ⟨g', tk2, e2, e3, .str _ _⟩
    · intro out cc h' tk pp kk fr at_ hlen each
      obtain ⟨ws, d1, d2⟩ := each_split each
      have hp : H2 pp = none := I2.hok.gone fr
      have hl2 : ws.length ≤ sizeLine := by rw [← d1.len, List.length_mergeSort]; exact hL
      exact ⟨.ref pp, upd H2 pp (.lst ws), I2.laidN kk fr hp ⟨hl2, out, cc, d2, at_⟩, rfl, fr_new (x1.trans x2) st2 d1 o1 hp⟩
  · cases hs
end
end TT

namespace TT
open PySem L2
variable [TB]
/-! in, of texts, lists, tuples -/
section
variable {K : PySem.W.Frag} {X : Cx}
def inTx : D → D → Option Bool
  | .str x, .str z => match x.cps.toList with
    | [c] => some (decide (c ∈ z.cps.toList))
    | _ => none
  | _, _ => none
def itemsD : D → Option (List D)
  | .lst xs => some xs
  | .tup xs => some xs
  | _ => none
def inSq (a b : D) : Option Bool := match toPy a, (itemsD b).bind toPys with
  | some d, some ds => if SeqAt.shaped d = true ∧ PyData.canLayAll0 ds = true then some (ds.any fun z => PyData.eqv z d) else none
  | _, _ => none
def inB (a b : D) : Option Bool := (inTx a b).or (inSq a b)
def inD (neg : Bool) (a b : D) : Option D := (inB a b).map fun k => .bl (if neg then !k else k)
def rInX (K : PySem.W.Frag) (neg : Bool) : R2 := fun x y H Q => ∃ k : Bool, ((∃ (c : Nat) (z : Str), x = .str ⟨#[c]⟩ ∧ y = .str z ∧ k = decide (c ∈ z.cps.toList)) ∨
  ∃ d ds, Dp K H x d ∧ (Dp K H y (.list ds) ∨ Dp K H y (.tuple ds)) ∧ SeqAt.shaped d = true ∧ PyData.canLayAll0 ds = true ∧ k = ds.any fun z => PyData.eqv z d) ∧ Q (.bl (if neg then !k else k)) H
theorem d_in {neg : Bool} : OpD K (rInX K neg) (inD neg) := fun Z H a b c x y Q t ha hb eq q => by
  obtain ⟨k, h1, rfl⟩ := Option.map_eq_some_iff.mp eq
  refine ⟨k, ?_, same_ok q (.bl _)⟩
  unfold inB at h1
  cases h2 : inTx a b with
  | some k' =>
    rw [h2] at h1
    cases h1
    unfold inTx at h2
    split at h2
    · rename_i u z
      split at h2
      · rename_i c hc
        cases h2
        refine .inl ⟨c, z, ?_, hb.str, rfl⟩
        rw [ha.str]
        congr 1
        cases u with | mk cps => 
          have : cps = #[c] := by rw [← Array.toList_inj]; simpa using hc
          rw [this]
      · cases h2
    · cases h2
  | none =>
    rw [h2] at h1
    have h1 : inSq a b = some k := h1
    unfold inSq at h1
    split at h1
    · rename_i d ds e1 e2
      split at h1
      · rename_i hs
        cases h1
        refine .inr ⟨d, ds, ha.dp e1, ?_, hs.1, hs.2, rfl⟩
        cases b with
        | lst xs => exact .inl (hb.dp (by simp only [toPy, Option.map_eq_some_iff]; exact ⟨ds, e2, rfl⟩))
        | tup xs => exact .inr (hb.dp (by simp only [toPy, Option.map_eq_some_iff]; exact ⟨ds, e2, rfl⟩))
        | _ => cases e2
      · cases h1
    · cases h1
theorem o_in (hu : X.A.units + 65 < cLine) : OpR X (compareOp .In) (rInX X.K false) := by
  intro pins s σ H x y v u Q I rx ry ⟨k, h, q⟩
  rcases h with ⟨c, z, rfl, rfl, rfl⟩ | ⟨d, ds, hd, he, sd, se, rfl⟩
  · exact op_in_sign pins s σ H _ _ v u Q I rx ry ⟨c, z, rfl, rfl, q⟩
  · obtain ⟨as, r1⟩ := Dp.reads I d x v hd rx
    rcases he with he | he
    · obtain ⟨bs, r2⟩ := Dp.reads I _ y u he ry
      exact SeqAt.in_list_reads r2 r1 se (SeqAt.canLay_of_shaped sd) (PyProof.Rows.room_in_shaped sd hu) ⟨.bl _, H, I, rfl, q⟩
    · obtain ⟨bs, r2⟩ := Dp.reads I _ y u he ry
      exact SeqAt.in_tuple_reads r2 r1 se (SeqAt.canLay_of_shaped sd) (PyProof.Rows.room_in_shaped sd hu) ⟨.bl _, H, I, rfl, q⟩
theorem o_notin (hu : X.A.units + 65 < cLine) : OpR X (compareOp .NotIn) (rInX X.K true) := by
  intro pins s σ H x y v u Q I rx ry ⟨k, h, q⟩
  rcases h with ⟨c, z, rfl, rfl, rfl⟩ | ⟨d, ds, hd, he, sd, se, rfl⟩
  · exact op_notIn_sign pins s σ H _ _ v u Q I rx ry ⟨c, z, rfl, rfl, q⟩
  · obtain ⟨as, r1⟩ := Dp.reads I d x v hd rx
    rcases he with he | he
    · obtain ⟨bs, r2⟩ := Dp.reads I _ y u he ry
      exact SeqAt.notIn_list_reads r2 r1 se (SeqAt.canLay_of_shaped sd) (PyProof.Rows.room_in_shaped sd hu) ⟨.bl _, H, I, rfl, q⟩
    · obtain ⟨bs, r2⟩ := Dp.reads I _ y u he ry
      exact SeqAt.notIn_tuple_reads r2 r1 se (SeqAt.canLay_of_shaped sd) (PyProof.Rows.room_in_shaped sd hu) ⟨.bl _, H, I, rfl, q⟩
end
/-! dicts with plain keys -/
def keyOf : D → Option Key
  | .int i => some (.inl i)
  | .str x => some (.inr x)
  | _ => none
def valD (kvs : List (Key × D)) (k : Key) : Option D := match kvs with
  | [] => none
  | (j, d) :: r => if j = k then some d else valD r k
def putD (kvs : List (Key × D)) (k : Key) (d : D) : List (Key × D) := if (kvs.any fun p => decide (p.1 = k)) = true then kvs.map (fun p => if p.1 = k then (p.1, d) else p) else kvs ++ [(k, d)]
section
variable {K : PySem.W.Frag} {F : Hp}
theorem keyOf_ok {Z : List Addr} {H : Hp} {d : D} {v : V} {k : Key} (h : DV K Z H d v) (e : keyOf d = some k) : v = kV k := by
  unfold keyOf at e
  split at e
  · cases e; exact h.int
  · cases e; exact h.str
  · cases e
theorem DRk.val {k : Key} : ∀ {kvs : List (Key × D)} {vs : List (Key × V)}, DRk K F kvs vs → (∀ d, valD kvs k = some d → ∃ v, valV vs k = some v ∧ DR K F d v) ∧ (valD kvs k = none → valV vs k = none)
  | _, _, .nil => ⟨(fun d h => nomatch h), fun _ => rfl⟩
  | _, _, .cons (k := j) (d := d0) a b => by
    obtain ⟨h1, h2⟩ := DRk.val (k := k) b
    unfold valD
    by_cases e : j = k
    · rw [if_pos e, valV_pos e]
      exact ⟨fun d h => by cases h; exact ⟨_, rfl, a⟩, fun h => by cases h⟩
    · rw [if_neg e, valV_neg e]
      exact ⟨h1, h2⟩
theorem DRk.len : ∀ {kvs : List (Key × D)} {vs : List (Key × V)}, DRk K F kvs vs → kvs.length = vs.length
  | _, _, .nil => rfl
  | _, _, .cons _ b => congrArg (· + 1) (DRk.len b)
theorem DRk.any {k : Key} : ∀ {kvs : List (Key × D)} {vs : List (Key × V)}, DRk K F kvs vs → (kvs.any fun p => decide (p.1 = k)) = vs.any fun p => decide (p.1 = k)
  | _, _, .nil => rfl
  | _, _, .cons _ b => by simp only [List.any_cons, DRk.any b]
theorem DRk.repl {k : Key} {d : D} {v : V} (r : DR K F d v) : ∀ {kvs : List (Key × D)} {vs : List (Key × V)}, DRk K F kvs vs → DRk K F (kvs.map fun p => if p.1 = k then (p.1, d) else p) (vs.map fun p => if p.1 = k then (p.1, v) else p)
  | _, _, .nil => .nil
  | _, _, .cons (k := j) a b => by
    simp only [List.map_cons]
    by_cases e : j = k
    · simp only [e, if_true]; exact .cons r (DRk.repl r b)
    · simp only [e, if_false]; exact .cons a (DRk.repl r b)
theorem DRk.snoc {k : Key} {d : D} {v : V} (r : DR K F d v) : ∀ {kvs : List (Key × D)} {vs : List (Key × V)}, DRk K F kvs vs → DRk K F (kvs ++ [(k, d)]) (vs ++ [(k, v)])
  | _, _, .nil => .cons r .nil
  | _, _, .cons a b => .cons a (DRk.snoc r b)
theorem DRk.put {k : Key} {d : D} {v : V} (r : DR K F d v) {kvs : List (Key × D)} {vs : List (Key × V)} (h : DRk K F kvs vs) : DRk K F (putD kvs k d) (putK vs k v) := by
  unfold putD putK
  rw [h.any]
  split
  · exact h.repl r
  · exact h.snoc r
theorem DV.dict {Z : List Addr} {H : Hp} {v : V} {kvs : List (Key × D)} (h : DV K Z H (.dK kvs) v) : ∃ a vs, v = .ref a ∧ H a = some (.dK vs) ∧ DRk K (mask H Z) kvs vs := by
  cases h with
  | d h => cases h with | dK q r => exact ⟨_, _, rfl, mask_same _ _ _ _ q, r⟩
  | dK q r => exact ⟨_, _, rfl, q, r⟩
end
def inK (neg : Bool) (a b : D) : Option D := match keyOf a, b with
  | some k, .dK kvs => some (.bl (if neg then !(valD kvs k).isSome else (valD kvs k).isSome))
  | _, _ => none
def getK (b a : D) : Option D := match keyOf a, b with
  | some k, .dK kvs => valD kvs k
  | _, _ => none
section
variable {X : Cx} {W : WX} {a b e : Expr} {pos : Pos} {ma mb : ME}
theorem inK_ok {K : PySem.W.Frag} {Z : List Addr} {H : Hp} {neg : Bool} {x y d : D} {u v : V} (hx : DV K Z H x u) (hy : DV K Z H y v) (e : inK neg x y = some d) : ∃ p o, v = .ref p ∧ DGet H p u o ∧ d = .bl (if neg then !o.isSome else o.isSome) := by
  unfold inK at e
  split at e
  · rename_i k kvs hk
    cases e
    obtain ⟨p, vs, rfl, h1, h2⟩ := hy.dict
    rw [keyOf_ok hx hk]
    refine ⟨p, _, rfl, .k h1, ?_⟩
    obtain ⟨q1, q2⟩ := h2.val (k := k)
    cases hv : valD kvs k with
    | none => rw [q2 hv]; rfl
    | some d0 =>
      obtain ⟨w, q3, _⟩ := q1 d0 hv
      rw [q3]; rfl
  · cases e
theorem dread {neg : Bool} {K : PySem.W.Frag} {σ : St} {H : Hp} {Q : VK} (h : tM K W (mBin (inK neg) ma mb) σ H Q) : tM K W ma σ H fun y H1 => tM K W mb σ H1 fun x H2 => ∃ p o, x = .ref p ∧ DGet H2 p y o ∧ Q (.bl (if neg then !o.isSome else o.isSome)) H2 := by
  obtain ⟨Z, ι, ρ, μ, R, o⟩ := h
  refine tM_bind R o fun v μ1 Z1 ι1 H1 x x1 R1 r1 o1 => tM_bind R1 o1 fun w μ2 Z2 ι2 H2 y x2 R2 r2 o2 => ?_
  unfold op2 at o2
  split at o2
  · rename_i d1 e1
    split at o2
    · rename_i d2 e2
      split at o2
      · rename_i d3 e3
        obtain ⟨p, o, rfl, h1, rfl⟩ := inK_ok (view_ok R2.sta (r1.mono x2.same x2.i) e1) (view_ok R2.sta r2 e2) e3
        exact ⟨p, o, rfl, h1, Out.ret R2.sta o2 (.d (.bl _))⟩
      · exact o2.elim
    · exact o2.elim
  · exact o2.elim
theorem din_run (hu : X.A.units + 1 < cLine) (ha : FE X W a ma) (hb : FE X W b mb) : PC X .In a b (tM X.K W (mBin (inK false) ma mb)) :=
  ⟨fun pins s σ H Q I h => (pc_din hu ha hb).run pins s σ H Q I (dread (neg := false) h)⟩
theorem dnotin_run (hu : X.A.units + 1 < cLine) (ha : FE X W a ma) (hb : FE X W b mb) : PC X .NotIn a b (tM X.K W (mBin (inK true) ma mb)) :=
  ⟨fun pins s σ H Q I h => (pc_dnotin hu ha hb).run pins s σ H Q I (dread (neg := true) h)⟩
theorem fe_din (hu : X.A.units + 1 < cLine) (ha : FE X W a ma) (hb : FE X W b mb) (hm : behindInMarks .In b = false := by rfl) : FE X W (.Compare a [.In] [b] pos) (mBin (inK false) ma mb) := pe_cmp (din_run hu ha hb) hm
theorem fe_dnotin (hu : X.A.units + 1 < cLine) (ha : FE X W a ma) (hb : FE X W b mb) (hm : behindInMarks .NotIn b = false := by rfl) : FE X W (.Compare a [.NotIn] [b] pos) (mBin (inK true) ma mb) := pe_cmp (dnotin_run hu ha hb) hm
theorem ft_din (hu : X.A.units + 1 < cLine) (ha : FE X W a ma) (hb : FE X W b mb) (hm : behindInMarks .In b = false := by rfl) : FT X W (.Compare a [.In] [b] pos) (mB (mBin (inK false) ma mb)) := ft_pc (din_run hu ha hb).run (fun _ _ _ h => h) hm
theorem ft_dnotin (hu : X.A.units + 1 < cLine) (ha : FE X W a ma) (hb : FE X W b mb) (hm : behindInMarks .NotIn b = false := by rfl) : FT X W (.Compare a [.NotIn] [b] pos) (mB (mBin (inK true) ma mb)) := ft_pc (dnotin_run hu ha hb).run (fun _ _ _ h => h) hm
/-- d[k] -/
theorem fe_dget (hu : X.A.units + 1 < cLine) (hb : FE X W b mb) (ha : FE X W a ma) (hs : NoSl a := by intro _ _; with_unfolding_all rfl) : FE X W (.Subscript b a pos) (mBin getK mb ma) := by
  refine pe_imp (pe_dget hu hb ha hs) fun σ H Q ⟨Z, ι, ρ, μ, R, o⟩ => ?_
  refine tM_bind R o fun v μ1 Z1 ι1 H1 x x1 R1 r1 o1 => tM_bind R1 o1 fun w μ2 Z2 ι2 H2 y x2 R2 r2 o2 => ?_
  unfold op2 at o2
  split at o2
  · rename_i d1 e1
    split at o2
    · rename_i d2 e2
      split at o2
      · rename_i d3 e3
        unfold getK at e3
        split at e3
        · rename_i k kvs hk
          obtain ⟨p, vs, rfl, h1, h2⟩ := (view_ok R2.sta (r1.mono x2.same x2.i) e1).dict
          rw [keyOf_ok (view_ok R2.sta r2 e2) hk]
          obtain ⟨w, h3, h4⟩ := (h2.val (k := k)).1 d3 e3
          exact ⟨p, w, rfl, by rw [← h3]; exact .k h1, Out.ret R2.sta o2 (.d h4)⟩
        · cases e3
      · exact o2.elim
    · exact o2.elim
  · exact o2.elim
end
/-! range(i, j, -1) -/
def downD (lo : Int) (n : Nat) : List D := (List.range n).map fun (i : Nat) => D.int (lo + (i : Int) * (-1))
def rng3 (as : List MV) (μ : List MO) : Res (List D × Option Nat) := match as with
  | [.d (.int i), .d (.int j), .d (.int c)] => if c = -1 ∧ -(2 ^ 62) ≤ i ∧ i < 2 ^ 62 ∧ -(2 ^ 62) ≤ j ∧ j < 2 ^ 62 then .ok (downD i (i - j).toNat, none) μ else .bad
  | _ => .bad
section
variable {X : Cx} {W : WX} {a b c tg e : Expr} {pos : Pos} {ms : MA}
theorem its_down {K : PySem.W.Frag} {Z ι : List Addr} {μ : List MO} {H : Hp} {σ : St} {lo : Int} {n : Nat} {R : It → Hp → Prop} (s : Sta K Z ι μ H) (o : Out K W σ Z ι H (.ok (downD lo n, none) μ) (Its K R)) : R (Itc lo (-1) n) H := by
  refine o Z ι H (Ext.refl s.sub) s (Itc lo (-1) n) _ _ (by rw [show (downD lo n, (none : Option Nat)).1.length = n by simp [downD]]; exact walk_rangeC) (fun _ _ _ _ _ _ _ => trivial) fun Z2 ι2 μ2 H2 i d' x H3 x2 s2 _ hd hy => ?_
  obtain ⟨rfl, rfl⟩ := hy
  have : d' = .int (lo + (i : Int) * (-1)) := by
    simp only [downD, List.getElem?_map, Option.map_eq_some_iff] at hd
    obtain ⟨k, h1, h2⟩ := hd
    rw [← h2]
    have := (List.getElem?_eq_some_iff.mp h1).2
    simp at this
    rw [this]
  rw [this]
  exact ⟨Same.refl _, .int _⟩
theorem fi_range3 {p : Pos} (hm : X.mg "range" = none) (ha : FA X W [a, b, c] ms) (hg : Gl X "range" := by rfl) (hs : starEach [a, b, c] X.env = (false, eval a X.env) :: starEach [b, c] X.env := by rfl) (hpl : (backTo pos (starEach [b, c] X.env)).any (·.1) = false := by rfl) :
    FI X W tg (.Call (.Name "range" p) [a, b, c] [] pos) (mItA rng3 ms) := by
  refine pi_imp (pi_range3 hg hm ha hs hpl) fun σ H R ⟨Z, ι, ρ, μ, R0, o⟩ => tMA_it R0 o fun v μ' Z' ι' H' x x1 R1 r1 o1 => ?_
  unfold rng3 at o1
  split at o1
  · rename_i i j k
    split at o1
    · rename_i hb
      obtain ⟨rfl, h1, h2, h3, h4⟩ := hb
      cases r1 with | cons a b => cases b with | cons b c => cases c with | cons c d => cases d with | nil => cases a with | d a => cases a with | int => cases b with | d b => cases b with | int => cases c with | d c => cases c with | int => exact ⟨i, j, -1, _, rfl, RgC.neg h1 h2 h3 h4, its_down R1.sta o1⟩
    · exact o1.elim
  · exact o1.elim
/-! max(xs, default=d) -/
def maxI (d : Int) : List Int → Int
  | [] => d
  | x :: xs => xs.foldl (fun a y => if a < y then y else a) x
def maxDf (d : Int) : D → Option D
  | .lst xs => (nums xs).map fun ns => .int (maxI d ns)
  | _ => none
def rMaxK (K : PySem.W.Frag) : List V → List V → Hp → VK → Prop := fun vs zs H Q => ∃ (p : Addr) (ns : List Int) (d : Int), vs = [.ref p] ∧ zs = [.int d] ∧ SqL K H p (ns.map V.int) ∧ Q (.int (maxI d ns)) H
theorem ints_read {h : Heap} : ∀ {ns : List Int} {us : List Value}, Vals (ns.map V.int) us → ∃ as, PySem.ReadsAll h us (ns.map PySem.W.Datum.toD) as
  | [], _, .nil => ⟨[], .nil⟩
  | n :: ns, _, .cons a b => by
    obtain ⟨as, r⟩ := ints_read (h := h) b
    obtain ⟨t, rfl⟩ := a
    exact ⟨[] ++ as, .cons (.int n t) r⟩
theorem cr_maxK (hc : X.calm = true) (hu : X.A.units + 64 < cLine) : CallRK X (.builtin "max") [Str.ofString "default"] (rMaxK X.K) := by
  intro pins s σ H vs zs us ws Q I r rz h
  obtain ⟨p, ns, d, rfl, rfl, hs, q⟩ := h
  obtain ⟨u, rfl, ru⟩ := vals1 r
  obtain ⟨w, rfl, rw'⟩ := vals1 rz
  cases (show u = Value.ref p from ru)
  obtain ⟨t, rfl⟩ := rw'
  obtain ⟨its, rv, hl, hz⟩ := I.list hs
  show wpAny _ _ (call (.builtin "max") [.ref p] [(Str.ofString "default", .int d t)]) _ _ _
  refine PySem.W.max_list_datum_default (α := Int) (xs := ns) (I.ok.hd hc) hl.isList (by rw [List.toList_toArray]; exact ints_read rv) (by show X.A.units + 1 + 0 < cLine; omega) (fun e h' tk hk => ?_) (fun y ys i v h' tk e hi hv hk => ?_)
  · subst e
    exact ⟨.int d, H, I.kept (t' := tk) hk, ⟨t, rfl⟩, q⟩
  · subst e
    obtain ⟨as, r⟩ := hv
    have r : PySem.Reads h' v (.int (PySem.W.maxOf y ys)) as := r
    cases r with | int _ t' =>
      refine ⟨.int (maxI d (y :: ys)), H, I.kept (t' := tk) hk, ⟨t', ?_⟩, q⟩
      unfold maxI PySem.W.maxOf
      congr 2
      funext a y
      show (if decide (a < y) = true then y else a) = _
      simp
theorem fe_maxd {p kp kpos : Pos} {j : Nat} {d : Int} (hm : X.mg "max" = none) (hc : X.calm = true) (hr : X.A.units + 64 < cLine) (ha : FA X W [e] ms) (hg : Gl X "max" := by rfl)
    (he : backTo pos (starEach [e] X.env) = (false, eval e X.env) :: backTo pos (starEach [] X.env) := by rfl) (hpl : (backTo pos (starEach [e] X.env)).any (·.1) = false := by rfl) :
    FE X W (.Call (.Name "max" p) [e] [⟨some "default", .Constant (.int d) j kp, kpos⟩] pos) (mN (one (maxDf d)) ms) := by
  refine pe_imp (pe_callBK (cr_maxK hc hr) hg hm PyProof.Rows.boot_max ha (pk_cons pe_int pk_nil) (by decide) (by decide) he hpl) fun σ H Q ⟨Z, ι, ρ, μ, R, o⟩ => ?_
  refine tMA_bind R o fun v μ' Z' ι' H' x x1 R1 r1 o1 => ?_
  unfold opN at o1
  split at o1
  · rename_i xs hx
    have dv := views_ok R1.sta r1 hx
    split at o1
    · rename_i z hz
      unfold one at hz
      split at hz
      · rename_i d0
        cases dv with | cons dv t => cases t with | nil =>
          unfold maxDf at hz
          split at hz
          · rename_i ys
            obtain ⟨ns, h1, rfl⟩ := Option.map_eq_some_iff.mp hz
            obtain ⟨a, vs, rfl, h2, h3⟩ := dv.list
            have := nums_ok h3 h1
            subst this
            exact ⟨a, ns, d, rfl, rfl, .inl (.inl h2), Out.ret R1.sta o1 (.d (.int _))⟩
          · cases hz
      · cases hz
    · exact o1.elim
  · exact o1.elim
end
end TT

namespace TT
open PySem L2
variable [TB]
/-! {k: v for ..}, as data -/
abbrev MK := En → List MO → Res (List (Key × D))
def tFk (K : PySem.W.Frag) (W : WX) (m : MK) : TE := fun σ H Q => ∃ Z ι ρ μ, Rel K Z ι ρ μ σ H ∧ Out K W σ Z ι H (m ρ μ) (fun xs Z' ι' H' => ∀ a vs, H a = none → a ∈ Z' → a ∉ ι' → H' a = some (.dK vs) → DRk K (mask H' Z') xs vs → Q (.ref a) H')
abbrev FK (X : Cx) (W : WX) (e : Expr) (m : MK) : Prop := PE X e (tFk X.K W m)
def mFk (m : MK) : ME := fun ρ μ => (m ρ μ).bind fun xs μ1 => .ok (.d (.dK xs)) μ1
noncomputable def dcD (q : List D × Option Nat) (g : MG) (c : MT) (ek ev : ME) (ρ : En) : List D → List (Key × D) → List MO → Res (List (Key × D))
  | [], acc, μ => if chk q μ = true then .ok acc μ else .bad
  | x :: xs, acc, μ => if chk q μ = true then (match g (.d x) ρ with
    | none => .bad
    | some ρ1 => (c ρ1 μ).calm.bind fun k μ1 => if k = true then (ek ρ1 μ1).calm.bind fun kv μ2 => (ev ρ1 μ2).calm.bind fun v μ3 => (match kv, v with
        | .d dk, .d y => match keyOf dk with
          | some kk => dcD q g c ek ev ρ xs (putD acc kk y) μ3
          | none => .bad
        | _, _ => .bad) else dcD q g c ek ev ρ xs acc μ1) else .bad
noncomputable def mDC (mi : MI) (g : MG) (c : MT) (ek ev : ME) (vs : List Nat) : MK := fun ρ μ => (mi ρ μ).bind fun q μ1 => if q.1.length ≤ sizeLine then dcD q g c ek ev (wipeM ρ vs) q.1 [] μ1 else .bad
theorem wipe_twice (us : List Nat) (τ : L2.St) : wipe (wipe τ us) us = wipe τ us := by
  have key : ∀ (ws : List Nat) (τ : L2.St) (i : Nat), i ∈ ws → (wipe τ ws).set i none = wipe τ ws := by
    intro ws
    induction ws with
    | nil => intro τ i h; cases h
    | cons u us ih =>
      intro τ i h
      unfold wipe
      by_cases e : i = u
      · subst e; rw [List.set_set]
      · have h2 : i ∈ us := by
          rcases List.mem_cons.mp h with z | z
          · exact (e z).elim
          · exact z
        rw [List.set_comm _ _ (fun z => e z.symm), ih τ i h2]
  have key2 : ∀ (ws us : List Nat) (τ : L2.St), (∀ i ∈ ws, i ∈ us) → wipe (wipe τ us) ws = wipe τ us := by
    intro ws
    induction ws with
    | nil => intro us τ _; rfl
    | cons u ws ih =>
      intro us τ h
      show (wipe (wipe τ us) ws).set u none = wipe τ us
      rw [ih us τ fun i hi => h i (List.mem_cons_of_mem _ hi), key us τ u (h u List.mem_cons_self)]
  exact key2 us us τ fun _ h => h
theorem putD_len (kvs : List (Key × D)) (k : Key) (d : D) : (putD kvs k d).length ≤ kvs.length + 1 := by
  unfold putD
  split <;> simp
section
variable {X : Cx} {W : WX}
theorem dcD_chk {K : PySem.W.Frag} {σ : St} {Z ι : List Addr} {H : Hp} {P : List (Key × D) → List Addr → List Addr → Hp → Prop} {q : List D × Option Nat} {g : MG} {c : MT} {ek ev : ME} {ρ : En} {xs : List D} {acc : List (Key × D)} {μ : List MO} (o : Out K W σ Z ι H (dcD q g c ek ev ρ xs acc μ) P) : chk q μ = true := by
  cases xs <;> (unfold dcD at o; split at o; assumption; exact o.elim)
theorem Sta.sideK {K : PySem.W.Frag} {Z ι : List Addr} {μ : List MO} {H : Hp} (s : Sta K Z ι μ H) {a : Addr} {o : HO} {as : List (Key × V)} (he : H a = some (.dK as)) (hz : a ∈ Z) (n : a ∉ ι) : Sta K Z ι μ (upd H a o) := by
  have ms : Same (mask H Z) (mask (upd H a o) Z) := fun b u e => by
    obtain ⟨n1, e1⟩ := of_mask e
    exact mask_in n1 ((upd_ne fun q => n1 (by rw [q]; exact hz)).trans e1) (mask_nt e)
  refine ⟨s.sub, s.nd, s.len, fun b hb => ?_, tabs_upd s.tab he (fun ps z => by cases z) (fun c q z => by cases z), fun k b o' h1 h2 => ?_⟩
  · by_cases q : b = a
    · rw [q]; exact ⟨o, upd_same⟩
    · obtain ⟨u, e⟩ := s.trk b hb; exact ⟨u, (upd_ne q).trans e⟩
  · obtain ⟨ho, h3, h4⟩ := s.obj k b o' h1 h2
    refine ⟨ho, (upd_ne fun q => n ?_).trans h3, h4.mono ms (fun _ _ h => h)⟩
    rw [← q]
    exact List.mem_of_getElem? h1
theorem dc_it {J : It} {n : Nat} {G : Hp → Prop} {Y : Nat → Hp → V → Hp → Prop} (w : Walk J n G Y) {g : TG} {tt : TT} {tk tv : TE} {vs : List Nat} {σ : St} {H1 : Hp} {D : Addr} {Qd : Hp → Prop} (Pv : Nat → Hp → Prop) (h0 : Pv 0 (upd H1 D (.dK []))) (hG : ∀ i H, i ≤ n → Pv i H → G H)
    (hs : ∀ i x H H', i < n → Pv i H → Y i H x H' → g x (wipe σ vs) H' fun σ2 H2 => wipe σ2 vs = wipe σ vs ∧ tt σ2 H2 fun b H3 =>
      if b = true then tk σ2 H3 fun y H4 => tv σ2 H4 fun z H5 => ∃ kvs k, y = kV k ∧ H5 D = some (.dK kvs) ∧ kvs.length < sizeLine ∧ Pv (i + 1) (upd H5 D (.dK (putK kvs k z))) else Pv (i + 1) H3) (hd : ∀ H, Pv n H → Qd H) :
    ∃ W : Nat → Nat → Hp → Prop, (∃ m, W 0 m (upd H1 D (.dK []))) ∧ ∀ i m H, W i m H →
      (J.stop i H ∧ Qd H) ∨ (J.go i H ∧ ∃ Nx : Hp → Prop, (∀ H', Nx H' → ∃ m', m' < m ∧ W (i + 1) m' H') ∧ ∀ x H', J.yld i H x H' → g x (wipe σ vs) H' fun σ2 H2 => wipe σ2 vs = wipe σ vs ∧ tt σ2 H2 fun b H3 =>
        if b = true then tk σ2 H3 fun y H4 => tv σ2 H4 fun z H5 => ∃ kvs k, y = kV k ∧ H5 D = some (.dK kvs) ∧ kvs.length < sizeLine ∧ Nx (upd H5 D (.dK (putK kvs k z))) else Nx H3) := by
  refine ⟨fun i m H => Pv i H ∧ i ≤ n ∧ m + i = n, ⟨n, h0, by omega, by omega⟩, fun i m H ⟨p, l, e⟩ => ?_⟩
  rcases Nat.lt_or_ge i n with hl | hl
  · exact .inr ⟨w.goes i H hl (hG i H l p), Pv (i + 1), fun H' p' => ⟨m - 1, by omega, p', by omega, by omega⟩, fun x H' y => hs i x H H' hl p (w.yields i H x H' hl (hG i H l p) y)⟩
  · have : i = n := by omega
    subst this
    exact .inl ⟨w.stops H (hG i H l p), hd H p⟩
theorem dc_read {K : PySem.W.Frag} {mi : MI} {g : TG} {gm : MG} {c : MT} {ek ev : ME} {vs0 : List Nat} (hgo : GOk K g gm vs0) {σ : St} {H : Hp} {Q : VK} (h : tFk K W (mDC mi gm c ek ev vs0) σ H Q) : tDc (tMI K W mi) g (tMT K W0 c) (tM K W0 ek) (tM K W0 ev) vs0 σ H Q := by
  obtain ⟨Z, ι, ρ, μ, R, o⟩ := h
  refine ⟨Z, ι, ρ, μ, R, ?_⟩
  unfold mDC at o
  cases eq : mi ρ μ with
  | exc C fs μ' => rw [eq] at o; exact o
  | bad => rw [eq] at o; exact o
  | ok q μ1 =>
    rw [eq] at o
    simp only [Res.bind_ok] at o
    split at o
    · rename_i hsz
      intro Z1 ι1 H1 x1 s1 J G Y w hG hY L hL
      have R1 := R.ext x1 s1
      have nL : L ∉ Z1 := fun z => by obtain ⟨u, e⟩ := s1.trk L z; rw [hL] at e; cases e
      have nH : H L = none := by
        cases qq : H L with
        | none => rfl
        | some u =>
          by_cases h2 : L ∈ ι
          · exact (nL (x1.z L (x1.sub L h2))).elim
          · exact qq.symm.trans (x1.free h2 hL)
      generalize vs0 = vs at o hgo ⊢
      refine dc_it w (fun i H2 => ∃ Z2 ι2 μ2 acc as, Ext Z1 ι1 H1 Z2 ι2 H2 ∧ Sta K Z2 ι2 μ2 H2 ∧ L ∈ Z2 ∧ L ∉ ι2 ∧ H2 L = some (.dK as) ∧ DRk K (mask H2 Z2) acc as ∧ acc.length ≤ i ∧
          Out K W σ Z ι H (dcD q gm c ek ev (wipeM ρ vs) (q.1.drop i) acc μ2) (fun xs Z' ι' H' => ∀ a vs, H a = none → a ∈ Z' → a ∉ ι' → H' a = some (.dK vs) → DRk K (mask H' Z') xs vs → Q (.ref a) H')) ?_ ?_ ?_ ?_
      · have sm : Same H1 (upd H1 L (.dK [])) := fun b o e => (upd_ne (ne_of_none e hL)).trans e
        have ms : Same (mask H1 Z1) (mask (upd H1 L (.dK [])) (L :: Z1)) := fun b o e => by
          have t := mask_nt e
          obtain ⟨n, e⟩ := of_mask e
          refine mask_in (fun q => ?_) (sm b o e) t
          rcases List.mem_cons.mp q with z | z
          · rw [z, hL] at e; cases e
          · exact n z
        refine ⟨L :: Z1, ι1, μ1, [], [], ⟨s1.sub, fun b hb => List.mem_cons_of_mem _ hb, fun _ _ h => h, fun b o _ _ e => sm b o e, fun b ps e => ⟨ps, sm b _ e⟩, fun b hb => ?_, fun b hb => .inl hb⟩, ⟨fun b hb => List.mem_cons_of_mem _ (s1.sub b hb), s1.nd, s1.len, fun b hb => ?_, s1.tab.ext sm, fun k b o' h1 h2 => ?_⟩,
          List.mem_cons_self, fun z => nL (s1.sub L z), upd_same, .nil, Nat.le_refl _, o⟩
        · rcases List.mem_cons.mp hb with z | z
          · rw [z]; exact .inr hL
          · exact .inl z
        · rcases List.mem_cons.mp hb with z | z
          · rw [z]; exact ⟨_, upd_same⟩
          · obtain ⟨u, e⟩ := s1.trk b z; exact ⟨u, sm b u e⟩
        · obtain ⟨ho, h3, h4⟩ := s1.obj k b o' h1 h2
          exact ⟨ho, sm b ho h3, h4.mono ms (fun _ _ h => h)⟩
      · rintro i H2 hi ⟨Z2, ι2, μ2, acc, as, x2, s2, l1, l2, l3, l4, l5, o2⟩
        exact hG Z2 ι2 μ2 H2 x2 s2 (dcD_chk o2)
      · rintro i x H2 H3 hi ⟨Z2, ι2, μ2, acc, as, x2, s2, l1, l2, l3, l4, l5, o2⟩ hy
        have hx : q.1[i]? = some q.1[i] := by simp [hi]
        obtain ⟨sm, dr⟩ := hY Z2 ι2 μ2 H2 i _ x H3 x2 s2 (dcD_chk o2) hx hy
        rw [List.drop_eq_getElem_cons hi] at o2
        have hck := dcD_chk o2
        unfold dcD at o2
        rw [if_pos hck] at o2
        obtain ⟨s3, x3⟩ := s2.grow sm
        split at o2
        · exact o2.elim
        · rename_i ρ1 hg1
          have R3 : Rel K Z2 ι2 (wipeM ρ vs) μ2 (wipe σ vs) H3 := ⟨s3, ((R1.rs.mono x2.same x2.i).mono x3.same x3.i).wipe vs⟩
          refine hgo Z2 ι2 _ μ2 _ H3 _ x ρ1 _ R3 (.d dr) hg1 fun σ4 R4 w4 => ⟨?_, Z2, ι2, ρ1, μ2, R4, ?_⟩
          · rw [w4]
            exact wipe_twice vs σ
          · cases ec : c ρ1 μ2 with
            | exc C fs μ' => rw [ec] at o2; exact o2.elim
            | bad => rw [ec] at o2; exact o2
            | ok k μ3 =>
              rw [ec] at o2
              simp only [Res.calm_ok, Res.bind_ok] at o2
              intro Z4 ι4 H4 x4 s4
              have xa : Ext Z1 ι1 H1 Z4 ι4 H4 := (x2.trans x3).trans x4
              have l4' : DRk K (mask H4 Z4) acc as := (l4.mono x3.same _ _).mono x4.same _ _
              have l3' : H4 L = some (.dK as) := x4.keep L _ l2 True.intro (sm L _ l3)
              have l2' : L ∉ ι4 := fun z => by
                rcases x4.newi L z with z | z
                · exact l2 z
                · rw [sm L _ l3] at z; cases z
              cases k with
              | false => exact ⟨Z4, ι4, μ3, acc, as, xa, s4, x4.z L l1, l2', l3', l4', by omega, o2⟩
              | true =>
                refine ⟨Z4, ι4, ρ1, μ3, R4.ext x4 s4, ?_⟩
                simp only [if_true] at o2
                cases ee : ek ρ1 μ3 with
                | exc C fs μ' => rw [ee] at o2; exact o2.elim
                | bad => rw [ee] at o2; exact o2
                | ok kv μ5 =>
                  rw [ee] at o2
                  simp only [Res.calm_ok, Res.bind_ok] at o2
                  intro Z5 ι5 H5 x5 s5 y ry
                  refine ⟨Z5, ι5, ρ1, μ5, (R4.ext x4 s4).ext x5 s5, ?_⟩
                  have m5 : H5 L = some (.dK as) := x5.keep L _ l2' True.intro l3'
                  have n5 : L ∉ ι5 := fun z => by
                    rcases x5.newi L z with z | z
                    · exact l2' z
                    · rw [l3'] at z; cases z
                  have z5 : L ∈ Z5 := x5.z L (x4.z L l1)
                  cases e6 : ev ρ1 μ5 with
                  | exc C fs μ' => rw [e6] at o2; exact o2.elim
                  | bad => rw [e6] at o2; exact o2
                  | ok v μ6 =>
                    rw [e6] at o2
                    simp only [Res.calm_ok, Res.bind_ok] at o2
                    intro Z6 ι6 H6 x6 s6 z rz
                    split at o2
                    · rename_i dk yy
                      split at o2
                      · rename_i kk hkk
                        cases ry with | d ry => cases rz with | d rz =>
                          have m6 : H6 L = some (.dK as) := x6.keep L _ n5 True.intro m5
                          have n6 : L ∉ ι6 := fun z => by
                            rcases x6.newi L z with z | z
                            · exact n5 z
                            · rw [m5] at z; cases z
                          have z6 : L ∈ Z6 := x6.z L z5
                          have xb : Ext Z1 ι1 H1 Z6 ι6 H6 := (xa.trans x5).trans x6
                          have hkv := keyOf_ok (.d ry : DV K Z5 H5 dk y) hkk
                          refine ⟨as, kk, hkv, m6, ?_, Z6, ι6, μ6, putD acc kk yy, putK as kk z, ⟨xb.sub, xb.z, xb.i, fun b u n t e => ?_, fun b ps e => ?_, xb.new, xb.newi⟩, s6.sideK m6 z6 n6, z6, n6, upd_same, ?_, ?_, o2⟩
                          · rw [← l4'.len]; omega
                          · rw [upd_ne (ne_of_none e hL)]; exact xb.keep b u n t e
                          · obtain ⟨qs, z⟩ := xb.tb b ps e
                            exact ⟨qs, (upd_ne (ne_of_none e hL)).trans z⟩
                          · have ms : Same (mask H6 Z6) (mask (upd H6 L (.dK (putK as kk z))) Z6) := fun b u e => by
                              obtain ⟨n1, e1⟩ := of_mask e
                              exact mask_in n1 ((upd_ne fun q => n1 (by rw [q]; exact z6)).trans e1) (mask_nt e)
                            exact DRk.put (DR.mono ms _ _ rz) (((l4'.mono x5.same _ _).mono x6.same _ _).mono ms _ _)
                          · have := putD_len acc kk yy; omega
                      · exact o2.elim
                    · exact o2.elim
      · rintro H2 ⟨Z2, ι2, μ2, acc, as, x2, s2, l1, l2, l3, l4, l5, o2⟩
        rw [List.drop_length] at o2
        have hck := dcD_chk o2
        unfold dcD at o2
        rw [if_pos hck] at o2
        exact o2 Z2 ι2 H2 (x1.trans x2) s2 L as nH l1 l2 l3 l4
    · exact o.elim
theorem fe_fk {e : Expr} {mk : MK} (h : FK X W e mk) : FE X W e (mFk mk) := by
  refine pe_imp h fun σ H Q ⟨Z, ι, ρ, μ, R, o⟩ => ⟨Z, ι, ρ, μ, R, ?_⟩
  unfold mFk at o
  cases q : mk ρ μ with
  | exc C fs μ' => rw [q] at o; exact o
  | bad => rw [q] at o; exact o
  | ok xs μ' =>
    rw [q] at o
    intro Z' ι' H' x s a vs h1 h2 h3 h4 h5
    refine o _ ι' H' (x.freeze R.sta.trk h1) (s.freeze h3) _ (.d (.dK (mask_in (fun q => ?_) h4) (h5.mono (mask_less fun b hb => (List.mem_filter.mp hb).1) _ _)))
    exact of_decide_eq_true (List.mem_filter.mp q).2 rfl
theorem fk_dc {kx vx tg iter : Expr} {ifs : List Expr} {scope : Scope} {own : List (Str × Nat)} {pos : Pos} {mi : MI} {g : TG} {gm : MG} {c : MT} {ek ev : ME} (hc : X.calm = true) (hN : X.N.Nodup) (hi : FI X W tg iter mi) (ok : BlkOk X.N X.env.scope scope own)
    (hgo : GOk X.K g gm (own.map (·.2))) (hg : ∀ (s : Shared) (H : Hp) (C : Addr) (cl : List (Str × Addr)) (fp : List Addr), PG (X.blk s H scope (compEnvC scope cl C X.env) fp) tg g)
    (ht : ∀ (s : Shared) (H : Hp) (C : Addr) (cl : List (Str × Addr)) (fp : List Addr), FTs (X.blk s H scope (compEnvC scope cl C X.env) fp) W0 ifs c)
    (hk : ∀ (s : Shared) (H : Hp) (C : Addr) (cl : List (Str × Addr)) (fp : List Addr), FE (X.blk s H scope (compEnvC scope cl C X.env) fp) W0 kx ek)
    (he : ∀ (s : Shared) (H : Hp) (C : Addr) (cl : List (Str × Addr)) (fp : List Addr), FE (X.blk s H scope (compEnvC scope cl C X.env) fp) W0 vx ev) (hs : ∀ x, foldedSetIterable iter X.env x = pure x := by intro _; rfl) :
    FK X W (.DictComp kx vx [⟨tg, iter, ifs, 0⟩] scope pos) (mDC mi gm c ek ev (own.map (·.2))) :=
  pe_imp (pe_dc (g := g) (tt := tMT X.K W0 c) (tk := tM X.K W0 ek) (tv := tM X.K W0 ev) hc hN hi ok hg ht hk he hs) fun σ H Q h => dc_read hgo h
/-- y = {..} on one line -/
theorem setDc {i : Nat} {y : Str} {py : Pos} {kx vx tg iter : Expr} {ifs : List Expr} {scope : Scope} {own : List (Str × Nat)} {pos spos : Pos} {mi : MI} {g : TG} {gm : MG} {c : MT} {ek ev : ME} (hc : X.calm = true) (hN : X.N.Nodup) (hy : X.N[i]? = some y) (hyl : X.env.scope.names.lookup y = some .local)
    (hsw : swapsWith (.DictComp kx vx [⟨tg, iter, ifs, 0⟩] scope pos) (some (.Name y py)) spos.line X.env = pure true) (hi : FI X W tg iter mi) (ok : BlkOk X.N X.env.scope scope own)
    (hgo : GOk X.K g gm (own.map (·.2))) (hg : ∀ (s : Shared) (H : Hp) (C : Addr) (cl : List (Str × Addr)) (fp : List Addr), PG (X.blk s H scope (compEnvC scope cl C X.env) fp) tg g)
    (ht : ∀ (s : Shared) (H : Hp) (C : Addr) (cl : List (Str × Addr)) (fp : List Addr), FTs (X.blk s H scope (compEnvC scope cl C X.env) fp) W0 ifs c)
    (hk : ∀ (s : Shared) (H : Hp) (C : Addr) (cl : List (Str × Addr)) (fp : List Addr), FE (X.blk s H scope (compEnvC scope cl C X.env) fp) W0 kx ek)
    (he : ∀ (s : Shared) (H : Hp) (C : Addr) (cl : List (Str × Addr)) (fp : List Addr), FE (X.blk s H scope (compEnvC scope cl C X.env) fp) W0 vx ev) (hs : ∀ x, foldedSetIterable iter X.env x = pure x := by intro _; rfl) :
    PS X (.Assign [.Name y py] (.DictComp kx vx [⟨tg, iter, ifs, 0⟩] scope pos) spos) (tAsg (tFk X.K W (mDC mi gm c ek ev (own.map (·.2)))) (gName i)) := by
  refine ⟨fun pins s σ H E I h => ?_⟩
  have h2 : tDc (tMI X.K W mi) g (tMT X.K W0 c) (tM X.K W0 ek) (tM X.K W0 ev) (own.map (·.2)) σ H (fun x H1 => gName i x σ H1 E.nx) := dc_read hgo h
  rw [exec_Assign_Name_used _ _ _ _ hsw]
  refine wpAny_bind (wpAny_standAt (wpAny_bind ?_))
  show wpAny _ X.A (do let _ ← comprehension (.DictComp kx vx [⟨tg, iter, ifs, 0⟩] scope pos) scope X.env (firstIterPos [⟨tg, iter, ifs, 0⟩] pos) newDict false (eval iter X.env) (some (assign (.Name y py) X.env))) _ _ s
  refine wpAny_bind (thn (dc_core (Qf := fun _ t => SP X pins E .next t) hc hN I hi ok hg ht hk he hs h2 fun L C t m H' J q hn f => ?_) fun _ t z => wpAny_pure (wpAny_pure z))
  obtain ⟨f0, f1, f2, f3, f4, f5⟩ := f
  refine wpAny_assign_Name (store_ok2 (v := V.ref L) J hN hy (.inl hyl) rfl (fun t2 J2 ⟨a, sb, ha⟩ => ?_) (.inr hyl))
  have ne : C ≠ a := by
    rcases ha with z | z
    · exact z ▸ f1
    · exact fun e => f4 y a z e.symm
  exact ⟨m, hn.sameBut sb ne, fun h3 sb3 => ⟨_, H', J2.turned (t' := t2.toks) (fun b o hb e => (sb3.2 b hb).trans e) f0 f1 f3 f4 f5, q⟩⟩
theorem fs_dcF {i : Nat} {st : Stmt} {mk : MK} (h : PS X st (tAsg (tFk X.K W mk) (gName i))) : FS X W st (mAsg (mFk mk) (gN i)) := by
  refine ps_imp h fun E σ H ⟨Z, ι, ρ, μ, R, o⟩ => ⟨Z, ι, ρ, μ, R, ?_⟩
  unfold mAsg mFk at o
  cases q : mk ρ μ with
  | exc C fs μ' => rw [q] at o; exact Out.exc_of R o
  | bad => rw [q] at o; exact o
  | ok xs μ' =>
    rw [q] at o
    intro Z' ι' H' x s a vs h1 h2 h3 h4 h5
    have s2 := s.freeze h3
    have x2 := x.freeze R.sta.trk h1
    have d : DR X.K (mask H' (Z'.filter (· ≠ a))) (.dK xs) (.ref a) := .dK (mask_in (fun q => of_decide_eq_true (List.mem_filter.mp q).2 rfl) h4) (h5.mono (mask_less fun b hb => (List.mem_filter.mp hb).1) _ _)
    exact o _ ι' H' _ x2 ⟨s2, (R.ext x2 s2).rs.set (.d d) i⟩
theorem swd_true {kx vx : Expr} {gs : List Comprehension} {scope : Scope} {pos py : Pos} {y : Str} {l : Nat} {env : Env} (hk : env.scope.kind = .function) (hy : env.scope.names.lookup y = some .local) (hl : (py.line == pos.line) = true)
    (ha : (scope.names.any fun (n, k) => n == y && (k == .local || k == .cell)) = false) : swapsWith (.DictComp kx vx gs scope pos) (some (.Name y py)) l env = pure true := by
  have b1 : env.kindOf y = some .local := hy
  have b2 : env.blockKind = .function := by unfold Env.blockKind; rw [hk]; rfl
  unfold swapsWith
  simp only [b2, b1, ha, Expr.pos, hl]
  rfl
end
end TT

namespace TT
open PySem L2
variable [TB]
/-! the first text that stands twice -/
def ftAt (seen : List Str) : List Str → D
  | [] => .non
  | x :: xs => if x ∈ seen then .str x else ftAt (x :: seen) xs
theorem ft_cons (seen : List Str) (x : Str) (xs : List Str) : ftAt seen (x :: xs) = if x ∈ seen then .str x else ftAt (x :: seen) xs := rfl
def strsD : List D → Option (List Str)
  | [] => some []
  | .str x :: r => (strsD r).map (x :: ·)
  | _ => none
theorem strsD_ok {K : PySem.W.Frag} {F : Hp} : ∀ {xs : List D} {vs : List V} {ss : List Str}, DRs K F xs vs → strsD xs = some ss → vs = ss.map V.str
  | _, _, _, .nil, e => by cases e; rfl
  | _, _, _, .cons (d := d) a b, e => by
    unfold strsD at e
    split at e
    · rename_i h; cases h
    · rename_i h
      cases h
      obtain ⟨ts, h1, rfl⟩ := Option.map_eq_some_iff.mp e
      rw [strsD_ok b h1]
      cases a
      rfl
    · cases e
def ftD : MF := fun as μ => match as with
  | [a] => match (view μ a).bind itemsD with
    | some xs => match strsD xs with
      | some ss => if ss.length < 4000 then .ok (.d (ftAt [] ss)) μ else .bad
      | none => .bad
    | none => .bad
  | _ => .bad
def dV : D → V
  | .str x => .str x
  | _ => .non
theorem ft_rel {K : PySem.W.Frag} {F : Hp} : ∀ (ss seen : List Str), DR K F (ftAt seen ss) (dV (ftAt seen ss))
  | [], _ => .non
  | x :: xs, seen => by
    unfold ftAt
    split
    · exact .str x
    · exact ft_rel xs _
section
variable {X : Cx} {W : WX} {p1 p2 p3 p4 p5 p6 p7 p8 p9 p10 p11 p12 p13 p14 p15 p16 p17 p18 p19 p20 : Pos} {j : Nat}
abbrev sNames : Str := "names"
abbrev sSeen : Str := "seen"
abbrev sName : Str := "name"
theorem ft_body (hN : X.N = [sNames, sSeen, sName]) (hc : X.calm = true) (hp : PassesOwn (model X.prog X.w) X.A X.env X.xe) (hg : Gl X "set") (hm : X.mg "set" = none) (l0 : X.env.scope.names.lookup sNames = some .local) (l1 : X.env.scope.names.lookup sSeen = some .local) (l2 : X.env.scope.names.lookup sName = some .local) (hline : (p11.endLine == p13.line) = true)
    {E : Ends} {σ : L2.St} {H : Hp} {a : Addr} {ss : List Str} (hσ : σ = [some (.ref a), none, none]) (hs : SqL X.K H a (ss.map V.str) ∨ SqT X.K H a (ss.map V.str)) (hl : ss.length < 4000)
    (hq : ∀ p S n, H p = none → E.rt (dV (ftAt [] ss)) (upd H p (SetK X.prog X.w p S n))) :
    ∃ t, PSs X [.Assign [.Name sSeen p1] (.Call (.Name "set" p2) [] [] p3) p4,
      .For (.Name sName p5) (.Name sNames p6) [.If (.Compare (.Name sName p7) [.In] [.Name sSeen p8] p9) [.Return (some (.Name sName p10)) p14] [] p15, .Expr (.Call (.Attribute (.Name sSeen p12) "add" p11) [.Name sName p16] [] p13) p17] [] p18,
      .Return (some (.Constant .none j p19)) p20] t ∧ t E σ H := by
  have nd : X.N.Nodup := by rw [hN]; decide
  have i0 : X.N[0]? = some sNames := by rw [hN]; rfl
  have i1 : X.N[1]? = some sSeen := by rw [hN]; rfl
  have i2 : X.N[2]? = some sName := by rw [hN]; rfl
  refine ⟨_, pss_cons (ps_set nd i1 (.inl l1) (pe_callTy0 cr_set0K hg hm PyProof.Rows.boot_set) (hf := .inr l1)) (pss_cons (ps_for hp hc (pi_or (pi_list (pe_var i0 (.inl l0))) (pi_tup (pe_var i0 (.inl l0)))) (pg_name nd i2 (.inl l2) (.inr l2))
    (pss_cons (ps_if (pt_cmpR or_sinK (pe_var i2 (.inl l2)) (pe_var i1 (.inl l1)) rfl) (pss_one (ps_ret (pe_var i2 (.inl l2)))) pss_nil) (pss_one (ps_expr (pe_saddK (pe_var i1 (.inl l1)) (pa_cons (pe_var i2 (.inl l2)) pa_nil) (hline := hline)))))) (pss_one (ps_ret pe_non))), ?_⟩
  subst hσ
  refine ⟨rfl, fun p hp0 => ?_⟩
  have sm : ∀ o, Same H (upd H p o) := fun o b u e => (upd_ne (ne_of_none e hp0)).trans e
  have core : ∀ {J : It} {G : Hp → Prop} (w : Walk J (ss.map V.str).length G (YAt (ss.map V.str))) (hG : ∀ S n, G (upd H p (SetK X.prog X.w p S n))),
      ∃ W : Nat → Nat → L2.St → Hp → Prop, (∃ m, W 0 m [some (.ref a), some (.ref p), none] (upd H p (SetK X.prog X.w p (fun _ => false) 0))) ∧ ∀ i m σ H, W i m σ H →
      (J.stop i H ∧ E.rt .non H) ∨ (J.go i H ∧ ∃ N : L2.St → Hp → Prop, (∀ σ' H', N σ' H' → ∃ m', m' < m ∧ W (i + 1) m' σ' H') ∧ ∀ x H', J.yld i H x H' → gName 2 x σ H' fun σ2 H2 =>
        (tSeq (tIfS (tTest (tOp (rSInK X.prog X.w false) (tVar 2) (tVar 1))) (tRet (tVar 2)) tNext) (tDrop (tSAddK X.prog X.w (tVar 1) (tCons (tVar 2) tNil)))) { nx := N, ct := N, bk := fun σ H => E.rt .non H, rt := E.rt } σ2 H2) := by
    intro J G w hG
    refine for_it w (D := { nx := fun σ H => E.rt .non H, rt := E.rt, bk := fun _ _ => False, ct := fun _ _ => False }) (fun i σ H2 => ∃ S n seen x, H2 = upd H p (SetK X.prog X.w p S n) ∧ σ = [some (.ref a), some (.ref p), x] ∧ n ≤ i ∧ (∀ y, S (.inr y) = decide (y ∈ seen)) ∧ ftAt [] ss = ftAt seen (ss.drop i))
      ⟨_, 0, [], none, rfl, rfl, Nat.le_refl _, fun y => by simp, rfl⟩ (fun i σ H2 hi ⟨S, n, seen, x, e, _⟩ => by rw [e]; exact hG S n) ?_ ?_
    · rintro i x σ H2 H3 hi ⟨S, n, seen, z, rfl, rfl, hn, hS, hf⟩ ⟨rfl, hx⟩
      rw [List.length_map] at hi
      rw [List.getElem?_map, List.getElem?_eq_getElem hi] at hx
      cases hx
      rw [List.drop_eq_getElem_cons hi, ft_cons] at hf
      have hb : S (.inr ss[i]) = decide (ss[i] ∈ seen) := hS _
      have back : ∀ b, S (.inr ss[i]) = b → (if b = true then tRet (tVar 2) else tNext) { nx := (tDrop (tSAddK X.prog X.w (tVar 1) (tCons (tVar 2) tNil))) { nx := fun σ H2 => ∃ S n seen x, H2 = upd H p (SetK X.prog X.w p S n) ∧ σ = [some (.ref a), some (.ref p), x] ∧ n ≤ i + 1 ∧ (∀ y, S (.inr y) = decide (y ∈ seen)) ∧ ftAt [] ss = ftAt seen (ss.drop (i + 1)), rt := E.rt }, rt := E.rt }
          [some (.ref a), some (.ref p), some (.str ss[i])] (upd H p (SetK X.prog X.w p S n)) := by
        intro b hbb
        cases b with
        | true =>
          rw [if_pos rfl]
          rw [hb] at hbb
          rw [if_pos (of_decide_eq_true hbb)] at hf
          refine ⟨.str ss[i], rfl, ?_⟩
          have := hq p S n hp0
          rw [hf] at this
          exact this
        | false =>
          rw [if_neg (by decide)]
          rw [hb] at hbb
          rw [if_neg (of_decide_eq_false hbb)] at hf
          have sb : n + 1 < scanBound := by unfold scanBound; omega
          refine ⟨.ref p, rfl, ⟨p, S, n, rfl, upd_same⟩, .str ss[i], rfl, p, .inr ss[i], S, n, rfl, rfl, upd_same, sb, _, _, ss[i] :: seen, some (.str ss[i]), upd_upd, rfl, ?_, fun y => ?_, hf⟩
          · split <;> omega
          · rw [hS y]
            by_cases e : y = ss[i]
            · simp [e]
            · have : (Sum.inr y : Key) ≠ Sum.inr ss[i] := fun z => e (Sum.inr.inj z)
              simp [e]
      refine ⟨.str ss[i], rfl, .ref p, rfl, .inr ss[i], p, S, n, rfl, rfl, upd_same, S (.inr ss[i]), rfl, ?_⟩
      have := back _ rfl
      revert this
      cases S (.inr ss[i]) <;> exact fun z => z
    · rintro σ H2 ⟨S, n, seen, x, rfl, rfl, hn, hS, hf⟩
      rw [List.length_map, List.drop_length] at hf
      have := hq p S n hp0
      rw [hf] at this
      exact this
  rcases hs with hs | hs
  · exact .inl ⟨.ref a, rfl, a, rfl, ⟨_, (sm _).seq hs⟩, core walk_list fun S n => (sm _).seq hs⟩
  · exact .inr ⟨.ref a, rfl, a, rfl, ⟨_, same_t (sm _) hs⟩, core walk_tup fun S n => same_t (sm _) hs⟩
theorem ft_ok (hN : X.N = [sNames, sSeen, sName]) (hc : X.calm = true) (hp : PassesOwn (model X.prog X.w) X.A X.env X.xe) (hg : Gl X "set") (hm : X.mg "set" = none) (l0 : X.env.scope.names.lookup sNames = some .local) (l1 : X.env.scope.names.lookup sSeen = some .local) (l2 : X.env.scope.names.lookup sName = some .local) (hline : (p11.endLine == p13.line) = true)
    {vs : List V} {H : Hp} {Q : VK} {E : XK} (h : spF X.K 1 ftD vs H Q E) :
    ∃ t, PSs X [.Assign [.Name sSeen p1] (.Call (.Name "set" p2) [] [] p3) p4,
      .For (.Name sName p5) (.Name sNames p6) [.If (.Compare (.Name sName p7) [.In] [.Name sSeen p8] p9) [.Return (some (.Name sName p10)) p14] [] p15, .Expr (.Call (.Attribute (.Name sSeen p12) "add" p11) [.Name sName p16] [] p13) p17] [] p18,
      .Return (some (.Constant .none j p19)) p20] t ∧ t { nx := fun _ H' => Q .non H', rt := Q } (L2.start [sNames, sSeen, sName] vs) H := by
  obtain ⟨hl, Z, ι, as, μ, st, r, o⟩ := h
  unfold ftD at o
  split at o
  · rename_i a
    cases r with | cons ra rr => cases rr with | nil =>
      rename_i v
      split at o
      · rename_i xs hx
        obtain ⟨d, h1, h2⟩ := Option.bind_eq_some_iff.mp hx
        have dv := view_ok st ra h1
        split at o
        · rename_i ss hs
          split at o
          · rename_i hlt
            have fin : ∀ (b : Addr) (p : Addr) (S : Key → Bool) (n : Nat), H p = none → Q (dV (ftAt [] ss)) (upd H p (SetK X.prog X.w p S n)) := fun b p S n hp0 => by
              have sm : Same H (upd H p (SetK X.prog X.w p S n)) := fun b u e => (upd_ne (ne_of_none e hp0)).trans e
              exact o Z ι _ (st.grow sm).2 (st.grow sm).1 _ (.d (ft_rel ss []))
            cases d with
            | lst ys =>
              cases h2
              obtain ⟨b, vs', rfl, q1, q2⟩ := dv.list
              have := strsD_ok q2 hs
              subst this
              exact ft_body hN hc hp hg hm l0 l1 l2 hline (a := b) rfl (.inl (.inl (.inl q1))) hlt (fin b)
            | tup ys =>
              cases h2
              obtain ⟨b, vs', rfl, q1, q2⟩ := dv.tup
              have := strsD_ok q2 hs
              subst this
              exact ft_body hN hc hp hg hm l0 l1 l2 hline (a := b) rfl (.inr (.inl (.inl q1))) hlt (fin b)
            | _ => cases h2
          · exact o.elim
        · exact o.elim
      · exact o.elim
  · exact o.elim
end
/-! a def with defaults, called without them -/
structure DefD (K : PySem.W.Frag) (mg : Str → Option Value) (x : Str) (st : Stmt) (ps : List Str) (dvs : List V) : Prop where
  ex : ∃ (f : Addr) (fd : FuncData) (ds : List Value), FunD K x x (defArgs st) (defBody st) (defScope st) dvs [] f fd ∧ mg x = some (.ref f) ∧ Vals dvs ds ∧ Binds K fd ps ds
section
variable {P : Program} {w : World} {K : PySem.W.Frag} {mg : Str → Option Value} {base : Heap} {CX : CXT} {k : Nat} {f : Addr} {sp : Sp}
theorem fn_gd {x qual : Str} {params : Arguments} {bd : List Stmt} {scope : Scope} {fd : FuncData} {N ps : List Str} {dvs : List V} {ds : List Value} (F : FunD K x qual params bd scope dvs [] f fd) (hb : Binds K fd ps ds) (hd : Vals dvs ds) (S : FnScope N ps scope)
    (len : ∀ vs H Q E, sp vs H Q E → (vs ++ dvs).length = ps.length)
    (body : ∀ (cdv : Value) (A : Around) (outer : List Env) (s : Shared) (H : Hp) (vs : List V) (Q : VK) (E : XK), (A.deeper (PyProof.Rows.envOfC qual scope s.heap.objs.size f cdv)).guards = some [] →
      Room k (A.deeper (PyProof.Rows.envOfC qual scope s.heap.objs.size f cdv)) → sp vs H Q E →
      ∃ t, PSs (cxOf CX P w K mg base N qual scope f cdv A outer s H E) bd t ∧ t { nx := fun _ H' => Q .non H', rt := Q } (start N (vs ++ dvs)) H) : FnG P w K mg base CX (k + 1) f sp := by
  obtain ⟨oc, od, dV, kV, doc, pm, an, cdv, ct, osl, rfl, lk, hcd, _, _⟩ := F.ex
  intro A outer s H us vs Q E hr hg e0 r hsp
  have hl := len _ _ _ _ hsp
  have KX : K.In s.heap := e0.mod.kin.keeps fun b o e => (e0.bs b o e).1
  have r2 : Vals (vs ++ dvs) (us ++ ds) := r.append hd
  refine StX.run_bnd lk hcd S hr e0 (G := fun xs H2 => xs = vs ++ dvs ∧ H2 = H) (fun A' Ex Q' h => ?_) fun s2 H2 xs g hr' => ?_
  · exact hb s us KX (by rw [← r2.length]; exact hl) _ _ _ _ (h s H (vs ++ dvs) (us ++ ds) e0 Un.refl rfl (fun _ _ z => z) r2 hl ⟨rfl, rfl⟩)
  · obtain ⟨rfl, rfl⟩ := g
    exact body cdv A outer s2 _ _ Q E hg hr' hsp
/-- values that are data wherever they stand -/
def Cst (K : PySem.W.Frag) (dm : List MV) (dvs : List V) : Prop := ∀ F ι, RMs K F ι dm dvs
def fnD (F : MF) (dm : List MV) : MF := fun as μ => F (as ++ dm) μ
theorem RMs.append {K : PySem.W.Frag} {F : Hp} {ι : List Addr} {bs : List MV} {ws : List V} (h2 : RMs K F ι bs ws) : ∀ {as : List MV} {vs : List V}, RMs K F ι as vs → RMs K F ι (as ++ bs) (vs ++ ws)
  | _, _, .nil => h2
  | _, _, .cons a b => .cons a (RMs.append h2 b)
theorem DefD.mini {x : Str} {st : Stmt} {N ps : List Str} {k n : Nat} {fz : Bool} {m : MS} {dm : List MV} {dvs : List V} (D : DefD K mg x st ps dvs) (c : Cst K dm dvs) (S : FnScope N ps (defScope st)) (hn : n + dvs.length = ps.length)
    (body : ∀ (f : Addr) (cdv : Value) (A : Around) (outer : List Env) (s : Shared) (H : Hp) (E : XK), (A.deeper (PyProof.Rows.envOfC x (defScope st) s.heap.objs.size f cdv)).guards = some [] →
      Room k (A.deeper (PyProof.Rows.envOfC x (defScope st) s.heap.objs.size f cdv)) →
      FSs (cxOf (L2.CX P w) P w K mg base N x (defScope st) f cdv A outer s H E) (fun c d _ H' => E c d H') (defBody st) m) : Fn P w K mg base (k + 1) x n (fnD (fnT fz N.length m) dm) := by
  obtain ⟨f, fd, ds, F, hm, hv, hb⟩ := D.ex
  refine ⟨f, fn_gd F hb hv S (fun vs H Q E h => ?_) fun cdv A outer s H vs Q E hg hr h => ⟨_, body f cdv A outer s H E hg hr, bodyT_ok (fz := fz) (n := n + dvs.length) ?_⟩, hm, F.kp⟩
  · rw [List.length_append, h.1]; exact hn
  · obtain ⟨h1, Z, ι, as, μ, s1, r1, o⟩ := h
    exact ⟨by rw [List.length_append, h1], Z, ι, as ++ dm, μ, s1, (c _ _).append r1, o⟩
end
end TT

namespace TT
open PySem L2
theorem _root_.L2.Room.units3 {k : Nat} {A : Around} (r : Room k A) : A.units + 65 < cLine := by have := r.un; omega
theorem _root_.L2.Room.units1 {k : Nat} {A : Around} (r : Room k A) : A.units + 1 < cLine := by have := r.un; omega
/-! defs whose code object is known -/
structure FunC (K : PySem.W.Frag) (x qual : Str) (st : Stmt) (f : Addr) (fd : FuncData) (cdv : Value) : Prop where
  ex : ∃ (oc : Value) (od : Option Addr) (kV doc pm : Value) (an : Option Addr) (ct : Value) (osl : Array (Option Value)),
    fd = PySem.W.fnOf x qual (defArgs st) (defBody st) (defScope st) .none kV doc pm an cdv ct ∧ K.lookup f = some ⟨oc, od, .func fd, osl⟩ ∧ PySem.W.codeIn K cdv qual = true
section
variable {P : Program} {w : World} {K : PySem.W.Frag} {mg : Str → Option Value} {base : Heap} {CX : CXT} {k : Nat} {f : Addr} {sp : Sp}
theorem fn_gc {x qual : Str} {st : Stmt} {fd : FuncData} {N ps : List Str} {cdv : Value} (F : FunC K x qual st f fd cdv) (hb : Binds K fd ps []) (S : FnScope N ps (defScope st))
    (len : ∀ vs H Q E, sp vs H Q E → vs.length = ps.length)
    (body : ∀ (A : Around) (outer : List Env) (s : Shared) (H : Hp) (vs : List V) (Q : VK) (E : XK), (A.deeper (PyProof.Rows.envOfC qual (defScope st) s.heap.objs.size f cdv)).guards = some [] →
      Room k (A.deeper (PyProof.Rows.envOfC qual (defScope st) s.heap.objs.size f cdv)) → sp vs H Q E →
      ∃ t, PSs (cxOf CX P w K mg base N qual (defScope st) f cdv A outer s H E) (defBody st) t ∧ t { nx := fun _ H' => Q .non H', rt := Q } (start N vs) H) : FnG P w K mg base CX (k + 1) f sp := by
  obtain ⟨oc, od, kV, doc, pm, an, ct, osl, rfl, lk, hcd⟩ := F.ex
  intro A outer s H us vs Q E hr hg e0 r hsp
  have hl : vs.length = ps.length := len _ _ _ _ hsp
  have KX : K.In s.heap := e0.mod.kin.keeps fun b o e => (e0.bs b o e).1
  refine StX.run_bnd lk hcd S hr e0 (G := fun xs H2 => xs = vs ∧ H2 = H) (fun A' Ex Q' h => ?_) fun s2 H2 xs g hr' => ?_
  · have q := hb s us KX (by rw [List.append_nil, ← r.length]; exact hl)
    rw [List.append_nil] at q
    exact q _ _ _ _ (h s H vs us e0 Un.refl rfl (fun _ _ z => z) r hl ⟨rfl, rfl⟩)
  · obtain ⟨rfl, rfl⟩ := g
    exact body A outer s2 _ _ Q E hg hr' hsp
end
structure DefC (K : PySem.W.Frag) (mg : Str → Option Value) (x : Str) (st : Stmt) (ps : List Str) (cdv : Value) : Prop where
  ex : ∃ (f : Addr) (fd : FuncData), FunC K x x st f fd cdv ∧ mg x = some (.ref f) ∧ Binds K fd ps [] ∧ PySem.W.keepIn K (.ref f) = true
structure MdefC (K : PySem.W.Frag) (x qual : Str) (st : Stmt) (ps : List Str) (f : Addr) (cdv : Value) : Prop where
  ex : ∃ (fd : FuncData), FunC K x qual st f fd cdv ∧ Binds K fd ps []
section
variable [TB] {P : Program} {w : World} {K : PySem.W.Frag} {mg : Str → Option Value} {base : Heap}
theorem DefC.mini {x : Str} {st : Stmt} {N ps : List Str} {k n : Nat} {fz : Bool} {m : MS} {cdv : Value} (D : DefC K mg x st ps cdv) (S : FnScope N ps (defScope st)) (hn : ps.length = n)
    (body : ∀ (f : Addr) (A : Around) (outer : List Env) (s : Shared) (H : Hp) (E : XK), (A.deeper (PyProof.Rows.envOfC x (defScope st) s.heap.objs.size f cdv)).guards = some [] →
      Room k (A.deeper (PyProof.Rows.envOfC x (defScope st) s.heap.objs.size f cdv)) →
      FSs (cxOf (L2.CX P w) P w K mg base N x (defScope st) f cdv A outer s H E) (fun c d _ H' => E c d H') (defBody st) m) : Fn P w K mg base (k + 1) x n (fnT fz N.length m) := by
  obtain ⟨f, fd, F, hm, b, kp⟩ := D.ex
  exact ⟨f, fn_gc F b S (fun vs H Q E h => h.1.trans hn.symm) fun A outer s H vs Q E hg hr h => ⟨_, body f A outer s H E hg hr, bodyT_ok h⟩, hm, kp⟩
theorem MdefC.mini {x qual : Str} {st : Stmt} {N ps : List Str} {k n : Nat} {f : Addr} {fz : Bool} {m : MS} {cdv : Value} (D : MdefC K x qual st ps f cdv) (S : FnScope N ps (defScope st)) (hn : ps.length = n)
    (body : ∀ (A : Around) (outer : List Env) (s : Shared) (H : Hp) (E : XK), (A.deeper (PyProof.Rows.envOfC qual (defScope st) s.heap.objs.size f cdv)).guards = some [] →
      Room k (A.deeper (PyProof.Rows.envOfC qual (defScope st) s.heap.objs.size f cdv)) →
      FSs (cxOf (L2.CX P w) P w K mg base N qual (defScope st) f cdv A outer s H E) (fun c d _ H' => E c d H') (defBody st) m) : FnG P w K mg base (L2.CX P w) (k + 1) f (spF K n (fnT fz N.length m)) := by
  obtain ⟨fd, F, b⟩ := D.ex
  exact fn_gc F b S (fun vs H Q E h => h.1.trans hn.symm) fun A outer s H vs Q E hg hr h => ⟨_, body A outer s H E hg hr, bodyT_ok h⟩
end
/-! the end of a law, with tables of code objects -/
section
open PySem.W PyProof.Rows
variable {P : Program} {w : World} {K : PySem.W.Frag} {mg mb : Str → Option Value} {CX : CXT} {k : Nat} {fa a : Addr} {sp : Sp} {s₁ : Shared} {vs : List Value} {ns : List Int} {cs : List (Addr × Addr)}
/-- the tables are empty; all else that is known is the script -/
structure Start (cs : List (Addr × Addr)) (H : Hp) : Prop where
  tab : ∀ p ∈ cs, H p.2 = some (.tbl #[])
  rest : ∀ b, H b = none ∨ b ∈ cs.map (·.2) ∨ ∃ o xs, H b = some (.frz o (.lst xs))
theorem lawGT (KX : K.In s₁.heap) (hns : s₁.heap.Ns mainGlobals mg) (hb : s₁.heap.Ns builtinsNs mb) (hbb : ∀ x : Str, x ≠ "__name__" → mb x = bootBuiltins x) (hlim : s₁.heap.NoLimit) (hg : s₁.gens = #[])
    (tE : ∀ p ∈ cs, s₁.heap.get? p.2 = some (tabObj #[])) (tN : ∀ p ∈ cs, K.lookup p.2 = none) (tC : ∀ p ∈ cs, CodeHd s₁.heap p.1 p.2)
    (bm : ∃ (b : Addr) (ob : Obj), mg "__builtins__" = some (.ref b) ∧ b ≠ builtinsNs ∧ s₁.heap.get? b = some ob ∧ ob.cls = .type "module" ∧ ob.dict = some builtinsNs ∧ ob.data = .plain)
    (ha : s₁.heap.get? a = some { cls := .type "list", data := .seq vs.toArray }) (hi : IntsAre vs ns) (hl : ns.length ≤ sizeLine) (hr : Room k callerA)
    (F : ∀ base : Heap, K.In base → base.Ns mainGlobals mg → (∀ p ∈ cs, LamX.TabB base mg p.1 p.2) → FnG P w K mg base CX k fa sp)
    (hsp : ∀ H : Hp, Start cs H → SqL K H a (ns.map V.int) → sp [.ref a] H (fun v _ => v = .bl true) fun _ _ _ => False)
    (hCX : ∀ H e s', CX [] H s₁ (fun _ _ _ => False) e s' → False) :
    codeAny (model P w) callerA (.call (.ref fa) ⟨[.ref a], []⟩) (fun r s' => r = .ok (.ret (.bool true)) ∧ OldK s₁.heap s'.heap ∧ s'.os = s₁.os ∧ AllBare s'.gens) s₁ := by
  have tO : ∀ b, b ∈ cs.map (·.2) → s₁.heap.get? b = some (tabObj #[]) := fun b q => by
    obtain ⟨p, h1, rfl⟩ := List.mem_map.mp q
    exact tE p h1
  have nT : a ∉ cs.map (·.2) := fun q => by
    have e := tO a q
    rw [ha] at e; cases e
  have inT : ∀ {p}, p ∈ cs → p.2 ∈ cs.map (·.2) := fun {p} h => List.mem_map.mpr ⟨p, h, rfl⟩
  suffices core : ∀ H : Hp, Start cs H → SqL K H a (ns.map V.int) → HOk P w H s₁.heap → (∀ b u, H b = some u → (b = a ∧ K.lookup a = none) ∨ b ∈ cs.map (·.2)) → _ by
    cases hk : K.lookup a with
    | some o =>
      obtain rfl : o = { cls := .type "list", data := .seq vs.toArray } := by have e := KX a o hk; rw [ha] at e; cases e; rfl
      let G : Hp := fun b => if b ∈ cs.map (·.2) then some (.tbl #[]) else none
      have gy : ∀ b, b ∈ cs.map (·.2) → G b = some (.tbl #[]) := fun b h => if_pos h
      have gn : ∀ b, b ∉ cs.map (·.2) → G b = none := fun b h => if_neg h
      refine core G ⟨fun p h => gy _ (inT h), fun b => ?_⟩ (.inr ⟨_, vs.toArray, _, hk, rfl, rfl, rfl, ?_, ?_⟩) (fun b u z => ?_) fun b u z => ?_
      · by_cases q : b ∈ cs.map (·.2)
        · exact .inr (.inl q)
        · exact .inl (gn b q)
      · rw [List.size_toArray, hi.length]; exact hl
      · simpa using vals_ints hi
      · by_cases q : b ∈ cs.map (·.2)
        · rw [gy b q] at z; cases z; exact tO b q
        · rw [gn b q] at z; cases z
      · by_cases q : b ∈ cs.map (·.2)
        · exact .inr q
        · rw [gn b q] at z; cases z
    | none =>
      let o0 : Obj := { cls := .type "list", data := .seq vs.toArray }
      let G : Hp := fun b => if b ∈ cs.map (·.2) then some (.tbl #[]) else if b = a then some (.frz o0 (.lst (ns.map V.int))) else none
      have gy : ∀ b, b ∈ cs.map (·.2) → G b = some (.tbl #[]) := fun b h => if_pos h
      have ga : G a = some (.frz o0 (.lst (ns.map V.int))) := (if_neg nT).trans (if_pos rfl)
      have gn : ∀ b, b ∉ cs.map (·.2) → b ≠ a → G b = none := fun b h n => (if_neg h).trans (if_neg n)
      have sp3 : ∀ b, b ∈ cs.map (·.2) ∨ b = a ∨ G b = none := fun b => by
        by_cases q : b ∈ cs.map (·.2)
        · exact .inl q
        · by_cases n : b = a
          · exact .inr (.inl n)
          · exact .inr (.inr (gn b q n))
      refine core G ⟨fun p h => gy _ (inT h), fun b => ?_⟩ (.inl (.inr ⟨_, ga⟩)) (fun b u z => ?_) fun b u z => ?_
      · rcases sp3 b with q | q | q
        · exact .inr (.inl q)
        · rw [q]; exact .inr (.inr ⟨_, _, ga⟩)
        · exact .inl q
      · rcases sp3 b with q | q | q
        · rw [gy b q] at z; cases z; exact tO b q
        · subst q; rw [ga] at z; cases z
          exact ⟨ha, by rw [List.length_map]; exact hl, vs, _, vals_ints hi, ha⟩
        · rw [q] at z; cases z
      · rcases sp3 b with q | q | q
        · exact .inr q
        · exact .inl ⟨q, hk⟩
        · rw [q] at z; cases z
  intro H hO hS hok hA
  -- an object of another kind stays
  have off : ∀ {b : Addr} {o : Obj}, s₁.heap.get? b = some o → (b = a → K.lookup a = none → False) → (b ∈ cs.map (·.2) → False) → H b = none := fun {b o} e n n2 => by
    cases q : H b with
    | none => rfl
    | some u =>
      rcases hA b u q with z | z
      · exact (n z.1 z.2).elim
      · exact (n2 z).elim
  have offD : ∀ {b : Addr} {o : Obj}, s₁.heap.get? b = some o → (∀ xs n, o.data ≠ .seq xs n) → o.data ≠ .fields #[] → H b = none := fun {b o} e n n2 => off e
    (fun q _ => by subst q; rw [ha] at e; cases e; exact n _ _ rfl) (fun q => by have z := tO b q; rw [e] at z; cases z; exact n2 rfl)
  have nsK : ∀ {b : Addr} {m : Str → Option Value}, s₁.heap.Ns b m → (hidT s₁.heap H).Ns b m := fun {b m} z => by
    obtain ⟨o, es, ep, e, d, r⟩ := z
    exact ⟨o, es, ep, hidT_get e (offD e (fun xs n q => by rw [d] at q; cases q) fun q => by rw [d] at q; cases q), d, r⟩
  have kin : K.In (hidT s₁.heap H) := fun b o e => hidT_get (KX b o e) (off (KX b o e) (fun q n => by subst q; rw [n] at e; cases e) fun q => by
    obtain ⟨p, h1, rfl⟩ := List.mem_map.mp q
    rw [tN p h1] at e; cases e)
  have md : Mod K mg (hidT s₁.heap H) := by
    obtain ⟨mc, h1, h2⟩ := hlim
    exact ⟨kin, nsK hns, ⟨mb, nsK hb, hbb⟩, mc, nsK h1, h2⟩
  have glob : ∀ {b : Addr} {o : Obj}, s₁.heap.get? b = some o → (∀ es ep, o.data ≠ .dict es ep) → b ≠ mainGlobals := fun {b o} e n q => by
    obtain ⟨o', es, ep, e', d, _⟩ := hns
    rw [q, e'] at e; cases e
    exact n _ _ d
  have tb : ∀ p ∈ cs, LamX.TabB (hidT s₁.heap H) mg p.1 p.2 := fun p hp => by
    have e0 := tE p hp
    refine ⟨?_, ?_, fun q => glob e0 (fun es ep z => by cases z) q.symm⟩
    · obtain ⟨o, us, x1, x2, x3, x4, x5, x6, x7, e1, r1, r2, r3, r⟩ := tC p hp
      refine ⟨o, us, x1, x2, x3, x4, x5, x6, x7, hidT_get e1 (offD e1 (fun xs n q => by rw [r2] at q; cases q) fun q => ?_), r1, r2, r3, r⟩
      rw [r2] at q
      cases q
      simp at r3
    · obtain ⟨b, ob, b1, b2, b3, b4, b5, b6⟩ := bm
      refine ⟨b, ob, b1, b2, glob b3 (fun es ep z => by rw [b6] at z; cases z), fun q => ?_, hidT_get b3 (offD b3 (fun xs n z => by rw [b6] at z; cases z) fun z => by rw [b6] at z; cases z), b4, b5, b6⟩
      rw [q, e0] at b3
      cases b3
      cases b6
  have e0 : Env0 P w K mg (hidT s₁.heap H) callerA [] s₁ H :=
    { frames := rfl, mod := md, bs := fun b o e => of_hidT e, bsz := Nat.le_of_eq (hidT_size _ _), funs := trivial
      frf := fun b z => absurd (show b ∈ ([] : List Addr) from z) List.not_mem_nil
      hok := hok
      bare := .of_eq hg }
  have run := F _ kin (nsK hns) tb callerA [] s₁ H [.ref a] [.ref a] _ _ hr rfl e0 (.cons rfl .nil) (hsp H hO hS)
  refine codeAny_mono run fun z s' h => ?_
  cases z with
  | error e => exact (hCX H e s' h).elim
  | ok fl => cases fl with
    | ret u =>
      obtain ⟨v, H', os, bare, un, hok', r', q⟩ := h
      obtain rfl : v = V.bl true := q
      obtain rfl : u = Value.bool true := r'
      have stay : ∀ b o, b ∉ cs.map (·.2) → s₁.heap.get? b = some o → s'.heap.get? b = some o := fun b o nb e => by
        rcases hO.rest b with z | z | ⟨ob, xs, z⟩
        · exact un.keep b o e z (fun z => absurd (show b ∈ ([] : List Addr) from z) List.not_mem_nil) List.not_mem_nil
        · exact (nb z).elim
        · have e1 := (hok b _ z).1
          have e2 := (hok' b _ (un.frzs b ob _ z)).1
          rw [e] at e1; cases e1
          exact e2
      have more : ∀ b, b ∈ cs.map (·.2) → ∃ c m, CodeHd s₁.heap c b ∧ s'.heap.get? b = some { cls := .none, data := .fields m } := fun b q => by
        obtain ⟨p, h1, rfl⟩ := List.mem_map.mp q
        obtain ⟨m, z⟩ := un.tbls p.2 #[] (hO.tab p h1)
        exact ⟨p.1, _, tC p h1, hok' p.2 _ z⟩
      refine ⟨rfl, ⟨fun b o e => ?_, fun b o e => ?_⟩, os, bare⟩
      · by_cases q : b ∈ cs.map (·.2)
        · obtain ⟨c, m, h1, h2⟩ := more b q
          have e2 := tO b q
          rw [e2] at e; cases e
          exact .inr (.inl ⟨(h1.tab e2).isCodeTable, rfl, #[], m, rfl, by rw [Array.empty_append]; exact h2⟩)
        · exact .inl (stay b o q e)
      · by_cases q : b ∈ cs.map (·.2)
        · obtain ⟨c, m, h1, h2⟩ := more b q
          exact ⟨_, h2⟩
        · exact ⟨o, stay b o q e⟩
    | _ => exact h.elim
theorem walkGT {l : OpenLaw} {n k : Nat} {q : Program} {loose : List Str} {XP : (Str → Option Value) → Heap → Prop} {YP : World → Heap → Prop} {d : DefRec} {K : Params → Frag} {CX : World → CXT} {sp : World → Sp} {cs : List (Addr × Addr)}
    (hn : l.most = some n) (hn2 : n ≤ sizeLine) (hdf : d.params.defaults = []) (hr : Room k callerA) (hY : ∀ (w : World) (h : Heap), YP w h → (K w.params).In h) (hT : ∀ (w : World) (h : Heap), YP w h → ∀ p ∈ cs, h.get? p.2 = some (tabObj #[]))
    (tN : ∀ w : World, ∀ p ∈ cs, (K w.params).lookup p.2 = none) (tC : ∀ w : World, ∀ p ∈ cs, codeHdIn (K w.params) p.1 p.2 = true)
    (F : ∀ (w : World) (mg : Str → Option Value) (fa : Addr) (h : Heap), (K w.params).In h → h.Ns mainGlobals mg → mg d.name = some (.ref fa) →
      ∀ base : Heap, (K w.params).In base → base.Ns mainGlobals mg → (∀ p ∈ cs, LamX.TabB base mg p.1 p.2) → FnG l.prog w (K w.params) mg base (CX w) k fa (sp w))
    (hsp : ∀ (w : World) (H : Hp) (a : Addr) (ns : List Int), ns.length ≤ n → (∀ z ∈ ns, Builtin.Int.intBits z ≤ 1048576) → Start cs H → SqL (K w.params) H a (ns.map V.int) → sp w [.ref a] H (fun v _ => v = .bl true) fun _ _ _ => False)
    (hCX : ∀ (w : World) (H : Hp) (s : Shared) (e : Value) (s' : Shared), CX w [] H s (fun _ _ _ => False) e s' → False) : WalkO q loose XP YP l.row.toRowW d [] (fun f vs => PySem.call f vs) := by
  refine Att.attach_callB hn hdf fun w s₀ s₁ mg mb fa o pm cd doc a vs ns G Y ho hd hcd hmg hobj hints hlen hbits hg => ?_
  have kx := hY w _ Y
  exact lawGT kx G.T.g G.T.b G.T.builtins G.T.nolimit hg (hT w _ Y) (tN w) (fun p hp => codeHd_of_K kx (tC w p hp)) G.T.bmain hobj hints (Nat.le_trans hlen hn2) hr (F w mg fa _ kx G.T.g hmg) (fun H z => hsp w H a ns hlen hbits z) fun H => hCX w H s₁
end
/-! from the plain law -/
section
variable [TB] {K : PySem.W.Frag}
theorem drs_ints {F : Hp} : ∀ ns : List Int, DRs K F (ns.map D.int) (ns.map V.int)
  | [] => .nil
  | n :: ns => .cons (.int n) (drs_ints ns)
theorem law_end {cs : List (Addr × Addr)} {H : Hp} {a : Addr} {ns : List Int} {F : MF} {μ' : List MO} (hT : ∀ p ∈ TB.T, p.1 ∈ cs.map (·.2)) (st : Start cs H) (hs : SqL K H a (ns.map V.int)) (h : F [.d (.fl (ns.map D.int))] [] = .ok (.d (.bl true)) μ') :
    spF K 1 F [.ref a] H (fun v _ => v = .bl true) fun _ _ _ => False := by
  refine ⟨rfl, [], [], [.d (.fl (ns.map D.int))], [], ⟨(fun _ h => by cases h), List.nodup_nil, rfl, (fun _ h => by cases h), fun p hp => ?_, (fun n b o h1 h2 => by cases h1)⟩, .cons (.d (.fl ?_ (drs_ints ns))) .nil, ?_⟩
  · obtain ⟨q, h1, h2⟩ := List.mem_map.mp (hT p hp)
    refine LamX.TabS.nil ?_
    rw [← h2]
    exact st.tab q h1
  · rcases hs with (h | ⟨o, h⟩) | h
    · exact .inl (.inl (mask_in List.not_mem_nil h))
    · exact .inl (.inr ⟨o, mask_in List.not_mem_nil h⟩)
    · exact .inr h
  · rw [h]
    intro Z ι H' x s v r
    cases r with | d r => cases r; rfl
end
end TT

namespace TT
open PySem L2
/-! calls, in plain words -/
theorem argRefs_d : ∀ ds : List D, argRefs (ds.map MV.d) = []
  | [] => rfl
  | _ :: ds => argRefs_d ds
theorem toCs_d (sel : List Nat) : ∀ ds : List D, toCs sel (ds.map MV.d) = some (ds.map MV.d)
  | [] => rfl
  | d :: ds => by simp only [List.map_cons, toCs, toC, toCs_d sel ds]
theorem selOf_d (μ : List MO) (ds : List D) : selOf μ (ds.map MV.d) = [] := by
  unfold selOf
  rw [argRefs_d]
  rfl
section
variable {F : MF} {μ : List MO} {a b c d v : D} {n : Nat} {xs ys : List D} {C : Addr} {fs : List (Str × D)} {ds : List D}
theorem callD (h : F (ds.map MV.d) [] = .ok (.d v) []) : callF F (ds.map MV.d) μ = .ok (.d v) μ := by
  unfold callF
  rw [selOf_d]
  simp [toCs_d, pick, h, back, wb, putAll]
theorem callX (h : F (ds.map MV.d) [] = .exc C fs []) : callF F (ds.map MV.d) μ = .exc C fs μ := by
  unfold callF
  rw [selOf_d]
  simp [toCs_d, pick, h, wb, putAll]
theorem call1 (h : F [.d a] [] = .ok (.d v) []) : callF F [.d a] μ = .ok (.d v) μ := callD (ds := [a]) h
theorem call2 (h : F [.d a, .d b] [] = .ok (.d v) []) : callF F [.d a, .d b] μ = .ok (.d v) μ := callD (ds := [a, b]) h
theorem call3 (h : F [.d a, .d b, .d c] [] = .ok (.d v) []) : callF F [.d a, .d b, .d c] μ = .ok (.d v) μ := callD (ds := [a, b, c]) h
theorem callX1 (h : F [.d a] [] = .exc C fs []) : callF F [.d a] μ = .exc C fs μ := callX (ds := [a]) h
theorem callX3 (h : F [.d a, .d b, .d c] [] = .exc C fs []) : callF F [.d a, .d b, .d c] μ = .exc C fs μ := callX (ds := [a, b, c]) h
theorem leads_lst (hn : μ[n]? = some (.lst xs)) : leads μ [n] = [] := by
  simp [leads, hn, MO.refs]
theorem selOf_b (hn : μ[n]? = some (.lst xs)) : selOf μ (.ref n :: ds.map MV.d) = [n] := by
  unfold selOf
  have e : argRefs (.ref n :: ds.map MV.d) = [n] := by simp [argRefs, MV.refs, argRefs_d]
  rw [e]
  have e2 : addAll [] [n] = [n] := by simp [addAll]
  have e3 : addAll [n] [] = [n] := rfl
  show addAll (addAll (addAll [] [n]) (leads μ (addAll [] [n]))) (leads μ (addAll (addAll [] [n]) (leads μ (addAll [] [n])))) = [n]
  rw [e2, leads_lst hn, e3, leads_lst hn, e3]
theorem callB (hn : μ[n]? = some (.lst xs)) (h : F (.ref 0 :: ds.map MV.d) [.lst xs] = .ok (.d v) [.lst ys]) : callF F (.ref n :: ds.map MV.d) μ = .ok (.d v) (μ.set n (.lst ys)) := by
  unfold callF
  rw [selOf_b hn]
  have e : toCs [n] (.ref n :: ds.map MV.d) = some (.ref 0 :: ds.map MV.d) := by simp [toCs, toC, toCs_d]
  simp [e, pick, hn, toCO, h, back, wb, putAll, backO]
theorem callB1 (hn : μ[n]? = some (.lst xs)) (h : F [.ref 0] [.lst xs] = .ok (.d v) [.lst ys]) : callF F [.ref n] μ = .ok (.d v) (μ.set n (.lst ys)) := callB (ds := []) hn h
theorem callB2 (hn : μ[n]? = some (.lst xs)) (h : F [.ref 0, .d a] [.lst xs] = .ok (.d v) [.lst ys]) : callF F [.ref n, .d a] μ = .ok (.d v) (μ.set n (.lst ys)) := callB (ds := [a]) hn h
theorem callB3 (hn : μ[n]? = some (.lst xs)) (h : F [.ref 0, .d a, .d b] [.lst xs] = .ok (.d v) [.lst ys]) : callF F [.ref n, .d a, .d b] μ = .ok (.d v) (μ.set n (.lst ys)) := callB (ds := [a, b]) hn h
theorem callB4 (hn : μ[n]? = some (.lst xs)) (h : F [.ref 0, .d a, .d b, .d c] [.lst xs] = .ok (.d v) [.lst ys]) : callF F [.ref n, .d a, .d b, .d c] μ = .ok (.d v) (μ.set n (.lst ys)) := callB (ds := [a, b, c]) hn h
end
theorem cx_none {P : Program} {w : World} {H : Hp} {s : Shared} {e : Value} {s' : Shared} (h : L2.CX P w [] H s (fun _ _ _ => False) e s') : False := by
  unfold L2.CX at h
  obtain ⟨_, _, _, _, _, _, _, _, _, _, _, _, z⟩ := h
  exact z
section
open PySem.W PyProof.Rows
theorem walkM [TB] {l : OpenLaw} {n k : Nat} {q : Program} {loose : List Str} {XP : (Str → Option Value) → Heap → Prop} {YP : World → Heap → Prop} {d : DefRec} {K : Params → Frag} {F : MF} (cs : List (Addr × Addr))
    (hn : l.most = some n) (hn2 : n ≤ sizeLine) (hdf : d.params.defaults = []) (hr : Room k callerA) (hY : ∀ (w : World) (h : Heap), YP w h → (K w.params).In h) (hT : ∀ (w : World) (h : Heap), YP w h → ∀ p ∈ cs, h.get? p.2 = some (tabObj #[]))
    (tN : ∀ w : World, ∀ p ∈ cs, (K w.params).lookup p.2 = none) (tC : ∀ w : World, ∀ p ∈ cs, codeHdIn (K w.params) p.1 p.2 = true) (hTB : ∀ p ∈ TB.T, p.1 ∈ cs.map (·.2))
    (hF : ∀ (w : World) (mg : Str → Option Value) (fa : Addr) (h : Heap), (K w.params).In h → h.Ns mainGlobals mg → mg d.name = some (.ref fa) →
      ∀ base : Heap, (K w.params).In base → base.Ns mainGlobals mg → (∀ p ∈ cs, LamX.TabB base mg p.1 p.2) → FnG l.prog w (K w.params) mg base (L2.CX l.prog w) k fa (spF (K w.params) 1 F))
    (law : ∀ ns : List Int, ns.length ≤ n → (∀ z ∈ ns, Builtin.Int.intBits z ≤ 1048576) → ∃ μ', F [.d (.fl (ns.map D.int))] [] = .ok (.d (.bl true)) μ') : WalkO q loose XP YP l.row.toRowW d [] (fun f vs => PySem.call f vs) :=
  walkGT (CX := fun w => L2.CX l.prog w) (sp := fun w => spF (K w.params) 1 F) hn hn2 hdf hr hY hT tN tC hF (fun w H a ns hl hb st hS => by
    obtain ⟨μ', e⟩ := law ns hl hb
    exact law_end hTB st hS e) fun _ _ _ _ _ z => cx_none z
end
end TT

namespace TT
open PySem L2
@[simp] theorem se_line : type_of% @sizeLine_eq := @sizeLine_eq
@[simp] theorem se_0 : type_of% @TT.fnT.eq_1 := @TT.fnT.eq_1
@[simp] theorem se_1 : type_of% @TT.fnD.eq_1 := @TT.fnD.eq_1
@[simp] theorem se_2 : type_of% @TT.mSeq.eq_1 := @TT.mSeq.eq_1
@[simp] theorem se_3 : type_of% @TT.mIfS.eq_1 := @TT.mIfS.eq_1
@[simp] theorem se_4 : type_of% @TT.mAsg.eq_1 := @TT.mAsg.eq_1
@[simp] theorem se_5 : type_of% @TT.mRet.eq_1 := @TT.mRet.eq_1
@[simp] theorem se_6 : type_of% @TT.mExpr.eq_1 := @TT.mExpr.eq_1
@[simp] theorem se_7 : type_of% @TT.mB.eq_1 := @TT.mB.eq_1
@[simp] theorem se_8 : type_of% @TT.mT.eq_1 := @TT.mT.eq_1
@[simp] theorem se_9 : type_of% @TT.mBin.eq_1 := @TT.mBin.eq_1
@[simp] theorem se_10 : type_of% @TT.mUn.eq_1 := @TT.mUn.eq_1
@[simp] theorem se_11 : type_of% @TT.mN.eq_1 := @TT.mN.eq_1
@[simp] theorem se_12 : type_of% @TT.mCons.eq_1 := @TT.mCons.eq_1
@[simp] theorem se_13 : type_of% @TT.mNil.eq_1 := @TT.mNil.eq_1
@[simp] theorem se_14 : type_of% @TT.mVar.eq_1 := @TT.mVar.eq_1
@[simp] theorem se_15 : type_of% @TT.mC.eq_1 := @TT.mC.eq_1
@[simp] theorem se_16 : type_of% @TT.mAnd.eq_1 := @TT.mAnd.eq_1
@[simp] theorem se_17 : type_of% @TT.mOr.eq_1 := @TT.mOr.eq_1
@[simp] theorem se_18 : type_of% @TT.mNot.eq_1 := @TT.mNot.eq_1
@[simp] theorem se_19 : type_of% @TT.mIf.eq_1 := @TT.mIf.eq_1
@[simp] theorem se_20 : type_of% @TT.mAndV.eq_1 := @TT.mAndV.eq_1
@[simp] theorem se_21 : type_of% @TT.mOrV.eq_1 := @TT.mOrV.eq_1
@[simp] theorem se_22 : type_of% @TT.mTup.eq_1 := @TT.mTup.eq_1
@[simp] theorem se_23 : type_of% @TT.mkTup.eq_1 := @TT.mkTup.eq_1
@[simp] theorem se_24 : type_of% @TT.mSetIx.eq_1 := @TT.mSetIx.eq_1
@[simp] theorem se_25 : type_of% @TT.mNext.eq_1 := @TT.mNext.eq_1
@[simp] theorem se_26 : type_of% @TT.op1.eq_1 := @TT.op1.eq_1
@[simp] theorem se_27 : type_of% @TT.op2.eq_1 := @TT.op2.eq_1
@[simp] theorem se_28 : type_of% @TT.opN.eq_1 := @TT.opN.eq_1
@[simp] theorem se_29 : type_of% @TT.view.eq_1 := @TT.view.eq_1
@[simp] theorem se_30 : type_of% @TT.view.eq_2 := @TT.view.eq_2
@[simp] theorem se_31 : type_of% @TT.views.eq_1 := @TT.views.eq_1
@[simp] theorem se_32 : type_of% @TT.views.eq_2 := @TT.views.eq_2
@[simp] theorem se_33 : type_of% @TT.one.eq_1 := @TT.one.eq_1
@[simp] theorem se_34 : type_of% @TT.one.eq_2 := @TT.one.eq_2
@[simp] theorem se_35 : type_of% @TT.gN.eq_1 := @TT.gN.eq_1
@[simp] theorem se_36 : type_of% @TT.gC.eq_1 := @TT.gC.eq_1
@[simp] theorem se_37 : type_of% @TT.gC.eq_2 := @TT.gC.eq_2
@[simp] theorem se_38 : type_of% @TT.gE.eq_1 := @TT.gE.eq_1
@[simp] theorem se_39 : type_of% @TT.gE.eq_2 := @TT.gE.eq_2
@[simp] theorem se_40 : type_of% @TT.gT.eq_1 := @TT.gT.eq_1
@[simp] theorem se_41 : type_of% @TT.gT.eq_2 := @TT.gT.eq_2
@[simp] theorem se_42 : type_of% @TT.bool?.eq_1 := @TT.bool?.eq_1
@[simp] theorem se_43 : type_of% @TT.bool?.eq_2 := @TT.bool?.eq_2
@[simp] theorem se_44 : type_of% @TT.datas.eq_1 := @TT.datas.eq_1
@[simp] theorem se_45 : type_of% @TT.datas.eq_2 := @TT.datas.eq_2
@[simp] theorem se_46 : type_of% @TT.datas.eq_3 := @TT.datas.eq_3
@[simp] theorem se_47 : type_of% @TT.SR.finT.eq_1 := @TT.SR.finT.eq_1
@[simp] theorem se_48 : type_of% @TT.SR.finT.eq_2 := @TT.SR.finT.eq_2
@[simp] theorem se_49 : type_of% @TT.SR.finT.eq_3 := @TT.SR.finT.eq_3
@[simp] theorem se_50 : type_of% @TT.SR.finT.eq_4 := @TT.SR.finT.eq_4
@[simp] theorem se_51 : type_of% @TT.SR.finT.eq_5 := @TT.SR.finT.eq_5
@[simp] theorem se_52 : type_of% @TT.trim.eq_1 := @TT.trim.eq_1
@[simp] theorem se_53 : type_of% @TT.trimmable.eq_1 := @TT.trimmable.eq_1
@[simp] theorem se_54 : type_of% @TT.trimB.eq_1 := @TT.trimB.eq_1
@[simp] theorem se_55 : type_of% @TT.trimX.eq_1 := @TT.trimX.eq_1
@[simp] theorem se_56 : type_of% @TT.MV.refs.eq_1 := @TT.MV.refs.eq_1
@[simp] theorem se_57 : type_of% @TT.MV.refs.eq_2 := @TT.MV.refs.eq_2
@[simp] theorem se_58 : type_of% @TT.MO.refs.eq_1 := @TT.MO.refs.eq_1
@[simp] theorem se_59 : type_of% @TT.MO.refs.eq_2 := @TT.MO.refs.eq_2
@[simp] theorem se_60 : type_of% @TT.putL.eq_1 := @TT.putL.eq_1
@[simp] theorem se_61 : type_of% @TT.putL.eq_2 := @TT.putL.eq_2
@[simp] theorem se_62 : type_of% @L2.ixN.eq_1 := @L2.ixN.eq_1
@[simp] theorem se_63 : type_of% @TT.intD.eq_1 := @TT.intD.eq_1
@[simp] theorem se_64 : type_of% @TT.intD.eq_2 := @TT.intD.eq_2
@[simp] theorem se_65 : type_of% @TT.intD.eq_3 := @TT.intD.eq_3
@[simp] theorem se_66 : type_of% @TT.absD.eq_1 := @TT.absD.eq_1
@[simp] theorem se_67 : type_of% @TT.absD.eq_2 := @TT.absD.eq_2
@[simp] theorem se_68 : type_of% @TT.ixD.eq_1 := @TT.ixD.eq_1
@[simp] theorem se_69 : type_of% @TT.ixD.eq_2 := @TT.ixD.eq_2
@[simp] theorem se_70 : type_of% @TT.ixD.eq_3 := @TT.ixD.eq_3
@[simp] theorem se_71 : type_of% @TT.ixD.eq_4 := @TT.ixD.eq_4
@[simp] theorem se_72 : type_of% @TT.ixD.eq_5 := @TT.ixD.eq_5
@[simp] theorem se_73 : type_of% @L2.atI.eq_1 := @L2.atI.eq_1
@[simp] theorem se_74 : type_of% @TT.gtI.eq_1 := @TT.gtI.eq_1
@[simp] theorem se_75 : type_of% @TT.ltI.eq_1 := @TT.ltI.eq_1
@[simp] theorem se_76 : type_of% @TT.geI.eq_1 := @TT.geI.eq_1
@[simp] theorem se_77 : type_of% @TT.leI.eq_1 := @TT.leI.eq_1
@[simp] theorem se_78 : type_of% @TT.intOp.eq_1 := @TT.intOp.eq_1
@[simp] theorem se_79 : type_of% @TT.intOp.eq_2 := @TT.intOp.eq_2
@[simp] theorem se_80 : type_of% @TT.modD.eq_1 := @TT.modD.eq_1
@[simp] theorem se_81 : type_of% @TT.fdivD.eq_1 := @TT.fdivD.eq_1
@[simp] theorem se_82 : type_of% @TT.mulD.eq_1 := @TT.mulD.eq_1
@[simp] theorem se_83 : type_of% @TT.subD.eq_1 := @TT.subD.eq_1
@[simp] theorem se_84 : type_of% @TT.addI.eq_1 := @TT.addI.eq_1
@[simp] theorem se_85 : type_of% @TT.addD.eq_1 := @TT.addD.eq_1
@[simp] theorem se_86 : type_of% @TT.negD.eq_1 := @TT.negD.eq_1
@[simp] theorem se_87 : type_of% @TT.negD.eq_2 := @TT.negD.eq_2
@[simp] theorem se_88 : type_of% @L2.CDivW.eq_1 := @L2.CDivW.eq_1
@[simp] theorem se_89 : type_of% @L2.CMul.eq_1 := @L2.CMul.eq_1
@[simp] theorem se_90 : type_of% @TT.tru.eq_1 := @TT.tru.eq_1
@[simp] theorem se_91 : type_of% @TT.truD.eq_1 := @TT.truD.eq_1
@[simp] theorem se_92 : type_of% @TT.truD.eq_2 := @TT.truD.eq_2
@[simp] theorem se_93 : type_of% @TT.truD.eq_3 := @TT.truD.eq_3
@[simp] theorem se_94 : type_of% @TT.truD.eq_4 := @TT.truD.eq_4
@[simp] theorem se_95 : type_of% @TT.truD.eq_5 := @TT.truD.eq_5
@[simp] theorem se_96 : type_of% @TT.truD.eq_6 := @TT.truD.eq_6
@[simp] theorem se_97 : type_of% @TT.truD.eq_7 := @TT.truD.eq_7
@[simp] theorem se_98 : type_of% @TT.truD.eq_8 := @TT.truD.eq_8
@[simp] theorem se_99 : type_of% @TT.truD.eq_9 := @TT.truD.eq_9
@[simp] theorem se_100 : type_of% @TT.mPar2.eq_1 := @TT.mPar2.eq_1
@[simp] theorem se_101 : type_of% @TT.mPar3.eq_1 := @TT.mPar3.eq_1
@[simp] theorem se_102 : type_of% @TT.mAug.eq_1 := @TT.mAug.eq_1
@[simp] theorem se_103 : type_of% @TT.mMut.eq_1 := @TT.mMut.eq_1
@[simp] theorem se_104 : type_of% @TT.mutL.eq_1 := @TT.mutL.eq_1
@[simp] theorem se_105 : type_of% @TT.isLst.eq_1 := @TT.isLst.eq_1
@[simp] theorem se_106 : type_of% @TT.popD.eq_1 := @TT.popD.eq_1
@[simp] theorem se_107 : type_of% @TT.popD.eq_2 := @TT.popD.eq_2
@[simp] theorem se_108 : type_of% @TT.popAt.eq_1 := @TT.popAt.eq_1
@[simp] theorem se_109 : type_of% @TT.popAt.eq_2 := @TT.popAt.eq_2
@[simp] theorem se_110 : type_of% @TT.apD.eq_1 := @TT.apD.eq_1
@[simp] theorem se_111 : type_of% @TT.apD.eq_2 := @TT.apD.eq_2
@[simp] theorem se_112 : type_of% @TT.extD.eq_1 := @TT.extD.eq_1
@[simp] theorem se_113 : type_of% @TT.extD.eq_2 := @TT.extD.eq_2
@[simp] theorem se_114 : type_of% @TT.clearD.eq_1 := @TT.clearD.eq_1
@[simp] theorem se_115 : type_of% @TT.clearD.eq_2 := @TT.clearD.eq_2
@[simp] theorem se_116 : type_of% @TT.mFz.eq_1 := @TT.mFz.eq_1
@[simp] theorem se_117 : type_of% @TT.mOwn.eq_1 := @TT.mOwn.eq_1
@[simp] theorem se_118 : type_of% @TT.mLst.eq_1 := @TT.mLst.eq_1
@[simp] theorem se_119 : type_of% @TT.mNL.eq_1 := @TT.mNL.eq_1
@[simp] theorem se_120 : type_of% @TT.mBinL.eq_1 := @TT.mBinL.eq_1
@[simp] theorem se_121 : type_of% @TT.op2L.eq_1 := @TT.op2L.eq_1
@[simp] theorem se_122 : type_of% @TT.opNL.eq_1 := @TT.opNL.eq_1
@[simp] theorem se_123 : type_of% @TT.mIt.eq_1 := @TT.mIt.eq_1
@[simp] theorem se_124 : type_of% @TT.itemsOf.eq_1 := @TT.itemsOf.eq_1
@[simp] theorem se_125 : type_of% @TT.itemsOf.eq_2 := @TT.itemsOf.eq_2
@[simp] theorem se_126 : type_of% @TT.itemsOf.eq_3 := @TT.itemsOf.eq_3
@[simp] theorem se_127 : type_of% @TT.itemsOf.eq_4 := @TT.itemsOf.eq_4
@[simp] theorem se_128 : type_of% @TT.itemsOf.eq_5 := @TT.itemsOf.eq_5
@[simp] theorem se_129 : type_of% @TT.itemsOf.eq_6 := @TT.itemsOf.eq_6
@[simp] theorem se_130 : type_of% @TT.mItA.eq_1 := @TT.mItA.eq_1
@[simp] theorem se_131 : type_of% @TT.rng1.eq_1 := @TT.rng1.eq_1
@[simp] theorem se_132 : type_of% @TT.rng1.eq_2 := @TT.rng1.eq_2
@[simp] theorem se_133 : type_of% @TT.mChain.eq_1 := @TT.mChain.eq_1
@[simp] theorem se_134 : type_of% @TT.isN.eq_1 := @TT.isN.eq_1
@[simp] theorem se_135 : type_of% @TT.isN.eq_2 := @TT.isN.eq_2
@[simp] theorem se_136 : type_of% @TT.isN.eq_3 := @TT.isN.eq_3
@[simp] theorem se_137 : type_of% @TT.isN.eq_4 := @TT.isN.eq_4
@[simp] theorem se_138 : type_of% @TT.notN.eq_1 := @TT.notN.eq_1
@[simp] theorem se_139 : type_of% @TT.notN.eq_2 := @TT.notN.eq_2
@[simp] theorem se_140 : type_of% @TT.notN.eq_3 := @TT.notN.eq_3
@[simp] theorem se_141 : type_of% @TT.notN.eq_4 := @TT.notN.eq_4
@[simp] theorem se_142 : type_of% @TT.lenD.eq_1 := @TT.lenD.eq_1
@[simp] theorem se_143 : type_of% @TT.lenD.eq_2 := @TT.lenD.eq_2
@[simp] theorem se_144 : type_of% @TT.lenD.eq_3 := @TT.lenD.eq_3
@[simp] theorem se_145 : type_of% @TT.lenD.eq_4 := @TT.lenD.eq_4
@[simp] theorem se_146 : type_of% @TT.lenD.eq_5 := @TT.lenD.eq_5
@[simp] theorem se_147 : type_of% @TT.max2.eq_1 := @TT.max2.eq_1
@[simp] theorem se_148 : type_of% @TT.max2.eq_2 := @TT.max2.eq_2
@[simp] theorem se_149 : type_of% @TT.min2.eq_1 := @TT.min2.eq_1
@[simp] theorem se_150 : type_of% @TT.min2.eq_2 := @TT.min2.eq_2
@[simp] theorem se_151 : type_of% @TT.mCall.eq_1 := @TT.mCall.eq_1
@[simp] theorem se_152 : type_of% @TT.tupD.eq_1 := @TT.tupD.eq_1
@[simp] theorem se_153 : type_of% @TT.tupD.eq_2 := @TT.tupD.eq_2
@[simp] theorem se_154 : type_of% @TT.tupD.eq_3 := @TT.tupD.eq_3
@[simp] theorem se_155 : type_of% @TT.tupD.eq_4 := @TT.tupD.eq_4
@[simp] theorem se_156 : type_of% @TT.notD.eq_1 := @TT.notD.eq_1
@[simp] theorem se_157 : type_of% @TT.notD.eq_2 := @TT.notD.eq_2
@[simp] theorem se_158 : type_of% @TT.eqD.eq_1 := @TT.eqD.eq_1
@[simp] theorem se_159 : type_of% @TT.neD.eq_1 := @TT.neD.eq_1
@[simp] theorem se_160 : type_of% @TT.eqB.eq_1 := @TT.eqB.eq_1
@[simp] theorem se_161 : type_of% @TT.eqB.eq_2 := @TT.eqB.eq_2
@[simp] theorem se_162 : type_of% @TT.eqB.eq_3 := @TT.eqB.eq_3
@[simp] theorem se_163 : type_of% @TT.eqB.eq_4 := @TT.eqB.eq_4
@[simp] theorem se_164 : type_of% @TT.eqB.eq_5 := @TT.eqB.eq_5
@[simp] theorem se_165 : type_of% @TT.eqB.eq_6 := @TT.eqB.eq_6
@[simp] theorem se_166 : type_of% @TT.eqB.eq_7 := @TT.eqB.eq_7
@[simp] theorem se_167 : type_of% @TT.eqB.eq_8 := @TT.eqB.eq_8
@[simp] theorem se_168 : type_of% @TT.eqB.eq_9 := @TT.eqB.eq_9
@[simp] theorem se_169 : type_of% @TT.eqB.eq_10 := @TT.eqB.eq_10
@[simp] theorem se_170 : type_of% @TT.eqB.eq_11 := @TT.eqB.eq_11
@[simp] theorem se_171 : type_of% @TT.eqB.eq_12 := @TT.eqB.eq_12
@[simp] theorem se_172 : type_of% @TT.eqB.eq_13 := @TT.eqB.eq_13
@[simp] theorem se_173 : type_of% @TT.eqB.eq_14 := @TT.eqB.eq_14
@[simp] theorem se_174 : type_of% @TT.eqB.eq_15 := @TT.eqB.eq_15
@[simp] theorem se_175 : type_of% @TT.eqB.eq_16 := @TT.eqB.eq_16
section
variable {m n : MS} {ρ ρ1 : En} {μ μ1 : List MO} {v : MV} {C : Addr} {fs : List (Str × D)}
theorem seq_nx (h : m ρ μ = .nx ρ1 μ1) : mSeq m n ρ μ = n ρ1 μ1 := by simp only [mSeq, h]
theorem seq_rt (h : m ρ μ = .rt v μ1) : mSeq m n ρ μ = .rt v μ1 := by simp only [mSeq, h]
theorem seq_exc (h : m ρ μ = .exc C fs ρ1 μ1) : mSeq m n ρ μ = .exc C fs ρ1 μ1 := by simp only [mSeq, h]
theorem for_eq {mi : MI} {g : MG} {b : MS} {q : List D × Option Nat} {r : SR} (hi : mi ρ μ = .ok q μ1) (h : forD q g b q.1 ρ μ1 = r) : mFor mi g b ρ μ = r := by
  unfold mFor
  rw [hi]
  exact h
theorem asg_eq {ma : ME} {g : MG} (ha : ma ρ μ = .ok v μ1) (hg : g v ρ = some ρ1) : mAsg ma g ρ μ = .nx ρ1 μ1 := by
  simp only [mAsg, ha, Res.stm_ok, hg]
section
variable {a b c : MV} {ma mb mc : ME} {ms : MA} {as : List MV} {xs : List D} {x y z : D} {μ2 μ3 : List MO} {g g' : D → D → Option D} {h1 : D → Option D} {hn : List D → Option D} {F : MF} {k : Nat} {r : Res MV} {ct : MT} {bl : Bool}
theorem call_eq (hs : ms ρ μ = .ok as μ1) (hl : as.length = k) (hc : callF F as μ1 = r) : mCall F k ms ρ μ = r := by
  simp only [mCall, hs, Res.bind_ok, hl, if_true, hc]
theorem bin_eq (ha : ma ρ μ = .ok a μ1) (hb : mb ρ μ1 = .ok b μ2) (va : view μ2 a = some x) (vb : view μ2 b = some y) (hg : g x y = some z) : mBin g ma mb ρ μ = .ok (.d z) μ2 := by
  simp only [mBin, ha, hb, Res.bind_ok, op2, va, vb, hg]
theorem un_eq (ha : ma ρ μ = .ok a μ1) (va : view μ1 a = some x) (hg : h1 x = some z) : mUn h1 ma ρ μ = .ok (.d z) μ1 := by
  simp only [mUn, ha, Res.bind_ok, op1, va, hg]
theorem n_eq (hs : ms ρ μ = .ok as μ1) (va : views μ1 as = some xs) (hg : hn xs = some z) : mN hn ms ρ μ = .ok (.d z) μ1 := by
  simp only [mN, hs, Res.bind_ok, opN, va, hg]
theorem cons_eq (ha : ma ρ μ = .ok a μ1) (hs : ms ρ μ1 = .ok as μ2) : mCons ma ms ρ μ = .ok (a :: as) μ2 := by
  simp only [mCons, ha, hs, Res.bind_ok]
theorem tup_eq (hs : ms ρ μ = .ok as μ1) (hd : datas as = some xs) (hl : xs.length ≤ sizeLine) : mTup ms ρ μ = .ok (.d (.tup xs)) μ1 := by
  simp only [mTup, hs, Res.bind_ok, mkTup, hd, if_pos hl]
theorem lst_eq (hs : ms ρ μ = .ok as μ1) (hd : datas as = some xs) (hl : xs.length ≤ sizeLine) : mFz (mLst ms) ρ μ = .ok (.d (.lst xs)) μ1 := by
  simp only [mFz, mLst, hs, Res.bind_ok, hd, if_pos hl]
theorem b_eq (ha : ma ρ μ = .ok (.d (.bl bl)) μ1) : mB ma ρ μ = .ok bl μ1 := by simp only [mB, ha, Res.bind_ok, bool?]
theorem t_eq (ha : ma ρ μ = .ok (.d (.bl bl)) μ1) : mT ma ρ μ = .ok bl μ1 := by simp [mT, ha]
theorem not_eq (hc : ct ρ μ = .ok bl μ1) : mNot ct ρ μ = .ok (!bl) μ1 := by simp only [mNot, hc, Res.bind_ok]
theorem or_t {c2 : MT} (hc : ct ρ μ = .ok true μ1) : mOr ct c2 ρ μ = .ok true μ1 := by simp [mOr, hc]
theorem or_f {c2 : MT} {q : Res Bool} (hc : ct ρ μ = .ok false μ1) (h : c2 ρ μ1 = q) : mOr ct c2 ρ μ = q := by simp [mOr, hc, h]
theorem and_f {c2 : MT} (hc : ct ρ μ = .ok false μ1) : mAnd ct c2 ρ μ = .ok false μ1 := by simp [mAnd, hc]
theorem and_t {c2 : MT} {q : Res Bool} (hc : ct ρ μ = .ok true μ1) (h : c2 ρ μ1 = q) : mAnd ct c2 ρ μ = q := by simp [mAnd, hc, h]
theorem andv_f {m2 : ME} (ha : ma ρ μ = .ok (.d (.bl false)) μ1) : mAndV ma m2 ρ μ = .ok (.d (.bl false)) μ1 := by simp only [mAndV, ha, Res.bind_ok]
theorem andv_t {m2 : ME} (ha : ma ρ μ = .ok (.d (.bl true)) μ1) (h : m2 ρ μ1 = r) : mAndV ma m2 ρ μ = r := by simp only [mAndV, ha, Res.bind_ok, h]
theorem if_t {m2 : ME} (hc : ct ρ μ = .ok true μ1) (h : ma ρ μ1 = r) : mIf ct ma m2 ρ μ = r := by simp only [mIf, hc, Res.bind_ok, if_true, h]
theorem if_f {m2 : ME} (hc : ct ρ μ = .ok false μ1) (h : m2 ρ μ1 = r) : mIf ct ma m2 ρ μ = r := by simp [mIf, hc, h]
theorem ifs_t {s t : MS} {q : SR} (hc : ct ρ μ = .ok true μ1) (h : s ρ μ1 = q) : mIfS ct s t ρ μ = q := by simp only [mIfS, hc, Res.stm_ok, if_true, h]
theorem ifs_f {s t : MS} {q : SR} (hc : ct ρ μ = .ok false μ1) (h : t ρ μ1 = q) : mIfS ct s t ρ μ = q := by simp [mIfS, hc, h]
theorem ret_eq (ha : ma ρ μ = .ok a μ1) : mRet ma ρ μ = .rt a μ1 := by simp only [mRet, ha, Res.stm_ok]
theorem expr_eq (ha : ma ρ μ = .ok a μ1) : mExpr ma ρ μ = .nx ρ μ1 := by simp only [mExpr, ha, Res.stm_ok]
theorem mut_eq {f : Mut1} {p : Nat} {ys : List D} {rt : D} {zs : List D} (ha : ma ρ μ = .ok (.ref p) μ1) (hi : isLst μ1 p = true) (hs : ms ρ μ1 = .ok as μ2) (hd : datas as = some xs) (hp : μ2[p]? = some (.lst ys)) (hf : f ys xs = some (rt, zs)) : mMut f ma ms ρ μ = .ok (.d rt) (μ2.set p (.lst zs)) := by
  simp only [mMut, ha, Res.bind_ok, hi, if_true, hs, mutL, hd, hp, hf]
theorem fn_rt {fz : Bool} {n : Nat} {m : MS} {v : D} (h : m (as.map some ++ List.replicate (n - as.length) none) μ = .rt (.d v) μ1) (ht : trimmable μ.length (.d v) μ1 = true) : fnT fz n m as μ = .ok (.d v) (μ1.take μ.length) := by
  simp only [fnT, h, SR.finT, trim, ht, if_true]
end
end
/-! for loops -/
/-- a loop over items of data -/
theorem for_ok {q : List D × Option Nat} {g : MG} {b : MS} (hq : q.2 = none) (I : Nat → En → List MO → Prop) :
    ∀ (xs : List D) (i : Nat) (ρ : En) (μ : List MO), I i ρ μ → (∀ j x ρ μ, xs[j]? = some x → I (i + j) ρ μ → ∃ ρ1 ρ2 μ2, g (.d x) ρ = some ρ1 ∧ b ρ1 μ = .nx ρ2 μ2 ∧ I (i + j + 1) ρ2 μ2) → ∃ ρ' μ', forD q g b xs ρ μ = .nx ρ' μ' ∧ I (i + xs.length) ρ' μ'
  | [], i, ρ, μ, h, _ => ⟨ρ, μ, by unfold forD chk; rw [hq]; rfl, by simpa using h⟩
  | x :: xs, i, ρ, μ, h, s => by
    obtain ⟨ρ1, ρ2, μ2, h1, h2, h3⟩ := s 0 x ρ μ rfl (by simpa using h)
    obtain ⟨ρ', μ', h4, h5⟩ := for_ok hq I xs (i + 1) ρ2 μ2 (by simpa using h3) fun j y ρ μ e hI => by
      obtain ⟨a, b', c, k1, k2, k3⟩ := s (j + 1) y ρ μ (by simpa using e) (by rw [show i + (j + 1) = i + 1 + j by omega]; exact hI)
      exact ⟨a, b', c, k1, k2, by rw [show i + 1 + j + 1 = i + (j + 1) + 1 by omega]; exact k3⟩
    refine ⟨ρ', μ', ?_, ?_⟩
    · unfold forD chk
      rw [hq, h1]
      simp only [if_true, h2]
      exact h4
    · rw [List.length_cons, show i + (xs.length + 1) = i + 1 + xs.length by omega]; exact h5
end TT

namespace TT
open PySem L2
variable [TB]
/-! defs with *args, and with parameters that are given by name alone -/
def gk {α : Type} (sw : Bool) (l : List α) : List α := if sw then l.reverse else l
theorem gk_len {α : Type} (sw : Bool) (l : List α) : (gk sw l).length = l.length := by cases sw <;> simp [gk]
section
variable {K : PySem.W.Frag} {F : Hp} {ι : List Addr}
theorem RMs.takeN : ∀ {as : List MV} {vs : List V}, RMs K F ι as vs → ∀ n, RMs K F ι (as.take n) (vs.take n)
  | _, _, .nil, n => by simp; exact .nil
  | _, _, .cons a b, 0 => .nil
  | _, _, .cons a b, n + 1 => .cons a (RMs.takeN b n)
theorem RMs.dropN : ∀ {as : List MV} {vs : List V}, RMs K F ι as vs → ∀ n, RMs K F ι (as.drop n) (vs.drop n)
  | _, _, .nil, n => by simp; exact .nil
  | _, _, .cons a b, 0 => .cons a b
  | _, _, .cons a b, n + 1 => RMs.dropN b n
theorem RMs.app {bs : List MV} {ws : List V} (h2 : RMs K F ι bs ws) : ∀ {as : List MV} {vs : List V}, RMs K F ι as vs → RMs K F ι (as ++ bs) (vs ++ ws)
  | _, _, .nil => h2
  | _, _, .cons a b => .cons a (RMs.app h2 b)
theorem RMs.rev : ∀ {as : List MV} {vs : List V}, RMs K F ι as vs → RMs K F ι as.reverse vs.reverse
  | _, _, .nil => .nil
  | _, _, .cons a b => by
    rw [List.reverse_cons, List.reverse_cons]
    exact RMs.app (.cons a .nil) (RMs.rev b)
theorem RMs.gk {as : List MV} {vs : List V} (sw : Bool) (h : RMs K F ι as vs) : RMs K F ι (TT.gk sw as) (TT.gk sw vs) := by
  cases sw with
  | false => exact h
  | true => exact h.rev
end
theorem vals_gk {vs : List V} {us : List Value} (sw : Bool) (h : Vals vs us) : Vals (gk sw vs) (gk sw us) := by
  cases sw with
  | false => exact h
  | true =>
    show Vals vs.reverse us.reverse
    induction h with
    | nil => exact .nil
    | cons a b ih =>
      rw [List.reverse_cons, List.reverse_cons]
      exact ih.append (.cons a .nil)
/-- of n0 values by place those from j on are a tuple; then the values by name, turned about where sw says so -/
def fnS (j n0 : Nat) (sw : Bool) (F : MF) : MF := fun as μ => match datas ((as.take n0).drop j) with
  | some ds => if j ≤ n0 ∧ ds.length ≤ sizeLine then F ((as.take n0).take j ++ (gk sw (as.drop n0) ++ [.d (.tup ds)])) μ else .bad
  | none => .bad
structure DefS (K : PySem.W.Frag) (mg : Str → Option Value) (x : Str) (st : Stmt) (ps : List Str) (j n0 : Nat) (ks : List Str) (sw : Bool) : Prop where
  ex : ∃ (f : Addr) (fd : FuncData), Fun K x x st f fd ∧ mg x = some (.ref f) ∧ ∀ us rest ws : List Value, us.length = j → rest.length + j = n0 → ws.length = ks.length → bindArgs fd ⟨us ++ rest, ks.zip ws⟩ = (newTuple rest >>= fun t => pure (ps.zip (us ++ (gk sw ws ++ [t]))))
def FnGk (P : Program) (w : World) (K : PySem.W.Frag) (mg : Str → Option Value) (base : Heap) (CX : CXT) (k : Nat) (f : Addr) (n0 : Nat) (ks : List Str) (sp : Sp) : Prop :=
  ∀ (A : Around) (outer : List Env) (s : Shared) (H : Hp) (us ws : List Value) (vs zs : List V) (Q : VK) (E : XK), Room k A → A.guards = some [] →
    Env0 P w K mg base A outer s H → Vals vs us → Vals zs ws → vs.length = n0 → zs.length = ks.length → sp (vs ++ zs) H Q E → codeAny (model P w) A (.call (.ref f) ⟨us, ks.zip ws⟩) (CR CX outer P w H s Q E) s
structure FnK (P : Program) (w : World) (K : PySem.W.Frag) (mg : Str → Option Value) (base : Heap) (k : Nat) (x : Str) (n0 : Nat) (ks : List Str) (F : MF) : Prop where
  ex : ∃ f : Addr, FnGk P w K mg base (L2.CX P w) k f n0 ks (spF K (n0 + ks.length) F) ∧ mg x = some (.ref f) ∧ PySem.W.keepIn K (.ref f) = true
section
variable {P : Program} {w : World} {K : PySem.W.Frag} {mg : Str → Option Value} {base : Heap}
theorem DefS.mini {x : Str} {st : Stmt} {N ps ks : List Str} {k j n0 : Nat} {sw fz : Bool} {m : MS} (D : DefS K mg x st ps j n0 ks sw) (S : FnScope N ps (defScope st)) (hps : ps.length = j + (ks.length + 1))
    (body : ∀ (f : Addr) (cdv : Value) (A : Around) (outer : List Env) (s : Shared) (H : Hp) (E : XK), (A.deeper (PyProof.Rows.envOfC x (defScope st) s.heap.objs.size f cdv)).guards = some [] →
      Room k (A.deeper (PyProof.Rows.envOfC x (defScope st) s.heap.objs.size f cdv)) →
      FSs (cxOf (L2.CX P w) P w K mg base N x (defScope st) f cdv A outer s H E) (fun c d _ H' => E c d H') (defBody st) m) : FnK P w K mg base (k + 1) x n0 ks (fnS j n0 sw (fnT fz N.length m)) := by
  obtain ⟨f, fd, F, hm, hb⟩ := D.ex
  refine ⟨f, ?_, hm, F.kp⟩
  obtain ⟨oc, od, kV, doc, pm, an, cdv, ct, osl, rfl, lk, hcd⟩ := F.ex
  intro A outer s H us ws vs zs Q E hr hg e0 r rz hl0 hlk hsp
  obtain ⟨hn, Z, ι, as, μ, st1, rm, o⟩ := hsp
  unfold fnS at o
  split at o
  · rename_i ds hds
    split at o
    · rename_i hc
      have q1 : (vs ++ zs).take n0 = vs := by rw [← hl0]; simp
      have q2 : (vs ++ zs).drop n0 = zs := by rw [← hl0]; simp
      have r1 : RMs K (mask H Z) ι (as.take n0) vs := by have := rm.takeN n0; rwa [q1] at this
      have r2 : RMs K (mask H Z) ι (as.drop n0) zs := by have := rm.dropN n0; rwa [q2] at this
      have hd : DRs K (mask H Z) ds (vs.drop j) := datas_ok (r1.dropN j) hds
      have hz : (vs.drop j).length ≤ sizeLine := by rw [← hd.len]; exact hc.2
      have hnn : H s.heap.objs.size = Option.none := e0.hok.fresh (Nat.le_refl _)
      have hv : vs = vs.take j ++ vs.drop j := (List.take_append_drop j vs).symm
      rw [hv] at r
      obtain ⟨u1, u2, eu, ra, rb⟩ := StX.vals_split r
      subst eu
      have hj : (vs.take j).length = j := by rw [List.length_take, hl0]; omega
      have hu1 : u1.length = j := by rw [← ra.length]; exact hj
      have hu2 : u2.length ≤ sizeLine := by rw [← rb.length]; exact hz
      have hw : ws.length = ks.length := by rw [← rz.length]; exact hlk
      refine StX.run_bnd lk hcd S hr e0 (G := fun xs H2 => ∃ p, H p = Option.none ∧ xs = vs.take j ++ (gk sw zs ++ [V.ref p]) ∧ H2 = upd H p (.tup (vs.drop j))) (fun A' Ex Q' h => ?_) fun s2 H2 xs ⟨p, hp, ex, eH⟩ hr' => ?_
      · rw [hb u1 u2 ws hu1 (by rw [← rb.length, List.length_drop, hl0]; omega) hw]
        refine wpAny_bind (wpAny_newTuple (wpAny_pure ?_) hu2)
        have new : ObjOk P w (upd H s.heap.objs.size (.tup (vs.drop j))) (s.heap.push ({ cls := .type "tuple", data := .seq u2.toArray } : Obj)) s.heap.objs.size (.tup (vs.drop j)) := ⟨hz, u2, rb, ⟨_, Heap.get?_push_size _ rfl, rfl, _, rfl⟩⟩
        have un := StX.un_laid (fs := frs outer) (s := s) (o := ({ cls := .type "tuple", data := .seq u2.toArray } : Obj)) (u := .tup (vs.drop j)) hnn
        exact h _ _ (vs.take j ++ (gk sw zs ++ [V.ref s.heap.objs.size])) (u1 ++ (gk sw ws ++ [Value.ref s.heap.objs.size])) (StX.env0_laid e0 new) un rfl (fun e s' => StX.cxUp outer s H _ _ E e s' un (fun b o q => Heap.get?_push_of_some _ q) rfl) (ra.append ((vals_gk sw rz).append (.cons rfl .nil)))
          (by rw [List.length_append, hj, List.length_append, gk_len, hlk, hps]; rfl) ⟨_, hnn, rfl, rfl⟩
      · subst ex eH
        obtain ⟨sm, dr⟩ := new_tup st1.trk hp hd
        obtain ⟨st2, ex2⟩ := st1.grow sm
        refine ⟨_, body f cdv A outer s2 _ E hg hr', bodyT_ok (fz := fz) (n := (vs.take j ++ (gk sw zs ++ [V.ref p])).length) ⟨rfl, Z, ι, _, μ, st2, ?_, Out.base o ex2⟩⟩
        exact RMs.app (RMs.app (.cons (.d dr) .nil) ((r2.gk sw).mono ex2.same ex2.i)) ((r1.takeN j).mono ex2.same ex2.i)
    · exact o.elim
  · exact o.elim
/-- without names -/
theorem FnK.fn {x : Str} {k n0 : Nat} {F : MF} (h : FnK P w K mg base k x n0 [] F) : Fn P w K mg base k x n0 F := by
  obtain ⟨f, g, hm, hk⟩ := h.ex
  refine ⟨f, fun A outer s H us vs Q E hr hg e0 r hsp => ?_, hm, hk⟩
  have := g A outer s H us [] vs [] Q E hr hg e0 r .nil hsp.1 rfl (by rw [List.append_nil]; exact hsp)
  exact this
end
/-! calls with names -/
abbrev FKw (X : Cx) (W : WX) (kws : List Keyword) (m : MA) : Prop := PK X kws (tMA X.K W m)
def mCallK (F : MF) (n0 n1 : Nat) (ms mk : MA) : ME := fun ρ μ => (ms ρ μ).bind fun as μ1 => (mk ρ μ1).bind fun bs μ2 => if as.length = n0 ∧ bs.length = n1 then callF F (as ++ bs) μ2 else .bad
section
variable {X : Cx} {W : WX} {k j n0 : Nat} {x : Str} {F : MF} {p pos kpos : Pos} {e : Expr} {es : List Expr} {ma : ME} {ms mk : MA} {kws : List Keyword} {nm : Option Str} {ks : List Str}
theorem pk_imp {kws : List Keyword} {t t' : TA} (h : PK X kws t) (i : ∀ σ H Q, t' σ H Q → t σ H Q) : PK X kws t' := ⟨fun p pins s σ H Q I w => h.run p pins s σ H Q I (i σ H Q w)⟩
theorem fk_nil : FKw X W [] mNil := pk_imp pk_nil fun σ H Q ⟨Z, ι, ρ, μ, R, o⟩ => o Z ι H (Ext.refl R.sta.sub) R.sta [] .nil
theorem fk_cons (ha : FE X W e ma) (hr : FKw X W kws ms) : FKw X W (⟨nm, e, kpos⟩ :: kws) (mCons ma ms) := by
  refine pk_imp (pk_cons ha hr) fun σ H Q ⟨Z, ι, ρ, μ, R, o⟩ => ?_
  exact tM_bind R o fun v μ' Z' ι' H' x x1 R1 r1 o1 => tMA_bind R1 o1 fun vs μ2 Z2 ι2 H2 xs x2 R2 r2 o2 => o2 Z2 ι2 H2 (Ext.refl R2.sta.sub) R2.sta _ (.cons (r1.mono x2.same x2.i) r2)
theorem fe_callK {n1 : Nat} (c : FnK X.prog X.w X.K X.mg X.base k x n0 ks F) (tk : Takes X W) (hg : X.A.guards = some []) (hr : Room j X.A) (ha : FA X W (e :: es) ms) (hkw : FKw X W kws mk) (hk : k ≤ j := by decide) (hn1 : ks.length = n1 := by rfl) (hgl : Gl X x := by rfl)
    (hall : (backToKw pos (keywordEach kws X.env)).all (·.1.isSome) = true := by rfl) (hks : (backToKw pos (keywordEach kws X.env)).filterMap (·.1) = ks := by rfl)
    (hdb : (x == ("__debug__" : Str)) = false := by decide) (he : starEach (e :: es) X.env = (false, eval e X.env) :: starEach es X.env := by rfl)
    (hpl : ((backTo pos (starEach (e :: es) X.env)).any (·.1) || (backToKw pos (keywordEach kws X.env)).any (·.1.isNone)) = false := by rfl) :
    FE X W (.Call (.Name x p) (e :: es) kws pos) (mCallK F n0 n1 ms mk) := by
  subst hn1
  obtain ⟨f, G, hm, kp⟩ := c.ex
  refine pe_imp (t := fun σ H Q => tMA X.K W ms σ H fun vs H1 => tMA X.K W mk σ H1 fun zs H2 => vs.length = n0 ∧ zs.length = ks.length ∧ spF X.K (n0 + ks.length) F (vs ++ zs) H2 Q (WE W σ)) ⟨?_⟩ ?_
  · intro pins s σ H Q I h
    refine PySem.wpAny_Call_Name_kw (ld_glob I hgl hm ?_ hdb)
    refine PySem.W.callWith_KW (h₀ := X.base) I.ok.mod.kin kp hall (thn (ha.run pos pins s σ H _ I h) fun us s1 ⟨vs, H1, I1, r, q⟩ => ?_) hpl he
    refine thn (hkw.run pos pins s1 σ H1 _ I1 q) fun ws s2 ⟨zs, H2, I2, rz, l1, l2, q2⟩ => ⟨I2.kIn, ?_⟩
    rw [hks]
    refine wpAny_call (codeAny_mono (G X.A X.stack s2 H2 us ws vs zs Q (WE W σ) (hr.mono hk) hg I2.env0 r rz l1 l2 q2) fun z s' hq => ?_)
    cases z with
    | error u => exact passAt tk σ pins H2 s2 u s' I2 hq
    | ok fl => cases fl with
      | ret u => exact I2.after hq
      | _ => exact hq.elim
  · rintro σ H Q ⟨Z, ι, ρ, μ, R, o⟩
    refine tMA_bind R o fun v μ' Z' ι' H' x x1 R1 r1 o1 => tMA_bind R1 o1 fun v2 μ2 Z2 ι2 H2 x2 xx R2 r2 o2 => ?_
    split at o2
    · rename_i hl
      have l1 : x.length = n0 := by rw [← r1.len]; exact hl.1
      have l2 : x2.length = ks.length := by rw [← r2.len]; exact hl.2
      exact ⟨l1, l2, call_frame R2.sta (RMs.app r2 (r1.mono xx.same xx.i)) (by rw [List.length_append, l1, l2]) o2⟩
    · exact o2.elim
end
end TT

namespace TT
open PySem L2
variable [TB]
/-- a, b, .. = a list of data -/
def gL (n : Nat) (gs : MGs) : MG := fun v ρ => match v with
  | .d (.lst xs) => if xs.length = n then gs xs ρ else none
  | _ => none
section
variable {X : Cx} {pos : Pos}
theorem fg_lst {es : List Expr} {k : Nat} {gs : MGs} {n : Nat} (hc : X.calm = true) (h : FGs X es gs) (hn : (assignEach es X.env).length = n := by rfl) (hst : (assignEach es X.env).findIdx? (·.1) = none := by rfl) : FG X (.Tuple es k pos) (gL n gs) := by
  refine pg_imp (pg_lst hc h hn hst) fun v σ H Q ⟨Z, ι, ρ, μ, x, ρ', R, r, e, q⟩ => ?_
  cases r with
  | ref r => cases e
  | d r => cases r with
    | lst h1 h2 =>
      simp only [gL] at e
      split at e
      · rename_i hl
        exact ⟨_, _, rfl, SqL.of (mask_same _ _ _ _ h1), by rw [← h2.len]; exact hl, Z, ι, ρ, μ, _, ρ', R, h2, e, q⟩
      · cases e
    | _ => cases e
end
end TT
namespace TT
theorem FnK.mono [TB] {P : PySem.Program} {w : PySem.World} {K : PySem.W.Frag} {mg : PySem.Str → Option PySem.Value} {base : PySem.Heap} {k k' : Nat} {x : PySem.Str} {n0 : Nat} {ks : List PySem.Str} {F : MF} (h : FnK P w K mg base k x n0 ks F) (hk : k ≤ k') : FnK P w K mg base k' x n0 ks F := by
  obtain ⟨f, g, a, b⟩ := h.ex
  exact ⟨f, fun A outer s H us ws vs zs Q E hr => g A outer s H us ws vs zs Q E (hr.mono hk), a, b⟩
end TT

/-! set(xs) of a list of texts, and its length -/
namespace TT
open PySem PySem.Spec PyProof.Rows L2
/-- the texts as they are met first -/
def fmS (xs : List Str) : List Str := xs.foldl (fun a x => if a.any (· == x) then a else a ++ [x]) []
set_option maxHeartbeats 3200000 in
theorem fmS_snoc (xs : List Str) (x : Str) : fmS (xs ++ [x]) = if (fmS xs).any (· == x) then fmS xs else fmS xs ++ [x] := by simp [fmS]
set_option maxHeartbeats 3200000 in
theorem fmS_le (xs : List Str) : (fmS xs).length ≤ xs.length := by
  suffices h : ∀ (l a : List Str), (l.foldl (fun a x => if a.any (· == x) then a else a ++ [x]) a).length ≤ a.length + l.length by simpa [fmS] using h xs []
  intro l
  induction l with
  | nil => intro a; simp
  | cons y l ih =>
    intro a
    rw [List.foldl_cons]
    refine Nat.le_trans (ih _) ?_
    split <;> simp <;> omega
set_option maxHeartbeats 3200000 in
theorem fmS_any (xs : List Str) (x k : Str) : (fmS (xs ++ [x])).any (· == k) = ((fmS xs).any (· == k) || decide (k = x)) := by
  rw [fmS_snoc]
  by_cases h : k = x
  · subst h
    split
    · rename_i q; simp [q]
    · simp
  · have e : (x == k) = false := by simpa using fun q => h q.symm
    split <;> simp [h, e]
set_option maxHeartbeats 3200000 in
theorem fmS_len (xs : List Str) (x : Str) : (fmS (xs ++ [x])).length = if (fmS xs).any (· == x) = true then (fmS xs).length else (fmS xs).length + 1 := by
  rw [fmS_snoc]
  split <;> simp_all
set_option maxHeartbeats 3200000 in
theorem take_snoc {xs : List Str} {i : Nat} (h : i < xs.length) : xs.take (i + 1) = xs.take i ++ [xs.getD i Str.empty] := by
  rw [List.take_add_one, List.getElem?_eq_getElem h, List.getD_eq_getElem?_getD, List.getElem?_eq_getElem h]
  rfl
section
variable {pg : Program} {w : World} {A : Around} {R : Result → Shared → Prop} {I : Addr} {fp wr : List Addr} {G : Array GenState → Array GenState → Prop} {n : Nat} {Pv : Nat → Value → Prop} {St : Nat → Shared → Prop}
abbrev SetT (pg : Program) (w : World) (h : Heap) (S : Addr) (l : List Str) : Prop := h.SetOf (PySem.strKind pg w) S (fun q => (fmS l).any (· == q)) (fmS l).length
set_option maxHeartbeats 3200000 in
theorem setT_move {s s' : Shared} {S : Addr} {l : List Str} {ws : List Addr} (m : Moved ws G s s') (hw : S ∉ ws) (h : SetT pg w s.heap S l) : SetT pg w s'.heap S l := by
  obtain ⟨o, a, b, c, ho, r⟩ := h
  exact ⟨o, a, b, c, m.heap S _ hw ho, r⟩
set_option maxHeartbeats 3200000 in
theorem set_loop (W : WalksS pg w A.in1 I fp wr G n Pv St) (S : Addr) (nf : S ∉ fp) (xs : List Str) (hl : xs.length = n) (hb : n + 1 < scanBound) (hv : ∀ i v, Pv i v → ∃ t, v = .str (xs.getD i Str.empty) t) :
    ∀ (d i : Nat) (s : Shared), n - i = d → i ≤ n → St i s → SetT pg w s.heap S (xs.take i) → (∀ s', Moved (S :: wr) G s s' → SetT pg w s'.heap S xs → R (.ok (.ret .none)) s') →
      codeAny (model pg w) A (.builtin "set.update.loop" ⟨[.ref S, .ref I], []⟩) R s := by
  have nw : S ∉ wr := fun q => nf (W.sub _ q)
  have up : ∀ b ∈ wr, b ∈ S :: wr := fun _ q => List.mem_cons_of_mem _ q
  intro d
  induction d with
  | zero =>
    intro i s e1 e2 st hs k
    have : i = n := by omega
    subst this
    rw [← hl, List.take_length] at hs
    refine codeAny_builtin F.entry_set_update_loop (by
      rw [Around.under_plainId F.plain_set_update_loop _]
      show wpAny _ A.in1 (pyNext (.ref I) >>= _) _ _ s
      exact wpAny_bind (W.done s _ _ st fun s1 m => wpAny_pure (k s1 (m.mono up) (setT_move m nw hs))))
  | succ d ih =>
    intro i s e1 e2 st hs k
    have lt : i < n := by omega
    refine codeAny_builtin F.entry_set_update_loop (by
      rw [Around.under_plainId F.plain_set_update_loop _]
      show wpAny _ A.in1 (pyNext (.ref I) >>= _) _ _ s
      refine wpAny_bind (W.item i s _ _ lt st fun v s1 pv st1 m => ?_)
      obtain ⟨t, rfl⟩ := hv i v pv
      have hs1 := setT_move m nw hs
      have sn := take_snoc (xs := xs) (i := i) (by omega)
      have room : (fmS (xs.take i)).length + 1 < scanBound := by
        have := fmS_le (xs.take i)
        simp only [List.length_take] at this
        omega
      show wpAny _ A.in1 (holding [Value.str (xs.getD i Str.empty) t] (setAdd S (.str (xs.getD i Str.empty) t)) >>= _) _ _ s1
      refine wpAny_bind (wpAny_holding (by
        unfold setAdd
        refine wpAny_holding (wpAny_bind ((PySem.strKind pg w).pyHash (k := xs.getD i Str.empty) (strKind_is _ _ _ _) ?_))
        refine wpAny_setAddHashed_of (knd := PySem.strKind pg w) (s := { s1 with toks := s1.toks + 1 }) (strKind_is _ _ _ _) rfl hs1 room fun h2 sb hs2 => ?_
        have hs3 : SetT pg w h2 S (xs.take (i + 1)) := by
          rw [sn]
          exact SetOf_congr hs2 (fun q => (fmS_any _ _ q).symm) (fmS_len _ _).symm
        have ap : ∀ b, b ≠ S → h2.get? b = s1.heap.get? b := fun b q => sb.2 b q
        refine wpAny_pure ⟨plainId_quiet F.plain_set_update_loop _, ih (i + 1) _ (by omega) lt (W.frame _ s1 _ _ st1 (Nat.le_succ _) fun b q o e => (ap b fun z => nf (z ▸ q)).trans e) hs3 fun s2 m2 q2 => ?_⟩
        exact k s2 (Moved.trans W.gtrans ((m.mono up).then_heap (Nat.le_succ _) fun b o q e => (ap b fun z => q (z ▸ List.mem_cons_self)).trans e) m2) q2)))
end
section
variable {pg : Program} {w : World} {A : Around} {E : Value → Shared → Prop} {s : Shared}
/-- an empty set's object -/
abbrev newS (b : Bool) : Obj := { cls := .type "set", dict := none, data := .set #[] 0 (.fresh 0 0 b) }
set_option maxHeartbeats 3200000 in
theorem call_set_texts {l : Addr} {its : Array Value} {xs : List Str} {Q : Value → Shared → Prop} (hh : A.handled = none) (hl : s.heap.IsList l its) (hi : StrsAre its.toList xs) (hb : its.size + 1 < scanBound)
    (k : ∀ (h' : Heap) (tk : Nat), SetT pg w h' s.heap.objs.size xs → (∀ b o, b < s.heap.objs.size → s.heap.get? b = some o → h'.get? b = some o) → Q (.ref s.heap.objs.size) { s with heap := h', toks := tk }) :
    wpAny (model pg w) A (call (.type "set") [.ref l]) Q E s := by
  have hlen : xs.length = its.size := by rw [← StrsAre.len_eq hi, Array.length_toList]
  obtain ⟨c0, t0, m0⟩ := PySem.F.called_set.mro
  have a1 := PySem.F.called_set.made; have a2 := PySem.F.called_set.sub
  have a3 := PySem.F.called_set.notType; have a4 := PySem.F.called_set.canCreate; have a5 := PySem.F.typeCall_set_1 (.ref l)
  refine wpAny_call (codeAny_of_tree (show wpAny _ _ (callAny (.type "set") _) _ _ _ from wpAny_pure ⟨Code.quiet_builtin _ (by decide +kernel), codeAny_builtin PySem.F.entry_type_call ?_⟩))
  rw [Around.under_plain (weight_type_call_type "set" [.ref l] []) rfl]
  repeat (any_goals (first | assumption | wp_step))
  refine codeAny_mono (code_set_new_1 (.ref l) (E := E) (Q₁ := fun v s1 => ∃ b : Bool, v = .ref s.heap.objs.size ∧ s1 = { s with heap := s.heap.push (newS b) }) fun b => ⟨b, rfl, rfl⟩) fun r s1 hr => ?_
  match r, hr with
  | .error e, hr => exact hr
  | .ok .next, hr => exact hr.elim
  | .ok .brk, hr => exact hr.elim
  | .ok .cont, hr => exact hr.elim
  | .ok (.ret v), hr =>
    obtain ⟨b, rfl, rfl⟩ := hr
    have g0 : (s.heap.push (newS b)).get? s.heap.objs.size = some (newS b) := Heap.get?_push_size _ rfl
    have ty : Shared.TypeIs { s with heap := s.heap.push (newS b) } (.ref s.heap.objs.size) "set" := ⟨_, g0, rfl⟩
    have b1 := PySem.F.called_set.init.lookup; have b2 := PySem.F.called_set.init.bind (.ref s.heap.objs.size)
    repeat (any_goals (first | assumption | wp_step))
    refine codeAny_mono (codeAny_call_builtin (R := wants (fun v s2 => v = .none ∧ ∃ h' tk, s2 = { s with heap := h', toks := tk } ∧ SetT pg w h' s.heap.objs.size xs ∧ (∀ b o, b < s.heap.objs.size → s.heap.get? b = some o → h'.get? b = some o)) E) PySem.F.called_set.init.plain PySem.F.entry_set_init (check_set_init_1 ty ?_)) fun r2 s2 hr2 => ?_
    · obtain ⟨⟨cl, dc, dt, sl⟩, g1, e1, nl, e2⟩ := hl
      simp only at e1 e2
      subst e1; subst e2
      have g2 : (s.heap.push (newS b)).get? l = some { cls := .type "list", dict := dc, data := .seq its nl, slots := sl } := Heap.get?_push_of_some _ g1
      have c1 := PySem.F.sub_list_set; have c2 := PySem.F.sub_list_frozenset
      have c3 : (Value.type "list" == Value.type "dict") = false := by decide
      have g3 : (s.heap.push (newS b)).IsList l its := ⟨_, g2, rfl, nl, rfl⟩
      unfold Builtin.«set.__init__» noKeywords Builtin.Frozenset.updateFrom
      generalize hP : pyIter = PP
      wp_walk
      subst hP
      refine wpAny_pyIter_list g3 (wpAny_bind (wpAny_runValue ?_))
      have lt : l < s.heap.objs.size := Heap.lt_size g1
      have sz : (s.heap.push (newS b)).objs.size = s.heap.objs.size + 1 := Heap.size_push _ _
      have n1 : l ≠ (s.heap.push (newS b)).objs.size := by rw [sz]; exact Nat.ne_of_lt (Nat.lt_succ_of_lt lt)
      have n2 : s.heap.objs.size ∉ [(s.heap.push (newS b)).objs.size, l] := by
        rw [sz]
        intro q
        rcases List.mem_cons.mp q with q | q
        · exact absurd q (Nat.ne_of_lt (Nat.lt_succ_self _))
        · exact absurd (List.mem_singleton.mp q) (Nat.ne_of_gt lt)
      have hv : ∀ (i : Nat) (v : Value), its[i]? = some v → ∃ t, v = .str (xs.getD i Str.empty) t := fun i v q => SS.strs_at hi i v (by rw [Array.getElem?_toList]; exact q)
      refine set_loop ((Walks.list (by simp [hh]) _ l n1 its).toS) s.heap.objs.size n2 xs hlen hb hv (its.size - 0) 0 _ (by omega) (Nat.zero_le _) ⟨⟨_, Heap.get?_push_size _ rfl, rfl, rfl⟩, (g3.push _)⟩ ?hA ?hB
      case hA => exact SetOf_congr ((setObjOf_fresh (knd := PySem.strKind pg w) b).setOf (Heap.get?_push_of_some _ g0) (by unfold scanBound; omega)) (fun _ => rfl) rfl
      case hB =>
        rintro ⟨h2, gn, dn, tk, os⟩ m q
        obtain rfl : gn = s.gens := m.gens
        obtain rfl : dn = s.drawn := m.drawn
        obtain rfl : os = s.os := m.os
        refine wpAny_pure (show wpAny _ _ (ret Value.none) _ _ _ from wpAny_pure ⟨rfl, h2, tk, rfl, q, fun b o hb e => ?_⟩)
        refine m.heap b o ?_ (Heap.get?_push_of_some _ (Heap.get?_push_of_some _ e))
        rw [sz]
        intro q
        rcases List.mem_cons.mp q with q | q
        · exact absurd q (Nat.ne_of_lt hb)
        · exact absurd (List.mem_singleton.mp q) (Nat.ne_of_lt (Nat.lt_succ_of_lt hb))
    · match r2, hr2 with
      | .error e, hr2 => exact hr2
      | .ok .next, hr2 => exact hr2.elim
      | .ok .brk, hr2 => exact hr2.elim
      | .ok .cont, hr2 => exact hr2.elim
      | .ok (.ret v), hr2 =>
        obtain ⟨rfl, h', tk, rfl, q1, q2⟩ := hr2
        repeat (any_goals (first | assumption | wp_step))
        exact k _ _ q1 q2
end
end TT

namespace TT
open PySem PySem.Spec PyProof.Rows L2
variable [TB]
section
variable {X : Cx} {W : WX}
/-- len(set(xs)), xs a list of texts -/
def tLenT (K : PySem.W.Frag) (ta : TE) : TE := fun σ H Q => ta σ H fun x H1 => ∃ (l : Addr) (xs : List Str), x = .ref l ∧ SqL K H1 l (xs.map V.str) ∧ xs.length < 4000 ∧ Q (.int (fmS xs).length) H1
theorem pe_lenT {a : Expr} {ta : TE} {p p2 q pos : Pos} (hc : X.calm = true) (hg : Gl X "len") (hm : X.mg "len" = none) (hg2 : Gl X "set") (hm2 : X.mg "set" = none) (ha : PE X a ta)
    (na : starEach [a] X.env = (false, eval a X.env) :: starEach [] X.env := by rfl) : PE X (.Call (.Name "len" p) [.Call (.Name "set" p2) [a] [] q] [] pos) (tLenT X.K ta) := by
  constructor
  intro pins s σ H Q I h
  refine Call_ (ld_blt I hg hm boot_len (callWith_builtin1 (args_cons (Call_ (ld_blt I hg2 hm2 boot_set (callWith_type1 (args_cons (thn (ha.run pins s σ H _ I h) fun v s1 ⟨x, H1, I1, r1, q1⟩ => args_nil ?_) na) na rfl))) rfl) rfl rfl))
  obtain ⟨l, xs, rfl, hq, h1, q1⟩ := q1
  cases r1
  obtain ⟨its, r, pl, hz⟩ := I1.list hq
  have hs : its.length = xs.length := by rw [← r.length, List.length_map]
  refine call_set_texts (I1.ok.hd hc) pl.isList (by simpa using strsAre_of r) (by unfold scanBound; simp; omega) fun h' tk hS hk => args_nil ?_
  obtain ⟨o, es, ep, t, ho, hex, hd, _, _, _, hf, hn⟩ := hS
  have I2 : Inv X pins σ H1 { s1 with heap := h', toks := tk } := I1.kept fun b o e => hk b o (Heap.lt_size e) e
  have hle := fmS_le xs
  exact call_len_set ho hex hd hf (by rw [hn] <;> omega) ⟨.int (fmS xs).length, H1, I2.tok _, ⟨_, by rw [hn]⟩, q1⟩
def lenSetD : D → Option D
  | .lst ds => match strsD ds with
    | some ss => if ss.length < 4000 then some (.int (fmS ss).length) else none
    | none => none
  | _ => none
def mLenSet (ma : ME) : ME := fun ρ μ => (ma ρ μ).bind fun v μ1 => match view μ1 v with
  | some x => match lenSetD x with
    | some z => .ok (.d z) μ1
    | none => .bad
  | none => .bad
theorem fe_lenSet {a : Expr} {ma : ME} {p p2 q pos : Pos} (hc : X.calm = true) (hg : Gl X "len") (hm : X.mg "len" = none) (hg2 : Gl X "set") (hm2 : X.mg "set" = none) (ha : FE X W a ma)
    (na : starEach [a] X.env = (false, eval a X.env) :: starEach [] X.env := by rfl) : FE X W (.Call (.Name "len" p) [.Call (.Name "set" p2) [a] [] q] [] pos) (mLenSet ma) := by
  refine pe_imp (pe_lenT hc hg hm hg2 hm2 ha na) fun σ H Q ⟨Z, ι, ρ, μ, R, o⟩ => tM_bind R o fun v μ' Z' ι' H' x x1 R1 r1 o1 => ?_
  split at o1
  · rename_i d hd
    split at o1
    · rename_i z hz
      have hv := view_ok R1.sta r1 hd
      unfold lenSetD at hz
      split at hz
      · rename_i ds
        split at hz
        · rename_i ss hss
          split at hz
          · rename_i hl
            cases hz
            obtain ⟨l, vs, rfl, h1, h2⟩ := hv.list
            have := strsD_ok h2 hss
            subst this
            exact ⟨l, ss, rfl, SqL.of h1, hl, Out.ret R1.sta o1 (.d (.int _))⟩
          · cases hz
        · cases hz
      · cases hz
    · exact o1.elim
  · exact o1.elim
end
end TT

namespace TT
open PySem L2
variable [TB]
/-! a, b, c, d = w, x, y, z: names, and values of which some may change later -/
def setMV (ρ : En) : List Nat → List MV → En
  | i :: is, v :: vs => setMV (ρ.set i (some v)) is vs
  | _, _ => ρ
def setV (σ : St) : List Nat → List V → St
  | i :: is, v :: vs => setV (σ.set i (some v)) is vs
  | _, _ => σ
theorem RS.setAll {K : PySem.W.Frag} {F : Hp} {ι : List Addr} : ∀ {as : List MV} {vs : List V} {is : List Nat} {ρ : En} {σ : St}, RMs K F ι as vs → RS K F ι ρ σ → RS K F ι (setMV ρ is as) (setV σ is vs)
  | _, _, [], _, _, _, h => by unfold setMV setV; exact h
  | _, _, _ :: _, _, _, .nil, h => by unfold setMV setV; exact h
  | _, _, i :: is, _, _, .cons a b, h => RS.setAll (is := is) b (RS.set a h i)
def gNames (is : List Nat) : TGs := fun vs σ H Q => vs.length = is.length ∧ Q (setV σ is vs) H
section
variable {X : Cx} {W : WX} {pos : Pos}
theorem gn_nil : PGs X [] (gNames []) := pgs_imp pgs_nil fun v σ H Q ⟨h1, h2⟩ => by
  cases v with
  | nil => exact ⟨rfl, h2⟩
  | cons a b => cases h1
theorem gn_cons {i : Nat} {is : List Nat} {x : Str} {es : List Expr} {p : Pos} (hN : X.N.Nodup) (hi : X.N[i]? = some x) (hx : Loc X.env.scope x) (h2 : PGs X es (gNames is))
    (hs : (assignEach (.Name x p :: es) X.env).map (·.2) = assign (.Name x p) X.env :: (assignEach es X.env).map (·.2) := by rfl)
    (hf : X.fn x = true ∨ X.env.scope.names.lookup x = some .local := by first | exact .inl rfl | exact .inr rfl | assumption) : PGs X (.Name x p :: es) (gNames (i :: is)) := by
  refine pgs_imp (pgs_cons (pg_name (i := i) hN hi hx hf) h2 hs) fun v σ H Q ⟨h1, hq⟩ => ?_
  cases v with
  | nil => cases h1
  | cons a b => exact ⟨a, b, rfl, by simpa using h1, hq⟩
def mParN (is : List Nat) (ms : MA) : MS := fun ρ μ => (ms ρ μ).stm ρ fun vs μ1 => if vs.length = is.length ∧ is.length ≤ 100 then .nx (setMV ρ is vs) μ1 else .bad
theorem fs_parN {tgs es : List Expr} {is : List Nat} {ms : MA} {kt k2 : Nat} {pt pt2 : Pos} (hc : X.calm = true) (he : FA X W es ms) (hg : PGs X tgs (gNames is)) (hn : (assignEach tgs X.env).length = is.length := by rfl) (hst : (assignEach tgs X.env).findIdx? (·.1) = none := by rfl)
    (hs : swapsWithSole [.Tuple tgs kt pt] (.Tuple es k2 pt2) pos.line X.env = pure false := by rfl) (hw : swappedStores [.Tuple tgs kt pt] (.Tuple es k2 pt2) X.env = pure none := by rfl)
    (h1 : (assignEach [.Tuple tgs kt pt] X.env).map (·.2) = [assign (.Tuple tgs kt pt) X.env] := by rfl) : FS X W (.Assign [.Tuple tgs kt pt] (.Tuple es k2 pt2) pos) (mParN is ms) := by
  refine ps_imp (ps_asg (pe_tup he) (pg_tup hc hg hn hst) hs hw h1) fun E σ H ⟨Z, ι, ρ, μ, R, o⟩ => ?_
  refine tMA_stm R o fun v μ' Z' ι' H' x x1 R1 r1 o1 => ?_
  split at o1
  · rename_i hl
    have lx : x.length = is.length := by rw [← r1.len]; exact hl.1
    refine ⟨by rw [lx]; exact Nat.le_trans hl.2 (by decide), fun p hp => ⟨p, x, rfl, SqT.of upd_same, lx, lx, ?_⟩⟩
    have sm : Same H' (upd H' p (.tup x)) := fun a o e => (upd_ne (ne_of_none e hp)).trans e
    obtain ⟨s2, x2⟩ := R1.sta.grow sm
    exact o1 Z' ι' _ _ x2 ⟨s2, RS.setAll (r1.mono x2.same x2.i) (R1.rs.mono x2.same x2.i)⟩
  · exact o1.elim
end
end TT

namespace TT
open PySem L2
variable [TB]
/-! a call that only looks at the lists that it is given -/
def tagD : D → Nat
  | .non => 1
  | .bl _ => 2
  | .int _ => 3
  | .str _ => 4
  | .ty _ => 5
  | _ => 0
def tagV : V → Nat
  | .non => 1
  | .bl _ => 2
  | .int _ => 3
  | .str _ => 4
  | .ty _ => 5
  | _ => 0
theorem tag_ok {K : PySem.W.Frag} {F : Hp} {d : D} {v : V} (h : DR K F d v) : tagD d = tagV v := by cases h <;> rfl
/-- no one list is both -/
def apDs : List D → List D → Bool
  | [], [] => false
  | x :: xs, y :: ys => tagD x != tagD y || apDs xs ys
  | _, _ => true
theorem apDs_ok {K : PySem.W.Frag} {F F' : Hp} : ∀ {xs ys : List D} {vs : List V}, DRs K F xs vs → DRs K F' ys vs → apDs xs ys = false
  | _, _, _, .nil, .nil => rfl
  | _, _, _, .cons a b, .cons a' b' => by
    simp only [apDs, Bool.or_eq_false_iff, bne_eq_false_iff_eq]
    exact ⟨(tag_ok a).trans (tag_ok a').symm, apDs_ok b b'⟩
def apart (bs : List D) (xs : List D) : Bool := bs.all fun b => match b with
  | .lst ys => apDs xs ys
  | _ => true
mutual
/-- what holds none of the lists bs -/
def okD (bs : List D) : D → Bool
  | .non => true
  | .bl _ => true
  | .int _ => true
  | .str _ => true
  | .tup xs => okDs bs xs
  | .lst xs => apart bs xs && okDs bs xs
  | .obj _ fs => okDf bs fs
  | _ => false
def okDs (bs : List D) : List D → Bool
  | [] => true
  | d :: ds => okD bs d && okDs bs ds
def okDf (bs : List D) : List (Str × D) → Bool
  | [] => true
  | (_, d) :: ds => okD bs d && okDf bs ds
end
section
variable {K : PySem.W.Frag} {F F' : Hp} {bs : List D} (e1 : ∀ a vs, F a = some (.tup vs) → F' a = some (.tup vs)) (e2 : ∀ a C d vs, F a = some (.ins C d vs) → F' a = some (.ins C d vs)) (e3 : ∀ a vs xs, F a = some (.lst vs) → DRs K F xs vs → apart bs xs = true → F' a = some (.lst vs))
include e1 e2 e3
mutual
theorem okD_ok : ∀ (d : D) (v : V), DR K F d v → okD bs d = true → DR K F' d v
  | .non, _, h, _ => by cases h; exact .non
  | .bl b, _, h, _ => by cases h; exact .bl b
  | .int b, _, h, _ => by cases h; exact .int b
  | .str b, _, h, _ => by cases h; exact .str b
  | .tup xs, _, h, f => by
    cases h with | tup q r => exact .tup (e1 _ _ q) (okDs_ok xs _ r (by simpa [okD] using f))
  | .lst xs, _, h, f => by
    simp only [okD, Bool.and_eq_true] at f
    cases h with | lst q r => exact .lst (e3 _ _ _ q r f.1) (okDs_ok xs _ r f.2)
  | .obj C xs, _, h, f => by
    cases h with | obj q r => exact .obj (e2 _ _ _ _ q) (okDf_ok xs _ r (by simpa [okD] using f))
  | .ty _, _, _, f => by simp [okD] at f
  | .gl _, _, _, f => by simp [okD] at f
  | .fl _, _, _, f => by simp [okD] at f
  | .dK _, _, _, f => by simp [okD] at f
  | .dT _, _, _, f => by simp [okD] at f
  | .exn _ _ _ _, _, _, f => by simp [okD] at f
  | .err _ _, _, _, f => by simp [okD] at f
theorem okDs_ok : ∀ (d : List D) (v : List V), DRs K F d v → okDs bs d = true → DRs K F' d v
  | [], _, h, _ => by cases h; exact .nil
  | d :: ds, _, h, f => by
    simp only [okDs, Bool.and_eq_true] at f
    cases h with | cons a b => exact .cons (okD_ok d _ a f.1) (okDs_ok ds _ b f.2)
theorem okDf_ok : ∀ (d : List (Str × D)) (v : List (Str × V)), DRf K F d v → okDf bs d = true → DRf K F' d v
  | [], _, h, _ => by cases h; exact .nil
  | (_, d) :: ds, _, h, f => by
    simp only [okDf, Bool.and_eq_true] at f
    cases h with | cons a b => exact .cons (okD_ok d _ a f.1) (okDf_ok ds _ b f.2)
end
end
theorem mask_sub {H : Hp} {Z Zc : List Addr} (hz : ∀ a ∈ Zc, a ∈ Z) : Same (mask H Z) (mask H Zc) := fun a o q => by
  obtain ⟨q1, q2⟩ := of_mask q
  exact mask_in (fun z => q1 (hz a z)) q2 (mask_nt q)
/-- an argument's own place, if it is a reference -/
def refAt (ι : List Addr) : MV → Option Addr
  | .ref n => ι[n]?
  | .d _ => none
/-- the arguments as data: the places of the lists handed on, and what stands there -/
theorem views_fz {K : PySem.W.Frag} {Z ι : List Addr} {μ : List MO} {H : Hp} (s : Sta K Z ι μ H) : ∀ {as : List MV} {vs : List V} {ds : List D}, RMs K (mask H Z) ι as vs → views μ as = some ds →
    (∀ a ∈ as.filterMap (refAt ι), ∃ o, H a = some o ∧ (∀ xs, o ≠ .tup xs) ∧ (∀ C d xs, o ≠ .ins C d xs) ∧ ∀ ws, o = .lst ws → ∃ ys, D.lst ys ∈ ds ∧ DRs K (mask H Z) ys ws) ∧
    ∀ Zc, (∀ a ∈ Zc, a ∈ Z) → (∀ a ∈ as.filterMap (refAt ι), a ∉ Zc) → RMs K (mask H Zc) [] (ds.map .d) vs
  | _, _, _, .nil, e => by
    cases e
    exact ⟨fun a h => by simp at h, fun _ _ _ => .nil⟩
  | _, _, _, .cons (m := m) r b, e => by
    unfold views at e
    split at e
    · rename_i x h1
      split at e
      · rename_i xs h2
        cases e
        obtain ⟨i1, i2⟩ := views_fz s b h2
        cases m with
        | d y =>
          cases h1
          have ef : ∀ ms : List MV, (MV.d x :: ms).filterMap (refAt ι) = ms.filterMap (refAt ι) := fun ms => rfl
          rw [ef]
          refine ⟨fun a ha => ?_, fun Zc hz hn => ?_⟩
          · obtain ⟨o, h3, h4, h5, h6⟩ := i1 a ha
            exact ⟨o, h3, h4, h5, fun ws hw => by obtain ⟨ys, h7, h8⟩ := h6 ws hw; exact ⟨ys, List.mem_cons_of_mem _ h7, h8⟩⟩
          · cases r with | d r => exact .cons (.d (r.mono (mask_sub hz) _ _)) (i2 Zc hz hn)
        | ref n =>
          cases r with | ref r =>
            rename_i a0
            have ef : ∀ ms : List MV, (MV.ref n :: ms).filterMap (refAt ι) = a0 :: ms.filterMap (refAt ι) := fun ms => by simp [refAt, r]
            rw [ef]
            have old : ∀ a ∈ (_ : List MV).filterMap (refAt ι), ∃ o, H a = some o ∧ (∀ xs, o ≠ .tup xs) ∧ (∀ C d xs, o ≠ .ins C d xs) ∧ ∀ ws, o = .lst ws → ∃ ys, D.lst ys ∈ x :: xs ∧ DRs K (mask H Z) ys ws := fun a ha => by
              obtain ⟨o, h3, h4, h5, h6⟩ := i1 a ha
              exact ⟨o, h3, h4, h5, fun ws hw => by obtain ⟨ys, h7, h8⟩ := h6 ws hw; exact ⟨ys, List.mem_cons_of_mem _ h7, h8⟩⟩
            unfold view at h1
            simp only at h1
            split at h1
            · rename_i ys q; cases h1
              obtain ⟨ho, h3, h4⟩ := s.obj _ _ _ r q
              cases h4 with | lst h4 =>
                refine ⟨fun a ha => ?_, fun Zc hz hn => .cons (.d (.lst (mask_in (hn a0 List.mem_cons_self) h3) (h4.mono (mask_sub hz) _ _))) (i2 Zc hz fun a ha => hn a (List.mem_cons_of_mem _ ha))⟩
                rcases List.mem_cons.mp ha with z | z
                · subst z
                  exact ⟨_, h3, (fun _ z => by cases z), (fun _ _ _ z => by cases z), fun ws hw => by cases hw; exact ⟨ys, List.mem_cons_self, h4⟩⟩
                · exact old a z
            · rename_i ys q; cases h1
              obtain ⟨ho, h3, h4⟩ := s.obj _ _ _ r q
              cases h4 with | dK h4 =>
                refine ⟨fun a ha => ?_, fun Zc hz hn => .cons (.d (.dK (mask_in (hn a0 List.mem_cons_self) h3) (h4.mono (mask_sub hz) _ _))) (i2 Zc hz fun a ha => hn a (List.mem_cons_of_mem _ ha))⟩
                rcases List.mem_cons.mp ha with z | z
                · subst z
                  exact ⟨_, h3, (fun _ z => by cases z), (fun _ _ _ z => by cases z), fun ws hw => by cases hw⟩
                · exact old a z
            · rename_i ys q; cases h1
              obtain ⟨ho, h3, h4⟩ := s.obj _ _ _ r q
              cases h4 with | dT h4 =>
                refine ⟨fun a ha => ?_, fun Zc hz hn => .cons (.d (.dT (mask_in (hn a0 List.mem_cons_self) h3) (h4.mono (mask_sub hz) _ _))) (i2 Zc hz fun a ha => hn a (List.mem_cons_of_mem _ ha))⟩
                rcases List.mem_cons.mp ha with z | z
                · subst z
                  exact ⟨_, h3, (fun _ z => by cases z), (fun _ _ _ z => by cases z), fun ws hw => by cases hw⟩
                · exact old a z
            · cases h1
      · cases e
    · cases e
theorem DVs.len {K : PySem.W.Frag} {Z : List Addr} {H : Hp} : ∀ {xs : List D} {vs : List V}, DVs K Z H xs vs → xs.length = vs.length
  | _, _, .nil => rfl
  | _, _, .cons _ b => congrArg (· + 1) (DVs.len b)
/-- the arguments as they are now, handed on as data -/
def zRes (ds : List D) (r : Res MV) (μ : List MO) : Res MV := match r with
  | .ok (.d v) _ => if okD ds v = true then .ok (.d v) μ else .bad
  | _ => .bad
theorem z_frame {K : PySem.W.Frag} {Z ι : List Addr} {μ : List MO} {H : Hp} {W : WX} {σ : St} {F : MF} {as : List MV} {vs : List V} {ds : List D} {Q : VK} {n : Nat} (s : Sta K Z ι μ H) (r : RMs K (mask H Z) ι as vs) (hn : vs.length = n) (hv : views μ as = some ds)
    (o : Out K W σ Z ι H (zRes ds (F (ds.map .d) []) μ) (Val K Q)) : spF K n F vs H Q (WE W σ) := by
  obtain ⟨i1, i2⟩ := views_fz s r hv
  let Zc := Z.filter fun a => decide (a ∉ as.filterMap (refAt ι))
  have hz : ∀ a ∈ Zc, a ∈ Z := fun a h => (List.mem_filter.mp h).1
  have hb : ∀ a ∈ as.filterMap (refAt ι), a ∉ Zc := fun a h q => (of_decide_eq_true (List.mem_filter.mp q).2) h
  refine ⟨hn, Zc, [], ds.map .d, [], ⟨(fun a h => by cases h), .nil, rfl, (fun a h => s.trk a (hz a h)), s.tab, (fun n a o h => by simp at h)⟩, i2 Zc hz hb, ?_⟩
  unfold zRes at o
  cases q : F (ds.map .d) [] with
  | exc C fs μ' => rw [q] at o; exact o.elim
  | bad => rw [q] at o; exact o.elim
  | ok v μ' =>
    rw [q] at o
    cases v with
    | ref k => exact o.elim
    | d v =>
      simp only at o
      split at o
      · rename_i ho
        intro Z' ι' H' x' s' y ry
        have keep : ∀ a o, NT o → H a = some o → H' a = some o := fun a o t e => x'.keep a o (by simp) t e
        have ex : Ext Z ι H (Z ++ Z') ι H' := by
          refine ⟨s.sub, fun a h => List.mem_append_left _ h, fun _ _ h => h, fun a o _ t e => keep a o t e, x'.tb, fun a h => ?_, fun a h => .inl h⟩
          rcases List.mem_append.mp h with z | z
          · exact .inl z
          · rcases x'.new a z with z | z
            · exact .inl (hz a z)
            · exact .inr z
        have sx : Sta K (Z ++ Z') ι μ H' := by
          refine ⟨fun a h => List.mem_append_left _ (s.sub a h), s.nd, s.len, fun a h => ?_, s'.tab, fun n a o h1 h2 => ?_⟩
          · rcases List.mem_append.mp h with z | z
            · obtain ⟨o, e⟩ := s.trk a z
              rcases nt_or o with t | ⟨ps, rfl⟩
              · exact ⟨o, keep a o t e⟩
              · obtain ⟨qs, z⟩ := x'.tb a ps e; exact ⟨_, z⟩
            · exact s'.trk a z
          · obtain ⟨ho, h3, h4⟩ := s.obj n a o h1 h2
            exact ⟨ho, keep a ho h4.nt h3, h4.mono ex.same ex.i⟩
        cases ry with | d ry =>
          have fin : ∀ {a : Addr} {o : HO}, mask H' Z' a = some o → (∀ b ∈ as.filterMap (refAt ι), b = a → False) → mask H' (Z ++ Z') a = some o := fun {a o} e h => by
            obtain ⟨h1, h2⟩ := of_mask e
            refine mask_in (fun z => ?_) h2 (mask_nt e)
            rcases List.mem_append.mp z with z | z
            · by_cases hB : a ∈ as.filterMap (refAt ι)
              · exact h a hB rfl
              · exact h1 (x'.z a (List.mem_filter.mpr ⟨z, decide_eq_true hB⟩))
            · exact h1 z
          refine o (Z ++ Z') ι H' ex sx y (.d (okD_ok (bs := ds) (fun a vs e => ?_) (fun a C d vs e => ?_) (fun a vs xs e hx ha => ?_) v y ry ho))
          · refine fin e fun b hB hb' => ?_
            subst hb'
            obtain ⟨o, h3, h4, _⟩ := i1 b hB
            have t : NT o := by
              rcases nt_or o with t | ⟨ps, rfl⟩
              · exact t
              · obtain ⟨qs, z⟩ := x'.tb b ps h3
                rw [(of_mask e).2] at z; cases z
            have := keep b o t h3
            rw [(of_mask e).2] at this
            cases this
            exact h4 _ rfl
          · refine fin e fun b hB hb' => ?_
            subst hb'
            obtain ⟨o, h3, _, h4, _⟩ := i1 b hB
            have t : NT o := by
              rcases nt_or o with t | ⟨ps, rfl⟩
              · exact t
              · obtain ⟨qs, z⟩ := x'.tb b ps h3
                rw [(of_mask e).2] at z; cases z
            have := keep b o t h3
            rw [(of_mask e).2] at this
            cases this
            exact h4 _ _ _ rfl
          · refine fin e fun b hB hb' => ?_
            subst hb'
            obtain ⟨o, h3, _, _, h4⟩ := i1 b hB
            have t : NT o := by
              rcases nt_or o with t | ⟨ps, rfl⟩
              · exact t
              · obtain ⟨qs, z⟩ := x'.tb b ps h3
                rw [(of_mask e).2] at z; cases z
            have := keep b o t h3
            rw [(of_mask e).2] at this
            cases this
            obtain ⟨ys, h5, h6⟩ := h4 _ rfl
            have h7 := apDs_ok hx h6
            unfold apart at ha
            rw [List.all_eq_true] at ha
            have h8 := ha _ h5
            simp only [h7] at h8
            cases h8
      · exact o.elim
def mCallZ (F : MF) (n : Nat) (ms : MA) : ME := fun ρ μ => (ms ρ μ).bind fun as μ1 => match views μ1 as with
  | some ds => if ds.length = n then zRes ds (F (ds.map .d) []) μ1 else .bad
  | none => .bad
section
variable {X : Cx} {W : WX} {k j n : Nat} {x : Str} {F : MF} {p pos : Pos} {e : Expr} {es : List Expr} {ms : MA}
theorem fe_callZ (c : Fn X.prog X.w X.K X.mg X.base k x n F) (tk : Takes X W) (hg : X.A.guards = some []) (hr : Room j X.A) (ha : FA X W (e :: es) ms) (hk : k ≤ j := by decide) (hgl : Gl X x := by rfl)
    (hdb : (x == ("__debug__" : Str)) = false := by decide) (he : starEach (e :: es) X.env = (false, eval e X.env) :: starEach es X.env := by rfl) (hpl : (backTo pos (starEach es X.env)).any (·.1) = false := by rfl) :
    FE X W (.Call (.Name x p) (e :: es) [] pos) (mCallZ F n ms) := by
  obtain ⟨f, G, hm, kp⟩ := c.ex
  refine pe_imp (t := tCallS (spF X.K n F) (WE W) (tMA X.K W ms)) ⟨?_⟩ ?_
  · intro pins s σ H Q I h
    refine PySem.wpAny_Call_Name_kw (ld_glob I hgl hm ?_ hdb)
    refine PySem.W.callWith_K (h₀ := X.base) I.ok.mod.kin kp (thn (ha.run pos pins s σ H _ I h) fun us s1 hh => ?_) he hpl
    obtain ⟨vs, H1, I1, r, q⟩ := hh
    refine ⟨I1.kIn, wpAny_call (codeAny_mono (G X.A X.stack s1 H1 us vs Q (WE W σ) (hr.mono hk) hg I1.env0 r q) fun z s' hq => ?_)⟩
    cases z with
    | error u => exact passAt tk σ pins H1 s1 u s' I1 hq
    | ok fl => cases fl with
      | ret u => exact I1.after hq
      | _ => exact hq.elim
  · rintro σ H Q ⟨Z, ι, ρ, μ, R, o⟩
    refine tMA_bind R o fun v μ' Z' ι' H' x x1 R1 r1 o1 => ?_
    split at o1
    · rename_i ds hds
      split at o1
      · rename_i hl
        exact z_frame R1.sta r1 (by rw [← (views_ok R1.sta r1 hds).len]; exact hl) hds o1
      · exact o1.elim
    · exact o1.elim
end
end TT

namespace TT
open PySem L2
variable [TB]
/-! plain proofs by what must hold behind: (r).to .. -/
def SR.to (r : SR) (N : En → List MO → Prop) (R : MV → List MO → Prop) (B C : En → List MO → Prop) (E : Addr → List (Str × D) → En → List MO → Prop) : Prop := match r with
  | .nx ρ μ => N ρ μ
  | .rt v μ => R v μ
  | .bk ρ μ => B ρ μ
  | .ct ρ μ => C ρ μ
  | .exc c fs ρ μ => E c fs ρ μ
  | .bad => False
def Res.to {α : Type} (r : Res α) (K : α → List MO → Prop) (E : Addr → List (Str × D) → List MO → Prop) : Prop := match r with
  | .ok a μ => K a μ
  | .exc c fs μ => E c fs μ
  | .bad => False
def no3 : Addr → List (Str × D) → List MO → Prop := fun _ _ _ => False
section
variable {α β : Type} {K : α → List MO → Prop} {K2 : β → List MO → Prop} {E E' : Addr → List (Str × D) → List MO → Prop} {N N' : En → List MO → Prop} {R R' : MV → List MO → Prop} {B C B' C' : En → List MO → Prop} {EE EE' : Addr → List (Str × D) → En → List MO → Prop}
theorem to_ok {r : Res α} {v : α} {μ' : List MO} (h : r = .ok v μ') (k : K v μ') : r.to K E := by rw [h]; exact k
theorem to_ex {r : Res α} {c : Addr} {fs : List (Str × D)} {μ' : List MO} (h : r = .exc c fs μ') (k : E c fs μ') : r.to K E := by rw [h]; exact k
theorem ok_to {r : Res α} (h : r.to K no3) : ∃ v μ', r = .ok v μ' ∧ K v μ' := by
  cases r with
  | ok v μ' => exact ⟨v, μ', rfl, h⟩
  | exc c fs μ' => exact h.elim
  | bad => exact h.elim
theorem tom {r : Res α} {K' : α → List MO → Prop} (h : r.to K E) (k : ∀ v μ, K v μ → K' v μ) (e : ∀ c fs μ, E c fs μ → E' c fs μ) : r.to K' E' := by
  cases r with
  | ok v μ' => exact k _ _ h
  | exc c fs μ' => exact e _ _ _ h
  | bad => exact h.elim
theorem tos {r : SR} (h : r.to N R B C EE) (n : ∀ ρ μ, N ρ μ → N' ρ μ) (rr : ∀ v μ, R v μ → R' v μ) (b : ∀ ρ μ, B ρ μ → B' ρ μ) (c : ∀ ρ μ, C ρ μ → C' ρ μ) (e : ∀ c fs ρ μ, EE c fs ρ μ → EE' c fs ρ μ) : r.to N' R' B' C' EE' := by
  cases r with
  | nx ρ μ => exact n _ _ h
  | rt ρ μ => exact rr _ _ h
  | bk ρ μ => exact b _ _ h
  | ct ρ μ => exact c _ _ h
  | exc c fs ρ μ => exact e _ _ _ _ h
  | bad => exact h.elim
theorem to_bind {r : Res α} {k : α → List MO → Res β} (h : r.to (fun a μ => (k a μ).to K2 E) E) : (r.bind k).to K2 E := by
  cases r with
  | ok v μ' => exact h
  | exc c fs μ' => exact h
  | bad => exact h.elim
theorem to_stm {r : Res α} {ρ : En} {k : α → List MO → SR} (h : r.to (fun a μ => (k a μ).to N R B C EE) (fun c fs μ => EE c fs ρ μ)) : (r.stm ρ k).to N R B C EE := by
  cases r with
  | ok v μ' => exact h
  | exc c fs μ' => exact h
  | bad => exact h.elim
end
section
variable {N : En → List MO → Prop} {R : MV → List MO → Prop} {B C : En → List MO → Prop} {EE : Addr → List (Str × D) → En → List MO → Prop} {m n : MS} {ρ ρ1 : En} {μ μ1 μ2 : List MO} {ma mb mc : ME} {ms mk : MA} {c c2 : MT} {g g' : D → D → Option D} {i j l : Nat}
/-! statements -/
theorem w_seq (h : (m ρ μ).to (fun ρ' μ' => (n ρ' μ').to N R B C EE) R B C EE) : (mSeq m n ρ μ).to N R B C EE := by
  unfold mSeq
  cases q : m ρ μ with
  | nx ρ μ => rw [q] at h; exact h
  | rt ρ μ => rw [q] at h; exact h
  | bk ρ μ => rw [q] at h; exact h
  | ct ρ μ => rw [q] at h; exact h
  | exc c fs ρ μ => rw [q] at h; exact h
  | bad => rw [q] at h; exact h
theorem w_next (h : N ρ μ) : (mNext ρ μ).to N R B C EE := h
theorem w_bk (h : B ρ μ) : ((fun ρ μ => SR.bk ρ μ : MS) ρ μ).to N R B C EE := h
theorem w_ct (h : C ρ μ) : ((fun ρ μ => SR.ct ρ μ : MS) ρ μ).to N R B C EE := h
theorem w_expr (h : (ma ρ μ).to (fun _ μ1 => N ρ μ1) (fun c fs μ1 => EE c fs ρ μ1)) : (mExpr ma ρ μ).to N R B C EE := to_stm h
theorem w_ret (h : (ma ρ μ).to (fun v μ1 => R v μ1) (fun c fs μ1 => EE c fs ρ μ1)) : (mRet ma ρ μ).to N R B C EE := to_stm h
theorem w_retN (h : R (.d .non) μ) : (mRetN ρ μ).to N R B C EE := h
theorem w_ifs (h : (c ρ μ).to (fun k μ1 => (k = true → (m ρ μ1).to N R B C EE) ∧ (k = false → (n ρ μ1).to N R B C EE)) (fun c fs μ1 => EE c fs ρ μ1)) : (mIfS c m n ρ μ).to N R B C EE := by
  refine to_stm (tom h (fun k μ1 hk => ?_) fun _ _ _ z => z)
  cases k with
  | true => exact hk.1 rfl
  | false => exact hk.2 rfl
theorem w_asg {g : MG} (h : (ma ρ μ).to (fun v μ1 => ∃ ρ', g v ρ = some ρ' ∧ N ρ' μ1) (fun c fs μ1 => EE c fs ρ μ1)) : (mAsg ma g ρ μ).to N R B C EE := by
  refine to_stm (tom h (fun k μ1 hk => ?_) fun _ _ _ z => z)
  obtain ⟨ρ', e, hk⟩ := hk
  rw [e]; exact hk
theorem w_set (h : (ma ρ μ).to (fun v μ1 => N (ρ.set i (some v)) μ1) (fun c fs μ1 => EE c fs ρ μ1)) : (mAsg ma (gN i) ρ μ).to N R B C EE := to_stm h
theorem w_par2 (h : (ms ρ μ).to (fun vs μ1 => ∃ v w, vs = [v, w] ∧ N ((ρ.set i (some v)).set j (some w)) μ1) (fun c fs μ1 => EE c fs ρ μ1)) : (mPar2 i j ms ρ μ).to N R B C EE := by
  refine to_stm (tom h (fun k μ1 hk => ?_) fun _ _ _ z => z)
  obtain ⟨v, w, rfl, hk⟩ := hk
  exact hk
theorem w_par3 (h : (ms ρ μ).to (fun vs μ1 => ∃ v w z, vs = [v, w, z] ∧ N (((ρ.set i (some v)).set j (some w)).set l (some z)) μ1) (fun c fs μ1 => EE c fs ρ μ1)) : (mPar3 i j l ms ρ μ).to N R B C EE := by
  refine to_stm (tom h (fun k μ1 hk => ?_) fun _ _ _ z => z)
  obtain ⟨v, w, z, rfl, hk⟩ := hk
  exact hk
theorem w_parN {is : List Nat} (h : (ms ρ μ).to (fun vs μ1 => vs.length = is.length ∧ is.length ≤ 100 ∧ N (setMV ρ is vs) μ1) (fun c fs μ1 => EE c fs ρ μ1)) : (mParN is ms ρ μ).to N R B C EE := by
  refine to_stm (tom h (fun k μ1 hk => ?_) fun _ _ _ z => z)
  rw [if_pos ⟨hk.1, hk.2.1⟩]; exact hk.2.2
theorem w_aug {x : MV} (hx : ρ[i]? = some (some x)) (h : (ma ρ μ).to (fun y μ1 => (op2 g x y μ1).to (fun z μ2 => N (ρ.set i (some z)) μ2) (fun c fs μ1 => EE c fs ρ μ1)) (fun c fs μ1 => EE c fs ρ μ1)) : (mAug i g ma ρ μ).to N R B C EE := by
  unfold mAug
  rw [hx]
  refine to_stm (tom h (fun k μ1 hk => ?_) fun _ _ _ z => z)
  exact to_stm hk
theorem w_setix {mv mo mi : ME} (h : (mv ρ μ).to (fun v μ1 => (mo ρ μ1).to (fun o μ2 => (mi ρ μ2).to (fun i μ3 => ∃ μ4, putL o i v μ3 = some μ4 ∧ N ρ μ4) (fun c fs μ1 => EE c fs ρ μ1)) (fun c fs μ1 => EE c fs ρ μ1)) (fun c fs μ1 => EE c fs ρ μ1)) : (mSetIx mv mo mi ρ μ).to N R B C EE := by
  unfold mSetIx
  refine to_stm (tom h (fun v μ1 h => to_stm (tom h (fun o μ2 h => to_stm (tom h (fun i μ3 h => ?_) fun _ _ _ z => z)) fun _ _ _ z => z)) fun _ _ _ z => z)
  obtain ⟨μ4, e, h⟩ := h
  rw [e]; exact h
theorem w_setf {C0 : Addr} {f : Str} {mv mo : ME} (h : (mv ρ μ).to (fun v μ1 => (mo ρ μ1).to (fun o μ2 => ∃ μ4, putFld C0 f v o μ2 = some μ4 ∧ N ρ μ4) (fun c fs μ1 => EE c fs ρ μ1)) (fun c fs μ1 => EE c fs ρ μ1)) : (mSetF C0 f mv mo ρ μ).to N R B C EE := by
  unfold mSetF
  refine to_stm (tom h (fun v μ1 h => to_stm (tom h (fun o μ2 h => ?_) fun _ _ _ z => z)) fun _ _ _ z => z)
  obtain ⟨μ4, e, h⟩ := h
  rw [e]; exact h
theorem w_raise {C0 : Addr} {ks : List Str} (h : (ms ρ μ).to (fun as μ1 => ∃ ds, datas as = some ds ∧ ds.length = ks.length ∧ EE C0 (ks.zip ds).reverse ρ μ1) (fun c fs μ1 => EE c fs ρ μ1)) : (mRaise C0 ks ms ρ μ).to N R B C EE := by
  unfold mRaise
  refine to_stm (tom h (fun as μ1 h => ?_) fun _ _ _ z => z)
  obtain ⟨ds, e1, e2, h⟩ := h
  unfold mkX
  rw [e1]
  simp only [if_pos e2]
  exact h
/-! match -/
theorem w_match {r : MM} (h : (ma ρ μ).to (fun v μ1 => ∃ d, v = .d d ∧ (r d ρ μ1).to N R B C EE) (fun c fs μ1 => EE c fs ρ μ1)) : (mMatch ma r ρ μ).to N R B C EE := by
  refine to_stm (tom h (fun v μ1 h => ?_) fun _ _ _ z => z)
  obtain ⟨d, rfl, h⟩ := h
  exact h
/-! loops -/
/-- a loop over items: the invariant by what is left -/
theorem w_for {mi : MI} {g : MG} {b : MS} (I : List D → En → List MO → Prop) (h : (mi ρ μ).to (fun q μ1 => q.2 = none ∧ I q.1 ρ μ1 ∧ (∀ x xs ρ μ, I (x :: xs) ρ μ → ∃ ρ1, g (.d x) ρ = some ρ1 ∧ (b ρ1 μ).to (fun ρ2 μ2 => I xs ρ2 μ2) R (fun ρ2 μ2 => N ρ2 μ2) (fun ρ2 μ2 => I xs ρ2 μ2) EE) ∧ (∀ ρ μ, I [] ρ μ → N ρ μ)) (fun c fs μ1 => EE c fs ρ μ1)) : (mFor mi g b ρ μ).to N R B C EE := by
  refine to_stm (tom h (fun q μ1 h => ?_) fun _ _ _ z => z)
  obtain ⟨hq, h0, h1, h2⟩ := h
  have go : ∀ (xs : List D) (ρ : En) (μ : List MO), I xs ρ μ → (forD q g b xs ρ μ).to N R B C EE := by
    intro xs
    induction xs with
    | nil =>
      intro ρ μ hI
      unfold forD chk
      rw [hq]
      exact h2 ρ μ hI
    | cons x xs ih =>
      intro ρ μ hI
      obtain ⟨ρ1, e, hb⟩ := h1 x xs ρ μ hI
      unfold forD chk
      rw [hq, e]
      simp only [if_true]
      cases qb : b ρ1 μ with
      | nx ρ2 μ2 => rw [qb] at hb; exact ih ρ2 μ2 hb
      | ct ρ2 μ2 => rw [qb] at hb; exact ih ρ2 μ2 hb
      | bk ρ2 μ2 => rw [qb] at hb; exact hb
      | rt v μ2 => rw [qb] at hb; exact hb
      | exc c fs ρ2 μ2 => rw [qb] at hb; exact hb
      | bad => rw [qb] at hb; exact hb.elim
  exact go q.1 ρ μ1 h0
/-- a loop over a range: the invariant by the turn -/
theorem w_range {mi : MI} {b : MS} {t : Nat} (I : Nat → En → List MO → Prop) (h : (mi ρ μ).to (fun q μ1 => ∃ n : Nat, q = (intsD 0 n, none) ∧ I 0 ρ μ1 ∧ (∀ k ρ μ, k < n → I k ρ μ → (b (ρ.set t (some (.d (.int (k : Int))))) μ).to (fun ρ2 μ2 => I (k + 1) ρ2 μ2) R (fun ρ2 μ2 => N ρ2 μ2) (fun ρ2 μ2 => I (k + 1) ρ2 μ2) EE) ∧ (∀ ρ μ, I n ρ μ → N ρ μ)) (fun c fs μ1 => EE c fs ρ μ1)) : (mFor mi (gN t) b ρ μ).to N R B C EE := by
  refine w_for (fun xs ρ μ => ∃ n k, xs = ((List.range n).drop k).map (fun (i : Nat) => D.int (i : Int)) ∧ k ≤ n ∧ I k ρ μ ∧ (∀ k ρ μ, k < n → I k ρ μ → (b (ρ.set t (some (.d (.int (k : Int))))) μ).to (fun ρ2 μ2 => I (k + 1) ρ2 μ2) R (fun ρ2 μ2 => N ρ2 μ2) (fun ρ2 μ2 => I (k + 1) ρ2 μ2) EE) ∧ (∀ ρ μ, I n ρ μ → N ρ μ)) (tom h (fun q μ1 h => ?_) fun _ _ _ z => z)
  obtain ⟨n, rfl, h0, h1, h2⟩ := h
  refine ⟨rfl, ⟨n, 0, ?_, Nat.zero_le _, h0, h1, h2⟩, ?_, ?_⟩
  · simp [intsD]
  · rintro x xs ρ μ ⟨n, k, e, hk, hI, h1, h2⟩
    have hk' : k < n := by
      rcases Nat.lt_or_ge k n with h | h
      · exact h
      · rw [List.drop_eq_nil_of_le (by simpa using h)] at e; cases e
    rw [List.drop_eq_getElem_cons (by simpa using hk')] at e
    simp only [List.getElem_range, List.map_cons, List.cons.injEq] at e
    obtain ⟨rfl, rfl⟩ := e
    refine ⟨_, rfl, tos (h1 k ρ μ hk' hI) (fun ρ2 μ2 h => ⟨n, k + 1, rfl, hk', h, h1, h2⟩) (fun _ _ z => z) (fun _ _ z => z) (fun ρ2 μ2 h => ⟨n, k + 1, rfl, hk', h, h1, h2⟩) fun _ _ _ _ z => z⟩
  · rintro ρ μ ⟨n, k, e, hk, hI, h1, h2⟩
    have hn : n ≤ k := by
      have := congrArg List.length e
      simp at this
      omega
    have : k = n := by omega
    subst this
    exact h2 ρ μ hI
/-- while: the invariant by the turns that are left -/
theorem w_while {b : MS} (I : Nat → En → List MO → Prop) (k n0 : Nat) (h0 : I k ρ μ) (hn : k < n0)
    (h : ∀ k ρ μ, I k ρ μ → (c ρ μ).to (fun t μ1 => (t = false → N ρ μ1) ∧ (t = true → ∃ k', k = k' + 1 ∧ (b ρ μ1).to (fun ρ2 μ2 => ∃ k2, k2 ≤ k' ∧ I k2 ρ2 μ2) R (fun ρ2 μ2 => N ρ2 μ2) (fun ρ2 μ2 => ∃ k2, k2 ≤ k' ∧ I k2 ρ2 μ2) EE)) (fun c fs μ1 => EE c fs ρ μ1)) : (whileM n0 c b ρ μ).to N R B C EE := by
  induction n0 generalizing k ρ μ with
  | zero => omega
  | succ n0 ih =>
    unfold whileM
    refine to_stm (tom (h k ρ μ h0) (fun t μ1 ht => ?_) fun _ _ _ z => z)
    cases t with
    | false => exact ht.1 rfl
    | true =>
      obtain ⟨k', e, hb⟩ := ht.2 rfl
      simp only [if_true]
      have go : ∀ ρ2 μ2, (∃ k2, k2 ≤ k' ∧ I k2 ρ2 μ2) → (whileM n0 c b ρ2 μ2).to N R B C EE := fun ρ2 μ2 ⟨k2, h1, h2⟩ => ih k2 h2 (by omega)
      cases q : b ρ μ1 with
      | nx ρ2 μ2 => rw [q] at hb; exact go _ _ hb
      | ct ρ2 μ2 => rw [q] at hb; exact go _ _ hb
      | bk ρ2 μ2 => rw [q] at hb; exact hb
      | rt v μ2 => rw [q] at hb; exact hb
      | exc c fs ρ2 μ2 => rw [q] at hb; exact hb
      | bad => rw [q] at hb; exact hb.elim
end
/-! expressions -/
section
variable {K : MV → List MO → Prop} {KT : Bool → List MO → Prop} {KA : List MV → List MO → Prop} {KL : List D → List MO → Prop} {KI : List D × Option Nat → List MO → Prop} {E : Addr → List (Str × D) → List MO → Prop} {ρ ρ1 : En} {μ μ1 μ2 : List MO} {ma mb mc : ME} {ms mk : MA} {ml : ML} {c c2 : MT} {g g' : D → D → Option D} {g1 : D → Option D} {gn : List D → Option D} {i j l k : Nat} {v a b : MV} {x y z : D} {as : List MV} {xs ys : List D} {F : MF} {n : Nat}
theorem e_var (h : ρ[i]? = some (some v)) (k : K v μ) : (mVar i ρ μ).to K E := by unfold mVar; rw [h]; exact k
theorem e_c (k : K (.d x) μ) : (mC x ρ μ).to K E := k
theorem e_bin (h : (ma ρ μ).to (fun a μ1 => (mb ρ μ1).to (fun b μ2 => (op2 g a b μ2).to K E) E) E) : (mBin g ma mb ρ μ).to K E := to_bind (tom h (fun _ _ h => to_bind h) fun _ _ _ z => z)
theorem e_op2 (va : view μ a = some x) (vb : view μ b = some y) (hg : g x y = some z) (k : K (.d z) μ) : (op2 g a b μ).to K E := by unfold op2; rw [va, vb]; simp only [hg]; exact k
theorem e_un (h : (ma ρ μ).to (fun a μ1 => (op1 g1 a μ1).to K E) E) : (mUn g1 ma ρ μ).to K E := to_bind h
theorem e_op1 (va : view μ a = some x) (hg : g1 x = some z) (k : K (.d z) μ) : (op1 g1 a μ).to K E := by unfold op1; rw [va]; simp only [hg]; exact k
theorem e_n (h : (ms ρ μ).to (fun as μ1 => (opN gn as μ1).to K E) E) : (mN gn ms ρ μ).to K E := to_bind h
theorem e_opN (va : views μ as = some xs) (hg : gn xs = some z) (k : K (.d z) μ) : (opN gn as μ).to K E := by unfold opN; rw [va]; simp only [hg]; exact k
theorem e_nil (k : KA [] μ) : (mNil ρ μ).to KA E := k
theorem e_cons (h : (ma ρ μ).to (fun a μ1 => (ms ρ μ1).to (fun as μ2 => KA (a :: as) μ2) E) E) : (mCons ma ms ρ μ).to KA E := to_bind (tom h (fun _ _ h => to_bind h) fun _ _ _ z => z)
theorem e_tup (h : (ms ρ μ).to (fun as μ1 => ∃ xs, datas as = some xs ∧ xs.length ≤ sizeLine ∧ K (.d (.tup xs)) μ1) E) : (mTup ms ρ μ).to K E := to_bind (tom h (fun _ _ ⟨xs, h1, h2, h3⟩ => by unfold mkTup; rw [h1]; simp only [if_pos h2]; exact h3) fun _ _ _ z => z)
theorem e_call (h : (ms ρ μ).to (fun as μ1 => as.length = n ∧ (callF F as μ1).to K E) E) : (mCall F n ms ρ μ).to K E := to_bind (tom h (fun _ _ ⟨h1, h2⟩ => by rw [if_pos h1]; exact h2) fun _ _ _ z => z)
theorem e_callZ (h : (ms ρ μ).to (fun as μ1 => ∃ ds, views μ1 as = some ds ∧ ds.length = n ∧ (F (ds.map .d) []).to (fun v _ => ∃ d, v = .d d ∧ okD ds d = true ∧ K (.d d) μ1) no3) E) : (mCallZ F n ms ρ μ).to K E := by
  refine to_bind (tom h (fun as μ1 ⟨ds, h1, h2, h3⟩ => ?_) fun _ _ _ z => z)
  rw [h1]
  simp only [if_pos h2]
  obtain ⟨v, μ', e, d, rfl, h4, h5⟩ := ok_to h3
  unfold zRes
  rw [e]
  simp only [if_pos h4]
  exact h5
theorem e_t (h : (ma ρ μ).to (fun v μ1 => (tru v μ1).to KT E) E) : (mT ma ρ μ).to KT E := to_bind h
theorem e_tru {t : Bool} (hv : view μ v = some x) (ht : truD x = some t) (k : KT t μ) : (tru v μ).to KT E := by unfold tru; rw [hv]; simp only [ht]; exact k
theorem e_b (h : (ma ρ μ).to (fun v μ1 => (bool? v μ1).to KT E) E) : (mB ma ρ μ).to KT E := to_bind h
theorem e_bl {t : Bool} (k : KT t μ) : (bool? (.d (.bl t)) μ).to KT E := k
theorem e_and (h : (c ρ μ).to (fun t μ1 => (t = true → (c2 ρ μ1).to KT E) ∧ (t = false → KT false μ1)) E) : (mAnd c c2 ρ μ).to KT E := to_bind (tom h (fun t μ1 h => by cases t with | true => exact h.1 rfl | false => exact h.2 rfl) fun _ _ _ z => z)
theorem e_or (h : (c ρ μ).to (fun t μ1 => (t = true → KT true μ1) ∧ (t = false → (c2 ρ μ1).to KT E)) E) : (mOr c c2 ρ μ).to KT E := to_bind (tom h (fun t μ1 h => by cases t with | true => exact h.1 rfl | false => exact h.2 rfl) fun _ _ _ z => z)
theorem e_not (h : (c ρ μ).to (fun t μ1 => KT (!t) μ1) E) : (mNot c ρ μ).to KT E := to_bind h
theorem e_if (h : (c ρ μ).to (fun t μ1 => (t = true → (ma ρ μ1).to K E) ∧ (t = false → (mb ρ μ1).to K E)) E) : (mIf c ma mb ρ μ).to K E := to_bind (tom h (fun t μ1 h => by cases t with | true => exact h.1 rfl | false => exact h.2 rfl) fun _ _ _ z => z)
theorem e_andv (h : (ma ρ μ).to (fun v μ1 => ∃ t, v = .d (.bl t) ∧ (t = true → (mb ρ μ1).to K E) ∧ (t = false → K (.d (.bl false)) μ1)) E) : (mAndV ma mb ρ μ).to K E := to_bind (tom h (fun v μ1 ⟨t, e, h⟩ => by subst e; cases t with | true => exact h.1 rfl | false => exact h.2 rfl) fun _ _ _ z => z)
theorem e_orv (h : (ma ρ μ).to (fun v μ1 => ∃ t, v = .d (.bl t) ∧ (t = true → K (.d (.bl true)) μ1) ∧ (t = false → (mb ρ μ1).to K E)) E) : (mOrV ma mb ρ μ).to K E := to_bind (tom h (fun v μ1 ⟨t, e, h⟩ => by subst e; cases t with | true => exact h.1 rfl | false => exact h.2 rfl) fun _ _ _ z => z)
theorem e_chain (h : (ma ρ μ).to (fun a μ1 => (mb ρ μ1).to (fun b μ2 => (op2 g a b μ2).to (fun k μ3 => ∃ t, k = .d (.bl t) ∧ (t = true → (mc ρ μ3).to (fun c μ4 => (op2 g' b c μ4).to K E) E) ∧ (t = false → K (.d (.bl false)) μ3)) E) E) E) : (mChain g g' ma mb mc ρ μ).to K E :=
  to_bind (tom h (fun _ _ h => to_bind (tom h (fun _ _ h => to_bind (tom h (fun v μ3 ⟨t, e, h⟩ => by subst e; cases t with | true => exact to_bind (h.1 rfl) | false => exact h.2 rfl) fun _ _ _ z => z)) fun _ _ _ z => z)) fun _ _ _ z => z)
theorem e_fz (h : (ml ρ μ).to (fun xs μ1 => K (.d (.lst xs)) μ1) E) : (mFz ml ρ μ).to K E := to_bind h
theorem e_own (h : (ml ρ μ).to (fun xs μ1 => K (.ref μ1.length) (μ1 ++ [.lst xs])) E) : (mOwn ml ρ μ).to K E := to_bind h
theorem e_lst (h : (ms ρ μ).to (fun as μ1 => ∃ xs, datas as = some xs ∧ xs.length ≤ sizeLine ∧ KL xs μ1) E) : (mLst ms ρ μ).to KL E := to_bind (tom h (fun _ _ ⟨xs, h1, h2, h3⟩ => by rw [h1]; simp only [if_pos h2]; exact h3) fun _ _ _ z => z)
theorem e_nl {gl : List D → Option (List D)} (h : (ms ρ μ).to (fun as μ1 => ∃ xs ys, views μ1 as = some xs ∧ gl xs = some ys ∧ KL ys μ1) E) : (mNL gl ms ρ μ).to KL E := to_bind (tom h (fun _ _ ⟨xs, ys, h1, h2, h3⟩ => by unfold opNL; rw [h1]; simp only [h2]; exact h3) fun _ _ _ z => z)
theorem e_binl {gl : D → D → Option (List D)} (h : (ma ρ μ).to (fun a μ1 => (mb ρ μ1).to (fun b μ2 => ∃ x y zs, view μ2 a = some x ∧ view μ2 b = some y ∧ gl x y = some zs ∧ KL zs μ2) E) E) : (mBinL gl ma mb ρ μ).to KL E := to_bind (tom h (fun _ _ h => to_bind (tom h (fun _ _ ⟨x, y, zs, h1, h2, h3, h4⟩ => by unfold op2L; rw [h1, h2]; simp only [h3]; exact h4) fun _ _ _ z => z)) fun _ _ _ z => z)
theorem e_mut {f : Mut1} (h : (ma ρ μ).to (fun v μ1 => ∃ p, v = .ref p ∧ isLst μ1 p = true ∧ (ms ρ μ1).to (fun as μ2 => ∃ xs ys rt zs, datas as = some xs ∧ μ2[p]? = some (.lst ys) ∧ f ys xs = some (rt, zs) ∧ K (.d rt) (μ2.set p (.lst zs))) E) E) : (mMut f ma ms ρ μ).to K E :=
  to_bind (tom h (fun v μ1 ⟨p, e, h1, h⟩ => by
    subst e
    simp only [h1, if_true]
    exact to_bind (tom h (fun as μ2 ⟨xs, ys, rt, zs, h2, h3, h4, h5⟩ => by unfold mutL; rw [h2]; simp only [h3, h4]; exact h5) fun _ _ _ z => z)) fun _ _ _ z => z)
theorem e_fld {C0 : Addr} {f : Str} (h : (ma ρ μ).to (fun v μ1 => (fldOf C0 f v μ1).to K E) E) : (mFld C0 f ma ρ μ).to K E := to_bind h
theorem e_mkF {C0 : Addr} (h : (ms ρ μ).to (fun as μ1 => (mkF C0 F n as μ1).to K E) E) : (mMkF C0 F n ms ρ μ).to K E := to_bind h
theorem e_it (h : (ma ρ μ).to (fun v μ1 => (itemsOf v μ1).to KI E) E) : (mIt ma ρ μ).to KI E := to_bind h
theorem e_ita {kk : List MV → List MO → Res (List D × Option Nat)} (h : (ms ρ μ).to (fun v μ1 => (kk v μ1).to KI E) E) : (mItA kk ms ρ μ).to KI E := to_bind h
theorem e_pn {KP : Option Int → List MO → Prop} (k : KP none μ) : (pNone ρ μ).to KP E := k
theorem e_ps {KP : Option Int → List MO → Prop} (h : (ma ρ μ).to (fun v μ1 => ∃ i : Int, v = .d (.int i) ∧ KP (some i) μ1) E) : (pSome ma ρ μ).to KP E := to_bind (tom h (fun v μ1 ⟨i, e, h⟩ => by subst e; exact h) fun _ _ _ z => z)
theorem e_slice {pl ph : MP} (h : (ma ρ μ).to (fun v μ1 => (pl ρ μ1).to (fun l μ2 => (ph ρ μ2).to (fun h μ3 => (op1 (fun d => sliceD d l h) v μ3).to K E) E) E) E) : (mSlice ma pl ph ρ μ).to K E :=
  to_bind (tom h (fun _ _ h => to_bind (tom h (fun _ _ h => to_bind h) fun _ _ _ z => z)) fun _ _ _ z => z)
theorem e_lenset {f1 : Int} (h : (ma ρ μ).to (fun v μ1 => ∃ d z, view μ1 v = some d ∧ lenSetD d = some z ∧ K (.d z) μ1) E) : (mLenSet ma ρ μ).to K E := to_bind (tom h (fun v μ1 ⟨d, z, h1, h2, h3⟩ => by rw [h1]; simp only [h2]; exact h3) fun _ _ _ z => z)
/-- a list comprehension: the invariant by what is left and what was found -/
theorem e_lc {mi : MI} {gm : MG} {vs : List Nat} {el : ME} (I : List D → List D → List MO → Prop) (h : (mi ρ μ).to (fun q μ1 => q.2 = none ∧ q.1.length ≤ sizeLine ∧ I q.1 [] μ1 ∧ (∀ x xs acc μ, I (x :: xs) acc μ → ∃ ρ1, gm (.d x) (wipeM ρ vs) = some ρ1 ∧ (el ρ1 μ).to (fun v μ2 => ∃ d, v = .d d ∧ I xs (acc ++ [d]) μ2) no3) ∧ (∀ acc μ, I [] acc μ → KL acc μ)) E) : (mLC mi gm mYes el vs ρ μ).to KL E := by
  unfold mLC
  refine to_bind (tom h (fun q μ1 h => ?_) fun _ _ _ z => z)
  obtain ⟨hq, hl, h0, h1, h2⟩ := h
  rw [if_pos hl]
  have go : ∀ (xs acc : List D) (μ : List MO), I xs acc μ → (lcD q gm mYes el (wipeM ρ vs) xs acc μ).to KL E := by
    intro xs
    induction xs with
    | nil =>
      intro acc μ hI
      unfold lcD chk
      rw [hq]
      exact h2 acc μ hI
    | cons x xs ih =>
      intro acc μ hI
      obtain ⟨ρ1, e, hb⟩ := h1 x xs acc μ hI
      obtain ⟨v, μ2, e2, d, rfl, hI2⟩ := ok_to hb
      unfold lcD chk
      rw [hq, e]
      simp only [if_true, mYes, Res.calm, Res.bind_ok, e2]
      exact ih _ _ hI2
  exact go q.1 [] μ1 h0
end
/-! the same, step by step -/
section
variable {α : Type} {K : MV → List MO → Prop} {KT : Bool → List MO → Prop} {KA : List MV → List MO → Prop} {KL : List D → List MO → Prop} {KI : List D × Option Nat → List MO → Prop} {E : Addr → List (Str × D) → List MO → Prop} {ρ ρ' : En} {μ μ1 μ2 : List MO} {ma mb mc : ME} {ms mk : MA} {ml : ML} {c c2 : MT} {g g' : D → D → Option D} {i j l k p : Nat} {v w a b : MV} {x y z rt : D} {as : List MV} {xs ys zs ds : List D} {F : MF} {n : Nat} {t : Bool} {A A' : Prop}
def kCall (F : MF) (n : Nat) (K : MV → List MO → Prop) (E : Addr → List (Str × D) → List MO → Prop) : List MV → List MO → Prop := fun as μ => as.length = n ∧ (callF F as μ).to K E
theorem z_call (h : (ms ρ μ).to (kCall F n K E) E) : (mCall F n ms ρ μ).to K E := e_call h
theorem k_call (h1 : as.length = n) (h : (callF F as μ).to K E) : kCall F n K E as μ := ⟨h1, h⟩
def kTup (K : MV → List MO → Prop) : List MV → List MO → Prop := fun as μ1 => ∃ xs, datas as = some xs ∧ xs.length ≤ sizeLine ∧ K (.d (.tup xs)) μ1
theorem z_tup (h : (ms ρ μ).to (kTup K) E) : (mTup ms ρ μ).to K E := e_tup h
theorem k_tup (h1 : datas as = some xs) (h2 : xs.length ≤ sizeLine) (h : K (.d (.tup xs)) μ) : kTup K as μ := ⟨xs, h1, h2, h⟩
def kLst (K : List D → List MO → Prop) : List MV → List MO → Prop := fun as μ1 => ∃ xs, datas as = some xs ∧ xs.length ≤ sizeLine ∧ K xs μ1
theorem z_lst (h : (ms ρ μ).to (kLst KL) E) : (mLst ms ρ μ).to KL E := e_lst h
theorem k_lst (h1 : datas as = some xs) (h2 : xs.length ≤ sizeLine) (h : KL xs μ) : kLst KL as μ := ⟨xs, h1, h2, h⟩
def kBl (P : Bool → List MO → Prop) : MV → List MO → Prop := fun v μ => ∃ t, v = .d (.bl t) ∧ P t μ
theorem k_bl {P : Bool → List MO → Prop} (h : P t μ) : kBl P (.d (.bl t)) μ := ⟨t, rfl, h⟩
def kBr (P Q : List MO → Prop) : Bool → List MO → Prop := fun t μ => (t = true → P μ) ∧ (t = false → Q μ)
theorem br_t {P Q : List MO → Prop} (h : P μ) : kBr P Q true μ := ⟨fun _ => h, fun z => by cases z⟩
theorem br_f {P Q : List MO → Prop} (h : Q μ) : kBr P Q false μ := ⟨(fun z => by cases z), fun _ => h⟩
theorem br_ok {P Q : List MO → Prop} (h1 : t = true → P μ) (h2 : t = false → Q μ) : kBr P Q t μ := ⟨h1, h2⟩
theorem z_andv (h : (ma ρ μ).to (kBl (kBr (fun μ1 => (mb ρ μ1).to K E) (fun μ1 => K (.d (.bl false)) μ1))) E) : (mAndV ma mb ρ μ).to K E := e_andv h
theorem z_orv (h : (ma ρ μ).to (kBl (kBr (fun μ1 => K (.d (.bl true)) μ1) (fun μ1 => (mb ρ μ1).to K E))) E) : (mOrV ma mb ρ μ).to K E := e_orv h
theorem z_and (h : (c ρ μ).to (kBr (fun μ1 => (c2 ρ μ1).to KT E) (fun μ1 => KT false μ1)) E) : (mAnd c c2 ρ μ).to KT E := e_and h
theorem z_or (h : (c ρ μ).to (kBr (fun μ1 => KT true μ1) (fun μ1 => (c2 ρ μ1).to KT E)) E) : (mOr c c2 ρ μ).to KT E := e_or h
theorem z_if (h : (c ρ μ).to (kBr (fun μ1 => (ma ρ μ1).to K E) (fun μ1 => (mb ρ μ1).to K E)) E) : (mIf c ma mb ρ μ).to K E := e_if h
def kNot (KT : Bool → List MO → Prop) : Bool → List MO → Prop := fun t μ => KT (!t) μ
theorem z_not (h : (c ρ μ).to (kNot KT) E) : (mNot c ρ μ).to KT E := e_not h
theorem k_not_t (h : KT false μ) : kNot KT true μ := h
theorem k_not_f (h : KT true μ) : kNot KT false μ := h
theorem k_not (h : KT (!t) μ) : kNot KT t μ := h
theorem z_chain (h : (ma ρ μ).to (fun a μ1 => (mb ρ μ1).to (fun b μ2 => (op2 g a b μ2).to (kBl (kBr (fun μ3 => (mc ρ μ3).to (fun c μ4 => (op2 g' b c μ4).to K E) E) (fun μ3 => K (.d (.bl false)) μ3))) E) E) E) : (mChain g g' ma mb mc ρ μ).to K E := e_chain h
def kNl (gl : List D → Option (List D)) (KL : List D → List MO → Prop) : List MV → List MO → Prop := fun as μ1 => ∃ xs ys, views μ1 as = some xs ∧ gl xs = some ys ∧ KL ys μ1
theorem z_nl {gl : List D → Option (List D)} (h : (ms ρ μ).to (kNl gl KL) E) : (mNL gl ms ρ μ).to KL E := e_nl h
theorem k_nl {gl : List D → Option (List D)} (h1 : views μ as = some xs) (h2 : gl xs = some ys) (h : KL ys μ) : kNl gl KL as μ := ⟨xs, ys, h1, h2, h⟩
def kBinl (gl : D → D → Option (List D)) (KL : List D → List MO → Prop) (a : MV) : MV → List MO → Prop := fun b μ2 => ∃ x y zs, view μ2 a = some x ∧ view μ2 b = some y ∧ gl x y = some zs ∧ KL zs μ2
theorem z_binl {gl : D → D → Option (List D)} (h : (ma ρ μ).to (fun a μ1 => (mb ρ μ1).to (kBinl gl KL a) E) E) : (mBinL gl ma mb ρ μ).to KL E := e_binl h
theorem k_binl {gl : D → D → Option (List D)} (h1 : view μ a = some x) (h2 : view μ b = some y) (h3 : gl x y = some zs) (h : KL zs μ) : kBinl gl KL a b μ := ⟨x, y, zs, h1, h2, h3, h⟩
def kMut2 (f : Mut1) (p : Nat) (K : MV → List MO → Prop) : List MV → List MO → Prop := fun as μ2 => ∃ xs ys rt zs, datas as = some xs ∧ μ2[p]? = some (.lst ys) ∧ f ys xs = some (rt, zs) ∧ K (.d rt) (μ2.set p (.lst zs))
def kMut (f : Mut1) (ms : MA) (ρ : En) (K : MV → List MO → Prop) (E : Addr → List (Str × D) → List MO → Prop) : MV → List MO → Prop := fun v μ1 => ∃ p, v = .ref p ∧ isLst μ1 p = true ∧ (ms ρ μ1).to (kMut2 f p K) E
theorem z_mut {f : Mut1} (h : (ma ρ μ).to (kMut f ms ρ K E) E) : (mMut f ma ms ρ μ).to K E := e_mut h
theorem k_mut {f : Mut1} (h1 : isLst μ p = true) (h : (ms ρ μ).to (kMut2 f p K) E) : kMut f ms ρ K E (.ref p) μ := ⟨p, rfl, h1, h⟩
theorem k_mut2 {f : Mut1} (h1 : datas as = some xs) (h2 : μ[p]? = some (.lst ys)) (h3 : f ys xs = some (rt, zs)) (h : K (.d rt) (μ.set p (.lst zs))) : kMut2 f p K as μ := ⟨xs, ys, rt, zs, h1, h2, h3, h⟩
def kPs (KP : Option Int → List MO → Prop) : MV → List MO → Prop := fun v μ1 => ∃ i : Int, v = .d (.int i) ∧ KP (some i) μ1
theorem z_ps {KP : Option Int → List MO → Prop} (h : (ma ρ μ).to (kPs KP) E) : (pSome ma ρ μ).to KP E := e_ps h
theorem k_ps {KP : Option Int → List MO → Prop} {i : Int} (h : KP (some i) μ) : kPs KP (.d (.int i)) μ := ⟨i, rfl, h⟩
def kLset (K : MV → List MO → Prop) : MV → List MO → Prop := fun v μ1 => ∃ d z, view μ1 v = some d ∧ lenSetD d = some z ∧ K (.d z) μ1
theorem z_lset (h : (ma ρ μ).to (kLset K) E) : (mLenSet ma ρ μ).to K E := e_lenset (f1 := 0) h
theorem k_lset (h1 : view μ v = some x) (h2 : lenSetD x = some z) (h : K (.d z) μ) : kLset K v μ := ⟨x, z, h1, h2, h⟩
def kCallZ (F : MF) (n : Nat) (K : MV → List MO → Prop) : List MV → List MO → Prop := fun as μ1 => ∃ ds, views μ1 as = some ds ∧ ds.length = n ∧ (F (ds.map .d) []).to (fun v _ => ∃ d, v = .d d ∧ okD ds d = true ∧ K (.d d) μ1) no3
theorem z_callZ (h : (ms ρ μ).to (kCallZ F n K) E) : (mCallZ F n ms ρ μ).to K E := e_callZ h
theorem k_callZ {μ' : List MO} (h1 : views μ as = some ds) (h2 : ds.length = n) (h3 : F (ds.map .d) [] = .ok (.d x) μ') (h4 : okD ds x = true) (h : K (.d x) μ) : kCallZ F n K as μ := ⟨ds, h1, h2, to_ok h3 ⟨x, rfl, h4, h⟩⟩
end
section
variable {N : En → List MO → Prop} {R : MV → List MO → Prop} {B C : En → List MO → Prop} {EE : Addr → List (Str × D) → En → List MO → Prop} {m n : MS} {ρ ρ1 ρ' : En} {μ μ1 μ2 : List MO} {ma mb mc : ME} {ms mk : MA} {c c2 : MT} {i j l : Nat} {v w u a : MV} {as : List MV} {ds : List D} {ix : MV}
theorem z_ifs (h : (c ρ μ).to (kBr (fun μ1 => (m ρ μ1).to N R B C EE) (fun μ1 => (n ρ μ1).to N R B C EE)) (fun c fs μ1 => EE c fs ρ μ1)) : (mIfS c m n ρ μ).to N R B C EE := w_ifs h
def kAsg (g : MG) (ρ : En) (N : En → List MO → Prop) : MV → List MO → Prop := fun v μ1 => ∃ ρ', g v ρ = some ρ' ∧ N ρ' μ1
theorem z_asg {g : MG} (h : (ma ρ μ).to (kAsg g ρ N) (fun c fs μ1 => EE c fs ρ μ1)) : (mAsg ma g ρ μ).to N R B C EE := w_asg h
theorem k_asg {g : MG} (h1 : g v ρ = some ρ') (h : N ρ' μ) : kAsg g ρ N v μ := ⟨ρ', h1, h⟩
def kPar (P : List MV → List MO → Prop) : List MV → List MO → Prop := P
def kPar2 (i j : Nat) (ρ : En) (N : En → List MO → Prop) : List MV → List MO → Prop := fun vs μ1 => ∃ v w, vs = [v, w] ∧ N ((ρ.set i (some v)).set j (some w)) μ1
theorem z_par2 (h : (ms ρ μ).to (kPar2 i j ρ N) (fun c fs μ1 => EE c fs ρ μ1)) : (mPar2 i j ms ρ μ).to N R B C EE := w_par2 h
theorem k_par2 (h : N ((ρ.set i (some v)).set j (some w)) μ) : kPar2 i j ρ N [v, w] μ := ⟨v, w, rfl, h⟩
def kPar3 (i j l : Nat) (ρ : En) (N : En → List MO → Prop) : List MV → List MO → Prop := fun vs μ1 => ∃ v w z, vs = [v, w, z] ∧ N (((ρ.set i (some v)).set j (some w)).set l (some z)) μ1
theorem z_par3 (h : (ms ρ μ).to (kPar3 i j l ρ N) (fun c fs μ1 => EE c fs ρ μ1)) : (mPar3 i j l ms ρ μ).to N R B C EE := w_par3 h
theorem k_par3 (h : N (((ρ.set i (some v)).set j (some w)).set l (some u)) μ) : kPar3 i j l ρ N [v, w, u] μ := ⟨v, w, u, rfl, h⟩
def kParN (is : List Nat) (ρ : En) (N : En → List MO → Prop) : List MV → List MO → Prop := fun vs μ1 => vs.length = is.length ∧ is.length ≤ 100 ∧ N (setMV ρ is vs) μ1
theorem z_parN {is : List Nat} (h : (ms ρ μ).to (kParN is ρ N) (fun c fs μ1 => EE c fs ρ μ1)) : (mParN is ms ρ μ).to N R B C EE := w_parN h
theorem k_parN {is : List Nat} (h1 : as.length = is.length) (h2 : is.length ≤ 100) (h : N (setMV ρ is as) μ) : kParN is ρ N as μ := ⟨h1, h2, h⟩
def kIx (o v : MV) (ρ : En) (N : En → List MO → Prop) : MV → List MO → Prop := fun i μ3 => ∃ μ4, putL o i v μ3 = some μ4 ∧ N ρ μ4
theorem z_setix {mv mo mi : ME} (h : (mv ρ μ).to (fun v μ1 => (mo ρ μ1).to (fun o μ2 => (mi ρ μ2).to (kIx o v ρ N) (fun c fs μ1 => EE c fs ρ μ1)) (fun c fs μ1 => EE c fs ρ μ1)) (fun c fs μ1 => EE c fs ρ μ1)) : (mSetIx mv mo mi ρ μ).to N R B C EE := w_setix h
theorem k_setix (h1 : putL a ix v μ = some μ1) (h : N ρ μ1) : kIx a v ρ N ix μ := ⟨μ1, h1, h⟩
def kSf (C0 : Addr) (f : Str) (v : MV) (ρ : En) (N : En → List MO → Prop) : MV → List MO → Prop := fun o μ2 => ∃ μ4, putFld C0 f v o μ2 = some μ4 ∧ N ρ μ4
theorem z_setf {C0 : Addr} {f : Str} {mv mo : ME} (h : (mv ρ μ).to (fun v μ1 => (mo ρ μ1).to (kSf C0 f v ρ N) (fun c fs μ1 => EE c fs ρ μ1)) (fun c fs μ1 => EE c fs ρ μ1)) : (mSetF C0 f mv mo ρ μ).to N R B C EE := w_setf h
theorem k_setf {C0 : Addr} {f : Str} (h1 : putFld C0 f v a μ = some μ1) (h : N ρ μ1) : kSf C0 f v ρ N a μ := ⟨μ1, h1, h⟩
def kRaise (C0 : Addr) (ks : List Str) (ρ : En) (EE : Addr → List (Str × D) → En → List MO → Prop) : List MV → List MO → Prop := fun as μ1 => ∃ ds, datas as = some ds ∧ ds.length = ks.length ∧ EE C0 (ks.zip ds).reverse ρ μ1
theorem z_raise {C0 : Addr} {ks : List Str} (h : (ms ρ μ).to (kRaise C0 ks ρ EE) (fun c fs μ1 => EE c fs ρ μ1)) : (mRaise C0 ks ms ρ μ).to N R B C EE := w_raise h
theorem k_raise {C0 : Addr} {ks : List Str} (h1 : datas as = some ds) (h2 : ds.length = ks.length) (h : EE C0 (ks.zip ds).reverse ρ μ) : kRaise C0 ks ρ EE as μ := ⟨ds, h1, h2, h⟩
def kMatch (r : MM) (ρ : En) (N : En → List MO → Prop) (R : MV → List MO → Prop) (B C : En → List MO → Prop) (EE : Addr → List (Str × D) → En → List MO → Prop) : MV → List MO → Prop := fun v μ1 => ∃ d, v = .d d ∧ (r d ρ μ1).to N R B C EE
theorem z_match {r : MM} (h : (ma ρ μ).to (kMatch r ρ N R B C EE) (fun c fs μ1 => EE c fs ρ μ1)) : (mMatch ma r ρ μ).to N R B C EE := w_match h
theorem k_match {r : MM} {d : D} (h : (r d ρ μ).to N R B C EE) : kMatch r ρ N R B C EE (.d d) μ := ⟨d, rfl, h⟩
end
/-- the end of a def -/
theorem fn_to {fz : Bool} {n : Nat} {m : MS} {as : List MV} {μ : List MO} {Q : MV → List MO → Prop} {X : Addr → List (Str × D) → List MO → Prop}
    (h : (m (as.map some ++ List.replicate (n - as.length) none) μ).to (fun _ μ' => trimmable μ.length (.d .non) μ' = true ∧ Q (.d .non) (μ'.take μ.length)) (fun v μ' => ∃ d, v = .d d ∧ trimmable μ.length (.d d) μ' = true ∧ Q (.d d) (μ'.take μ.length)) (fun _ _ => False) (fun _ _ => False) (fun c fs _ μ' => trimmable μ.length (.d .non) μ' = true ∧ X c fs (μ'.take μ.length))) : (fnT fz n m as μ).to Q X := by
  unfold fnT
  cases q : m (as.map some ++ List.replicate (n - as.length) none) μ with
  | nx ρ' μ' => rw [q] at h; simp only [SR.finT, trim, if_pos h.1]; exact h.2
  | rt v μ' =>
    rw [q] at h
    obtain ⟨d, rfl, h1, h2⟩ := h
    simp only [SR.finT, trim, if_pos h1]; exact h2
  | exc c fs ρ' μ' => rw [q] at h; simp only [SR.finT, trimX, if_pos h.1]; exact h.2
  | bk ρ' μ' => rw [q] at h; exact h.elim
  | ct ρ' μ' => rw [q] at h; exact h.elim
  | bad => rw [q] at h; exact h.elim
/-- the end of a def that hands out a new list as data -/
theorem fn_toL {n : Nat} {m : MS} {as : List MV} {μ : List MO} {Q : MV → List MO → Prop}
    (h : (m (as.map some ++ List.replicate (n - as.length) none) μ).to (fun _ _ => False) (fun v μ' => ∃ k xs, v = .ref k ∧ μ.length ≤ k ∧ μ'[k]? = some (.lst xs) ∧ trimmable μ.length (.d (.lst xs)) μ' = true ∧ Q (.d (.lst xs)) (μ'.take μ.length)) (fun _ _ => False) (fun _ _ => False) (fun _ _ _ _ => False)) : (fnT true n m as μ).to Q no3 := by
  unfold fnT
  cases q : m (as.map some ++ List.replicate (n - as.length) none) μ with
  | rt v μ' =>
    rw [q] at h
    obtain ⟨k, xs, rfl, h0, h1, h2, h3⟩ := h
    simp only [SR.finT]
    rw [if_pos ⟨True.intro, h0⟩]
    simp only [h1, trimB, if_pos h2]; exact h3
  | nx ρ' μ' => rw [q] at h; exact h.elim
  | exc c fs ρ' μ' => rw [q] at h; exact h.elim
  | bk ρ' μ' => rw [q] at h; exact h.elim
  | ct ρ' μ' => rw [q] at h; exact h.elim
  | bad => rw [q] at h; exact h.elim
theorem view_lst {μ : List MO} {n : Nat} {xs : List D} (h : μ[n]? = some (.lst xs)) : view μ (.ref n) = some (.lst xs) := by simp only [view, h]
theorem isLst_of {μ : List MO} {n : Nat} {xs : List D} (h : μ[n]? = some (.lst xs)) : isLst μ n = true := by unfold isLst; rw [h]
/-! the store: what was there, then the lists of this turn -/
section
variable {μ r : List MO} {o o' p q s : MO}
theorem at0 : (μ ++ o :: r)[μ.length]? = some o := by simp
theorem at1 : (μ ++ o :: p :: r)[μ.length + 1]? = some p := by simp
theorem at2 : (μ ++ o :: p :: q :: r)[μ.length + 2]? = some q := by simp
theorem at3 : (μ ++ o :: p :: q :: s :: r)[μ.length + 3]? = some s := by simp
theorem set0 : (μ ++ o :: r).set μ.length o' = μ ++ o' :: r := by simp
theorem set1 : (μ ++ o :: p :: r).set (μ.length + 1) o' = μ ++ o :: o' :: r := by simp
theorem set2 : (μ ++ o :: p :: q :: r).set (μ.length + 2) o' = μ ++ o :: p :: o' :: r := by simp
theorem set3 : (μ ++ o :: p :: q :: s :: r).set (μ.length + 3) o' = μ ++ o :: p :: q :: o' :: r := by simp
end
theorem views1 {μ : List MO} {a : MV} {x : D} (h : view μ a = some x) : views μ [a] = some [x] := by simp only [views, h]
theorem views2 {μ : List MO} {a b : MV} {x y : D} (h : view μ a = some x) (h2 : view μ b = some y) : views μ [a, b] = some [x, y] := by simp only [views, h, h2]
theorem k_mut2s {f : Mut1} {p : Nat} {K : MV → List MO → Prop} {as : List MV} {μ μ' : List MO} {xs ys zs : List D} {rt : D} (h1 : datas as = some xs) (h2 : μ[p]? = some (.lst ys)) (h3 : f ys xs = some (rt, zs)) (hs : μ.set p (.lst zs) = μ') (h : K (.d rt) μ') : kMut2 f p K as μ := ⟨xs, ys, rt, zs, h1, h2, h3, by rw [hs]; exact h⟩
end TT

namespace TT
open PySem L2
variable [TB]
theorem w_cut {r : SR} {N : En → List MO → Prop} {R : MV → List MO → Prop} {B C : En → List MO → Prop} {EE : Addr → List (Str × D) → En → List MO → Prop} (P : En → List MO → Prop) (h1 : r.to P (fun _ _ => False) (fun _ _ => False) (fun _ _ => False) (fun _ _ _ _ => False)) (h2 : ∀ ρ μ, P ρ μ → N ρ μ) : r.to N R B C EE :=
  tos h1 h2 (fun _ _ z => z.elim) (fun _ _ z => z.elim) (fun _ _ z => z.elim) (fun _ _ _ _ z => z.elim)
theorem e_cut {α : Type} {r : Res α} {K : α → List MO → Prop} {E : Addr → List (Str × D) → List MO → Prop} (P : α → List MO → Prop) (h1 : r.to P no3) (h2 : ∀ v μ, P v μ → K v μ) : r.to K E := tom h1 h2 (fun _ _ _ z => z.elim)
/-- a comprehension that changes nothing, over data or over a list of the store -/
theorem e_lcP {mi : MI} {gm : MG} {vs : List Nat} {el : ME} {ρ : En} {μ : List MO} {KL : List D → List MO → Prop} {E : Addr → List (Str × D) → List MO → Prop} {q : List D × Option Nat} (f : D → D) (hi : mi ρ μ = .ok q μ) (hq : q.2 = none ∨ ∃ n, q.2 = some n ∧ μ[n]? = some (.lst q.1)) (hl : q.1.length ≤ sizeLine)
    (hh : ∀ x ∈ q.1, ∃ ρ1, gm (.d x) (wipeM ρ vs) = some ρ1 ∧ el ρ1 μ = .ok (.d (f x)) μ) (k : KL (q.1.map f) μ) : (mLC mi gm mYes el vs ρ μ).to KL E := by
  unfold mLC
  rw [hi]
  simp only [Res.bind_ok, if_pos hl]
  have hc : chk q μ = true := by
    unfold chk
    rcases hq with h | ⟨n, h, h2⟩
    · rw [h]
    · rw [h]; exact (by classical exact decide_eq_true h2)
  have go : ∀ (xs acc : List D), (∀ x ∈ xs, ∃ ρ1, gm (.d x) (wipeM ρ vs) = some ρ1 ∧ el ρ1 μ = .ok (.d (f x)) μ) → lcD q gm mYes el (wipeM ρ vs) xs acc μ = .ok (acc ++ xs.map f) μ := by
    intro xs
    induction xs with
    | nil => intro acc _; unfold lcD; rw [if_pos hc]; simp
    | cons x xs ih =>
      intro acc h
      obtain ⟨ρ1, h1, h2⟩ := h x List.mem_cons_self
      unfold lcD
      rw [if_pos hc, h1]
      simp only [mYes, Res.calm, Res.bind_ok, if_true, h2]
      rw [ih _ fun y hy => h y (List.mem_cons_of_mem _ hy)]
      simp
  rw [go q.1 [] hh]
  rw [List.nil_append]
  exact k
end TT

namespace TT
open PySem L2
variable [TB]
/-! a def that calls itself: so many calls inside each other, at most -/
def iterF (G : MF → MF) : Nat → MF
  | 0 => fun _ _ => .bad
  | j + 1 => G (iterF G j)
section
variable {P : Program} {w : World} {K : PySem.W.Frag} {mg : Str → Option Value} {base : Heap} {x : Str} {st : Stmt} {ps : List Str} {n : Nat}
theorem Def.bad (D : Def K mg x st ps) (k : Nat) : Fn P w K mg base k x n (fun _ _ => .bad) := by
  obtain ⟨f, fd, F, hm, b⟩ := D.ex
  refine ⟨f, fun A outer s H us vs Q E hr hg e0 r h => ?_, hm, F.kp⟩
  obtain ⟨_, Z, ι, as, μ, s, r, o⟩ := h
  exact o.elim
theorem fn_rec (D : Def K mg x st ps) (G : MF → MF) (k0 : Nat) (step : ∀ k F, k0 ≤ k → Fn P w K mg base k x n F → Fn P w K mg base (k + 1) x n (G F)) : ∀ j, Fn P w K mg base (k0 + j) x n (iterF G j)
  | 0 => D.bad _
  | j + 1 => step (k0 + j) _ (Nat.le_add_right _ _) (fn_rec D G k0 step j)
end
end TT

namespace TT
open PySem PySem.Spec PySem.Calls PyProof.Rows PySem.W
/-! isinstance of a caught error that has fields -/
section
variable {prog : Program} {w : World} {A : Around} {E : Value → Shared → Prop} {s : Shared} {K : Frag} {x D : Addr} {ox : Obj} {od : Option Obj}
set_option maxHeartbeats 4000000 in
theorem findObj_dataO {C : Addr} {name : Str} {a g : Value} (hc : (clsIn K C).isSome = true) (ha : findIn K (.ref C) name = some (some a)) (hg : specialIn K a "__get__" = some (some g)) (ht : takesIn K a = some true) : findObj K C od name = some (.bind g a) := by
  obtain ⟨cd, hc⟩ := Option.isSome_iff_exists.mp hc
  unfold findObj
  rw [hc, Option.bind_some, ha, Option.bind_some]
  simp [hg, ht]
set_option maxHeartbeats 4000000 in
theorem kin_classD {Q : Option Value → Shared → Prop} (hga : findIn K (.ref D) "__getattribute__" = some (some (.builtin "BaseException.__getattribute__"))) (hgt : findIn K (.ref D) "__getattr__" = some none) (hsub : subIn K (.ref D) (.type "BaseException") = some true)
    (hdct : hasDictIn K D = true) (ha : findIn K (.ref D) "__class__" = some (some (.builtin "object.__class__")))
    (hn : specialIn K (.builtin "object.__class__") "__get__" = some (some (.builtin "getset_descriptor.__get__"))) (htk : takesIn K (.builtin "object.__class__") = some true) (hm : mroIn K D (.type "object") = some true)
    (X : K.In s.heap) (I : InstAt s.heap x ox D od) (h : Q (some (.ref D)) { s with toks := s.toks + 1 }) : wpAny (model prog w) A (getAttr? (.ref x) "__class__") Q E s := by
  have hf : findObj K D od "__class__" = some (.bind (.builtin "getset_descriptor.__get__") (.builtin "object.__class__")) := findObj_dataO (by obtain ⟨cd, hc, _⟩ := any_some hdct; rw [hc]; rfl) ha hn htk
  obtain ⟨hp, g, d, t, os⟩ := s
  have L0 := I.type (M := model prog w)
  have L1 := looks_findIn (M := model prog w) X hga
  have L2 := looks_findIn (M := model prog w) X hgt
  have L3 := looks_find (M := model prog w) X I hf
  have sub : Looks (model prog w) hp (isInstance (.ref x) (.type "BaseException")) true := L0.andThen (looks_subIn X hsub)
  have hx0 : (false && onTheHeap (Value.builtin "BaseException.__getattribute__")) = false := rfl
  have hx2 : (Value.builtin "BaseException.__getattribute__" == Value.builtin "object.__getattribute__") = false := by decide +kernel
  have hx1 : (onTheHeap (Value.ref D) && Value.builtin "BaseException.__getattribute__" == Value.builtin "object.__getattribute__") = false := by rw [hx2]; rfl
  unfold getAttr? getAttrBy? getAttrBy
  refine wpAny_bind (wpAny_mkText (wpAny_bind (wpAny_attempt (wpAny_holding (wpAny_bind (L0.at (wpAny_bind (L1.at ?_))))))))
  show wpAny _ _ (if (onTheHeap (Value.ref D) && Value.builtin "BaseException.__getattribute__" == Value.builtin "object.__getattribute__") = true then _ else _) _ _ _
  rw [hx1, if_neg Bool.false_ne_true]
  unfold getAttrByItsOwn hookBefore
  refine wpAny_bind ?_
  rw [if_pos (show onTheHeap (Value.ref D) = true from rfl)]
  refine L2.at ?_
  refine wpAny_bind (wpAny_attempt (wpAny_holding ?_))
  unfold callGetattribute
  rw [hx0, if_neg Bool.false_ne_true]
  unfold boundAndCalled
  rw [PySem.F.excAttr_ValueError.ga.bind (.ref x)]
  refine wpAny_bind (wpAny_pure ?_)
  show wpAny _ _ (call (.builtin "BaseException.__getattribute__") [.ref x, .str "__class__" t]) _ _ _
  refine wpAny_call (codeAny_call_builtin PySem.F.excAttr_ValueError.ga.plain PySem.F.entry_bexc_ga ?_)
  refine @check_slot (model prog w) _ _ ⟨hp, g, d, t + 1, os⟩ "BaseException.__getattribute__" "BaseException" "__getattribute__" (.ref x) [.str "__class__" t] [] _ (by decide +kernel) (by decide +kernel) sub (PySem.F.args_bexc_ga (.ref x) (.str "__class__" t)) ?_
  unfold Builtin.«object.__getattribute__»
  refine wpAny_bind (wpAny_of_eq (a := ((Value.ref x : Value), [Value.str "__class__" t])) (by first | rfl | (simp only [slotArgs]; rfl)) ?_)
  refine wpAny_bind (wpAny_pure (wpAny_bind (L0.at (wpAny_bind (L3.at ?_)))))
  show wpAny _ _ (holding [Value.builtin "object.__class__"] (call (.builtin "getset_descriptor.__get__") [.builtin "object.__class__", .ref x, .ref D]) >>= ret) _ _ _
  refine wpAny_bind (wpAny_holding (wpAny_call (class_get (s := ⟨hp, g, d, t + 1, os⟩) (ox := ox) (od := od) X I hm ?_)))
  refine wpAny_pure ?_
  show wpAny _ _ (handedOut (.ref D)) _ _ _
  rw [handedOut_of (v := .ref D) rfl]
  first
    | exact wpAny_pure (wpAny_pure h)
    | exact wpAny_pure h
    | exact wpAny_pure (wpAny_bind (wpAny_pure (wpAny_pure h)))
set_option maxHeartbeats 4000000 in
theorem kitx_excD (hga : findIn K (.ref D) "__getattribute__" = some (some (.builtin "BaseException.__getattribute__"))) (hgt : findIn K (.ref D) "__getattr__" = some none) (hsub : subIn K (.ref D) (.type "BaseException") = some true) (hdct : hasDictIn K D = true) (ha : findIn K (.ref D) "__class__" = some (some (.builtin "object.__class__")))
    (hn : specialIn K (.builtin "object.__class__") "__get__" = some (some (.builtin "getset_descriptor.__get__"))) (htk : takesIn K (.builtin "object.__class__") = some true) (hm : mroIn K D (.type "object") = some true) :
    KitX K (.ref x) (.ref D) (fun h => ∃ od, InstAt h x ox D od) where
  ty := fun _ _ _ ⟨_, I⟩ => I.type
  it := fun _ _ X _ => by
    obtain ⟨cdD, hcD, _⟩ := any_some hdct
    unfold clsIn at hcD
    split at hcD
    · rename_i c' d' cd' sl' ho
      intro A' Q' E' s' k q
      unfold isType loadHead
      exact wpAny_bind (wpAny_loadPart (k _ _ (X _ _ ho)) (wpAny_pure q))
    · cases hcD
  ne := fun h tp dd its n sl X htp => by
    obtain ⟨cdD, hcD, _⟩ := any_some hdct
    refine Bool.eq_false_iff.mpr fun q => ?_
    have e : D = tp := Value.ref.inj (beq_iff_eq.mp q)
    subst e
    unfold clsIn at hcD
    split at hcD
    · rename_i c' d' cd' sl' ho
      have z := (X _ _ ho).symm.trans htp
      cases z
    · cases hcD
  ca := fun X ⟨_, I⟩ k => kin_classD hga hgt hsub hdct ha hn htk hm X I k
end
open L2
/-- isinstance(e, c): a the caught error, D its class, dd its dict -/
def rIsD (K : PySem.W.Frag) (D a dd : Addr) : List V → Hp → VK → Prop := fun xs H Q => ∃ (c : V) (cv : Value) (b : Bool) (fs : List (Str × V)), xs = [.ref a, c] ∧ H dd = some (.xd fs) ∧ (∀ u, RelV c u → u = cv) ∧ PySem.W.kitOne K (.ref D) cv = some b ∧ Q (.bl b) H
set_option maxHeartbeats 4000000 in
theorem call_isD {X : Cx} {a D dd : Addr} {oe : Obj} {pn : List (Addr × Obj)} (C : ExcC X.K D) (hz : Zc (.ref D) (some dd) oe) (hf : ∃ vs, oe.data = .fields vs) : CallR (X.suite a ((a, oe) :: pn)) (.builtin "isinstance") (rIsD X.K D a dd) := by
  intro pins s σ H xs us Q I r h
  obtain ⟨c, cv, b, fs, rfl, ea, hcv, e, q⟩ := h
  cases r with
  | cons rx rr =>
    cases rr with
    | cons rt rr =>
      cases rr
      cases rx
      have ec := hcv _ rt
      subst ec
      obtain ⟨ha, _⟩ := I.pin (a, oe) (List.mem_append.mpr (.inl List.mem_cons_self))
      obtain ⟨vs, hd⟩ := hf
      have hx : ObjOk X.prog X.w H s.heap dd (.xd fs) := I.hok dd _ ea
      obtain ⟨mA, hns, hr⟩ := hx
      obtain ⟨od, ho, hl⟩ := lookIn_ns hns
      have J : PySem.W.InstAt s.heap a oe D (some od) := ⟨ha, hz.1, by unfold PySem.W.notCls; rw [hd] <;> rfl, by rw [hz.2]; exact ho⟩
      exact PySem.W.kia_one (kitx_excD C.hg C.hk C.hs C.hd C.ha C.hn C.ht C.hm) I.kIn ⟨_, J⟩ e (fun z => nomatch z) fun tk => ⟨.bl b, H, I.kept (t' := tk) fun _ _ z => z, rfl, q⟩
end TT

namespace TT
open PySem L2
variable [TB]
/-! try: a suite that may hang on the class that was caught -/
/-- a clause: which classes it takes, which it lets by, its name's slot, its suite -/
structure MC2 where
  yes : List Addr
  no : List Addr
  i : Option Nat
  h : Addr → Addr → Addr → MS
noncomputable def tryI : List MC2 → Addr → List (Str × D) → En → List MO → SR
  | [], C, fs, ρ, μ => .exc C fs ρ μ
  | c :: cs, C, fs, ρ, μ => if C ∈ c.yes then allAD fun a d => (c.h C a d (onR c.i (.exn a d C fs) ρ) μ).off c.i else if C ∈ c.no then tryI cs C fs ρ μ else .bad
noncomputable def mTry2 (b : MS) (cs : List MC2) : MS := fun ρ μ => match b ρ μ with
  | .exc C fs ρ' μ' => tryI cs C fs ρ' μ'
  | r => r
/-- the suite's reading -/
def tSu2 (K : PySem.W.Frag) (yes : List Addr) (h : Addr → Addr → Addr → MS) : Addr → Value → Option Addr → TS := fun a cls d E τ G => ∃ dd C, C ∈ yes ∧ cls = .ref C ∧ d = some dd ∧ tMS K W0 (h C a dd) E τ G
inductive HMs2 (X : Cx) : List ExceptHandler → List MC2 → List Cl → Prop
  | nil : HMs2 X [] [] []
  | plain {x : Str} {c : Value} {yes no : List Addr} {h : Addr → Addr → Addr → MS} {st : Stmt} {sts : List Stmt} {np hp : Pos} {hs : List ExceptHandler} {cs : List MC2} {l : List Cl} (hc : Names X x c)
      (hy : ∀ C ∈ yes, PySem.W.exmOne X.K (.ref C) c = some true) (hn : ∀ C ∈ no, PySem.W.exmOne X.K (.ref C) c = some false)
      (su : ∀ (a : Addr) (oe : Obj) (C : Addr) (d : Addr) (pn : List (Addr × Obj)), C ∈ yes → Zc (.ref C) (some d) oe → (∃ vs, oe.data = .fields vs) → FSs (X.suite a ((a, oe) :: pn)) W0 (st :: sts) (h C a d)) (r : HMs2 X hs cs l) :
      HMs2 X (.ExceptHandler (some (.Name x np)) none (st :: sts) hp :: hs) (⟨yes, no, none, h⟩ :: cs) ((c, none, tSu2 X.K yes h) :: l)
  | named {x n : Str} {i : Nat} {c : Value} {yes no : List Addr} {h : Addr → Addr → Addr → MS} {st : Stmt} {sts : List Stmt} {np hp : Pos} {hs : List ExceptHandler} {cs : List MC2} {l : List Cl} (hc : Names X x c) (hi : X.N[i]? = some n) (hl : X.env.kindOf n = some .local)
      (hy : ∀ C ∈ yes, PySem.W.exmOne X.K (.ref C) c = some true) (hn : ∀ C ∈ no, PySem.W.exmOne X.K (.ref C) c = some false)
      (su : ∀ (a : Addr) (oe : Obj) (C : Addr) (d : Addr) (pn : List (Addr × Obj)), C ∈ yes → Zc (.ref C) (some d) oe → (∃ vs, oe.data = .fields vs) → FSs (X.suite a ((a, oe) :: pn)) W0 (st :: sts) (h C a d)) (r : HMs2 X hs cs l) :
      HMs2 X (.ExceptHandler (some (.Name x np)) (some n) (st :: sts) hp :: hs) (⟨yes, no, some i, h⟩ :: cs) ((c, some i, tSu2 X.K yes h) :: l)
theorem suite_of2 {X : Cx} {yes : List Addr} {h : Addr → Addr → Addr → MS} {sts : List Stmt} (su : ∀ (a : Addr) (oe : Obj) (C : Addr) (d : Addr) (pn : List (Addr × Obj)), C ∈ yes → Zc (.ref C) (some d) oe → (∃ vs, oe.data = .fields vs) → FSs (X.suite a ((a, oe) :: pn)) W0 sts (h C a d)) :
    ∀ (a : Addr) (oe : Obj) (cls : Value) (d : Option Addr) (pn : List (Addr × Obj)), Zc cls d oe → (∃ vs, oe.data = .fields vs) → PSs (X.suite a ((a, oe) :: pn)) sts (tSu2 X.K yes h a cls d) := fun a oe cls d pn hz hf => ⟨fun pins s σ H E I w => by
  obtain ⟨dd, C, hC, rfl, rfl, t⟩ := w
  exact (su a oe C dd pn hC hz hf).run pins s σ H E I t⟩
theorem HMs2.ok {X : Cx} : ∀ {hs : List ExceptHandler} {cs : List MC2} {l : List Cl}, HMs2 X hs cs l → ClsOk X hs l
  | _, _, _, .nil => .nil
  | _, _, _, .plain hc _ _ su r => .plain hc (suite_of2 su) r.ok
  | _, _, _, .named hc hi hl _ _ su r => .named hc hi hl (suite_of2 su) r.ok
theorem tryI_ok {X : Cx} {W : WX} {E : Ends} {C : Addr} {fs : List (Str × D)} {fs' : List (Str × V)} {d : Addr} : ∀ {hs : List ExceptHandler} {cs : List MC2} {l : List Cl}, HMs2 X hs cs l → ∀ {Z ι : List Addr} {ρ : En} {μ : List MO} {σ : St} {H : Hp}, Rel X.K Z ι ρ μ σ H → H d = some (.xd fs') → d ∉ Z → DRf X.K (mask H Z) fs fs' →
    OutS X.K W Z ι H (tryI cs C fs ρ μ) E → wMix X.K W E l (.ref C) (some d) σ H
  | _, _, _, .nil, Z, ι, ρ, μ, σ, H, R, e, n, dr, o => o Z ι H σ d fs' (Ext.refl R.sta.sub) R e n dr
  | _, _, _, .plain (yes := yes) (no := no) (h := h) hc hy hn su r, Z, ι, ρ, μ, σ, H, R, e, n, dr, o => by
    simp only [tryI] at o
    split at o
    · rename_i hm
      exact ⟨true, hy C hm, fun _ a _ => ⟨d, C, hm, rfl, rfl, Z, ι, ρ, μ, R, OutS.off (allAD_of o a d)⟩, fun z => by cases z⟩
    · split at o
      · rename_i hm; exact ⟨false, hn C hm, (fun z => by cases z), fun _ => tryI_ok r R e n dr o⟩
      · exact o.elim
  | _, _, _, .named (i := i) (yes := yes) (no := no) (h := h) hc hi hl hy hn su r, Z, ι, ρ, μ, σ, H, R, e, n, dr, o => by
    simp only [tryI] at o
    split at o
    · rename_i hm
      exact ⟨true, hy C hm, fun _ a _ => ⟨d, C, hm, rfl, rfl, Z, ι, _, μ, ⟨R.sta, R.rs.set (.d (.exn (mask_in n e) dr)) i⟩, OutS.off (allAD_of o a d)⟩, fun z => by cases z⟩
    · split at o
      · rename_i hm; exact ⟨false, hn C hm, (fun z => by cases z), fun _ => tryI_ok r R e n dr o⟩
      · exact o.elim
section
variable {X : Cx} {W : WX} {body : List Stmt} {h0 : ExceptHandler} {hs : List ExceptHandler} {cs : List MC2} {l : List Cl} {pos : Pos} {b : MS}
theorem fs_try2 (es : X.stack = X.env :: X.outer) (ef : X.env.frame = some X.env.locals) (hN : X.N.Nodup) (tk : Takes X W)
    (hb : ∀ (W' : WX) (pn : List (Addr × Obj)) (xe : Value → Shared → Prop), Takes (X.tr pn xe) W' → PassesOwn (model X.prog X.w) X.A X.env xe → FSs (X.tr pn xe) W' body b) (hm : HMs2 X (h0 :: hs) cs l) :
    FS X W (.Try body (h0 :: hs) [] [] pos) (mTry2 b cs) := by
  refine ps_imp (ps_tryM (tb := fun W' => tMS X.K W' b) es ef hN tk hb hm.ok) fun E σ H ⟨Z, ι, ρ, μ, R, o⟩ => ⟨Z, ι, ρ, μ, R, ?_⟩
  unfold mTry2 at o
  cases q : b ρ μ with
  | exc C fs ρ' μ' =>
    rw [q] at o
    exact fun Z2 ι2 H2 σ2 d fs' x2 R2 e n dr => tryI_ok hm R2 e n dr (OutS.base o x2)
  | nx ρ' μ' => rw [q] at o; exact o
  | bk ρ' μ' => rw [q] at o; exact o
  | ct ρ' μ' => rw [q] at o; exact o
  | rt v μ' => rw [q] at o; exact o
  | bad => rw [q] at o; exact o
end
/-! isinstance of what was caught -/
def isEG (a d A : Addr) (b : Bool) : List D → Option D
  | [.exn a' d' _ _, .gl A'] => if a' = a ∧ d' = d ∧ A' = A then some (.bl b) else none
  | _ => none
def isET (a d : Addr) (n : String) (b : Bool) : List D → Option D
  | [.exn a' d' _ _, .ty n'] => if a' = a ∧ d' = d ∧ n' = n then some (.bl b) else none
  | _ => none
theorem c_isG {K : PySem.W.Frag} {C a d A : Addr} {b : Bool} (hk : PySem.W.kitOne K (.ref C) (.ref A) = some b) : CallD K (rIsD K C a d) (isEG a d A b) := fun Z H as c xs Q t h e q => by
  unfold isEG at e
  split at e
  · split at e
    · rename_i hh
      obtain ⟨rfl, rfl, rfl⟩ := hh
      cases e
      cases h with | cons h1 h2 => cases h2 with | cons h2 h3 => cases h3 with | nil =>
        cases h1 with | d h1 => cases h1 with | exn h4 h5 =>
          cases h2 with | d h2 => cases h2 with | gl =>
            exact ⟨_, _, b, _, rfl, mask_same _ _ _ _ h4, fun u hu => hu, hk, q H _ (Same.refl _) (.bl b)⟩
    · cases e
  · cases e
theorem c_isT {K : PySem.W.Frag} {C a d : Addr} {n : String} {b : Bool} (hk : PySem.W.kitOne K (.ref C) (.type n) = some b) : CallD K (rIsD K C a d) (isET a d n b) := fun Z H as c xs Q t h e q => by
  unfold isET at e
  split at e
  · split at e
    · rename_i hh
      obtain ⟨rfl, rfl, rfl⟩ := hh
      cases e
      cases h with | cons h1 h2 => cases h2 with | cons h2 h3 => cases h3 with | nil =>
        cases h1 with | d h1 => cases h1 with | exn h4 h5 =>
          cases h2 with | d h2 => cases h2 with | ty =>
            exact ⟨_, _, b, _, rfl, mask_same _ _ _ _ h4, fun u hu => hu, hk, q H _ (Same.refl _) (.bl b)⟩
    · cases e
  · cases e
end TT

/-! own error classes called by names -/
namespace PySem
namespace KWX
open PySem.W PySem.Calls PyProof.Rows PySem.HandSPX
open Builtin Builtin.ObjectAttr
section
variable {M : Model} {A : Around} {E : Value → Shared → Prop} {h : Heap} {g : Array GenState} {d : Drawn} {t : Nat} {os : OsState}
variable {nm q : Str} {C N : Addr} {bs bm bmB : List Value} {hdct : Bool} {sn : List Str} {sub : List Value} {ab : Bool} {col : Option Bool} {dd : Option Addr} {k0 k1 k2 k3 k5 : Option Value} {B newId initId : String}
set_option maxHeartbeats 4000000 in
theorem check_new_kw (F : ExcBaseFacts B newId initId bmB) (hT : ∀ X : String, bm.contains (.type X) = bmB.contains (.type X)) {rest : List Value} {kw : List (Str × Value)} {Q : Unit → Shared → Prop}
    (hC : h.get? C = some (excClassObj nm q C N bs bm hdct sn sub ab col dd k0 k1 k2 k3 k5 newId)) (hq : Q () ⟨h, g, d, t, os⟩) : wpAny M A (checkBuiltinCall newId ⟨.ref C :: rest, kw⟩) Q E ⟨h, g, d, t, os⟩ := by
  have hcont : (Value.ref C :: bm).contains (.type B) = true := by rw [List.contains_cons, hT, F.hasB, Bool.or_true]
  have hstar := F.noStar
  simp only [checkBuiltinCall, F.newKind, F.newSplit, F.newRow]
  repeat (first | refine wpAny_loadPart_at hC ?_ | (refine wpAny_isSubtype_exc hC ?_; rw [hcont]) | refine wpAny_staticBase_exc hC ?_ | refine wpAny_madeBy_exc hC ?_ | simp only [bne_self_eq_false, Bool.false_eq_true, if_false] | wp_step)
  exact hq
end
section
variable {prog : Program} {w : World} {A : Around} {E : Value → Shared → Prop} {R : Result → Shared → Prop} {h : Heap} {g : Array GenState} {d : Drawn} {t : Nat} {os : OsState}
variable {nm q : Str} {C N : Addr} {bs bm bmB : List Value} {hdct : Bool} {sn : List Str} {sub : List Value} {ab : Bool} {col : Option Bool} {dd : Option Addr} {k0 k1 k2 k3 k5 : Option Value} {B newId initId : String}
set_option maxHeartbeats 4000000 in
theorem new_kw (F : ExcBaseFacts B newId initId bmB) (hT : ∀ X : String, bm.contains (.type X) = bmB.contains (.type X)) {rest : List Value} {kw : List (Str × Value)}
    (hC : h.get? C = some (excClassObj nm q C N bs bm hdct sn sub ab col dd k0 k1 k2 k3 k5 newId))
    (hq : R (.ok (.ret (.ref (h.objs.size + 1)))) ⟨(h.push { cls := .type "tuple", data := .seq rest.toArray }).push
      { cls := .ref C, data := .fields #[.ref h.objs.size, .none, .none, .none, .bool false, .none] }, g, d, t, os⟩) (hrest : rest.length ≤ sizeLine) :
    codeAny (model prog w) A (.builtin newId ⟨.ref C :: rest, kw⟩) R ⟨h, g, d, t, os⟩ := by
  have hends := F.ends
  have hcB : (Value.ref C :: bm).contains (.type B) = true := by rw [List.contains_cons, hT, F.hasB, Bool.or_true]
  have hcA : (Value.ref C :: bm).contains (.type "AttributeError") = false := by rw [List.contains_cons, hT, F.noAttr]; rfl
  have hcN : (Value.ref C :: bm).contains (.type "NameError") = false := by rw [List.contains_cons, hT, F.noName]; rfl
  refine codeAny_builtinAt F.entry ?_
  unfold Builtin.«BaseException.__new__»
  refine wpAt_bind ?_
  show wpAt _ _ _ (stack >>= _) _ _ _
  refine wpAt_bind (wpAt_stack fun p below => wpAt_of_wpAny ?_)
  wp_walk
  refine wpAt_of_wpAny ?_
  rw [F.owner]
  have hsz : ¬ (rest.toArray.size > sizeLine) := by rw [List.size_toArray]; omega
  repeat (first | rw [if_neg hsz] | with_reducible refine wpAny_madeHere_exc F.canon hC ?_ | with_reducible refine wpAny_loadPart_at hC ?_ | (with_reducible refine wpAny_isSubtype_exc hC ?_; first | rw [hcB] | rw [hcA] | rw [hcN]) | wp_step)
  show R _ _
  rw [Heap.size_push]
  exact hq
set_option maxHeartbeats 4000000 in
theorem type_call_kw (F : ExcBaseFacts B newId initId bmB) (hT : ∀ X : String, bm.contains (.type X) = bmB.contains (.type X)) {rest : List Value} {kw : List (Str × Value)} {fI : Addr} {Q : Fin → Shared → Prop}
    (hC : h.get? C = some (excClassObj nm q C N bs bm hdct sn sub ab col dd k0 k1 k2 k3 k5 newId))
    (hi : W.Looks (model prog w) h (typeLookup (.ref C) "__init__") (some (.ref fI))) (hb : ∀ self, W.Looks (model prog w) h (bindSpecial (.ref fI) self) (.ref fI, [self])) (hrest : rest.length ≤ sizeLine)
    (hq : codeAny (model prog w) A (.call (.ref fI) ⟨.ref (h.objs.size + 1) :: rest, kw⟩)
      (fun r s' => match r with | .ok (.ret v) => v = .none ∧ Q (.done (.ret (.ref (h.objs.size + 1)))) s' | .ok _ => False | .error e => E e s')
      ⟨(h.push (W.kdv_tup rest)).push (excO C h.objs.size), g, d, t, os⟩) :
    wpAny (model prog w) A (Builtin.«type.__call__» ⟨.ref C :: rest, kw⟩) Q E ⟨h, g, d, t, os⟩ := by
  repeat (first | with_reducible refine wpAny_loadPart_at hC ?_ | with_reducible refine wpAny_madeBy_exc hC ?_ | wp_step)
  refine codeAny_call_builtin_code (Code.quiet_builtin _ F.quiet) (check_new_kw F hT hC ?_)
  refine new_kw F hT hC ?_ hrest
  show wpAny _ _ _ _ _ _
  have k : ∀ b o, h.get? b = some o → ((h.push (W.kdv_tup rest)).push (excO C h.objs.size)).get? b = some o := fun b o e => Heap.get?_push_of_some _ (Heap.get?_push_of_some _ e)
  have hC₁ := k _ _ hC
  have hget : ((h.push (W.kdv_tup rest)).push (excO C h.objs.size)).get? (h.objs.size + 1) = some (excO C h.objs.size) := by heap_get
  have hcC : (Value.ref C :: bm).contains (.ref C) = true := by simp
  have i1 := hi.keeps k
  have b1 := (hb (.ref (h.objs.size + 1))).keeps k
  unfold isInstance
  repeat (first | with_reducible refine wpAny_loadPart_at hget ?_ | (with_reducible refine wpAny_isSubtype_exc hC₁ ?_; rw [hcC]) | wp_step)
  show wpAny _ _ (typeLookup (.ref C) _) _ _ _
  refine i1.at ?_
  refine wpAny_holding (wpAny_bind (b1.at ?_))
  refine wpAny_bind (wpAny_call (codeAny_mono hq fun r s' z => ?_))
  rcases r with e | (v | _ | _ | _) <;> first | exact z | exact z.elim | skip
  obtain ⟨rfl, z⟩ := z
  first
    | exact wpAny_pure (wpAny_pure z)
    | (wp_walk; exact z)
set_option maxHeartbeats 4000000 in
theorem call_kw (F : ExcBaseFacts B newId initId bmB) (hT : ∀ X : String, bm.contains (.type X) = bmB.contains (.type X)) {rest : List Value} {kw : List (Str × Value)} {fI : Addr}
    (hC : h.get? C = some (excClassObj nm q C N bs bm hdct sn sub ab col dd k0 k1 k2 k3 k5 newId))
    (hi : W.Looks (model prog w) h (typeLookup (.ref C) "__init__") (some (.ref fI))) (hb : ∀ self, W.Looks (model prog w) h (bindSpecial (.ref fI) self) (.ref fI, [self])) (hrest : rest.length ≤ sizeLine)
    (hq : codeAny (model prog w) (A.under (.builtin "type.__call__" ⟨.ref C :: rest, kw⟩)) (.call (.ref fI) ⟨.ref (h.objs.size + 1) :: rest, kw⟩) (W.InitBack (h.objs.size + 1) R)
      ⟨(h.push (W.kdv_tup rest)).push (excO C h.objs.size), g, d, t, os⟩) :
    codeAny (model prog w) A (.call (.ref C) ⟨rest, kw⟩) R ⟨h, g, d, t, os⟩ := by
  have f1 := tc_lookup
  have f2 := tc_bind (.ref C)
  have hTy : (⟨h, g, d, t, os⟩ : Shared).TypeIs (.ref C) "type" := ⟨_, hC, rfl⟩
  refine codeAny_of_tree ?_
  show wpAny _ _ (callAny (.ref C) _) _ _ _
  repeat (any_goals (first | assumption | with_reducible refine wpAny_loadPart_at hC ?_ | wp_step))
  refine ⟨rfl, ?_⟩
  refine codeAny_call_builtin_at (Code.quiet_builtin _ (by decide +kernel)) entry_typeCall (wpAny_check_type_call_sub hC (type_call_kw F hT hC hi hb hrest ?_))
  refine codeAny_mono hq fun r s' z => ?_
  rcases r with e | (v | _ | _ | _) <;> exact z
end
end KWX
end PySem

namespace TT
open PySem L2
/-! errors as values -/
section
variable {X : Cx} {e : Expr} {es : List Expr} {ta tk : TA} {p pos : Pos} {kws : List Keyword} {x : Str} {C fI : Addr} {k : Nat} {fd : FuncData} {ps ks : List Str} {sp : Sp}
set_option maxHeartbeats 4000000 in
theorem run_oex {us ws full : List Value} {vs : List V} {pins : List (Addr × Obj)} {σ : St} {H1 : Hp} {s1 : Shared} {Q : VK} (T : OexC X.K C) (iC : PySem.W.findIn X.K (.ref C) "__init__" = some (some (.ref fI))) (tI : PySem.W.typeIn X.K (.ref fI) = some (.type "function"))
    (F1 : FnOk X.prog X.w X.K X.mg X.base CX0 k fI fd ps sp) (hr : Room (k + 1) X.A) (I1 : Inv X pins σ H1 s1) (hus : us.length ≤ sizeLine) (rv : Vals vs full)
    (hb : ∀ (a : Addr) (s : Shared), X.K.In s.heap → BindsTo s fd ⟨Value.ref a :: us, ks.zip ws⟩ (ps.zip (Value.ref a :: full)))
    (q1 : ∀ a, H1 a = none → sp (.ref a :: vs) (upd H1 a (exo a C none)) (fun v H2 => v = .non ∧ Q (.ref a) H2) (fun _ _ _ => False)) :
    wpAny (model X.prog X.w) X.A (call (.ref C) us (ks.zip ws)) (EP X pins σ Q) X.xe s1 := by
  obtain ⟨nm, q, N, bs, bm, sn, sub, ab, col, dd, k0, k1, k2, k3, k5, hC, hbm⟩ := T.cls
  obtain ⟨hp, g, dr, tk, os⟩ := s1
  have hsz : hp.objs.size ≤ hp.objs.size + 1 := Nat.le_succ _
  have hn : H1 (hp.objs.size + 1) = none := I1.hok.fresh hsz
  have hq := q1 (hp.objs.size + 1) hn
  have kk : ∀ b o, hp.get? b = some o → ((hp.push (PySem.W.kdv_tup us)).push (PySem.HandSPX.excO C hp.objs.size)).get? b = some o := fun b o e => Heap.get?_push_of_some _ (Heap.get?_push_of_some _ e)
  have hget : ((hp.push (PySem.W.kdv_tup us)).push (PySem.HandSPX.excO C hp.objs.size)).get? (hp.objs.size + 1) = some (PySem.HandSPX.excO C hp.objs.size) := by heap_get
  have I2 : Inv X pins σ (upd H1 (hp.objs.size + 1) (exo (hp.objs.size + 1) C none)) ⟨(hp.push (PySem.W.kdv_tup us)).push (PySem.HandSPX.excO C hp.objs.size), g, dr, tk, os⟩ :=
    I1.laid (t' := tk) (a := hp.objs.size + 1) (o := exo (hp.objs.size + 1) C none) (h' := (hp.push (PySem.W.kdv_tup us)).push (PySem.HandSPX.excO C hp.objs.size)) kk hsz (exo_ok hget)
  have r2 : Vals (V.ref (hp.objs.size + 1) :: vs) (Value.ref (hp.objs.size + 1) :: full) := .cons rfl rv
  refine wpAny_call (PySem.KWX.call_kw F.excBase_ValueError (fun Y => PySem.HandSPX.refsVE_contains Y bm hbm) (I1.kIn _ _ hC) (PySem.W.looks_findIn I1.kIn iC) (fun self => PySem.W.bind_fn I1.kIn self tI) hus
    (codeAny_mono (F1.run _ X.stack _ _ ⟨Value.ref (hp.objs.size + 1) :: us, ks.zip ws⟩ (Value.ref (hp.objs.size + 1) :: full) _ _ (fun _ _ _ => False) (hr.make C us (ks.zip ws)) (I2.env0.make C us (ks.zip ws)) (hb _ _ I2.kIn) r2 hq) fun r s' hq' => ?_))
  cases r with
  | error er => exact L2.pass0 (X := X) pins σ _ _ er s' I2 hq'
  | ok fl =>
    cases fl with
    | ret u =>
      obtain ⟨v, H2, I3, rv', ev, q3⟩ := I2.after hq'
      subst ev
      exact ⟨rv', ⟨V.ref (hp.objs.size + 1), H2, I3, rfl, q3⟩⟩
    | next => exact False.elim hq'
    | brk => exact False.elim hq'
    | cont => exact False.elim hq'
set_option maxHeartbeats 4000000 in
/-- C(e, ..), as a value -/
theorem pe_oex (T : OexC X.K C) (iC : PySem.W.findIn X.K (.ref C) "__init__" = some (some (.ref fI))) (tI : PySem.W.typeIn X.K (.ref fI) = some (.type "function"))
    (F1 : FnOk X.prog X.w X.K X.mg X.base CX0 k fI fd ps sp) (hr : Room (k + 1) X.A) (hb : Binds X.K fd ps []) (hg : Gl X x) (hm : X.mg x = some (.ref C)) (ha : PA X (e :: es) ta)
    (hdb : (x == ("__debug__" : Str)) = false := by decide) (he : starEach (e :: es) X.env = (false, eval e X.env) :: starEach es X.env := by rfl) (hpl : (backTo pos (starEach es X.env)).any (·.1) = false := by rfl) :
    PE X (.Call (.Name x p) (e :: es) [] pos) (fun σ H Q => ta σ H fun vs H1 => vs.length ≤ 1000 ∧ ∀ a, H1 a = none → sp (.ref a :: vs) (upd H1 a (exo a C none)) (fun v H2 => v = .non ∧ Q (.ref a) H2) (fun _ _ _ => False)) := by
  refine ⟨fun pins s σ H Q I h => ?_⟩
  refine PySem.wpAny_Call_Name_kw (ld_glob I hg hm ?_ hdb)
  refine PySem.W.callWith_K (h₀ := X.base) I.ok.mod.kin T.kC (thn (ha.run pos pins s σ H _ I h) fun us s1 ⟨vs, H1, I1, r1, hz, q1⟩ => ⟨I1.kIn, ?_⟩) he hpl
  have hl : us.length + 1 = ps.length := by
    have hq := q1 (s1.heap.objs.size) (I1.hok.fresh (Nat.le_refl _))
    have := F1.len _ _ _ _ hq
    rw [List.length_cons, r1.length] at this
    exact this
  refine run_oex (us := us) (ws := []) (ks := []) (full := us) T iC tI F1 hr I1 (by rw [← r1.length, sizeLine_eq]; omega) r1 (fun a s hk => ?_) q1
  have := hb s (Value.ref a :: us) hk (by simpa using hl)
  simpa using this
set_option maxHeartbeats 4000000 in
/-- C(k = v, ..), as a value: g says which name gives which place -/
theorem pe_oexK {g : List V → List V} {gU : List Value → List Value} (T : OexC X.K C) (iC : PySem.W.findIn X.K (.ref C) "__init__" = some (some (.ref fI))) (tI : PySem.W.typeIn X.K (.ref fI) = some (.type "function"))
    (F1 : FnOk X.prog X.w X.K X.mg X.base CX0 k fI fd ps sp) (hr : Room (k + 1) X.A) (hgg : ∀ zs ws, Vals zs ws → Vals (g zs) (gU ws)) (hb : ∀ (a : Addr) (ws : List Value), ws.length = ks.length → bindArgs fd ⟨[Value.ref a], ks.zip ws⟩ = pure (ps.zip (Value.ref a :: gU ws))) (hg : Gl X x) (hm : X.mg x = some (.ref C)) (hkw : PK X kws tk)
    (hall : (backToKw pos (keywordEach kws X.env)).all (·.1.isSome) = true := by rfl) (hks : (backToKw pos (keywordEach kws X.env)).filterMap (·.1) = ks := by rfl)
    (hdb : (x == ("__debug__" : Str)) = false := by decide) (hpl : ((backTo pos (starEach [] X.env)).any (·.1) || (backToKw pos (keywordEach kws X.env)).any (·.1.isNone)) = false := by rfl) :
    PE X (.Call (.Name x p) [] kws pos) (fun σ H Q => tk σ H fun zs H1 => zs.length = ks.length ∧ ∀ a, H1 a = none → sp (.ref a :: g zs) (upd H1 a (exo a C none)) (fun v H2 => v = .non ∧ Q (.ref a) H2) (fun _ _ _ => False)) := by
  refine ⟨fun pins s σ H Q I h => ?_⟩
  refine PySem.wpAny_Call_Name_kw (ld_glob I hg hm ?_ hdb)
  refine PySem.W.callWith_KW0 (h₀ := X.base) I.ok.mod.kin T.kC hall ?_ hpl
  refine thn (hkw.run pos pins s σ H _ I h) fun ws s2 ⟨zs, H2, I2, rz, l2, q2⟩ => ⟨I2.kIn, ?_⟩
  rw [hks]
  exact run_oex (us := []) (ws := ws) (ks := ks) (full := gU ws) T iC tI F1 hr I2 (Nat.zero_le _) (hgg zs ws rz) (fun a s hk => BindsTo.of_eq (hb a ws (rz.length.symm.trans l2))) q2
set_option maxHeartbeats 4000000 in
/-- o.f of an error that is held -/
theorem pe_oxf {te : TE} {n : Str} (he : PE X e te) (hb : attributeBase e n X.env (eval e X.env) = eval e X.env := by rfl) :
    PE X (.Attribute e n pos) (fun σ H Q => te σ H fun x H1 => ∃ (a C d : Addr) (fs : List (Str × V)) (v : V), x = .ref a ∧ XfC X.K C ∧ PySem.W.findIn X.K (.ref C) n = some none ∧ H1 a = some (exo a C (some d)) ∧ H1 d = some (exd d fs) ∧ fs.lookup n = some v ∧ Q v H1) := by
  refine ⟨fun pins s σ H Q I h => ?_⟩
  refine attr_of hb (thn (he.run pins s σ H _ I h) fun u s1 hh => ?_)
  obtain ⟨x, H1, I1, rx, a, C, d, fs, v, rfl, T, hno, ea, ed, l, q⟩ := hh
  obtain rfl : u = Value.ref a := rx
  obtain ⟨t1, ho⟩ := exo_at I1.hok ea
  obtain ⟨mA, hns, hr⟩ := exd_at I1.hok ed
  obtain ⟨od, hod, hl⟩ := lookIn_ns hns
  obtain ⟨u, hu, ru⟩ := RelO.some_of (v := v) (o := mA n) (by rw [← l]; exact hr n)
  have J : PySem.W.InstAt s1.heap a _ C (some od) := ⟨ho, rfl, rfl, hod⟩
  exact HandSPX.exc_get I1.kIn J T.ga T.gg T.exC (PySem.W.findObj_own T.hdC hno rfl (by rw [hl, hu])) (handed_of ru) ⟨v, H1, I1.tok _, ru, q⟩
end
end TT

namespace TT
open PySem L2
variable [TB]
/-! errors made, as data -/
def mkErr (C : Addr) (ks : List Str) (as : List MV) (μ : List MO) : Res MV := match datas as with
  | some ds => if ds.length = ks.length then .ok (.d (.err C (ks.zip ds).reverse)) μ else .bad
  | none => .bad
def mErr (C : Addr) (ks : List Str) (ms : MA) : ME := fun ρ μ => (ms ρ μ).bind (mkErr C ks)
/-- by names: sw, in the other order -/
def mErrK (C : Addr) (ks : List Str) (sw : Bool) (ms : MA) : ME := fun ρ μ => (ms ρ μ).bind fun as μ1 => mkErr C ks (gk sw as) μ1
theorem err_end {K : PySem.W.Frag} {W : WX} {σ : St} {Z ι : List Addr} {μ : List MO} {H H2 : Hp} {C a dx : Addr} {fs : List (Str × D)} {fs' : List (Str × V)} {Q : VK} (s : Sta K Z ι μ H) (ha : H a = none) (hd : H dx = none) (ne : dx ≠ a) (e : H2 = upd (upd H dx (exd dx fs')) a (exo a C (some dx))) (dr : DRf K (mask H Z) fs fs')
    (o : Out K W σ Z ι H (.ok (.d (.err C fs)) μ) (Val K Q)) : Q (.ref a) H2 := by
  subst e
  have ha2 : (upd H dx (exd dx fs')) a = none := (upd_ne (Ne.symm ne)).trans ha
  have sm : Same H (upd (upd H dx (exd dx fs')) a (exo a C (some dx))) := fun b u q => (upd_ne (ne_of_none q ha)).trans ((upd_ne (ne_of_none q hd)).trans q)
  have na : a ∉ Z := fun q => by obtain ⟨u, z⟩ := s.trk a q; rw [ha] at z; cases z
  have nd : dx ∉ Z := fun q => by obtain ⟨u, z⟩ := s.trk dx q; rw [hd] at z; cases z
  refine Out.new s o sm (.d (.err (mask_in na upd_same) (mask_in nd ((upd_ne ne).trans upd_same)) (dr.mono (fun b u q => ?_) _ _)))
  obtain ⟨n1, e1⟩ := of_mask q
  exact mask_in n1 (sm b u e1) (mask_nt q)
theorem heap1 {H : Hp} {a dx C : Addr} {u : List (Str × V)} (ne : dx ≠ a) : upd (upd (upd H a (exo a C none)) dx (exd dx u)) a (exo a C (some dx)) = upd (upd H dx (exd dx u)) a (exo a C (some dx)) := by
  funext b
  by_cases q1 : b = a
  · subst q1; rw [upd_same, upd_same]
  · rw [upd_ne q1, upd_ne q1]
    by_cases q2 : b = dx
    · subst q2; rw [upd_same, upd_same]
    · rw [upd_ne q2, upd_ne q2, upd_ne q1]
theorem heap2 {H : Hp} {a dx C : Addr} {u v : List (Str × V)} (ne : dx ≠ a) : upd (upd (upd (upd H a (exo a C none)) dx (exd dx u)) a (exo a C (some dx))) dx (exd dx v) = upd (upd H dx (exd dx v)) a (exo a C (some dx)) := by
  funext b
  by_cases q2 : b = dx
  · subst q2; rw [upd_same, upd_ne ne, upd_same]
  · rw [upd_ne q2]
    by_cases q1 : b = a
    · subst q1; rw [upd_same, upd_same]
    · rw [upd_ne q1, upd_ne q1, upd_ne q2, upd_ne q2, upd_ne q1]
section
variable {X : Cx} {W : WX} {x : Str} {C : Addr} {k j : Nat} {e e2 : Expr} {p pos : Pos} {f g : Str} {ms : MA} {kws : List Keyword}
theorem sp1_ok {K : PySem.W.Frag} {σ : St} {Z ι : List Addr} {μ : List MO} {H : Hp} {as : List MV} {vs : List V} {Q : VK} (s : Sta K Z ι μ H) (r : RMs K (mask H Z) ι as vs) (o : Out K W σ Z ι H (mkErr C [f] as μ) (Val K Q)) :
    vs.length ≤ 1000 ∧ ∀ a, H a = none → spX1 C f (.ref a :: vs) (upd H a (exo a C none)) (fun v H2 => v = .non ∧ Q (.ref a) H2) (fun _ _ _ => False) := by
  unfold mkErr at o
  split at o
  · rename_i ds hd
    have dr := datas_ok r hd
    split at o
    · rename_i hl
      match ds, dr, hl with
      | [d0], .cons (v := v0) r0 .nil, _ =>
        refine ⟨by show 1 ≤ 1000; decide, fun a ha' => ⟨a, v0, rfl, upd_same, fun dx hdx ne => ⟨rfl, ?_⟩⟩⟩
        rw [upd_ne ne] at hdx
        exact err_end s ha' hdx ne (heap1 ne) (.cons r0 .nil) o
    · exact o.elim
  · exact o.elim
theorem sp2_ok {K : PySem.W.Frag} {σ : St} {Z ι : List Addr} {μ : List MO} {H : Hp} {as : List MV} {vs : List V} {Q : VK} (s : Sta K Z ι μ H) (r : RMs K (mask H Z) ι as vs) (o : Out K W σ Z ι H (mkErr C [f, g] as μ) (Val K Q)) :
    vs.length ≤ 1000 ∧ ∀ a, H a = none → spX2 C f g (.ref a :: vs) (upd H a (exo a C none)) (fun v H2 => v = .non ∧ Q (.ref a) H2) (fun _ _ _ => False) := by
  unfold mkErr at o
  split at o
  · rename_i ds hd
    have dr := datas_ok r hd
    split at o
    · rename_i hl
      match ds, dr, hl with
      | [d0, d1], .cons (v := v0) r0 (.cons (v := v1) r1 .nil), _ =>
        refine ⟨by show 2 ≤ 1000; decide, fun a ha' => ⟨a, v0, v1, rfl, upd_same, fun dx hdx ne => ⟨rfl, ?_⟩⟩⟩
        rw [upd_ne ne] at hdx
        exact err_end s ha' hdx ne (heap2 ne) (.cons r1 (.cons r0 .nil)) o
    · exact o.elim
  · exact o.elim
theorem fe_err1 (c : Exc X.prog X.w X.K X.mg X.base k x C 1 (spX1 C f)) (hr : Room j X.A) (ha : FA X W [e] ms) (hk : k + 1 ≤ j := by decide) (hgl : Gl X x := by rfl)
    (hdb : (x == ("__debug__" : Str)) = false := by decide) (he : starEach [e] X.env = (false, eval e X.env) :: starEach [] X.env := by rfl) (hpl : (backTo pos (starEach [] X.env)).any (·.1) = false := by rfl) :
    FE X W (.Call (.Name x p) [e] [] pos) (mErr C [f] ms) := by
  obtain ⟨fI, fd, ps, h1, h2, h3, h4⟩ := c.fn
  exact pe_imp (pe_oex c.T h1 h2 h3 (hr.mono hk) h4 hgl c.g ha hdb he hpl) fun σ H Q ⟨Z, ι, ρ, μ, R, o⟩ => tMA_bind R o fun v μ' Z' ι' H' x x1 R1 r1 o1 => sp1_ok R1.sta r1 o1
theorem fe_err2 (c : Exc X.prog X.w X.K X.mg X.base k x C 2 (spX2 C f g)) (hr : Room j X.A) (ha : FA X W [e, e2] ms) (hk : k + 1 ≤ j := by decide) (hgl : Gl X x := by rfl)
    (hdb : (x == ("__debug__" : Str)) = false := by decide) (he : starEach [e, e2] X.env = (false, eval e X.env) :: starEach [e2] X.env := by rfl) (hpl : (backTo pos (starEach [e2] X.env)).any (·.1) = false := by rfl) :
    FE X W (.Call (.Name x p) [e, e2] [] pos) (mErr C [f, g] ms) := by
  obtain ⟨fI, fd, ps, h1, h2, h3, h4⟩ := c.fn
  exact pe_imp (pe_oex c.T h1 h2 h3 (hr.mono hk) h4 hgl c.g ha hdb he hpl) fun σ H Q ⟨Z, ι, ρ, μ, R, o⟩ => tMA_bind R o fun v μ' Z' ι' H' x x1 R1 r1 o1 => sp2_ok R1.sta r1 o1
/-- what is known of such a class called by names -/
structure ExcK (P : Program) (w : World) (K : PySem.W.Frag) (mg : Str → Option Value) (base : Heap) (k : Nat) (x : Str) (C : Addr) (ks : List Str) (sw : Bool) (sp : Sp) : Prop where
  T : OexC K C
  g : mg x = some (.ref C)
  fn : ∃ (fI : Addr) (fd : FuncData) (ps : List Str), PySem.W.findIn K (.ref C) "__init__" = some (some (.ref fI)) ∧ PySem.W.typeIn K (.ref fI) = some (.type "function") ∧ FnOk P w K mg base CX0 k fI fd ps sp ∧ ∀ (a : Addr) (ws : List Value), ws.length = ks.length → bindArgs fd ⟨[Value.ref a], ks.zip ws⟩ = pure (ps.zip (Value.ref a :: gk sw ws))
theorem fe_errK1 {ks : List Str} {sw : Bool} (c : ExcK X.prog X.w X.K X.mg X.base k x C ks sw (spX1 C f)) (hr : Room j X.A) (hkw : FKw X W kws ms) (hk : k + 1 ≤ j := by decide) (hn1 : ks.length = 1 := by rfl) (hgl : Gl X x := by rfl)
    (hall : (backToKw pos (keywordEach kws X.env)).all (·.1.isSome) = true := by rfl) (hks : (backToKw pos (keywordEach kws X.env)).filterMap (·.1) = ks := by rfl)
    (hdb : (x == ("__debug__" : Str)) = false := by decide) (hpl : ((backTo pos (starEach [] X.env)).any (·.1) || (backToKw pos (keywordEach kws X.env)).any (·.1.isNone)) = false := by rfl) :
    FE X W (.Call (.Name x p) [] kws pos) (mErrK C [f] sw ms) := by
  obtain ⟨fI, fd, ps, h1, h2, h3, h4⟩ := c.fn
  refine pe_imp (pe_oexK (g := gk sw) c.T h1 h2 h3 (hr.mono hk) (fun zs ws h => vals_gk sw h) h4 hgl c.g hkw hall hks hdb hpl) fun σ H Q ⟨Z, ι, ρ, μ, R, o⟩ => tMA_bind R o fun v μ' Z' ι' H' x x1 R1 r1 o1 => ?_
  have hl : x.length = 1 := by
    unfold mkErr at o1
    split at o1
    · rename_i ds hd
      split at o1
      · rename_i hl
        have := (datas_ok (r1.gk sw) hd).len
        rw [hl, gk_len] at this
        exact this.symm
      · exact o1.elim
    · exact o1.elim
  exact ⟨by rw [hl, hn1], (sp1_ok R1.sta (r1.gk sw) o1).2⟩
theorem fe_errK2 {ks : List Str} {sw : Bool} (c : ExcK X.prog X.w X.K X.mg X.base k x C ks sw (spX2 C f g)) (hr : Room j X.A) (hkw : FKw X W kws ms) (hk : k + 1 ≤ j := by decide) (hn1 : ks.length = 2 := by rfl) (hgl : Gl X x := by rfl)
    (hall : (backToKw pos (keywordEach kws X.env)).all (·.1.isSome) = true := by rfl) (hks : (backToKw pos (keywordEach kws X.env)).filterMap (·.1) = ks := by rfl)
    (hdb : (x == ("__debug__" : Str)) = false := by decide) (hpl : ((backTo pos (starEach [] X.env)).any (·.1) || (backToKw pos (keywordEach kws X.env)).any (·.1.isNone)) = false := by rfl) :
    FE X W (.Call (.Name x p) [] kws pos) (mErrK C [f, g] sw ms) := by
  obtain ⟨fI, fd, ps, h1, h2, h3, h4⟩ := c.fn
  refine pe_imp (pe_oexK (g := gk sw) c.T h1 h2 h3 (hr.mono hk) (fun zs ws h => vals_gk sw h) h4 hgl c.g hkw hall hks hdb hpl) fun σ H Q ⟨Z, ι, ρ, μ, R, o⟩ => tMA_bind R o fun v μ' Z' ι' H' x x1 R1 r1 o1 => ?_
  have hl : x.length = 2 := by
    unfold mkErr at o1
    split at o1
    · rename_i ds hd
      split at o1
      · rename_i hl
        have := (datas_ok (r1.gk sw) hd).len
        rw [hl, gk_len] at this
        exact this.symm
      · exact o1.elim
    · exact o1.elim
  exact ⟨by rw [hl, hn1], (sp2_ok R1.sta (r1.gk sw) o1).2⟩
end
/-! fields of an error that is held -/
def eFld (C : Addr) (f : Str) (v : MV) (μ : List MO) : Res MV := match v with
  | .d (.err C' fs) => if C' = C then (match fs.lookup f with
    | some x => .ok (.d x) μ
    | none => .bad) else .bad
  | _ => .bad
def mEFld (C : Addr) (f : Str) (ma : ME) : ME := fun ρ μ => (ma ρ μ).bind (eFld C f)
theorem fe_efld {X : Cx} {W : WX} {C : Addr} {f : Str} {e : Expr} {pos : Pos} {ma : ME} (T : XfC X.K C) (hno : PySem.W.findIn X.K (.ref C) f = some none) (he : FE X W e ma) (hb : attributeBase e f X.env (eval e X.env) = eval e X.env := by rfl) : FE X W (.Attribute e f pos) (mEFld C f ma) := by
  refine pe_imp (pe_oxf he hb) fun σ H Q ⟨Z, ι, ρ, μ, R, o⟩ => tM_bind R o fun v μ' Z' ι' H' x x1 R1 r1 o1 => ?_
  unfold eFld at o1
  split at o1
  · split at o1
    · rename_i hC
      subst hC
      split at o1
      · rename_i y hy
        cases r1 with | d r1 => cases r1 with | err q1 q2 r =>
          obtain ⟨v, h4, h5⟩ := r.look hy
          exact ⟨_, _, _, _, v, rfl, T, hno, mask_same _ _ _ _ q1, mask_same _ _ _ _ q2, h4, Out.ret R1.sta o1 (.d h5)⟩
      · exact o1.elim
    · exact o1.elim
  · exact o1.elim
/-! isinstance of an error that is held -/
def rIsO (K : PySem.W.Frag) : List V → Hp → VK → Prop := fun xs H Q => ∃ (a C d : Addr) (c : V) (cv : Value) (b : Bool) (fs : List (Str × V)), xs = [.ref a, c] ∧ ExcC K C ∧ H a = some (exo a C (some d)) ∧ H d = some (exd d fs) ∧ (∀ u, RelV c u → u = cv) ∧ PySem.W.kitOne K (.ref C) cv = some b ∧ Q (.bl b) H
theorem call_isO {X : Cx} : CallR X (.builtin "isinstance") (rIsO X.K) := by
  intro pins s σ H xs us Q I r h
  obtain ⟨a, C, d, c, cv, b, fs, rfl, EC, ea, ed, hcv, e, q⟩ := h
  cases r with
  | cons rx rr =>
    cases rr with
    | cons rt rr =>
      cases rr
      cases rx
      have ec := hcv _ rt
      subst ec
      obtain ⟨t1, ho⟩ := exo_at I.hok ea
      obtain ⟨mA, hns, hr⟩ := exd_at I.hok ed
      obtain ⟨od, hod, hl⟩ := lookIn_ns hns
      have J : PySem.W.InstAt s.heap a _ C (some od) := ⟨ho, rfl, rfl, hod⟩
      exact PySem.W.kia_one (kitx_excD EC.hg EC.hk EC.hs EC.hd EC.ha EC.hn EC.ht EC.hm) I.kIn ⟨_, J⟩ e (fun z => nomatch z) fun tk => ⟨.bl b, H, I.kept (t' := tk) fun _ _ z => z, rfl, q⟩
def isOG (cs : List Addr) (A : Addr) (fb : Addr → Bool) : List D → Option D
  | [.err C _, .gl A'] => if C ∈ cs ∧ A' = A then some (.bl (fb C)) else none
  | _ => none
def isOT (cs : List Addr) (n : String) (fb : Addr → Bool) : List D → Option D
  | [.err C _, .ty n'] => if C ∈ cs ∧ n' = n then some (.bl (fb C)) else none
  | _ => none
theorem c_isOG {K : PySem.W.Frag} {cs : List Addr} {A : Addr} {fb : Addr → Bool} (hk : ∀ C ∈ cs, ExcC K C ∧ PySem.W.kitOne K (.ref C) (.ref A) = some (fb C)) : CallD K (rIsO K) (isOG cs A fb) := fun Z H as c xs Q t h e q => by
  unfold isOG at e
  split at e
  · split at e
    · rename_i hh
      obtain ⟨hC, rfl⟩ := hh
      cases e
      cases h with | cons h1 h2 => cases h2 with | cons h2 h3 => cases h3 with | nil =>
        cases h1 with | d h1 => cases h1 with | err h4 h5 h6 =>
          cases h2 with | d h2 => cases h2 with | gl =>
            exact ⟨_, _, _, _, _, _, _, rfl, (hk _ hC).1, mask_same _ _ _ _ h4, mask_same _ _ _ _ h5, fun u hu => hu, (hk _ hC).2, q H _ (Same.refl _) (.bl _)⟩
    · cases e
  · cases e
theorem c_isOT {K : PySem.W.Frag} {cs : List Addr} {n : String} {fb : Addr → Bool} (hk : ∀ C ∈ cs, ExcC K C ∧ PySem.W.kitOne K (.ref C) (.type n) = some (fb C)) : CallD K (rIsO K) (isOT cs n fb) := fun Z H as c xs Q t h e q => by
  unfold isOT at e
  split at e
  · split at e
    · rename_i hh
      obtain ⟨hC, rfl⟩ := hh
      cases e
      cases h with | cons h1 h2 => cases h2 with | cons h2 h3 => cases h3 with | nil =>
        cases h1 with | d h1 => cases h1 with | err h4 h5 h6 =>
          cases h2 with | d h2 => cases h2 with | ty =>
            exact ⟨_, _, _, _, _, _, _, rfl, (hk _ hC).1, mask_same _ _ _ _ h4, mask_same _ _ _ _ h5, fun u hu => hu, (hk _ hC).2, q H _ (Same.refl _) (.bl _)⟩
    · cases e
  · cases e
/-! str of a number -/
noncomputable def strI : List D → Option D
  | [.int i] => @ite _ (i.natAbs.log2 < 1920) (Classical.propDecidable _) (some (.str (toString i))) none
  | _ => none
theorem c_strI {K : PySem.W.Frag} : CallD K (fun xs H Q => ∃ i : Int, xs = [V.int i] ∧ i.natAbs.log2 < 1920 ∧ Q (.str (toString i)) H) strI := fun Z H as c xs Q t h e q => by
  unfold strI at e
  split at e
  · split at e
    · rename_i hl
      cases e
      cases h with | cons h1 h2 => cases h2 with | nil => rw [h1.int]; exact ⟨_, rfl, hl, q H _ (Same.refl _) (.str _)⟩
    · cases e
  · cases e
/-! two statements: a new list, changed by the second one, data from then on -/
def frz (n i : Nat) (x : D) : Nat → En → En
  | _, [] => []
  | j, v :: r => (if j = i then some (.d x) else match v with
    | some (.ref k) => if k < n then some (.ref k) else none
    | v => v) :: frz n i x (j + 1) r
def fzB (i n : Nat) : SR → SR
  | .nx ρ μ => match ρ[i]? with
    | some (some (.ref k)) => if k = n then (match μ[k]? with
      | some (.lst xs) => if trimmable n (.d (.lst xs)) μ = true then .nx (frz n i (.lst xs) 0 ρ) (μ.take n) else .bad
      | _ => .bad) else .bad
    | _ => .bad
  | .exc _ _ _ _ => .bad
  | .rt _ _ => .bad
  | .bk _ _ => .bad
  | .ct _ _ => .bad
  | .bad => .bad
def mFzB (i : Nat) (m : MS) : MS := fun ρ μ => fzB i μ.length (m ρ μ)
theorem fzB_nx (i n : Nat) (ρ : En) (μ : List MO) : fzB i n (.nx ρ μ) = .bad ∨ ∃ k xs, ρ[i]? = some (some (.ref k)) ∧ k = n ∧ μ[k]? = some (.lst xs) ∧ trimmable n (.d (.lst xs)) μ = true ∧ fzB i n (.nx ρ μ) = .nx (frz n i (.lst xs) 0 ρ) (μ.take n) := by
  unfold fzB
  simp only
  split
  · rename_i k hk
    by_cases h : k = n
    · rw [if_pos h]
      split
      · rename_i xs hx
        by_cases ht : trimmable n (.d (.lst xs)) μ = true
        · rw [if_pos ht]; exact .inr ⟨k, xs, hk, h, hx, ht, rfl⟩
        · rw [if_neg ht]; exact .inl rfl
      · exact .inl rfl
    · rw [if_neg h]; exact .inl rfl
  · exact .inl rfl
theorem RS.frz {K : PySem.W.Frag} {F F' : Hp} {ι ι' : List Addr} {n i : Nat} {x : D} (e : Same F F') (back : ∀ k < n, ∀ a, ι'[k]? = some a → ι[k]? = some a) : ∀ {ρ : En} {σ : St} (j : Nat), RS K F ι' ρ σ → (∀ k v, j + k = i → σ[k]? = some (some v) → ρ[k]? ≠ none → DR K F' x v) → (∀ k, j + k = i → ∀ o, σ[k]? = some o → ∃ v, o = some v) → RS K F' ι (TT.frz n i x j ρ) σ
  | _, _, j, .nil, _, _ => .nil
  | _, _, j, .cons (a := a) (b := b) r t, hx, hs => by
    unfold TT.frz
    refine .cons ?_ (RS.frz e back (j + 1) t (fun k v hk hv hn => hx (k + 1) v (by omega) (by simpa using hv) (by simpa using hn)) fun k hk o ho => hs (k + 1) (by omega) o (by simpa using ho))
    by_cases h : j = i
    · rw [if_pos h]
      obtain ⟨v, rfl⟩ := hs 0 (by omega) b rfl
      exact .some (.d (hx 0 v (by omega) rfl (by simp)))
    · rw [if_neg h]
      cases r with
      | none => exact .none
      | some r =>
        cases r with
        | d r => exact .some (.d (r.mono e _ _))
        | ref r =>
          rename_i k a
          simp only
          split
          · rename_i hk; exact .some (.ref (back k hk a r))
          · exact .none
section
variable {X : Cx} {W : WX} {st1 st2 : Stmt} {rest : List Stmt} {m1 m2 m3 : MS} {i : Nat}
theorem fss_blk2 (h1 : FS X W st1 m1) (h2 : FS X W st2 m2) (h3 : FSs X W rest m3) : FSs X W (st1 :: st2 :: rest) (mSeq (mFzB i (mSeq m1 m2)) m3) := by
  refine pss_imp (pss_cons h1 (pss_cons h2 h3)) fun E σ H ⟨Z, ι, ρ, μ, R, o⟩ => ⟨Z, ι, ρ, μ, R, ?_⟩
  simp only [mSeq, mFzB] at o
  cases q1 : m1 ρ μ with
  | nx ρ1 μ1 =>
    simp only [q1] at o
    intro Z1 ι1 H1 σ1 x1 R1
    refine ⟨Z1, ι1, ρ1, μ1, R1, ?_⟩
    cases q2 : m2 ρ1 μ1 with
    | nx ρ2 μ2 =>
      simp only [q2] at o
      intro Z2 ι2 H2 σ2 x2 R2
      rcases fzB_nx i μ.length ρ2 μ2 with hbad | ⟨k, xs, hk, hkn, hxs, ht, hfz⟩
      · rw [hbad] at o; exact o.elim
      · rw [hfz] at o
        have x := x1.trans x2
        obtain ⟨v, hv, rv⟩ := RS.get R2.rs hk
        cases rv with | ref rv =>
          rename_i a
          obtain ⟨s3, x3⟩ := Sta.drop x R2.sta R.sta.trk R.sta.len (Nat.le_of_eq hkn.symm) rv ht
          obtain ⟨ho, e1, e2⟩ := R2.sta.obj _ _ _ rv hxs
          cases e2 with | lst d =>
            have na : a ∉ Z2.filter (· ≠ a) := fun z => of_decide_eq_true (List.mem_filter.mp z).2 rfl
            have sm : Same (mask H2 Z2) (mask H2 (Z2.filter (· ≠ a))) := mask_sub fun b hb => (List.mem_filter.mp hb).1
            refine ⟨_, ι, _, _, ⟨s3, RS.frz (n := μ.length) sm (fun k hk a e => ?_) 0 R2.rs (fun k' v' hk' hv' _ => ?_) (fun k' hk' o' ho' => ?_)⟩, OutS.base o x3⟩
            · have h4 : ι[k]? = some (ι[k]'(by rw [R.sta.len]; exact hk)) := by simp
              have h5 := x.i k _ h4
              rw [h5] at e
              rw [h4]; exact e
            · have : k' = i := by omega
              subst this
              rw [hv] at hv'
              cases hv'
              exact .lst (mask_in na e1) (d.mono sm _ _)
            · have : k' = i := by omega
              subst this
              rw [hv] at ho'
              cases ho'
              exact ⟨_, rfl⟩
    | rt v μ2 => simp only [q2, fzB] at o; exact o.elim
    | bk ρ2 μ2 => simp only [q2, fzB] at o; exact o.elim
    | ct ρ2 μ2 => simp only [q2, fzB] at o; exact o.elim
    | exc C fs ρ2 μ2 => simp only [q2, fzB] at o; exact o.elim
    | bad => simp only [q2, fzB] at o; exact o.elim
  | rt v μ1 => simp only [q1, fzB] at o; exact o.elim
  | bk ρ1 μ1 => simp only [q1, fzB] at o; exact o.elim
  | ct ρ1 μ1 => simp only [q1, fzB] at o; exact o.elim
  | exc C fs ρ1 μ1 => simp only [q1, fzB] at o; exact o.elim
  | bad => simp only [q1, fzB] at o; exact o.elim
end
end TT

namespace TT
open PySem L2
variable [TB]
/-! steps of plain proofs for errors that are held, and for lists that turn data -/
section
variable {K : MV → List MO → Prop} {E : Addr → List (Str × D) → List MO → Prop} {ρ : En} {μ : List MO} {ma : ME} {ms : MA} {C : Addr} {ks : List Str} {sw : Bool} {as : List MV} {ds : List D} {f : Str} {fs : List (Str × D)} {x : D}
def kErr (C : Addr) (ks : List Str) (K : MV → List MO → Prop) : List MV → List MO → Prop := fun as μ => ∃ ds, datas as = some ds ∧ ds.length = ks.length ∧ K (.d (.err C (ks.zip ds).reverse)) μ
theorem mkErr_to (h : kErr C ks K as μ) : (mkErr C ks as μ).to K E := by
  obtain ⟨ds, h1, h2, h3⟩ := h
  unfold mkErr
  rw [h1]
  simp only [if_pos h2]
  exact h3
theorem z_err (h : (ms ρ μ).to (kErr C ks K) E) : (mErr C ks ms ρ μ).to K E := to_bind (tom h (fun _ _ h => mkErr_to h) fun _ _ _ z => z)
theorem k_err (h1 : datas as = some ds) (h2 : ds.length = ks.length) (h : K (.d (.err C (ks.zip ds).reverse)) μ) : kErr C ks K as μ := ⟨ds, h1, h2, h⟩
def kErrK (C : Addr) (ks : List Str) (sw : Bool) (K : MV → List MO → Prop) : List MV → List MO → Prop := fun as μ => kErr C ks K (gk sw as) μ
theorem z_errK (h : (ms ρ μ).to (kErrK C ks sw K) E) : (mErrK C ks sw ms ρ μ).to K E := to_bind (tom h (fun _ _ h => mkErr_to h) fun _ _ _ z => z)
theorem k_errK (h1 : datas (gk sw as) = some ds) (h2 : ds.length = ks.length) (h : K (.d (.err C (ks.zip ds).reverse)) μ) : kErrK C ks sw K as μ := ⟨ds, h1, h2, h⟩
theorem e_efld (h : (ma ρ μ).to (fun v μ1 => (eFld C f v μ1).to K E) E) : (mEFld C f ma ρ μ).to K E := to_bind h
theorem k_efld (h1 : fs.lookup f = some x) (h : K (.d x) μ) : (eFld C f (.d (.err C fs)) μ).to K E := by
  unfold eFld
  simp only [if_true, h1]
  exact h
end
/-- the rest is hidden, so that nothing runs into it -/
theorem w_seqG {N : En → List MO → Prop} {R : MV → List MO → Prop} {B C : En → List MO → Prop} {EE : Addr → List (Str × D) → En → List MO → Prop} {m n : MS} {ρ : En} {μ : List MO} (h : ∀ r, r = n → (m ρ μ).to (fun ρ' μ' => (r ρ' μ').to N R B C EE) R B C EE) : (mSeq m n ρ μ).to N R B C EE := w_seq (h n rfl)
theorem w_fzb {N : En → List MO → Prop} {R : MV → List MO → Prop} {B C : En → List MO → Prop} {EE : Addr → List (Str × D) → En → List MO → Prop} {m : MS} {ρ : En} {μ : List MO} {i : Nat}
    (h : (m ρ μ).to (fun ρ' μ' => ∃ xs, ρ'[i]? = some (some (.ref μ.length)) ∧ μ'[μ.length]? = some (.lst xs) ∧ trimmable μ.length (.d (.lst xs)) μ' = true ∧ N (frz μ.length i (.lst xs) 0 ρ') (μ'.take μ.length)) (fun _ _ => False) (fun _ _ => False) (fun _ _ => False) (fun _ _ _ _ => False)) : (mFzB i m ρ μ).to N R B C EE := by
  unfold mFzB
  cases q : m ρ μ with
  | nx ρ' μ' =>
    rw [q] at h
    obtain ⟨xs, h1, h2, h3, h4⟩ := h
    simp only [fzB, h1, h2, h3, if_true]
    exact h4
  | rt v μ' => rw [q] at h; exact h.elim
  | bk v μ' => rw [q] at h; exact h.elim
  | ct v μ' => rw [q] at h; exact h.elim
  | exc c fs v μ' => rw [q] at h; exact h.elim
  | bad => rw [q] at h; exact h.elim
end TT

namespace TT
open PySem L2
variable [TB]
/-! dict(list of pairs) -/
def pairsK : List D → Option (List (Key × D))
  | [] => some []
  | .tup [k, v] :: r => match keyOf k, pairsK r with
    | some kk, some rs => some ((kk, v) :: rs)
    | _, _ => none
  | _ => none
def mergeD (kvs : List (Key × D)) : List (Key × D) → List (Key × D)
  | [] => kvs
  | kv :: r => mergeD (putD kvs kv.1 kv.2) r
def dictD : D → Option D
  | .lst xs => match pairsK xs with
    | some kvs => some (.dK (mergeD [] kvs))
    | none => none
  | _ => none
section
variable {K : PySem.W.Frag} {Z : List Addr} {H : Hp}
theorem pairs_ok : ∀ {xs : List D} {vs : List V} {kds : List (Key × D)}, DRs K (mask H Z) xs vs → pairsK xs = some kds → ∃ (ps : List Addr) (kvs : List (Key × V)), vs = ps.map V.ref ∧ Paired (fun p kv => SqT K H p [kV kv.1, kv.2]) ps kvs ∧ DRk K (mask H Z) kds kvs
  | _, _, _, .nil, e => by cases e; exact ⟨[], [], rfl, .nil, .nil⟩
  | x :: xs, _, kds, .cons a b, e => by
    unfold pairsK at e
    split at e
    · rename_i h; cases h
    · rename_i k v r heq
      cases heq
      split at e
      · rename_i kk rs h1 h2
        cases e
        obtain ⟨ps, kvs, e1, e2, e3⟩ := pairs_ok b h2
        cases a with | tup q r =>
          cases r with | cons rk rr => cases rr with | cons rv rr => cases rr with | nil =>
            rename_i p vk vv
            have hk := keyOf_ok (.d rk) h1
            subst hk
            exact ⟨p :: ps, (kk, vv) :: kvs, by rw [e1]; rfl, .cons (SqT.of (mask_same _ _ _ _ q)) e2, .cons rv e3⟩
      · cases e
    · cases e
theorem DRk.merge {F : Hp} : ∀ {kds : List (Key × D)} {kvs : List (Key × V)} {acc : List (Key × D)} {ac : List (Key × V)}, DRk K F kds kvs → DRk K F acc ac → DRk K F (mergeD acc kds) (mergeK ac kvs)
  | _, _, _, _, .nil, h => h
  | (k, d) :: ds, (_, v) :: vs, acc, ac, .cons a b, h => by
    show DRk K F (mergeD (putD acc k d) ds) (mergeK (putK ac k v) vs)
    exact DRk.merge b (DRk.put a h)
theorem new_dK {p : Addr} {xs : List (Key × D)} {vs : List (Key × V)} (t : ∀ a ∈ Z, ∃ o, H a = some o) (n : H p = none) (r : DRk K (mask H Z) xs vs) :
    Same H (upd H p (.dK vs)) ∧ DR K (mask (upd H p (.dK vs)) Z) (.dK xs) (.ref p) := by
  have np : p ∉ Z := fun q => by obtain ⟨o, e⟩ := t p q; rw [n] at e; cases e
  have s : Same H (upd H p (.dK vs)) := fun a o e => (upd_ne (ne_of_none e n)).trans e
  refine ⟨s, .dK (mask_in np upd_same) (r.mono (fun a o e => ?_) _ _)⟩
  obtain ⟨n1, e1⟩ := of_mask e
  exact mask_in n1 (s a o e1) (mask_nt e)
theorem c_dict : CallD K (fun xs H Q => ∃ (a : Addr) (ps : List Addr) (kvs : List (Key × V)), xs = [.ref a] ∧ SqL K H a (ps.map V.ref) ∧ Paired (fun p kv => SqT K H p [kV kv.1, kv.2]) ps kvs ∧ ∀ p, H p = none → Q (.ref p) (upd H p (.dK (mergeK [] kvs)))) (one dictD) := fun Z H as c xs Q t h e q => by
  unfold one at e
  split at e
  · rename_i d
    cases h with | cons h1 h2 => cases h2 with | nil =>
      unfold dictD at e
      split at e
      · split at e
        · rename_i kds hk
          cases e
          obtain ⟨a, vs, rfl, ha, r⟩ := h1.list
          obtain ⟨ps, kvs, rfl, hp, hd⟩ := pairs_ok r hk
          refine ⟨a, ps, kvs, rfl, SqL.of ha, hp, fun p hp0 => ?_⟩
          obtain ⟨s, rr⟩ := new_dK (K := K) t hp0 (DRk.merge hd .nil)
          exact q _ _ s rr
        · cases e
      · cases e
  · cases e
/-! min of a list of numbers -/
def minI : Int → List Int → Int
  | m, [] => m
  | m, x :: r => minI (if x < m then x else m) r
theorem minI_le : ∀ (m : Int) (l : List Int), minI m l ≤ m ∧ (∀ x ∈ l, minI m l ≤ x) ∧ (minI m l = m ∨ minI m l ∈ l)
  | m, [] => ⟨Int.le_refl _, (fun x h => by cases h), .inl rfl⟩
  | m, x :: r => by
    obtain ⟨h1, h2, h3⟩ := minI_le (if x < m then x else m) r
    unfold minI
    refine ⟨Int.le_trans h1 (by split <;> omega), fun y hy => ?_, ?_⟩
    · rcases List.mem_cons.mp hy with rfl | hy
      · exact Int.le_trans h1 (by split <;> omega)
      · exact h2 y hy
    · rcases h3 with h3 | h3
      · by_cases c : x < m
        · rw [if_pos c] at h3 ⊢; exact .inr (by rw [h3]; exact List.mem_cons_self)
        · rw [if_neg c] at h3 ⊢; exact .inl h3
      · exact .inr (List.mem_cons_of_mem _ h3)
def minL : D → Option D
  | .lst xs => match nums xs with
    | some (x :: r) => some (.int (minI x r))
    | _ => none
  | _ => none
theorem c_min : CallD K (fun vs H Q => ∃ (a : Addr) (ns : List Int), vs = [V.ref a] ∧ SqL K H a (ns.map V.int) ∧ 0 < ns.length ∧ ∀ m, m ∈ ns → (∀ y, y ∈ ns → m ≤ y) → Q (.int m) H) (one minL) := fun Z H as c xs Q t h e q => by
  unfold one at e
  split at e
  · cases h with | cons h1 h2 => cases h2 with | nil =>
      unfold minL at e
      split at e
      · split at e
        · rename_i x r hn
          cases e
          obtain ⟨a, vs, rfl, ha, rr⟩ := h1.list
          refine ⟨a, x :: r, rfl, by rw [← nums_ok rr hn]; exact SqL.of ha, by simp, fun m hm hl => ?_⟩
          obtain ⟨k1, k2, k3⟩ := minI_le x r
          have e1 : m ≤ minI x r := by
            rcases k3 with k3 | k3
            · rw [k3]; exact hl x List.mem_cons_self
            · exact hl _ (List.mem_cons_of_mem _ k3)
          have e2 : minI x r ≤ m := by
            rcases List.mem_cons.mp hm with rfl | hm
            · exact k1
            · exact k2 m hm
          have : m = minI x r := by omega
          rw [this]
          exact same_ok q (.int _)
        · cases e
      · cases e
  · cases e
end
end TT

local macro_rules | `(tactic| wtm_at "atx") => `(tactic| first | with_reducible exact TT.at0 | with_reducible exact TT.at1 | with_reducible exact TT.at2 | with_reducible exact TT.at3 | with_unfolding_all rfl)
local macro_rules | `(tactic| wtm_at "setx") => `(tactic| first | with_reducible exact TT.set0 | with_reducible exact TT.set1 | with_reducible exact TT.set2 | with_reducible exact TT.set3 | with_unfolding_all rfl)
local macro_rules | `(tactic| wtm_at "vwx") => `(tactic| first | with_reducible exact TT.view_lst TT.at0 | with_reducible exact TT.view_lst TT.at1 | with_reducible exact TT.view_lst TT.at2 | with_reducible exact TT.view_lst TT.at3)
local macro_rules | `(tactic| wtm_at "vw") => `(tactic| first | with_unfolding_all rfl | wtm_at "vwx" | with_reducible exact TT.view_lst (by assumption))
local macro_rules | `(tactic| wtm_at "szl") => `(tactic| first | decide | (simp only [PySem.sizeLine_eq, List.length_cons, List.length_nil]; omega) | (rw [PySem.sizeLine_eq]; simp; done))
local macro_rules | `(tactic| wtm_at "w1") => `(tactic| first
  | with_reducible refine TT.w_seq ?_
  | with_reducible refine TT.w_set ?_
  | with_reducible refine TT.e_var (by with_unfolding_all rfl) ?_
  | with_reducible refine TT.e_c ?_
  | with_reducible refine TT.e_cons ?_
  | with_reducible refine TT.e_nil ?_
  | with_reducible refine TT.e_bin ?_
  | with_reducible refine TT.e_op2 (by with_unfolding_all rfl) (by with_unfolding_all rfl) (by with_unfolding_all rfl) ?_
  | with_reducible refine TT.e_un ?_
  | with_reducible refine TT.e_op1 (by with_unfolding_all rfl) (by with_unfolding_all rfl) ?_
  | with_reducible refine TT.e_n ?_
  | with_reducible refine TT.e_opN (by with_unfolding_all rfl) (by with_unfolding_all rfl) ?_
  | with_reducible refine TT.z_call ?_
  | with_reducible refine TT.k_call (by with_unfolding_all rfl) ?_
  | with_reducible refine TT.z_callZ ?_
  | with_reducible refine TT.z_tup ?_
  | with_reducible refine TT.k_tup (by with_unfolding_all rfl) (by wtm_at "szl") ?_
  | with_reducible refine TT.z_ifs ?_
  | with_reducible refine TT.br_t ?_
  | with_reducible refine TT.br_f ?_
  | with_reducible refine TT.e_b ?_
  | with_reducible refine TT.e_bl ?_
  | with_reducible refine TT.e_t ?_
  | with_reducible refine TT.e_tru (by with_unfolding_all rfl) (by with_unfolding_all rfl) ?_
  | with_reducible refine TT.z_and ?_
  | with_reducible refine TT.z_or ?_
  | with_reducible refine TT.z_not ?_
  | with_reducible refine TT.k_not_t ?_
  | with_reducible refine TT.k_not_f ?_
  | with_reducible refine TT.k_not ?_
  | with_reducible refine TT.z_if ?_
  | with_reducible refine TT.w_ret ?_
  | with_reducible refine TT.w_expr ?_
  | with_reducible refine TT.w_next ?_
  | with_reducible refine TT.w_bk ?_
  | with_reducible refine TT.w_ct ?_
  | with_reducible refine TT.z_asg ?_
  | with_reducible refine TT.k_asg (by with_unfolding_all rfl) ?_
  | with_reducible refine TT.z_par2 ?_
  | with_reducible refine TT.k_par2 ?_
  | with_reducible refine TT.z_par3 ?_
  | with_reducible refine TT.k_par3 ?_
  | with_reducible refine TT.z_parN ?_
  | with_reducible refine TT.k_parN (by with_unfolding_all rfl) (by decide) ?_
  | with_reducible refine TT.e_fz ?_
  | with_reducible refine TT.e_own ?_
  | with_reducible refine TT.z_lst ?_
  | with_reducible refine TT.k_lst (by with_unfolding_all rfl) (by wtm_at "szl") ?_
  | with_reducible refine TT.z_andv ?_
  | with_reducible refine TT.z_orv ?_
  | with_reducible refine TT.k_bl ?_
  | with_reducible refine TT.z_chain ?_
  | with_reducible refine TT.z_nl ?_
  | with_reducible refine TT.k_nl (by with_unfolding_all rfl) (by with_unfolding_all rfl) ?_
  | with_reducible refine TT.z_binl ?_
  | with_reducible refine TT.k_binl (by with_unfolding_all rfl) (by with_unfolding_all rfl) (by with_unfolding_all rfl) ?_
  | with_reducible refine TT.z_mut ?_
  | with_reducible refine TT.w_retN ?_
  | with_reducible refine TT.w_aug (by with_unfolding_all rfl) ?_
  | with_reducible refine TT.z_setix ?_
  | with_reducible refine TT.k_setix (by with_unfolding_all rfl) ?_
  | with_reducible refine TT.z_setf ?_
  | with_reducible refine TT.z_raise ?_
  | with_reducible refine TT.k_raise (by with_unfolding_all rfl) (by with_unfolding_all rfl) ?_
  | with_reducible refine TT.z_match ?_
  | with_reducible refine TT.k_match ?_
  | with_reducible refine TT.e_it ?_
  | with_reducible refine TT.e_ita ?_
  | with_reducible refine TT.e_slice ?_
  | with_reducible refine TT.z_ps ?_
  | with_reducible refine TT.k_ps ?_
  | with_reducible refine TT.e_pn ?_
  | with_reducible refine TT.z_lset ?_
  | with_reducible refine TT.e_fld ?_
  | with_reducible refine TT.e_mkF ?_
  | with_reducible refine TT.z_err ?_
  | with_reducible refine TT.k_err (by with_unfolding_all rfl) (by with_unfolding_all rfl) ?_
  | with_reducible refine TT.z_errK ?_
  | with_reducible refine TT.k_errK (by with_unfolding_all rfl) (by with_unfolding_all rfl) ?_
  | with_reducible refine TT.e_efld ?_
  | with_reducible refine TT.k_efld (by with_unfolding_all rfl) ?_
  | (with_reducible apply TT.k_mut; (focus ((with_reducible apply TT.isLst_of; wtm_at "atx"))))
  | (with_reducible apply TT.k_mut2s; (focus (with_unfolding_all rfl)); (focus (wtm_at "atx")); (focus (with_unfolding_all rfl)); (focus (wtm_at "setx")))
  | (with_reducible apply TT.e_op2; (focus (wtm_at "vw")); (focus (wtm_at "vw")); (focus (with_unfolding_all rfl)))
  | (with_reducible apply TT.e_op1; (focus (wtm_at "vw")); (focus (with_unfolding_all rfl)))
  | (with_reducible apply TT.e_opN; (focus (first | with_unfolding_all rfl | (with_reducible apply TT.views1; wtm_at "vwx"))); (focus (with_unfolding_all rfl)))
  | (with_reducible apply TT.k_nl; (focus (first | with_unfolding_all rfl | (with_reducible apply TT.views1; wtm_at "vwx"))); (focus (with_unfolding_all rfl)))
  | (with_reducible apply TT.e_tru; (focus (wtm_at "vw")); (focus (with_unfolding_all rfl))))
local macro_rules | `(tactic| wtm_at "w2") => `(tactic| first
  | with_reducible refine TT.w_set ?_
  | with_reducible refine TT.e_var (by with_unfolding_all rfl) ?_
  | with_reducible refine TT.e_c ?_
  | with_reducible refine TT.e_cons ?_
  | with_reducible refine TT.e_nil ?_
  | with_reducible refine TT.e_bin ?_
  | with_reducible refine TT.e_op2 (by with_unfolding_all rfl) (by with_unfolding_all rfl) (by with_unfolding_all rfl) ?_
  | with_reducible refine TT.e_un ?_
  | with_reducible refine TT.e_op1 (by with_unfolding_all rfl) (by with_unfolding_all rfl) ?_
  | with_reducible refine TT.e_n ?_
  | with_reducible refine TT.e_opN (by with_unfolding_all rfl) (by with_unfolding_all rfl) ?_
  | with_reducible refine TT.z_call ?_
  | with_reducible refine TT.k_call (by with_unfolding_all rfl) ?_
  | with_reducible refine TT.z_callZ ?_
  | with_reducible refine TT.z_tup ?_
  | with_reducible refine TT.k_tup (by with_unfolding_all rfl) (by wtm_at "szl") ?_
  | with_reducible refine TT.z_ifs ?_
  | with_reducible refine TT.br_t ?_
  | with_reducible refine TT.br_f ?_
  | with_reducible refine TT.e_b ?_
  | with_reducible refine TT.e_bl ?_
  | with_reducible refine TT.e_t ?_
  | with_reducible refine TT.e_tru (by with_unfolding_all rfl) (by with_unfolding_all rfl) ?_
  | with_reducible refine TT.z_and ?_
  | with_reducible refine TT.z_or ?_
  | with_reducible refine TT.z_not ?_
  | with_reducible refine TT.k_not_t ?_
  | with_reducible refine TT.k_not_f ?_
  | with_reducible refine TT.k_not ?_
  | with_reducible refine TT.z_if ?_
  | with_reducible refine TT.w_ret ?_
  | with_reducible refine TT.w_expr ?_
  | with_reducible refine TT.w_next ?_
  | with_reducible refine TT.w_bk ?_
  | with_reducible refine TT.w_ct ?_
  | with_reducible refine TT.z_asg ?_
  | with_reducible refine TT.k_asg (by with_unfolding_all rfl) ?_
  | with_reducible refine TT.z_par2 ?_
  | with_reducible refine TT.k_par2 ?_
  | with_reducible refine TT.z_par3 ?_
  | with_reducible refine TT.k_par3 ?_
  | with_reducible refine TT.z_parN ?_
  | with_reducible refine TT.k_parN (by with_unfolding_all rfl) (by decide) ?_
  | with_reducible refine TT.e_fz ?_
  | with_reducible refine TT.e_own ?_
  | with_reducible refine TT.z_lst ?_
  | with_reducible refine TT.k_lst (by with_unfolding_all rfl) (by wtm_at "szl") ?_
  | with_reducible refine TT.z_andv ?_
  | with_reducible refine TT.z_orv ?_
  | with_reducible refine TT.k_bl ?_
  | with_reducible refine TT.z_chain ?_
  | with_reducible refine TT.z_nl ?_
  | with_reducible refine TT.k_nl (by with_unfolding_all rfl) (by with_unfolding_all rfl) ?_
  | with_reducible refine TT.z_binl ?_
  | with_reducible refine TT.k_binl (by with_unfolding_all rfl) (by with_unfolding_all rfl) (by with_unfolding_all rfl) ?_
  | with_reducible refine TT.z_mut ?_
  | with_reducible refine TT.w_retN ?_
  | with_reducible refine TT.w_aug (by with_unfolding_all rfl) ?_
  | with_reducible refine TT.z_setix ?_
  | with_reducible refine TT.k_setix (by with_unfolding_all rfl) ?_
  | with_reducible refine TT.z_setf ?_
  | with_reducible refine TT.z_raise ?_
  | with_reducible refine TT.k_raise (by with_unfolding_all rfl) (by with_unfolding_all rfl) ?_
  | with_reducible refine TT.z_match ?_
  | with_reducible refine TT.k_match ?_
  | with_reducible refine TT.e_it ?_
  | with_reducible refine TT.e_ita ?_
  | with_reducible refine TT.e_slice ?_
  | with_reducible refine TT.z_ps ?_
  | with_reducible refine TT.k_ps ?_
  | with_reducible refine TT.e_pn ?_
  | with_reducible refine TT.z_lset ?_
  | with_reducible refine TT.e_fld ?_
  | with_reducible refine TT.e_mkF ?_
  | with_reducible refine TT.z_err ?_
  | with_reducible refine TT.k_err (by with_unfolding_all rfl) (by with_unfolding_all rfl) ?_
  | with_reducible refine TT.z_errK ?_
  | with_reducible refine TT.k_errK (by with_unfolding_all rfl) (by with_unfolding_all rfl) ?_
  | with_reducible refine TT.e_efld ?_
  | with_reducible refine TT.k_efld (by with_unfolding_all rfl) ?_
  | (with_reducible apply TT.k_mut; (focus ((with_reducible apply TT.isLst_of; wtm_at "atx"))))
  | (with_reducible apply TT.k_mut2s; (focus (with_unfolding_all rfl)); (focus (wtm_at "atx")); (focus (with_unfolding_all rfl)); (focus (wtm_at "setx")))
  | (with_reducible apply TT.e_op2; (focus (wtm_at "vw")); (focus (wtm_at "vw")); (focus (with_unfolding_all rfl)))
  | (with_reducible apply TT.e_op1; (focus (wtm_at "vw")); (focus (with_unfolding_all rfl)))
  | (with_reducible apply TT.e_opN; (focus (first | with_unfolding_all rfl | (with_reducible apply TT.views1; wtm_at "vwx"))); (focus (with_unfolding_all rfl)))
  | (with_reducible apply TT.k_nl; (focus (first | with_unfolding_all rfl | (with_reducible apply TT.views1; wtm_at "vwx"))); (focus (with_unfolding_all rfl)))
  | (with_reducible apply TT.e_tru; (focus (wtm_at "vw")); (focus (with_unfolding_all rfl))))
local macro_rules | `(tactic| wtm_at "wr") => `(tactic| repeat wtm_at "w1")
local macro_rules | `(tactic| wtm_at "wx") => `(tactic| repeat wtm_at "w2")

namespace TT
open PySem L2
variable [TB]
def top (i : Nat) : Stmt := PySem.Challenge.pw_tailtables_k05_names_refused.main.body.getD i (.Pass ⟨0, 0, 0, 0⟩)
abbrev s__wall : Stmt := top 0
theorem sc__wall : FnScope ["k"] ["k"] (defScope s__wall) := ⟨rfl, rfl, rfl, by decide +kernel, rfl, by decide +kernel, by decide +kernel⟩
abbrev s_BadFunction___init__ : Stmt := inClass (top 3) 0
theorem sc_BadFunction___init__ : FnScope ["self", "at"] ["self", "at"] (defScope s_BadFunction___init__) := ⟨rfl, rfl, rfl, by decide +kernel, rfl, by decide +kernel, by decide +kernel⟩
abbrev s_Twice___init__ : Stmt := inClass (top 4) 0
theorem sc_Twice___init__ : FnScope ["self", "name"] ["self", "name"] (defScope s_Twice___init__) := ⟨rfl, rfl, rfl, by decide +kernel, rfl, by decide +kernel, by decide +kernel⟩
abbrev s_TooLarge___init__ : Stmt := inClass (top 5) 0
theorem sc_TooLarge___init__ : FnScope ["self", "nodes", "deepest"] ["self", "nodes", "deepest"] (defScope s_TooLarge___init__) := ⟨rfl, rfl, rfl, by decide +kernel, rfl, by decide +kernel, by decide +kernel⟩
abbrev s_Unknown___init__ : Stmt := inClass (top 6) 0
theorem sc_Unknown___init__ : FnScope ["self", "name"] ["self", "name"] (defScope s_Unknown___init__) := ⟨rfl, rfl, rfl, by decide +kernel, rfl, by decide +kernel, by decide +kernel⟩
abbrev s_Arity___init__ : Stmt := inClass (top 7) 0
theorem sc_Arity___init__ : FnScope ["self", "name", "given"] ["self", "name", "given"] (defScope s_Arity___init__) := ⟨rfl, rfl, rfl, by decide +kernel, rfl, by decide +kernel, by decide +kernel⟩
abbrev s_Unbound___init__ : Stmt := inClass (top 8) 0
theorem sc_Unbound___init__ : FnScope ["self", "name"] ["self", "name"] (defScope s_Unbound___init__) := ⟨rfl, rfl, rfl, by decide +kernel, rfl, by decide +kernel, by decide +kernel⟩
abbrev s_is_integer : Stmt := top 14
theorem sc_is_integer : FnScope ["thing"] ["thing"] (defScope s_is_integer) := ⟨rfl, rfl, rfl, by decide +kernel, rfl, by decide +kernel, by decide +kernel⟩
abbrev s_is_name : Stmt := top 15
theorem sc_is_name : FnScope ["thing", "sign"] ["thing"] (defScope s_is_name) := ⟨rfl, rfl, rfl, by decide +kernel, rfl, by decide +kernel, by decide +kernel⟩
abbrev s_is_atom : Stmt := top 16
theorem sc_is_atom : FnScope ["thing", "place"] ["thing", "place"] (defScope s_is_atom) := ⟨rfl, rfl, rfl, by decide +kernel, rfl, by decide +kernel, by decide +kernel⟩
abbrev s_are_atoms : Stmt := top 17
theorem sc_are_atoms : FnScope ["things", "place", "most", "one"] ["things", "place", "most"] (defScope s_are_atoms) := ⟨rfl, rfl, rfl, by decide +kernel, rfl, by decide +kernel, by decide +kernel⟩
abbrev s_first_twice : Stmt := top 18
theorem sc_first_twice : FnScope ["names", "seen", "name"] ["names"] (defScope s_first_twice) := ⟨rfl, rfl, rfl, by decide +kernel, rfl, by decide +kernel, by decide +kernel⟩
abbrev s_measured : Stmt := top 19
theorem sc_measured : FnScope ["body", "inside", "rows", "nodes", "deepest", "part", "level", "within", "one"] ["body", "inside"] (defScope s_measured) := ⟨rfl, rfl, rfl, by decide +kernel, rfl, by decide +kernel, by decide +kernel⟩
abbrev s_expressions_in : Stmt := top 21
theorem sc_expressions_in : FnScope ["thing", "atom", "name", "args", "yes", "no", "first", "then", "body", "handler"] ["thing"] (defScope s_expressions_in) := ⟨rfl, rfl, rfl, by decide +kernel, rfl, by decide +kernel, by decide +kernel⟩
abbrev s_is_function : Stmt := top 22
theorem sc_is_function : FnScope ["thing", "params", "one"] ["thing"] (defScope s_is_function) := ⟨rfl, rfl, rfl, by decide +kernel, rfl, by decide +kernel, by decide +kernel⟩
abbrev s_atoms_of : Stmt := top 23
theorem sc_atoms_of : FnScope ["expression", "amount", "name", "atom", "args", "yes", "no"] ["expression"] (defScope s_atoms_of) := ⟨rfl, rfl, rfl, by decide +kernel, rfl, by decide +kernel, by decide +kernel⟩
abbrev s_level_of : Stmt := top 24
theorem sc_level_of : FnScope ["name", "scope", "level"] ["name", "scope"] (defScope s_level_of) := ⟨rfl, rfl, rfl, by decide +kernel, rfl, by decide +kernel, by decide +kernel⟩
abbrev s_parts_in_scope : Stmt := top 25
theorem sc_parts_in_scope : FnScope ["expression", "scope", "name", "args", "yes", "no", "first", "then", "body", "handler"] ["expression", "scope"] (defScope s_parts_in_scope) := ⟨rfl, rfl, rfl, by decide +kernel, rfl, by decide +kernel, by decide +kernel⟩
abbrev s_look_body : Stmt := top 26
theorem sc_look_body : FnScope ["body", "params", "arities", "rows", "part", "scope", "atom"] ["body", "params", "arities"] (defScope s_look_body) := ⟨rfl, rfl, rfl, by decide +kernel, rfl, by decide +kernel, by decide +kernel⟩
abbrev s_Program___init__ : Stmt := inClass (top 27) 2
theorem sc_Program___init__ : FnScope ["self", "functions", "at", "thing", "again", "sizes", "nodes", "depth", "arities", "name", "params", "body", "size", "row"] ["self", "functions"] (defScope s_Program___init__) := ⟨rfl, rfl, rfl, by decide +kernel, rfl, by decide +kernel, by decide +kernel⟩
abbrev s_Program_empty : Stmt := inClass (top 27) 3
theorem sc_Program_empty : FnScope ["cls"] ["cls"] (defScope s_Program_empty) := ⟨rfl, rfl, rfl, by decide +kernel, rfl, by decide +kernel, by decide +kernel⟩
abbrev s_Program___contains__ : Stmt := inClass (top 27) 4
theorem sc_Program___contains__ : FnScope ["self", "thing"] ["self", "thing"] (defScope s_Program___contains__) := ⟨rfl, rfl, rfl, by decide +kernel, rfl, by decide +kernel, by decide +kernel⟩
abbrev s_Program___len__ : Stmt := inClass (top 27) 5
theorem sc_Program___len__ : FnScope ["self"] ["self"] (defScope s_Program___len__) := ⟨rfl, rfl, rfl, by decide +kernel, rfl, by decide +kernel, by decide +kernel⟩
abbrev s_Program___iter__ : Stmt := inClass (top 27) 6
theorem sc_Program___iter__ : FnScope ["self"] ["self"] (defScope s_Program___iter__) := ⟨rfl, rfl, rfl, by decide +kernel, rfl, by decide +kernel, by decide +kernel⟩
abbrev s_Program___getitem__ : Stmt := inClass (top 27) 7
theorem sc_Program___getitem__ : FnScope ["self", "thing", "row"] ["self", "thing"] (defScope s_Program___getitem__) := ⟨rfl, rfl, rfl, by decide +kernel, rfl, by decide +kernel, by decide +kernel⟩
abbrev s_bag : Stmt := top 29
theorem sc_bag : FnScope ["_law_script", "_law_at", "_law_cell", "_law_mixed", "_law_k", "_law_each"] ["_law_script", "_law_at"] (defScope s_bag) := ⟨rfl, rfl, rfl, by decide +kernel, rfl, by decide +kernel, by decide +kernel⟩
abbrev s_take : Stmt := top 30
theorem sc_take : FnScope ["_law_bag_here", "_law_many", "_law_digit"] ["_law_bag_here", "_law_many"] (defScope s_take) := ⟨rfl, rfl, rfl, by decide +kernel, rfl, by decide +kernel, by decide +kernel⟩
abbrev s_number : Stmt := top 31
theorem sc_number : FnScope ["_law_bag_here", "_law_limit", "_law_kind"] ["_law_bag_here", "_law_limit"] (defScope s_number) := ⟨rfl, rfl, rfl, by decide +kernel, rfl, by decide +kernel, by decide +kernel⟩
abbrev s_names : Stmt := top 32
theorem sc_names : FnScope ["_law_bag_here", "_law_many", "_law_left", "_law_found", "_law_stem", "_law_turn", "_law_is_ahead", "_law_letter"] ["_law_bag_here", "_law_many"] (defScope s_names) := ⟨rfl, rfl, rfl, by decide +kernel, rfl, by decide +kernel, by decide +kernel⟩
abbrev s_atom : Stmt := top 33
theorem sc_atom : FnScope ["_law_bag_here", "_law_scope"] ["_law_bag_here", "_law_scope"] (defScope s_atom) := ⟨rfl, rfl, rfl, by decide +kernel, rfl, by decide +kernel, by decide +kernel⟩
abbrev s_atoms : Stmt := top 34
theorem sc_atoms : FnScope ["_law_bag_here", "_law_scope", "_law_many", "_law_k"] ["_law_bag_here", "_law_scope", "_law_many"] (defScope s_atoms) := ⟨rfl, rfl, rfl, by decide +kernel, rfl, by decide +kernel, by decide +kernel⟩
abbrev s_leaf : Stmt := top 35
theorem sc_leaf : FnScope ["_law_bag_here", "_law_scope", "_law_rows", "_law_kind", "_law_name", "_law_many"] ["_law_bag_here", "_law_scope", "_law_rows"] (defScope s_leaf) := ⟨rfl, rfl, rfl, by decide +kernel, rfl, by decide +kernel, by decide +kernel⟩
abbrev s_expression : Stmt := top 36
theorem sc_expression : FnScope ["_law_bag_here", "_law_scope", "_law_rows", "_law_room", "_law_kind", "_law_ahead", "_law_name", "_law_inner", "_law_first_here", "_law_last"] ["_law_bag_here", "_law_scope", "_law_rows", "_law_room"] (defScope s_expression) := ⟨rfl, rfl, rfl, by decide +kernel, rfl, by decide +kernel, by decide +kernel⟩
abbrev s_functions : Stmt := top 37
theorem sc_functions : FnScope ["_law_bag_here", "_law_limit", "_law_room", "_law_names_here", "_law_found", "_law_rows", "_law_name", "_law_many", "_law_params"] ["_law_bag_here", "_law_limit", "_law_room"] (defScope s_functions) := ⟨rfl, rfl, rfl, by decide +kernel, rfl, by decide +kernel, by decide +kernel⟩
abbrev s_told : Stmt := top 38
theorem sc_told : FnScope ["_law_functions_here", "_law_program", "e"] ["_law_functions_here"] (defScope s_told) := ⟨rfl, rfl, rfl, by decide +kernel, rfl, by decide +kernel, by decide +kernel⟩
abbrev s_first : Stmt := top 39
theorem sc_first : FnScope ["_law_here", "_law_scope", "_law_arities", "_law_atoms_here", "_law_atom_here", "_law_rows", "_law_part", "_law_names_here", "_law_found"] ["_law_here", "_law_scope", "_law_arities"] (defScope s_first) := ⟨rfl, rfl, rfl, by decide +kernel, rfl, by decide +kernel, by decide +kernel⟩
abbrev s_spoilt : Stmt := top 40
theorem sc_spoilt : FnScope ["_law_bag_here", "_law_functions_here", "_law_found", "_law_name", "_law_params", "_law_body", "_law_scope", "_law_rows", "_law_odd", "_law_row"] ["_law_bag_here", "_law_functions_here"] (defScope s_spoilt) := ⟨rfl, rfl, rfl, by decide +kernel, rfl, by decide +kernel, by decide +kernel⟩
abbrev s_law : Stmt := top 41
theorem sc_law : FnScope ["_law_script", "_law_at", "_law_bag_here", "_law_functions_here", "_law_turn", "_law_rows", "_law_due", "_law_arities", "_law_name", "_law_params", "_law_body", "_law_row"] ["_law_script"] (defScope s_law) := ⟨rfl, rfl, rfl, by decide +kernel, rfl, by decide +kernel, by decide +kernel⟩
structure Ad where
  (bad twice large unk ar unb prog tab fe : Addr)
structure Txt (K : PySem.W.Frag) (mg : Str → Option Value) : Prop where
  n_len : mg "len" = none
  n_int : mg "int" = none
  n_abs : mg "abs" = none
  n_bool : mg "bool" = none
  n_str : mg "str" = none
  n_enumerate : mg "enumerate" = none
  n_list : mg "list" = none
  n_tuple : mg "tuple" = none
  n_range : mg "range" = none
  n_min : mg "min" = none
  n_max : mg "max" = none
  n_all : mg "all" = none
  n_sum : mg "sum" = none
  n_set : mg "set" = none
  n_sorted : mg "sorted" = none
  n_isinstance : mg "isinstance" = none
  n_repr : mg "repr" = none
  n_dict : mg "dict" = none
  n_ValueError : mg "ValueError" = none
  g_MOST_LETTERS : ∃ t, mg "MOST_LETTERS" = some (.int 8 t)
  g_MOST_ARGS : ∃ t, mg "MOST_ARGS" = some (.int 4 t)
  g_MOST_CONSTANT : ∃ t, mg "MOST_CONSTANT" = some (.int 1000000000000000000000000000000 t)
  g_LETTERS : ∃ t, mg "LETTERS" = some (.str "abcdefghijklmnopqrstuvwxyz" t)
structure Fct (P : Program) (w : World) (K : PySem.W.Frag) (mg : Str → Option Value) (base : Heap) (c : Ad) : Prop where
  x_BadFunction : Exc P w K mg base 1 "BadFunction" c.bad 1 (spX1 c.bad "at")
  g_BadFunction : mg "BadFunction" = some (.ref c.bad)
  xf_BadFunction : XfC K c.bad
  xn_BadFunction_at : PySem.W.findIn K (.ref c.bad) "at" = some none
  e_BadFunction_BadFunction : PySem.W.exmOne K (.ref c.bad) (.ref c.bad) = some true
  e_BadFunction_Twice : PySem.W.exmOne K (.ref c.bad) (.ref c.twice) = some false
  e_BadFunction_TooLarge : PySem.W.exmOne K (.ref c.bad) (.ref c.large) = some false
  e_BadFunction_Unknown : PySem.W.exmOne K (.ref c.bad) (.ref c.unk) = some false
  e_BadFunction_Arity : PySem.W.exmOne K (.ref c.bad) (.ref c.ar) = some false
  e_BadFunction_Unbound : PySem.W.exmOne K (.ref c.bad) (.ref c.unb) = some false
  x_Twice : Exc P w K mg base 1 "Twice" c.twice 1 (spX1 c.twice "name")
  g_Twice : mg "Twice" = some (.ref c.twice)
  xf_Twice : XfC K c.twice
  xn_Twice_name : PySem.W.findIn K (.ref c.twice) "name" = some none
  e_Twice_BadFunction : PySem.W.exmOne K (.ref c.twice) (.ref c.bad) = some false
  e_Twice_Twice : PySem.W.exmOne K (.ref c.twice) (.ref c.twice) = some true
  e_Twice_TooLarge : PySem.W.exmOne K (.ref c.twice) (.ref c.large) = some false
  e_Twice_Unknown : PySem.W.exmOne K (.ref c.twice) (.ref c.unk) = some false
  e_Twice_Arity : PySem.W.exmOne K (.ref c.twice) (.ref c.ar) = some false
  e_Twice_Unbound : PySem.W.exmOne K (.ref c.twice) (.ref c.unb) = some false
  x_TooLarge : Exc P w K mg base 1 "TooLarge" c.large 2 (spX2 c.large "nodes" "deepest")
  g_TooLarge : mg "TooLarge" = some (.ref c.large)
  xf_TooLarge : XfC K c.large
  xn_TooLarge_nodes : PySem.W.findIn K (.ref c.large) "nodes" = some none
  xn_TooLarge_deepest : PySem.W.findIn K (.ref c.large) "deepest" = some none
  e_TooLarge_BadFunction : PySem.W.exmOne K (.ref c.large) (.ref c.bad) = some false
  e_TooLarge_Twice : PySem.W.exmOne K (.ref c.large) (.ref c.twice) = some false
  e_TooLarge_TooLarge : PySem.W.exmOne K (.ref c.large) (.ref c.large) = some true
  e_TooLarge_Unknown : PySem.W.exmOne K (.ref c.large) (.ref c.unk) = some false
  e_TooLarge_Arity : PySem.W.exmOne K (.ref c.large) (.ref c.ar) = some false
  e_TooLarge_Unbound : PySem.W.exmOne K (.ref c.large) (.ref c.unb) = some false
  x_Unknown : Exc P w K mg base 1 "Unknown" c.unk 1 (spX1 c.unk "name")
  g_Unknown : mg "Unknown" = some (.ref c.unk)
  xf_Unknown : XfC K c.unk
  xn_Unknown_name : PySem.W.findIn K (.ref c.unk) "name" = some none
  e_Unknown_BadFunction : PySem.W.exmOne K (.ref c.unk) (.ref c.bad) = some false
  e_Unknown_Twice : PySem.W.exmOne K (.ref c.unk) (.ref c.twice) = some false
  e_Unknown_TooLarge : PySem.W.exmOne K (.ref c.unk) (.ref c.large) = some false
  e_Unknown_Unknown : PySem.W.exmOne K (.ref c.unk) (.ref c.unk) = some true
  e_Unknown_Arity : PySem.W.exmOne K (.ref c.unk) (.ref c.ar) = some false
  e_Unknown_Unbound : PySem.W.exmOne K (.ref c.unk) (.ref c.unb) = some false
  x_Arity : Exc P w K mg base 1 "Arity" c.ar 2 (spX2 c.ar "name" "given")
  g_Arity : mg "Arity" = some (.ref c.ar)
  xf_Arity : XfC K c.ar
  xn_Arity_name : PySem.W.findIn K (.ref c.ar) "name" = some none
  xn_Arity_given : PySem.W.findIn K (.ref c.ar) "given" = some none
  e_Arity_BadFunction : PySem.W.exmOne K (.ref c.ar) (.ref c.bad) = some false
  e_Arity_Twice : PySem.W.exmOne K (.ref c.ar) (.ref c.twice) = some false
  e_Arity_TooLarge : PySem.W.exmOne K (.ref c.ar) (.ref c.large) = some false
  e_Arity_Unknown : PySem.W.exmOne K (.ref c.ar) (.ref c.unk) = some false
  e_Arity_Arity : PySem.W.exmOne K (.ref c.ar) (.ref c.ar) = some true
  e_Arity_Unbound : PySem.W.exmOne K (.ref c.ar) (.ref c.unb) = some false
  x_Unbound : Exc P w K mg base 1 "Unbound" c.unb 1 (spX1 c.unb "name")
  g_Unbound : mg "Unbound" = some (.ref c.unb)
  xf_Unbound : XfC K c.unb
  xn_Unbound_name : PySem.W.findIn K (.ref c.unb) "name" = some none
  e_Unbound_BadFunction : PySem.W.exmOne K (.ref c.unb) (.ref c.bad) = some false
  e_Unbound_Twice : PySem.W.exmOne K (.ref c.unb) (.ref c.twice) = some false
  e_Unbound_TooLarge : PySem.W.exmOne K (.ref c.unb) (.ref c.large) = some false
  e_Unbound_Unknown : PySem.W.exmOne K (.ref c.unb) (.ref c.unk) = some false
  e_Unbound_Arity : PySem.W.exmOne K (.ref c.unb) (.ref c.ar) = some false
  e_Unbound_Unbound : PySem.W.exmOne K (.ref c.unb) (.ref c.unb) = some true
  g_TablesError : mg "TablesError" = some (.ref c.tab)
  g_Program : mg "Program" = some (.ref c.prog)
  cl_Program : Cls K c.prog
  no_Program_functions : NoAttr K c.prog "functions"
  no_Program_names : NoAttr K c.prog "names"
  rd_Program : ClX.CRead K c.prog (.type "type")
  cv_Program_MOST_NODES : ∃ u, ClX.CVal K c.prog (.type "type") "MOST_NODES" (.int 2000) u
  cv_Program_MOST_DEPTH : ∃ u, ClX.CVal K c.prog (.type "type") "MOST_DEPTH" (.int 100) u
  ec_Unknown : ExcC K c.unk
  ec_Arity : ExcC K c.ar
  ec_Unbound : ExcC K c.unb
  kt_Unknown_TablesError : PySem.W.kitOne K (.ref c.unk) (.ref c.tab) = some true
  kt_Arity_Unknown : PySem.W.kitOne K (.ref c.ar) (.ref c.unk) = some (decide (c.ar = c.unk))
  kt_Unbound_ValueError : PySem.W.kitOne K (.ref c.unb) (.type "ValueError") = some true
  a_expressions_in : mg "expressions_in" = some (.ref c.fe)
theorem cst4 {K : PySem.W.Frag} : Cst K [.d (.int 4)] [V.int 4] := fun F ι => .cons (.d (.int 4)) .nil
def excB (K : PySem.W.Frag) (D : Addr) : Bool := decide (PySem.W.findIn K (.ref D) "__getattribute__" = some (some (.builtin "BaseException.__getattribute__"))) && (decide (PySem.W.findIn K (.ref D) "__getattr__" = some none) && (decide (PySem.W.subIn K (.ref D) (.type "BaseException") = some true) && (PySem.W.hasDictIn K D && (decide (PySem.W.findIn K (.ref D) "__class__" = some (some (.builtin "object.__class__"))) && (decide (PySem.W.specialIn K (.builtin "object.__class__") "__get__" = some (some (.builtin "getset_descriptor.__get__"))) && (decide (PySem.W.takesIn K (.builtin "object.__class__") = some true) && decide (PySem.W.mroIn K D (.type "object") = some true)))))))
theorem excB_ok {K : PySem.W.Frag} {D : Addr} (h : excB K D = true) : ExcC K D := by
  unfold excB at h
  simp only [Bool.and_eq_true, decide_eq_true_eq] at h
  obtain ⟨h1, h2, h3, h4, h5, h6, h7, h8⟩ := h
  exact ⟨h1, h2, h3, h4, h5, h6, h7, h8⟩
section
variable {P : Program} {w : World} {K : PySem.W.Frag} {mg : Str → Option Value} {base : Heap}
noncomputable def b_is_integer : MS :=
  (mRet (mAndV (mN isiD (mCons (mVar 0) (mCons (mC (.ty "int")) mNil))) (mUn notD (mN isiD (mCons (mVar 0) (mCons (mC (.ty "bool")) mNil))))))
theorem f_is_integer {k : Nat} (D : Def K mg "is_integer" s_is_integer ["thing"]) (T : Txt K mg)     : Fn P w K mg base (k + 1) "is_integer" 1 (fnT true 1 (b_is_integer)) :=
  D.mini sc_is_integer rfl fun f cdv A outer s H E hg hr =>
    (fss_one (fs_ret (fe_and (fe_callB call_isi c_isi (by rfl) T.n_isinstance (by decide +kernel) (fa_cons (mv 0) (fa_cons (fe_ty T.n_int (by decide +kernel)) fa_nil))) (fe_one (fe_not (fe_callB call_isi c_isi (by rfl) T.n_isinstance (by decide +kernel) (fa_cons (mv 0) (fa_cons (fe_ty T.n_bool (by decide +kernel)) fa_nil))))))))
noncomputable def b_is_name : MS :=
  (mSeq (mIfS (mOr (mNot (mT (mN isiD (mCons (mVar 0) (mCons (mC (.ty "str")) mNil))))) (mNot (mB (mChain leI leI (mC (.int 1)) (mN (one lenD) (mCons (mVar 0) mNil)) (mC (.int 8)))))) (mRet (mC (.bl false))) mNext)
  (mRet (mN (one allD) (mCons (mFz (mLC (mIt (mVar 0)) (gN 1) mYes (mBin (inD false) (mVar 1) (mC (.str ("abcdefghijklmnopqrstuvwxyz" : Str)))) [1])) mNil))))
theorem f_is_name {k : Nat} (D : Def K mg "is_name" s_is_name ["thing"]) (T : Txt K mg)     : Fn P w K mg base (k + 1) "is_name" 1 (fnT true 2 (b_is_name)) :=
  D.mini sc_is_name rfl fun f cdv A outer s H E hg hr =>
    (fss_cons (fs_if (PW.pt (fw_or (ft_not (ft_truth (fe_callB call_isi c_isi (by rfl) T.n_isinstance (by decide +kernel) (fa_cons (mv 0) (fa_cons (fe_ty T.n_str (by decide +kernel)) fa_nil))))) (fw_or1 (ft_not (ft_chain op_le d_le op_le d_le fe_int (fe_callB call_len c_len (by rfl) T.n_len (by decide +kernel) (fa_cons (mv 0) fa_nil)) (fe_gint T.g_MOST_LETTERS)))))) (fss_one (fs_ret fe_bl)) fss_nil)
      (fss_one (fs_ret (fe_callB (cr_all rfl) c_all (by rfl) T.n_all (by decide +kernel) (fa_cons (fe_fz (fl_lc (own := [("sign", 1)]) rfl sc_is_name.nd (fi_val (mv 0)) (blkOk_by (own := [("sign", 1)]) (N := ["thing", "sign"]) (sc := defScope s_is_name) (by decide +kernel)) (cg_name (by decide)) (fun _ _ _ _ _ => (pg_name (i := 1) sc_is_name.nd rfl (by first | exact Or.inl rfl | exact Or.inr rfl))) (fun _ _ _ _ _ => fts_nil) (fun _ _ _ _ _ => (fe_cmp (o_in hr.units3) d_in (mv 1) (fe_gstr T.g_LETTERS) (by rfl))))) fa_nil)))))
noncomputable def b_is_atom (F_is_integer F_is_name : MF) : MS :=
  (mSeq (mIfS (mOr (mNot (mT (mN isiD (mCons (mVar 0) (mCons (mC (.ty "tuple")) mNil))))) (mOr (mB (mBin neD (mN (one lenD) (mCons (mVar 0) mNil)) (mC (.int 2)))) (mNot (mT (mN isiD (mCons (mBin ixD (mVar 0) (mC (.int 0))) (mCons (mC (.ty "str")) mNil))))))) (mRet (mC (.bl false))) mNext)
  (mSeq (mIfS (mB (mBin eqD (mBin ixD (mVar 0) (mC (.int 0))) (mC (.str ("num" : Str))))) (mRet (mAndV (mCall F_is_integer 1 (mCons (mBin ixD (mVar 0) (mC (.int 1))) mNil)) (mChain leI leI (mUn negD (mC (.int 1000000000000000000000000000000))) (mBin ixD (mVar 0) (mC (.int 1))) (mC (.int 1000000000000000000000000000000))))) mNext)
  (mSeq (mIfS (mB (mBin neD (mBin ixD (mVar 0) (mC (.int 0))) (mVar 1))) (mRet (mC (.bl false))) mNext)
  (mSeq (mIfS (mB (mBin eqD (mVar 1) (mC (.str ("var" : Str))))) (mRet (mCall F_is_name 1 (mCons (mBin ixD (mVar 0) (mC (.int 1))) mNil))) mNext)
  (mRet (mAndV (mCall F_is_integer 1 (mCons (mBin ixD (mVar 0) (mC (.int 1))) mNil)) (mBin geI (mBin ixD (mVar 0) (mC (.int 1))) (mC (.int 0)))))))))
theorem f_is_atom {k : Nat} {F_is_integer F_is_name : MF} (D : Def K mg "is_atom" s_is_atom ["thing", "place"]) (T : Txt K mg) (h_is_integer : Fn P w K mg base k "is_integer" 1 F_is_integer) (h_is_name : Fn P w K mg base k "is_name" 1 F_is_name)    : Fn P w K mg base (k + 1) "is_atom" 2 (fnT true 2 (b_is_atom  F_is_integer F_is_name)) :=
  D.mini sc_is_atom rfl fun f cdv A outer s H E hg hr =>
    (fss_cons (fs_if (PW.pt (fw_or (ft_not (ft_truth (fe_callB call_isi c_isi (by rfl) T.n_isinstance (by decide +kernel) (fa_cons (mv 0) (fa_cons (fe_ty T.n_tuple (by decide +kernel)) fa_nil))))) (fw_or (ft_cmp (o_ne hr.units) d_ne (fe_callB call_len c_len (by rfl) T.n_len (by decide +kernel) (fa_cons (mv 0) fa_nil)) fe_int (nomark _)) (fw_or1 (ft_not (ft_truth (fe_callB call_isi c_isi (by rfl) T.n_isinstance (by decide +kernel) (fa_cons (fe_ix ix_seq d_ix (mv 0) fe_int (fun _ _ => rfl)) (fa_cons (fe_ty T.n_str (by decide +kernel)) fa_nil))))))))) (fss_one (fs_ret fe_bl)) fss_nil)
      (fss_cons (fs_if (ft_cmp (o_eq hr.units) d_eq (fe_ix ix_seq d_ix (mv 0) fe_int (fun _ _ => rfl)) fe_str (nomark _)) (fss_one (fs_ret (fe_and (fe_call h_is_integer (takes_of rfl rfl rfl rfl) hg hr (fa_cons (fe_ix ix_seq d_ix (mv 0) fe_int (fun _ _ => rfl)) fa_nil) (hk := Nat.le_refl _)) (fe_one (fe_chain op_le d_le op_le d_le (fe_un un_neg u_neg (fe_gint T.g_MOST_CONSTANT)) (fe_ix ix_seq d_ix (mv 0) fe_int (fun _ _ => rfl)) (fe_gint T.g_MOST_CONSTANT)))))) fss_nil)
      (fss_cons (fs_if (ft_cmp (o_ne hr.units) d_ne (fe_ix ix_seq d_ix (mv 0) fe_int (fun _ _ => rfl)) (mv 1) (nomark _)) (fss_one (fs_ret fe_bl)) fss_nil)
      (fss_cons (fs_if (ft_cmp (o_eq hr.units) d_eq (mv 1) fe_str (nomark _)) (fss_one (fs_ret (fe_call h_is_name (takes_of rfl rfl rfl rfl) hg hr (fa_cons (fe_ix ix_seq d_ix (mv 0) fe_int (fun _ _ => rfl)) fa_nil) (hk := Nat.le_refl _)))) fss_nil)
      (fss_one (fs_ret (fe_and (fe_call h_is_integer (takes_of rfl rfl rfl rfl) hg hr (fa_cons (fe_ix ix_seq d_ix (mv 0) fe_int (fun _ _ => rfl)) fa_nil) (hk := Nat.le_refl _)) (fe_one (fe_cmp op_ge d_ge (fe_ix ix_seq d_ix (mv 0) fe_int (fun _ _ => rfl)) fe_int (nomark _))))))))))
noncomputable def b_are_atoms (F_is_atom : MF) : MS :=
  (mRet (mAndV (mN isiD (mCons (mVar 0) (mCons (mC (.ty "tuple")) mNil))) (mAndV (mBin leI (mN (one lenD) (mCons (mVar 0) mNil)) (mVar 2)) (mN (one allD) (mCons (mFz (mLC (mIt (mVar 0)) (gN 3) mYes (mCall F_is_atom 2 (mCons (mVar 3) (mCons (mVar 1) mNil))) [3])) mNil)))))
theorem f_are_atoms {k : Nat} {F_is_atom : MF} (D : DefD K mg "are_atoms" s_are_atoms ["things", "place", "most"] [V.int 4]) (T : Txt K mg) (h_is_atom : Fn P w K mg base k "is_atom" 2 F_is_atom)    : Fn P w K mg base (k + 1) "are_atoms" 2 (fnD (fnT true 4 (b_are_atoms  F_is_atom)) [.d (.int 4)]) :=
  D.mini cst4 sc_are_atoms rfl fun f cdv A outer s H E hg hr =>
    (fss_one (fs_ret (fe_and (fe_callB call_isi c_isi (by rfl) T.n_isinstance (by decide +kernel) (fa_cons (mv 0) (fa_cons (fe_ty T.n_tuple (by decide +kernel)) fa_nil))) (fe_and (fe_cmp op_le d_le (fe_callB call_len c_len (by rfl) T.n_len (by decide +kernel) (fa_cons (mv 0) fa_nil)) (mv 2) (nomark _)) (fe_one (fe_callB (cr_all rfl) c_all (by rfl) T.n_all (by decide +kernel) (fa_cons (fe_fz (fl_lc (own := [("one", 3)]) rfl sc_are_atoms.nd (fi_val (mv 0)) (blkOk_by (own := [("one", 3)]) (N := ["things", "place", "most", "one"]) (sc := defScope s_are_atoms) (by decide +kernel)) (cg_name (by decide)) (fun _ _ _ _ _ => (pg_name (i := 3) sc_are_atoms.nd rfl (by first | exact Or.inl rfl | exact Or.inr rfl))) (fun _ _ _ _ _ => fts_nil) (fun _ _ _ _ _ => (fe_call h_is_atom takes_none5 hg hr (fa_cons (mv 3) (fa_cons (mv 1) fa_nil)) (hk := Nat.le_refl _))))) fa_nil)))))))
theorem f_first_twice {k : Nat} (D : Def K mg "first_twice" s_first_twice [sNames]) (T : Txt K mg) : Fn P w K mg base (k + 1) "first_twice" 1 ftD :=
  D.okG sc_first_twice (fun vs H Q E h => h.1) fun f cdv A outer s H vs Q E hg hr h => ft_ok (X := cxOf (L2.CX P w) P w K mg base [sNames, sSeen, sName] "first_twice" (defScope s_first_twice) f cdv A outer s H E) rfl rfl (passes_of rfl) rfl T.n_set rfl rfl rfl rfl h
noncomputable def b_measured (tbl : List (Addr × Nat × MF)) : MS :=
  (mSeq (mPar3 2 3 4 (mCons (mOwn (mLst (mCons (mTup (mCons (mVar 0) (mCons (mC (.int 1)) mNil))) mNil))) (mCons (mC (.int 0)) (mCons (mC (.int 0)) mNil))))
  (mSeq (whileM fuelW (mB (mBin neD (mVar 2) (mFz (mLst mNil)))) (mSeq (mAsg (mMut popD (mVar 2) mNil) (gT 2 (gC (gN 5) (gC (gN 6) gE))))
  (mSeq (mAsg (mCallV tbl 1 (mCons (mVar 5) mNil)) (gN 7))
  (mSeq (mIfS (mB (mBin isN (mVar 7) (mC .non))) (mRet (mC .non)) mNext)
  (mSeq (mAug 3 addI (mC (.int 1)))
  (mSeq (mAsg (mIf (mB (mBin gtI (mVar 6) (mVar 4))) (mVar 6) (mVar 4)) (gN 4))
  (mExpr (mMut extD (mVar 2) (mCons (mFz (mLC (mIt (mVar 7)) (gN 8) mYes (mTup (mCons (mVar 8) (mCons (mBin addD (mVar 6) (mC (.int 1))) mNil))) [8])) mNil)))))))))
  (mRet (mTup (mCons (mVar 3) (mCons (mVar 4) mNil))))))
theorem f_measured {tbl : List (Addr × Nat × MF)} {k : Nat} (D : Def K mg "measured" s_measured ["body", "inside"]) (T : Txt K mg)    (ht : TblOk P w K mg base k tbl) : Fn P w K mg base (k + 1) "measured" 2 (fnT true 9 (b_measured tbl)) :=
  D.mini sc_measured rfl fun f cdv A outer s H E hg hr =>
    (fss_cons (fs_par3 (i := 2) (j := 3) (l := 4) rfl sc_measured.nd rfl rfl rfl (by decide) (by decide) (by decide) rfl rfl rfl (fa_cons (fe_own (fl_lst (fa_cons (fe_tup (fa_cons (mv 0) (fa_cons fe_int fa_nil))) fa_nil))) (fa_cons fe_int (fa_cons fe_int fa_nil))) (by rfl))
      (fss_cons (fs_while fuelW (passes_of rfl) (ft_cmp (o_ne hr.units) d_ne (mv 2) (fe_fz (fl_lst fa_nil)) (nomark _)) (fss_cons (fs_asg (fe_mut0 PySem.F.plainAttrs_list PySem.F.slot_list_pop PySem.F.type_list_pop mt_pop m_pop (mv 2)) (fg_tup rfl (fgs_cons (fg_name (i := 5) sc_measured.nd rfl (by first | exact Or.inl rfl | exact Or.inr rfl)) (fgs_cons (fg_name (i := 6) sc_measured.nd rfl (by first | exact Or.inl rfl | exact Or.inr rfl)) fgs_nil))))
      (fss_cons (fs_set (i := 7) sc_measured.nd rfl (by first | exact Or.inl rfl | exact Or.inr rfl) (fe_callV (i := 1) ht (takes_of rfl rfl rfl rfl) hg hr (fa_cons (mv 5) fa_nil) (hk := Nat.le_refl _)))
      (fss_cons (fs_if (ft_cmp op_isN d_isN (mv 7) fe_non (nomark _)) (fss_one (fs_ret fe_non)) fss_nil)
      (fss_cons (fs_aug (i := 3) sc_measured.nd rfl (by first | exact Or.inl rfl | exact Or.inr rfl) fe_int ip_add d_ipadd)
      (fss_cons (fs_set (i := 4) sc_measured.nd rfl (by first | exact Or.inl rfl | exact Or.inr rfl) (fe_ifExp (ft_cmp op_gt d_gt (mv 6) (mv 4) (nomark _)) (mv 6) (mv 4)))
      (fss_one (fs_expr (fe_mut PySem.F.plainAttrs_list PySem.F.slot_list_extend PySem.F.type_list_extend mt_extend m_extend (mv 2) (fa_cons (fe_fz (fl_lc (own := [("one", 8)]) rfl sc_measured.nd (fi_val (mv 7)) (blkOk_by (own := [("one", 8)]) (N := ["body", "inside", "rows", "nodes", "deepest", "part", "level", "within", "one"]) (sc := defScope s_measured) (by decide +kernel)) (cg_name (by decide)) (fun _ _ _ _ _ => (pg_name (i := 8) sc_measured.nd rfl (by first | exact Or.inl rfl | exact Or.inr rfl))) (fun _ _ _ _ _ => fts_nil) (fun _ _ _ _ _ => (fe_tup (fa_cons (mv 8) (fa_cons (fe_op o_add d_add (mv 6) fe_int) fa_nil)))))) fa_nil))))))))))
      (fss_one (fs_ret (fe_tup (fa_cons (mv 3) (fa_cons (mv 4) fa_nil)))))))
noncomputable def b_expressions_in (F_is_name F_are_atoms F_is_atom : MF) : MS :=
  (mSeq (mIfS (mT (mCall F_is_atom 2 (mCons (mVar 0) (mCons (mC (.str ("var" : Str))) mNil)))) (mRet (mFz (mLst mNil))) mNext)
  (mSeq (mIfS (mNot (mT (mN isiD (mCons (mVar 0) (mCons (mC (.ty "tuple")) mNil))))) (mRet (mC .non)) mNext)
  (mMatch (mVar 0) (cSeq ("raise" : Str) [1] (mRet (mIf (mT (mCall F_is_atom 2 (mCons (mVar 1) (mCons (mC (.str ("var" : Str))) mNil)))) (mFz (mLst mNil)) (mC .non))) (cSeq ("ask" : Str) [2, 3] (mRet (mIf (mAnd (mT (mCall F_is_name 1 (mCons (mVar 2) mNil))) (mT (mCall F_are_atoms 2 (mCons (mVar 3) (mCons (mC (.str ("var" : Str))) mNil))))) (mFz (mLst mNil)) (mC .non))) (cSeq ("call" : Str) [2, 3] (mRet (mIf (mAnd (mT (mCall F_is_name 1 (mCons (mVar 2) mNil))) (mT (mCall F_are_atoms 2 (mCons (mVar 3) (mCons (mC (.str ("var" : Str))) mNil))))) (mFz (mLst mNil)) (mC .non))) (cSeq ("test" : Str) [2, 3, 4, 5] (mRet (mIf (mAnd (mT (mCall F_is_name 1 (mCons (mVar 2) mNil))) (mT (mCall F_are_atoms 2 (mCons (mVar 3) (mCons (mC (.str ("var" : Str))) mNil))))) (mFz (mLst (mCons (mVar 4) (mCons (mVar 5) mNil)))) (mC .non))) (cSeq ("let" : Str) [2, 6, 7] (mRet (mIf (mT (mCall F_is_name 1 (mCons (mVar 2) mNil))) (mFz (mLst (mCons (mVar 6) (mCons (mVar 7) mNil)))) (mC .non))) (cSeq ("try" : Str) [8, 2, 9] (mRet (mIf (mT (mCall F_is_name 1 (mCons (mVar 2) mNil))) (mFz (mLst (mCons (mVar 8) (mCons (mVar 9) mNil)))) (mC .non))) (cAny (mRet (mC .non))))))))))))
theorem f_expressions_in {k : Nat} {F_is_name F_are_atoms F_is_atom : MF} (D : Def K mg "expressions_in" s_expressions_in ["thing"]) (T : Txt K mg) (h_is_name : Fn P w K mg base k "is_name" 1 F_is_name) (h_are_atoms : Fn P w K mg base k "are_atoms" 2 F_are_atoms) (h_is_atom : Fn P w K mg base k "is_atom" 2 F_is_atom)    : Fn P w K mg base (k + 1) "expressions_in" 1 (fnT true 10 (b_expressions_in  F_is_name F_are_atoms F_is_atom)) :=
  D.mini sc_expressions_in rfl fun f cdv A outer s H E hg hr =>
    (fss_cons (fs_if (ft_truth (fe_call h_is_atom (takes_of rfl rfl rfl rfl) hg hr (fa_cons (mv 0) (fa_cons fe_str fa_nil)) (hk := Nat.le_refl _))) (fss_one (fs_ret (fe_fz (fl_lst fa_nil)))) fss_nil)
      (fss_cons (fs_if (ft_not (ft_truth (fe_callB call_isi c_isi (by rfl) T.n_isinstance (by decide +kernel) (fa_cons (mv 0) (fa_cons (fe_ty T.n_tuple (by decide +kernel)) fa_nil))))) (fss_one (fs_ret fe_non)) fss_nil)
      (fss_one (fs_match (mv 0) (fm_seq (j := 0) rfl hr.units sc_expressions_in.nd (caps_cons (i := 1) rfl (by first | exact Or.inl rfl | exact Or.inr rfl) Caps.nil) (fss_one (fs_ret (fe_ifExp (ft_truth (fe_call h_is_atom (takes_of rfl rfl rfl rfl) hg hr (fa_cons (mv 1) (fa_cons fe_str fa_nil)) (hk := Nat.le_refl _))) (fe_fz (fl_lst fa_nil)) fe_non))) (fm_seq (j := 0) rfl hr.units sc_expressions_in.nd (caps_cons (i := 2) rfl (by first | exact Or.inl rfl | exact Or.inr rfl) (caps_cons (i := 3) rfl (by first | exact Or.inl rfl | exact Or.inr rfl) Caps.nil)) (fss_one (fs_ret (fe_ifExp (PW.pt (fw_and (ft_truth (fe_call h_is_name (takes_of rfl rfl rfl rfl) hg hr (fa_cons (mv 2) fa_nil) (hk := Nat.le_refl _))) (fw_and1 (ft_truth (fe_call h_are_atoms (takes_of rfl rfl rfl rfl) hg hr (fa_cons (mv 3) (fa_cons fe_str fa_nil)) (hk := Nat.le_refl _)))))) (fe_fz (fl_lst fa_nil)) fe_non))) (fm_seq (j := 0) rfl hr.units sc_expressions_in.nd (caps_cons (i := 2) rfl (by first | exact Or.inl rfl | exact Or.inr rfl) (caps_cons (i := 3) rfl (by first | exact Or.inl rfl | exact Or.inr rfl) Caps.nil)) (fss_one (fs_ret (fe_ifExp (PW.pt (fw_and (ft_truth (fe_call h_is_name (takes_of rfl rfl rfl rfl) hg hr (fa_cons (mv 2) fa_nil) (hk := Nat.le_refl _))) (fw_and1 (ft_truth (fe_call h_are_atoms (takes_of rfl rfl rfl rfl) hg hr (fa_cons (mv 3) (fa_cons fe_str fa_nil)) (hk := Nat.le_refl _)))))) (fe_fz (fl_lst fa_nil)) fe_non))) (fm_seq (j := 0) rfl hr.units sc_expressions_in.nd (caps_cons (i := 2) rfl (by first | exact Or.inl rfl | exact Or.inr rfl) (caps_cons (i := 3) rfl (by first | exact Or.inl rfl | exact Or.inr rfl) (caps_cons (i := 4) rfl (by first | exact Or.inl rfl | exact Or.inr rfl) (caps_cons (i := 5) rfl (by first | exact Or.inl rfl | exact Or.inr rfl) Caps.nil)))) (fss_one (fs_ret (fe_ifExp (PW.pt (fw_and (ft_truth (fe_call h_is_name (takes_of rfl rfl rfl rfl) hg hr (fa_cons (mv 2) fa_nil) (hk := Nat.le_refl _))) (fw_and1 (ft_truth (fe_call h_are_atoms (takes_of rfl rfl rfl rfl) hg hr (fa_cons (mv 3) (fa_cons fe_str fa_nil)) (hk := Nat.le_refl _)))))) (fe_fz (fl_lst (fa_cons (mv 4) (fa_cons (mv 5) fa_nil)))) fe_non))) (fm_seq (j := 0) rfl hr.units sc_expressions_in.nd (caps_cons (i := 2) rfl (by first | exact Or.inl rfl | exact Or.inr rfl) (caps_cons (i := 6) rfl (by first | exact Or.inl rfl | exact Or.inr rfl) (caps_cons (i := 7) rfl (by first | exact Or.inl rfl | exact Or.inr rfl) Caps.nil))) (fss_one (fs_ret (fe_ifExp (ft_truth (fe_call h_is_name (takes_of rfl rfl rfl rfl) hg hr (fa_cons (mv 2) fa_nil) (hk := Nat.le_refl _))) (fe_fz (fl_lst (fa_cons (mv 6) (fa_cons (mv 7) fa_nil)))) fe_non))) (fm_seq (j := 0) rfl hr.units sc_expressions_in.nd (caps_cons (i := 8) rfl (by first | exact Or.inl rfl | exact Or.inr rfl) (caps_cons (i := 2) rfl (by first | exact Or.inl rfl | exact Or.inr rfl) (caps_cons (i := 9) rfl (by first | exact Or.inl rfl | exact Or.inr rfl) Caps.nil))) (fss_one (fs_ret (fe_ifExp (ft_truth (fe_call h_is_name (takes_of rfl rfl rfl rfl) hg hr (fa_cons (mv 2) fa_nil) (hk := Nat.le_refl _))) (fe_fz (fl_lst (fa_cons (mv 8) (fa_cons (mv 9) fa_nil)))) fe_non))) (fm_any (fss_one (fs_ret fe_non)))))))))))))
noncomputable def b_is_function (c : Ad) (F_measured F_first_twice F_is_name : MF) : MS :=
  (mSeq (mIfS (mOr (mNot (mT (mN isiD (mCons (mVar 0) (mCons (mC (.ty "tuple")) mNil))))) (mOr (mB (mBin neD (mN (one lenD) (mCons (mVar 0) mNil)) (mC (.int 3)))) (mNot (mT (mCall F_is_name 1 (mCons (mBin ixD (mVar 0) (mC (.int 0))) mNil)))))) (mRet (mC (.bl false))) mNext)
  (mSeq (mAsg (mBin ixD (mVar 0) (mC (.int 1))) (gN 1))
  (mSeq (mIfS (mOr (mNot (mT (mN isiD (mCons (mVar 1) (mCons (mC (.ty "tuple")) mNil))))) (mB (mBin gtI (mN (one lenD) (mCons (mVar 1) mNil)) (mC (.int 4))))) (mRet (mC (.bl false))) mNext)
  (mSeq (mIfS (mOr (mNot (mT (mN (one allD) (mCons (mFz (mLC (mIt (mVar 1)) (gN 2) mYes (mCall F_is_name 1 (mCons (mVar 2) mNil)) [2])) mNil)))) (mB (mBin notN (mCall F_first_twice 1 (mCons (mVar 1) mNil)) (mC .non)))) (mRet (mC (.bl false))) mNext)
  (mRet (mBin notN (mCall F_measured 2 (mCons (mBin ixD (mVar 0) (mC (.int 2))) (mCons (mC (.gl c.fe)) mNil))) (mC .non)))))))
theorem f_is_function {c : Ad} {k : Nat} {F_measured F_first_twice F_is_name : MF} (D : Def K mg "is_function" s_is_function ["thing"]) (T : Txt K mg) (XC : Fct P w K mg base c) (h_measured : Fn P w K mg base k "measured" 2 F_measured) (h_first_twice : Fn P w K mg base k "first_twice" 1 F_first_twice) (h_is_name : Fn P w K mg base k "is_name" 1 F_is_name)    : Fn P w K mg base (k + 1) "is_function" 1 (fnT true 3 (b_is_function c F_measured F_first_twice F_is_name)) :=
  D.mini sc_is_function rfl fun f cdv A outer s H E hg hr =>
    (fss_cons (fs_if (PW.pt (fw_or (ft_not (ft_truth (fe_callB call_isi c_isi (by rfl) T.n_isinstance (by decide +kernel) (fa_cons (mv 0) (fa_cons (fe_ty T.n_tuple (by decide +kernel)) fa_nil))))) (fw_or (ft_cmp (o_ne hr.units) d_ne (fe_callB call_len c_len (by rfl) T.n_len (by decide +kernel) (fa_cons (mv 0) fa_nil)) fe_int (nomark _)) (fw_or1 (ft_not (ft_truth (fe_call h_is_name (takes_of rfl rfl rfl rfl) hg hr (fa_cons (fe_ix ix_seq d_ix (mv 0) fe_int (fun _ _ => rfl)) fa_nil) (hk := Nat.le_refl _)))))))) (fss_one (fs_ret fe_bl)) fss_nil)
      (fss_cons (fs_set (i := 1) sc_is_function.nd rfl (by first | exact Or.inl rfl | exact Or.inr rfl) (fe_ix ix_seq d_ix (mv 0) fe_int (fun _ _ => rfl)))
      (fss_cons (fs_if (PW.pt (fw_or (ft_not (ft_truth (fe_callB call_isi c_isi (by rfl) T.n_isinstance (by decide +kernel) (fa_cons (mv 1) (fa_cons (fe_ty T.n_tuple (by decide +kernel)) fa_nil))))) (fw_or1 (ft_cmp op_gt d_gt (fe_callB call_len c_len (by rfl) T.n_len (by decide +kernel) (fa_cons (mv 1) fa_nil)) (fe_gint T.g_MOST_ARGS) (nomark _))))) (fss_one (fs_ret fe_bl)) fss_nil)
      (fss_cons (fs_if (PW.pt (fw_or (ft_not (ft_truth (fe_callB (cr_all rfl) c_all (by rfl) T.n_all (by decide +kernel) (fa_cons (fe_fz (fl_lc (own := [("one", 2)]) rfl sc_is_function.nd (fi_val (mv 1)) (blkOk_by (own := [("one", 2)]) (N := ["thing", "params", "one"]) (sc := defScope s_is_function) (by decide +kernel)) (cg_name (by decide)) (fun _ _ _ _ _ => (pg_name (i := 2) sc_is_function.nd rfl (by first | exact Or.inl rfl | exact Or.inr rfl))) (fun _ _ _ _ _ => fts_nil) (fun _ _ _ _ _ => (fe_call h_is_name takes_none5 hg hr (fa_cons (mv 2) fa_nil) (hk := Nat.le_refl _))))) fa_nil)))) (fw_or1 (ft_cmp op_notN d_notN (fe_call h_first_twice (takes_of rfl rfl rfl rfl) hg hr (fa_cons (mv 1) fa_nil) (hk := Nat.le_refl _)) fe_non (nomark _))))) (fss_one (fs_ret fe_bl)) fss_nil)
      (fss_one (fs_ret (fe_cmp op_notN d_notN (fe_call h_measured (takes_of rfl rfl rfl rfl) hg hr (fa_cons (fe_ix ix_seq d_ix (mv 0) fe_int (fun _ _ => rfl)) (fa_cons (fe_gfn XC.a_expressions_in) fa_nil)) (hk := Nat.le_refl _)) fe_non (nomark _))))))))
noncomputable def b_atoms_of : MS :=
  (mMatch (mVar 0) (cSeq ("num" : Str) [1] (mRet (mTup (mCons (mVar 0) mNil))) (cSeq ("var" : Str) [2] (mRet (mTup (mCons (mVar 0) mNil))) (cSeq ("raise" : Str) [3] (mRet (mTup (mCons (mVar 3) mNil))) (cSeq ("ask" : Str) [2, 4] (mRet (mVar 4)) (cSeq ("call" : Str) [2, 4] (mRet (mVar 4)) (cSeq ("test" : Str) [2, 4, 5, 6] (mRet (mVar 4)) (cAny (mRet (mTup mNil))))))))))
theorem f_atoms_of {k : Nat} (D : Def K mg "atoms_of" s_atoms_of ["expression"]) (T : Txt K mg)     : Fn P w K mg base (k + 1) "atoms_of" 1 (fnT true 7 (b_atoms_of)) :=
  D.mini sc_atoms_of rfl fun f cdv A outer s H E hg hr =>
    (fss_one (fs_match (mv 0) (fm_seq (j := 0) rfl hr.units sc_atoms_of.nd (caps_cons (i := 1) rfl (by first | exact Or.inl rfl | exact Or.inr rfl) Caps.nil) (fss_one (fs_ret (fe_tup (fa_cons (mv 0) fa_nil)))) (fm_seq (j := 0) rfl hr.units sc_atoms_of.nd (caps_cons (i := 2) rfl (by first | exact Or.inl rfl | exact Or.inr rfl) Caps.nil) (fss_one (fs_ret (fe_tup (fa_cons (mv 0) fa_nil)))) (fm_seq (j := 0) rfl hr.units sc_atoms_of.nd (caps_cons (i := 3) rfl (by first | exact Or.inl rfl | exact Or.inr rfl) Caps.nil) (fss_one (fs_ret (fe_tup (fa_cons (mv 3) fa_nil)))) (fm_seq (j := 0) rfl hr.units sc_atoms_of.nd (caps_cons (i := 2) rfl (by first | exact Or.inl rfl | exact Or.inr rfl) (caps_cons (i := 4) rfl (by first | exact Or.inl rfl | exact Or.inr rfl) Caps.nil)) (fss_one (fs_ret (mv 4))) (fm_seq (j := 0) rfl hr.units sc_atoms_of.nd (caps_cons (i := 2) rfl (by first | exact Or.inl rfl | exact Or.inr rfl) (caps_cons (i := 4) rfl (by first | exact Or.inl rfl | exact Or.inr rfl) Caps.nil)) (fss_one (fs_ret (mv 4))) (fm_seq (j := 0) rfl hr.units sc_atoms_of.nd (caps_cons (i := 2) rfl (by first | exact Or.inl rfl | exact Or.inr rfl) (caps_cons (i := 4) rfl (by first | exact Or.inl rfl | exact Or.inr rfl) (caps_cons (i := 5) rfl (by first | exact Or.inl rfl | exact Or.inr rfl) (caps_cons (i := 6) rfl (by first | exact Or.inl rfl | exact Or.inr rfl) Caps.nil)))) (fss_one (fs_ret (mv 4))) (fm_any (fss_one (fs_ret (fe_tup fa_nil))))))))))))
noncomputable def b_level_of : MS :=
  (mSeq (mFor (mItA rng3 (mCons (mBin subD (mN (one lenD) (mCons (mVar 1) mNil)) (mC (.int 1))) (mCons (mUn negD (mC (.int 1))) (mCons (mUn negD (mC (.int 1))) mNil)))) (gN 2) (mIfS (mB (mBin eqD (mBin ixD (mVar 1) (mVar 2)) (mVar 0))) (mRet (mVar 2)) mNext))
  (mRet (mUn negD (mC (.int 1)))))
theorem f_level_of {k : Nat} (D : Def K mg "level_of" s_level_of ["name", "scope"]) (T : Txt K mg)     : Fn P w K mg base (k + 1) "level_of" 2 (fnT true 3 (b_level_of)) :=
  D.mini sc_level_of rfl fun f cdv A outer s H E hg hr =>
    (fss_cons (fs_for (passes_of rfl) rfl (fi_range3 T.n_range (fa_cons (fe_op op_sub d_sub (fe_callB call_len c_len (by rfl) T.n_len (by decide +kernel) (fa_cons (mv 1) fa_nil)) fe_int) (fa_cons (fe_un un_neg u_neg fe_int) (fa_cons (fe_un un_neg u_neg fe_int) fa_nil)))) (fg_name (i := 2) sc_level_of.nd rfl (by first | exact Or.inl rfl | exact Or.inr rfl)) (fss_one (fs_if (ft_cmp (o_eq hr.units) d_eq (fe_ix ix_seq d_ix (mv 1) (mv 2) (fun _ _ => rfl)) (mv 0) (nomark _)) (fss_one (fs_ret (mv 2))) fss_nil)))
      (fss_one (fs_ret (fe_un un_neg u_neg fe_int))))
noncomputable def b_parts_in_scope : MS :=
  (mMatch (mVar 0) (cSeq ("test" : Str) [2, 3, 4, 5] (mRet (mFz (mLst (mCons (mTup (mCons (mVar 4) (mCons (mVar 1) mNil))) (mCons (mTup (mCons (mVar 5) (mCons (mVar 1) mNil))) mNil))))) (cSeq ("let" : Str) [2, 6, 7] (mRet (mFz (mLst (mCons (mTup (mCons (mVar 6) (mCons (mVar 1) mNil))) (mCons (mTup (mCons (mVar 7) (mCons (mBin addD (mVar 1) (mFz (mLst (mCons (mVar 2) mNil)))) mNil))) mNil))))) (cSeq ("try" : Str) [8, 2, 9] (mRet (mFz (mLst (mCons (mTup (mCons (mVar 8) (mCons (mVar 1) mNil))) (mCons (mTup (mCons (mVar 9) (mCons (mBin addD (mVar 1) (mFz (mLst (mCons (mVar 2) mNil)))) mNil))) mNil))))) (cAny (mRet (mFz (mLst mNil))))))))
theorem f_parts_in_scope {k : Nat} (D : Def K mg "parts_in_scope" s_parts_in_scope ["expression", "scope"]) (T : Txt K mg)     : Fn P w K mg base (k + 1) "parts_in_scope" 2 (fnT true 10 (b_parts_in_scope)) :=
  D.mini sc_parts_in_scope rfl fun f cdv A outer s H E hg hr =>
    (fss_one (fs_match (mv 0) (fm_seq (j := 0) rfl hr.units sc_parts_in_scope.nd (caps_cons (i := 2) rfl (by first | exact Or.inl rfl | exact Or.inr rfl) (caps_cons (i := 3) rfl (by first | exact Or.inl rfl | exact Or.inr rfl) (caps_cons (i := 4) rfl (by first | exact Or.inl rfl | exact Or.inr rfl) (caps_cons (i := 5) rfl (by first | exact Or.inl rfl | exact Or.inr rfl) Caps.nil)))) (fss_one (fs_ret (fe_fz (fl_lst (fa_cons (fe_tup (fa_cons (mv 4) (fa_cons (mv 1) fa_nil))) (fa_cons (fe_tup (fa_cons (mv 5) (fa_cons (mv 1) fa_nil))) fa_nil)))))) (fm_seq (j := 0) rfl hr.units sc_parts_in_scope.nd (caps_cons (i := 2) rfl (by first | exact Or.inl rfl | exact Or.inr rfl) (caps_cons (i := 6) rfl (by first | exact Or.inl rfl | exact Or.inr rfl) (caps_cons (i := 7) rfl (by first | exact Or.inl rfl | exact Or.inr rfl) Caps.nil))) (fss_one (fs_ret (fe_fz (fl_lst (fa_cons (fe_tup (fa_cons (mv 6) (fa_cons (mv 1) fa_nil))) (fa_cons (fe_tup (fa_cons (mv 7) (fa_cons (fe_op o_add d_add (mv 1) (fe_fz (fl_lst (fa_cons (mv 2) fa_nil)))) fa_nil))) fa_nil)))))) (fm_seq (j := 0) rfl hr.units sc_parts_in_scope.nd (caps_cons (i := 8) rfl (by first | exact Or.inl rfl | exact Or.inr rfl) (caps_cons (i := 2) rfl (by first | exact Or.inl rfl | exact Or.inr rfl) (caps_cons (i := 9) rfl (by first | exact Or.inl rfl | exact Or.inr rfl) Caps.nil))) (fss_one (fs_ret (fe_fz (fl_lst (fa_cons (fe_tup (fa_cons (mv 8) (fa_cons (mv 1) fa_nil))) (fa_cons (fe_tup (fa_cons (mv 9) (fa_cons (fe_op o_add d_add (mv 1) (fe_fz (fl_lst (fa_cons (mv 2) fa_nil)))) fa_nil))) fa_nil)))))) (fm_any (fss_one (fs_ret (fe_fz (fl_lst fa_nil))))))))))
noncomputable def b_look_body (c : Ad) (F_parts_in_scope F_atoms_of F_level_of : MF) : MS :=
  (mSeq (mAsg (mOwn (mLst (mCons (mTup (mCons (mVar 0) (mCons (mFz (mNL listL (mCons (mVar 1) mNil))) mNil))) mNil))) (gN 3))
  (whileM fuelW (mB (mBin neD (mVar 3) (mFz (mLst mNil)))) (mSeq (mAsg (mMut popD (mVar 3) mNil) (gT 2 (gC (gN 4) (gC (gN 5) gE))))
  (mSeq (mIfS (mAnd (mB (mBin eqD (mBin ixD (mVar 4) (mC (.int 0))) (mC (.str ("call" : Str))))) (mB (mBin (inK true) (mBin ixD (mVar 4) (mC (.int 1))) (mVar 2)))) (mRaise c.unk ["name"] (mCons (mBin ixD (mVar 4) (mC (.int 1))) mNil)) mNext)
  (mSeq (mIfS (mAnd (mB (mBin eqD (mBin ixD (mVar 4) (mC (.int 0))) (mC (.str ("call" : Str))))) (mB (mBin neD (mBin getK (mVar 2) (mBin ixD (mVar 4) (mC (.int 1)))) (mN (one lenD) (mCons (mBin ixD (mVar 4) (mC (.int 2))) mNil))))) (mRaise c.ar ["name", "given"] (mCons (mBin ixD (mVar 4) (mC (.int 1))) (mCons (mN (one lenD) (mCons (mBin ixD (mVar 4) (mC (.int 2))) mNil)) mNil))) mNext)
  (mSeq (mFor (mIt (mCall F_atoms_of 1 (mCons (mVar 4) mNil))) (gN 6) (mIfS (mAnd (mB (mBin eqD (mBin ixD (mVar 6) (mC (.int 0))) (mC (.str ("var" : Str))))) (mB (mBin ltI (mCall F_level_of 2 (mCons (mBin ixD (mVar 6) (mC (.int 1))) (mCons (mVar 5) mNil))) (mC (.int 0))))) (mRaise c.unb ["name"] (mCons (mBin ixD (mVar 6) (mC (.int 1))) mNil)) mNext))
  (mExpr (mMut extD (mVar 3) (mCons (mUn revD (mCall F_parts_in_scope 2 (mCons (mVar 4) (mCons (mVar 5) mNil)))) mNil)))))))))
theorem f_look_body {c : Ad} {k : Nat} {F_parts_in_scope F_atoms_of F_level_of : MF} (D : Def K mg "look_body" s_look_body ["body", "params", "arities"]) (T : Txt K mg) (XC : Fct P w K mg base c) (h_parts_in_scope : Fn P w K mg base k "parts_in_scope" 2 F_parts_in_scope) (h_atoms_of : Fn P w K mg base k "atoms_of" 1 F_atoms_of) (h_level_of : Fn P w K mg base k "level_of" 2 F_level_of)  (h2 : 2 ≤ k)  : Fn P w K mg base (k + 1) "look_body" 3 (fnT true 7 (b_look_body c F_parts_in_scope F_atoms_of F_level_of)) :=
  D.mini sc_look_body rfl fun f cdv A outer s H E hg hr =>
    (fss_cons (fs_set (i := 3) sc_look_body.nd rfl (by first | exact Or.inl rfl | exact Or.inr rfl) (fe_own (fl_lst (fa_cons (fe_tup (fa_cons (mv 0) (fa_cons (fe_fz (fl_callTy call_list_of cl_list (by rfl) T.n_list (by decide +kernel) (fa_cons (mv 1) fa_nil))) fa_nil))) fa_nil))))
      (fss_one (fs_while fuelW (passes_of rfl) (ft_cmp (o_ne hr.units) d_ne (mv 3) (fe_fz (fl_lst fa_nil)) (nomark _)) (fss_cons (fs_asg (fe_mut0 PySem.F.plainAttrs_list PySem.F.slot_list_pop PySem.F.type_list_pop mt_pop m_pop (mv 3)) (fg_tup rfl (fgs_cons (fg_name (i := 4) sc_look_body.nd rfl (by first | exact Or.inl rfl | exact Or.inr rfl)) (fgs_cons (fg_name (i := 5) sc_look_body.nd rfl (by first | exact Or.inl rfl | exact Or.inr rfl)) fgs_nil))))
      (fss_cons (fs_if (PW.pt (fw_and (ft_cmp (o_eq hr.units) d_eq (fe_ix ix_seq d_ix (mv 4) fe_int (fun _ _ => rfl)) fe_str (nomark _)) (fw_and1 (ft_dnotin hr.units1 (fe_ix ix_seq d_ix (mv 4) fe_int (fun _ _ => rfl)) (mv 2))))) (fss_one (fs_raise1 XC.x_Unknown (takes_of rfl rfl rfl rfl) rfl hr (fa_cons (fe_ix ix_seq d_ix (mv 4) fe_int (fun _ _ => rfl)) fa_nil) (hk := h2))) fss_nil)
      (fss_cons (fs_if (PW.pt (fw_and (ft_cmp (o_eq hr.units) d_eq (fe_ix ix_seq d_ix (mv 4) fe_int (fun _ _ => rfl)) fe_str (nomark _)) (fw_and1 (ft_cmp (o_ne hr.units) d_ne (fe_dget hr.units1 (mv 2) (fe_ix ix_seq d_ix (mv 4) fe_int (fun _ _ => rfl))) (fe_callB call_len c_len (by rfl) T.n_len (by decide +kernel) (fa_cons (fe_ix ix_seq d_ix (mv 4) fe_int (fun _ _ => rfl)) fa_nil)) (nomark _))))) (fss_one (fs_raise2 XC.x_Arity (takes_of rfl rfl rfl rfl) rfl hr (fa_cons (fe_ix ix_seq d_ix (mv 4) fe_int (fun _ _ => rfl)) (fa_cons (fe_callB call_len c_len (by rfl) T.n_len (by decide +kernel) (fa_cons (fe_ix ix_seq d_ix (mv 4) fe_int (fun _ _ => rfl)) fa_nil)) fa_nil)) (hk := h2))) fss_nil)
      (fss_cons (fs_for (passes_of rfl) rfl (fi_val (fe_call h_atoms_of (takes_of rfl rfl rfl rfl) hg hr (fa_cons (mv 4) fa_nil) (hk := Nat.le_refl _))) (fg_name (i := 6) sc_look_body.nd rfl (by first | exact Or.inl rfl | exact Or.inr rfl)) (fss_one (fs_if (PW.pt (fw_and (ft_cmp (o_eq hr.units) d_eq (fe_ix ix_seq d_ix (mv 6) fe_int (fun _ _ => rfl)) fe_str (nomark _)) (fw_and1 (ft_cmp op_lt d_lt (fe_call h_level_of (takes_of rfl rfl rfl rfl) hg hr (fa_cons (fe_ix ix_seq d_ix (mv 6) fe_int (fun _ _ => rfl)) (fa_cons (mv 5) fa_nil)) (hk := Nat.le_refl _)) fe_int (nomark _))))) (fss_one (fs_raise1 XC.x_Unbound (takes_of rfl rfl rfl rfl) rfl hr (fa_cons (fe_ix ix_seq d_ix (mv 6) fe_int (fun _ _ => rfl)) fa_nil) (hk := h2))) fss_nil)))
      (fss_one (fs_expr (fe_mut PySem.F.plainAttrs_list PySem.F.slot_list_extend PySem.F.type_list_extend mt_extend m_extend (mv 3) (fa_cons (fe_rev (fe_call h_parts_in_scope (takes_of rfl rfl rfl rfl) hg hr (fa_cons (mv 4) (fa_cons (mv 5) fa_nil)) (hk := Nat.le_refl _))) fa_nil)))))))))))
noncomputable def b_Program___init__ (c : Ad) (F_look_body F_measured F_first_twice F_is_function : MF) : MS :=
  (mSeq (mFor (mItA enumOf (mCons (mVar 1) mNil)) (gT 2 (gC (gN 2) (gC (gN 3) gE))) (mIfS (mNot (mT (mCall F_is_function 1 (mCons (mVar 3) mNil)))) (mRaise c.bad ["at"] (mCons (mVar 2) mNil)) mNext))
  (mSeq (mAsg (mCall F_first_twice 1 (mCons (mFz (mLC (mIt (mVar 1)) (gT 3 (gC (gN 9) (gC (gN 10) (gC (gN 11) gE)))) mYes (mVar 9) [9, 10, 11])) mNil)) (gN 4))
  (mSeq (mIfS (mB (mBin notN (mVar 4) (mC .non))) (mRaise c.twice ["name"] (mCons (mVar 4) mNil)) mNext)
  (mSeq (mAsg (mFz (mLC (mIt (mVar 1)) (gT 3 (gC (gN 9) (gC (gN 10) (gC (gN 11) gE)))) mYes (mCall F_measured 2 (mCons (mVar 11) (mCons (mC (.gl c.fe)) mNil))) [9, 10, 11])) (gN 5))
  (mSeq (mPar2 6 7 (mCons (mN (one sumD) (mCons (mFz (mLC (mIt (mVar 5)) (gN 12) mYes (mBin ixD (mVar 12) (mC (.int 0))) [12])) mNil)) (mCons (mN (one (maxDf 0)) (mCons (mFz (mLC (mIt (mVar 5)) (gN 12) mYes (mBin ixD (mVar 12) (mC (.int 1))) [12])) mNil)) mNil)))
  (mSeq (mIfS (mOr (mB (mBin gtI (mVar 6) (mC (.int 2000)))) (mB (mBin gtI (mVar 7) (mC (.int 100))))) (mRaise c.large ["nodes", "deepest"] (mCons (mVar 6) (mCons (mVar 7) mNil))) mNext)
  (mSeq (mSetF c.prog "functions" (mN (one tupD) (mCons (mFz (mSort (mCons (mVar 1) mNil))) mNil)) (mVar 0))
  (mSeq (mSetF c.prog "names" (mN (one tupD) (mCons (mFz (mLC (mIt (mFld c.prog "functions" (mVar 0))) (gN 13) mYes (mBin ixD (mVar 13) (mC (.int 0))) [13])) mNil)) (mVar 0))
  (mSeq (mAsg (mFk (mDC (mIt (mVar 1)) (gT 3 (gC (gN 9) (gC (gN 10) (gC (gN 11) gE)))) mYes (mVar 9) (mN (one lenD) (mCons (mVar 10) mNil)) [9, 10, 11])) (gN 8))
  (mFor (mIt (mFld c.prog "functions" (mVar 0))) (gT 3 (gC (gN 9) (gC (gN 10) (gC (gN 11) gE)))) (mExpr (mCall F_look_body 3 (mCons (mVar 11) (mCons (mVar 10) (mCons (mVar 8) mNil)))))))))))))))
theorem f_Program___init__ {c : Ad} {k : Nat} {F_look_body F_measured F_first_twice F_is_function : MF} {cc PP : Addr} {fa : Addr} (D : MdefC K "__init__" "Program.__init__" s_Program___init__ ["self", "functions"] fa (.ref cc)) (T : Txt K mg) (XC : Fct P w K mg base c) (h_look_body : Fn P w K mg base k "look_body" 3 F_look_body) (h_measured : Fn P w K mg base k "measured" 2 F_measured) (h_first_twice : Fn P w K mg base k "first_twice" 1 F_first_twice) (h_is_function : Fn P w K mg base k "is_function" 1 F_is_function)  (h2 : 2 ≤ k)  (LT : LamX.TabB base mg cc PP) (hmT : (PP, (("Program.__init__" : Str) ++ ".<locals>.") ++ "<lambda>") ∈ TB.T) (huT : ∀ p ∈ TB.T, p.1 = PP → p.2 = (("Program.__init__" : Str) ++ ".<locals>.") ++ "<lambda>") : FnG P w K mg base (L2.CX P w) (k + 1) fa (spF K 2 (fnT true 14 (b_Program___init__ c F_look_body F_measured F_first_twice F_is_function))) :=
  D.mini sc_Program___init__ rfl fun A outer s H E hg hr =>
    (fss_cons (fs_for (passes_of rfl) rfl (fi_enum (by rfl) T.n_enumerate (fa_cons (mv 1) fa_nil)) (fg_tup rfl (fgs_cons (fg_name (i := 2) sc_Program___init__.nd rfl (by first | exact Or.inl rfl | exact Or.inr rfl)) (fgs_cons (fg_name (i := 3) sc_Program___init__.nd rfl (by first | exact Or.inl rfl | exact Or.inr rfl)) fgs_nil))) (fss_one (fs_if (ft_not (ft_truth (fe_call h_is_function (takes_of rfl rfl rfl rfl) hg hr (fa_cons (mv 3) fa_nil) (hk := Nat.le_refl _)))) (fss_one (fs_raise1 XC.x_BadFunction (takes_of rfl rfl rfl rfl) rfl hr (fa_cons (mv 2) fa_nil) (hk := h2))) fss_nil)))
      (fss_cons (fs_set (i := 4) sc_Program___init__.nd rfl (by first | exact Or.inl rfl | exact Or.inr rfl) (fe_call h_first_twice (takes_of rfl rfl rfl rfl) hg hr (fa_cons (fe_fz (fl_lc (own := [("name", 9), ("params", 10), ("body", 11)]) rfl sc_Program___init__.nd (fi_val (mv 1)) (blkOk_by (own := [("name", 9), ("params", 10), ("body", 11)]) (N := ["self", "functions", "at", "thing", "again", "sizes", "nodes", "depth", "arities", "name", "params", "body", "size", "row"]) (sc := defScope s_Program___init__) (by decide +kernel)) (cg_tup (cgs_cons (cg_name (by decide)) (cgs_cons (cg_name (by decide)) (cgs_cons (cg_name (by decide)) cgs_nil)))) (fun _ _ _ _ _ => (pg_tup rfl (pgs_cons (pg_name (i := 9) sc_Program___init__.nd rfl (by first | exact Or.inl rfl | exact Or.inr rfl)) (pgs_cons (pg_name (i := 10) sc_Program___init__.nd rfl (by first | exact Or.inl rfl | exact Or.inr rfl)) (pgs_cons (pg_name (i := 11) sc_Program___init__.nd rfl (by first | exact Or.inl rfl | exact Or.inr rfl)) pgs_nil))))) (fun _ _ _ _ _ => fts_nil) (fun _ _ _ _ _ => (mv 9)))) fa_nil) (hk := Nat.le_refl _)))
      (fss_cons (fs_if (ft_cmp op_notN d_notN (mv 4) fe_non (nomark _)) (fss_one (fs_raise1 XC.x_Twice (takes_of rfl rfl rfl rfl) rfl hr (fa_cons (mv 4) fa_nil) (hk := h2))) fss_nil)
      (fss_cons (fs_lcF (setLc (i := 5) (own := [("name", 9), ("params", 10), ("body", 11)]) rfl sc_Program___init__.nd rfl rfl (sw_true rfl rfl rfl (by decide +kernel)) (fi_val (mv 1)) (blkOk_by (own := [("name", 9), ("params", 10), ("body", 11)]) (N := ["self", "functions", "at", "thing", "again", "sizes", "nodes", "depth", "arities", "name", "params", "body", "size", "row"]) (sc := defScope s_Program___init__) (by decide +kernel)) (cg_tup (cgs_cons (cg_name (by decide)) (cgs_cons (cg_name (by decide)) (cgs_cons (cg_name (by decide)) cgs_nil)))) (fun _ _ _ _ _ => (pg_tup rfl (pgs_cons (pg_name (i := 9) sc_Program___init__.nd rfl (by first | exact Or.inl rfl | exact Or.inr rfl)) (pgs_cons (pg_name (i := 10) sc_Program___init__.nd rfl (by first | exact Or.inl rfl | exact Or.inr rfl)) (pgs_cons (pg_name (i := 11) sc_Program___init__.nd rfl (by first | exact Or.inl rfl | exact Or.inr rfl)) pgs_nil))))) (fun _ _ _ _ _ => fts_nil) (fun _ _ _ _ _ => (fe_call h_measured takes_none5 hg hr (fa_cons (mv 11) (fa_cons (fe_gfn XC.a_expressions_in) fa_nil)) (hk := Nat.le_refl _)))))
      (fss_cons (fs_par (i := 6) (j := 7) rfl sc_Program___init__.nd rfl rfl (by decide) rfl rfl (fa_cons (fe_callB (cr_sum rfl) c_sum (by rfl) T.n_sum (by decide +kernel) (fa_cons (fe_fz (fl_lc (own := [("size", 12)]) rfl sc_Program___init__.nd (fi_val (mv 5)) (blkOk_by (own := [("size", 12)]) (N := ["self", "functions", "at", "thing", "again", "sizes", "nodes", "depth", "arities", "name", "params", "body", "size", "row"]) (sc := defScope s_Program___init__) (by decide +kernel)) (cg_name (by decide)) (fun _ _ _ _ _ => (pg_name (i := 12) sc_Program___init__.nd rfl (by first | exact Or.inl rfl | exact Or.inr rfl))) (fun _ _ _ _ _ => fts_nil) (fun _ _ _ _ _ => (fe_ix ix_seq d_ix (mv 12) fe_int (fun _ _ => rfl))))) fa_nil)) (fa_cons (fe_maxd T.n_max rfl hr.units (fa_cons (fe_fz (fl_lc (own := [("size", 12)]) rfl sc_Program___init__.nd (fi_val (mv 5)) (blkOk_by (own := [("size", 12)]) (N := ["self", "functions", "at", "thing", "again", "sizes", "nodes", "depth", "arities", "name", "params", "body", "size", "row"]) (sc := defScope s_Program___init__) (by decide +kernel)) (cg_name (by decide)) (fun _ _ _ _ _ => (pg_name (i := 12) sc_Program___init__.nd rfl (by first | exact Or.inl rfl | exact Or.inr rfl))) (fun _ _ _ _ _ => fts_nil) (fun _ _ _ _ _ => (fe_ix ix_seq d_ix (mv 12) fe_int (fun _ _ => rfl))))) fa_nil)) fa_nil)) (by rfl))
      (fss_cons (fs_if (PW.pt (fw_or (ft_cmp op_gt d_gt (mv 6) (fe_cint XC.g_Program XC.rd_Program XC.cv_Program_MOST_NODES) (nomark _)) (fw_or1 (ft_cmp op_gt d_gt (mv 7) (fe_cint XC.g_Program XC.rd_Program XC.cv_Program_MOST_DEPTH) (nomark _))))) (fss_one (fs_raise2 XC.x_TooLarge (takes_of rfl rfl rfl rfl) rfl hr (fa_cons (mv 6) (fa_cons (mv 7) fa_nil)) (hk := h2))) fss_nil)
      (fss_cons (fs_fld XC.cl_Program XC.no_Program_functions (fe_callTy call_tuple_of c_tuple (by rfl) T.n_tuple (by decide +kernel) (fa_cons (fe_fz (fl_sortK (c := cc) (P := PP) ⟨LT, rfl, hmT, huT⟩ T.n_sorted hr (fa_cons (mv 1) fa_nil))) fa_nil)) (mv 0))
      (fss_cons (fs_fld XC.cl_Program XC.no_Program_names (fe_callTy call_tuple_of c_tuple (by rfl) T.n_tuple (by decide +kernel) (fa_cons (fe_fz (fl_lc (own := [("row", 13)]) rfl sc_Program___init__.nd (fi_val (fe_fld XC.cl_Program XC.no_Program_functions (mv 0))) (blkOk_by (own := [("row", 13)]) (N := ["self", "functions", "at", "thing", "again", "sizes", "nodes", "depth", "arities", "name", "params", "body", "size", "row"]) (sc := defScope s_Program___init__) (by decide +kernel)) (cg_name (by decide)) (fun _ _ _ _ _ => (pg_name (i := 13) sc_Program___init__.nd rfl (by first | exact Or.inl rfl | exact Or.inr rfl))) (fun _ _ _ _ _ => fts_nil) (fun _ _ _ _ _ => (fe_ix ix_seq d_ix (mv 13) fe_int (fun _ _ => rfl))))) fa_nil)) (mv 0))
      (fss_cons (fs_dcF (setDc (i := 8) (own := [("name", 9), ("params", 10), ("body", 11)]) rfl sc_Program___init__.nd rfl rfl (swd_true rfl rfl rfl (by decide +kernel)) (fi_val (mv 1)) (blkOk_by (own := [("name", 9), ("params", 10), ("body", 11)]) (N := ["self", "functions", "at", "thing", "again", "sizes", "nodes", "depth", "arities", "name", "params", "body", "size", "row"]) (sc := defScope s_Program___init__) (by decide +kernel)) (cg_tup (cgs_cons (cg_name (by decide)) (cgs_cons (cg_name (by decide)) (cgs_cons (cg_name (by decide)) cgs_nil)))) (fun _ _ _ _ _ => (pg_tup rfl (pgs_cons (pg_name (i := 9) sc_Program___init__.nd rfl (by first | exact Or.inl rfl | exact Or.inr rfl)) (pgs_cons (pg_name (i := 10) sc_Program___init__.nd rfl (by first | exact Or.inl rfl | exact Or.inr rfl)) (pgs_cons (pg_name (i := 11) sc_Program___init__.nd rfl (by first | exact Or.inl rfl | exact Or.inr rfl)) pgs_nil))))) (fun _ _ _ _ _ => fts_nil) (fun _ _ _ _ _ => (mv 9)) (fun _ _ _ _ _ => (fe_callB call_len c_len (by rfl) T.n_len (by decide +kernel) (fa_cons (mv 10) fa_nil)))))
      (fss_one (fs_for (passes_of rfl) rfl (fi_val (fe_fld XC.cl_Program XC.no_Program_functions (mv 0))) (fg_tup rfl (fgs_cons (fg_name (i := 9) sc_Program___init__.nd rfl (by first | exact Or.inl rfl | exact Or.inr rfl)) (fgs_cons (fg_name (i := 10) sc_Program___init__.nd rfl (by first | exact Or.inl rfl | exact Or.inr rfl)) (fgs_cons (fg_name (i := 11) sc_Program___init__.nd rfl (by first | exact Or.inl rfl | exact Or.inr rfl)) fgs_nil)))) (fss_one (fs_expr (fe_call h_look_body (takes_of rfl rfl rfl rfl) hg hr (fa_cons (mv 11) (fa_cons (mv 10) (fa_cons (mv 8) fa_nil))) (hk := Nat.le_refl _)))))))))))))))
noncomputable def b_Program___len__ (c : Ad) : MS :=
  (mRet (mN (one lenD) (mCons (mFld c.prog "names" (mVar 0)) mNil)))
theorem f_Program___len__ {c : Ad} {k : Nat} {fa : Addr} (D : Mdef K "__len__" "Program.__len__" s_Program___len__ ["self"] fa) (T : Txt K mg) (XC : Fct P w K mg base c)     : FnG P w K mg base (L2.CX P w) (k + 1) fa (spF K 1 (fnT true 1 (b_Program___len__ c))) :=
  D.mini sc_Program___len__ rfl fun cdv A outer s H E hg hr =>
    (fss_one (fs_ret (fe_callB call_len c_len (by rfl) T.n_len (by decide +kernel) (fa_cons (fe_fld XC.cl_Program XC.no_Program_names (mv 0)) fa_nil))))
noncomputable def b_bag : MS :=
  (mSeq (mAsg (mIf (mB (mBin ltI (mVar 1) (mN (one lenD) (mCons (mVar 0) mNil)))) (mN (one absD) (mCons (mBin ixD (mVar 0) (mVar 1)) mNil)) (mC (.int 0))) (gN 2))
  (mSeq (mAsg (mBin addD (mC (.int 7013)) (mBin mulD (mC (.int 5077)) (mVar 1))) (gN 3))
  (mSeq (mFor (mItA enumOf (mCons (mSlice (mVar 0) pNone (pSome (mC (.int 63)))) mNil)) (gT 2 (gC (gN 4) (gC (gN 5) gE))) (mAsg (mBin modD (mN (one intD) (mCons (mBin addD (mBin addD (mBin mulD (mVar 3) (mC (.int 48271))) (mBin modD (mN (one intD) (mCons (mVar 5) mNil)) (mC (.int 2147483579)))) (mBin mulD (mC (.int 409)) (mVar 4))) mNil)) (mC (.int 2147483647))) (gN 3)))
  (mRet (mOwn (mLst (mCons (mIf (mB (mBin geI (mVar 2) (mBin powD (mC (.int 10)) (mC (.int 18))))) (mVar 2) (mC (.int 0))) (mCons (mVar 3) mNil))))))))
theorem f_bag {k : Nat} (D : Def K mg "_law_bag" s_bag ["_law_script", "_law_at"]) (T : Txt K mg)     : Fn P w K mg base (k + 1) "_law_bag" 2 (fnT false 6 (b_bag)) :=
  D.mini sc_bag rfl fun f cdv A outer s H E hg hr =>
    (fss_cons (fs_set (i := 2) sc_bag.nd rfl (by first | exact Or.inl rfl | exact Or.inr rfl) (fe_ifExp (ft_cmp op_lt d_lt (mv 1) (fe_callB call_len c_len (by rfl) T.n_len (by decide +kernel) (fa_cons (mv 0) fa_nil)) (nomark _)) (fe_callB call_abs c_abs (by rfl) T.n_abs (by decide +kernel) (fa_cons (fe_ix ix_seq d_ix (mv 0) (mv 1) (fun _ _ => rfl)) fa_nil)) fe_int))
      (fss_cons (fs_set (i := 3) sc_bag.nd rfl (by first | exact Or.inl rfl | exact Or.inr rfl) (fe_op o_add d_add fe_int (fe_op op_mul d_mul fe_int (mv 1))))
      (fss_cons (fs_for (passes_of rfl) rfl (fi_enum (by rfl) T.n_enumerate (fa_cons (fe_slice (mv 0) fp_none (fp_some fe_int)) fa_nil)) (fg_tup rfl (fgs_cons (fg_name (i := 4) sc_bag.nd rfl (by first | exact Or.inl rfl | exact Or.inr rfl)) (fgs_cons (fg_name (i := 5) sc_bag.nd rfl (by first | exact Or.inl rfl | exact Or.inr rfl)) fgs_nil))) (fss_one (fs_set (i := 3) sc_bag.nd rfl (by first | exact Or.inl rfl | exact Or.inr rfl) (fe_op op_mod d_mod (fe_callTy call_int1 c_int (by rfl) T.n_int (by decide +kernel) (fa_cons (fe_op o_add d_add (fe_op o_add d_add (fe_op op_mul d_mul (mv 3) fe_int) (fe_op op_mod d_mod (fe_callTy call_int1 c_int (by rfl) T.n_int (by decide +kernel) (fa_cons (mv 5) fa_nil)) fe_int)) (fe_op op_mul d_mul fe_int (mv 4))) fa_nil)) fe_int))))
      (fss_one (fs_ret (fe_own (fl_lst (fa_cons (fe_ifExp (ft_cmp op_ge d_ge (mv 2) (fe_op op_pow d_pow fe_int fe_int) (nomark _)) (mv 2) fe_int) (fa_cons (mv 3) fa_nil)))))))))
noncomputable def b_take : MS :=
  (mSeq (mIfS (mB (mBin gtI (mBin ixD (mVar 0) (mC (.int 0))) (mC (.int 0)))) (mSeq (mAsg (mBin modD (mN (one intD) (mCons (mBin ixD (mVar 0) (mC (.int 0))) mNil)) (mVar 1)) (gN 2))
  (mSeq (mSetIx (mBin fdivD (mBin ixD (mVar 0) (mC (.int 0))) (mVar 1)) (mVar 0) (mC (.int 0)))
  (mRet (mVar 2)))) mNext)
  (mSeq (mSetIx (mBin modD (mN (one intD) (mCons (mBin addD (mBin mulD (mBin ixD (mVar 0) (mC (.int 1))) (mC (.int 69621))) (mC (.int 70001))) mNil)) (mC (.int 2147483647))) (mVar 0) (mC (.int 1)))
  (mRet (mBin modD (mBin fdivD (mBin modD (mN (one intD) (mCons (mBin mulD (mBin fdivD (mBin ixD (mVar 0) (mC (.int 1))) (mC (.int 7))) (mC (.int 40014))) mNil)) (mC (.int 2147483563))) (mC (.int 128))) (mVar 1)))))
theorem f_take {k : Nat} (D : Def K mg "_law_take" s_take ["_law_bag_here", "_law_many"]) (T : Txt K mg)     : Fn P w K mg base (k + 1) "_law_take" 2 (fnT true 3 (b_take)) :=
  D.mini sc_take rfl fun f cdv A outer s H E hg hr =>
    (fss_cons (fs_if (ft_cmp op_gt d_gt (fe_ix ix_seq d_ix (mv 0) fe_int (fun _ _ => rfl)) fe_int (nomark _)) (fss_cons (fs_set (i := 2) sc_take.nd rfl (by first | exact Or.inl rfl | exact Or.inr rfl) (fe_op op_mod d_mod (fe_callTy call_int1 c_int (by rfl) T.n_int (by decide +kernel) (fa_cons (fe_ix ix_seq d_ix (mv 0) fe_int (fun _ _ => rfl)) fa_nil)) (mv 1)))
      (fss_cons (fs_setix (fe_op op_fdivW d_fdiv (fe_ix ix_seq d_ix (mv 0) fe_int (fun _ _ => rfl)) (mv 1)) (mv 0) fe_int)
      (fss_one (fs_ret (mv 2))))) fss_nil)
      (fss_cons (fs_setix (fe_op op_mod d_mod (fe_callTy call_int1 c_int (by rfl) T.n_int (by decide +kernel) (fa_cons (fe_op o_add d_add (fe_op op_mul d_mul (fe_ix ix_seq d_ix (mv 0) fe_int (fun _ _ => rfl)) fe_int) fe_int) fa_nil)) fe_int) (mv 0) fe_int)
      (fss_one (fs_ret (fe_op op_mod d_mod (fe_op op_fdivW d_fdiv (fe_op op_mod d_mod (fe_callTy call_int1 c_int (by rfl) T.n_int (by decide +kernel) (fa_cons (fe_op op_mul d_mul (fe_op op_fdivW d_fdiv (fe_ix ix_seq d_ix (mv 0) fe_int (fun _ _ => rfl)) fe_int) fe_int) fa_nil)) fe_int) fe_int) (mv 1))))))
noncomputable def b_number (F_take : MF) : MS :=
  (mSeq (mAsg (mCall F_take 2 (mCons (mVar 0) (mCons (mC (.int 6)) mNil))) (gN 2))
  (mSeq (mIfS (mB (mBin ltI (mVar 2) (mC (.int 3)))) (mRet (mBin subD (mCall F_take 2 (mCons (mVar 0) (mCons (mC (.int 7)) mNil))) (mC (.int 3)))) mNext)
  (mSeq (mIfS (mB (mBin eqD (mVar 2) (mC (.int 3)))) (mRet (mBin subD (mVar 1) (mBin mulD (mBin mulD (mC (.int 2)) (mVar 1)) (mCall F_take 2 (mCons (mVar 0) (mCons (mC (.int 2)) mNil)))))) mNext)
  (mRet (mBin subD (mCall F_take 2 (mCons (mVar 0) (mCons (mBin addD (mBin mulD (mC (.int 2)) (mVar 1)) (mC (.int 1))) mNil))) (mVar 1))))))
theorem f_number {k : Nat} {F_take : MF} (D : Def K mg "_law_number" s_number ["_law_bag_here", "_law_limit"]) (T : Txt K mg) (h_take : Fn P w K mg base k "_law_take" 2 F_take)    : Fn P w K mg base (k + 1) "_law_number" 2 (fnT true 3 (b_number  F_take)) :=
  D.mini sc_number rfl fun f cdv A outer s H E hg hr =>
    (fss_cons (fs_set (i := 2) sc_number.nd rfl (by first | exact Or.inl rfl | exact Or.inr rfl) (fe_call h_take (takes_of rfl rfl rfl rfl) hg hr (fa_cons (mv 0) (fa_cons fe_int fa_nil)) (hk := Nat.le_refl _)))
      (fss_cons (fs_if (ft_cmp op_lt d_lt (mv 2) fe_int (nomark _)) (fss_one (fs_ret (fe_op op_sub d_sub (fe_call h_take (takes_of rfl rfl rfl rfl) hg hr (fa_cons (mv 0) (fa_cons fe_int fa_nil)) (hk := Nat.le_refl _)) fe_int))) fss_nil)
      (fss_cons (fs_if (ft_cmp (o_eq hr.units) d_eq (mv 2) fe_int (nomark _)) (fss_one (fs_ret (fe_op op_sub d_sub (mv 1) (fe_op op_mul d_mul (fe_op op_mul d_mul fe_int (mv 1)) (fe_call h_take (takes_of rfl rfl rfl rfl) hg hr (fa_cons (mv 0) (fa_cons fe_int fa_nil)) (hk := Nat.le_refl _)))))) fss_nil)
      (fss_one (fs_ret (fe_op op_sub d_sub (fe_call h_take (takes_of rfl rfl rfl rfl) hg hr (fa_cons (mv 0) (fa_cons (fe_op o_add d_add (fe_op op_mul d_mul fe_int (mv 1)) fe_int) fa_nil)) (hk := Nat.le_refl _)) (mv 1)))))))
noncomputable def b_names (F_take : MF) : MS :=
  (mSeq (mPar3 2 3 4 (mCons (mOwn (mNL listS (mCons (mC (.str ("abcdefghijklmnopqrstuvwxyz" : Str))) mNil))) (mCons (mOwn (mLst mNil)) (mCons (mC (.str ("" : Str))) mNil))))
  (mSeq (mFor (mItA rng1 (mCons (mCall F_take 2 (mCons (mVar 0) (mCons (mC (.int 8)) mNil))) mNil)) (gN 5) (mAsg (mBin addD (mVar 4) (mBin ixD (mC (.str ("azmk" : Str))) (mCall F_take 2 (mCons (mVar 0) (mCons (mC (.int 4)) mNil))))) (gN 4)))
  (mSeq (mAsg (mBin eqD (mCall F_take 2 (mCons (mVar 0) (mCons (mC (.int 2)) mNil))) (mC (.int 0))) (gN 6))
  (mSeq (mFor (mItA rng1 (mCons (mVar 1) mNil)) (gN 5) (mSeq (mAsg (mMut popAt (mVar 2) (mCons (mCall F_take 2 (mCons (mVar 0) (mCons (mN (one lenD) (mCons (mVar 2) mNil)) mNil))) mNil)) (gN 7))
  (mExpr (mMut apD (mVar 3) (mCons (mIf (mT (mVar 6)) (mBin addD (mVar 7) (mVar 4)) (mBin addD (mVar 4) (mVar 7))) mNil)))))
  (mRet (mVar 3))))))
theorem f_names {k : Nat} {F_take : MF} (D : Def K mg "_law_names" s_names ["_law_bag_here", "_law_many"]) (T : Txt K mg) (h_take : Fn P w K mg base k "_law_take" 2 F_take)    : Fn P w K mg base (k + 1) "_law_names" 2 (fnT true 8 (b_names  F_take)) :=
  D.mini sc_names rfl fun f cdv A outer s H E hg hr =>
    (fss_cons (fs_par3 (i := 2) (j := 3) (l := 4) rfl sc_names.nd rfl rfl rfl (by decide) (by decide) (by decide) rfl rfl rfl (fa_cons (fe_own (fl_callTy (call_list_txt rfl) cl_listS (by rfl) T.n_list (by decide +kernel) (fa_cons fe_str fa_nil))) (fa_cons (fe_own (fl_lst fa_nil)) (fa_cons fe_str fa_nil))) (by rfl))
      (fss_cons (fs_for (passes_of rfl) rfl (fi_range1 (by rfl) T.n_range (fa_cons (fe_call h_take (takes_of rfl rfl rfl rfl) hg hr (fa_cons (mv 0) (fa_cons fe_int fa_nil)) (hk := Nat.le_refl _)) fa_nil)) (fg_name (i := 5) sc_names.nd rfl (by first | exact Or.inl rfl | exact Or.inr rfl)) (fss_one (fs_set (i := 4) sc_names.nd rfl (by first | exact Or.inl rfl | exact Or.inr rfl) (fe_op o_add d_add (mv 4) (fe_ix ix_seq d_ix fe_str (fe_call h_take (takes_of rfl rfl rfl rfl) hg hr (fa_cons (mv 0) (fa_cons fe_int fa_nil)) (hk := Nat.le_refl _)) (fun _ _ => rfl))))))
      (fss_cons (fs_set (i := 6) sc_names.nd rfl (by first | exact Or.inl rfl | exact Or.inr rfl) (fe_cmp (o_eq hr.units) d_eq (fe_call h_take (takes_of rfl rfl rfl rfl) hg hr (fa_cons (mv 0) (fa_cons fe_int fa_nil)) (hk := Nat.le_refl _)) fe_int (nomark _)))
      (fss_cons (fs_for (passes_of rfl) rfl (fi_range1 (by rfl) T.n_range (fa_cons (mv 1) fa_nil)) (fg_name (i := 5) sc_names.nd rfl (by first | exact Or.inl rfl | exact Or.inr rfl)) (fss_cons (fs_set (i := 7) sc_names.nd rfl (by first | exact Or.inl rfl | exact Or.inr rfl) (fe_mut PySem.F.plainAttrs_list PySem.F.slot_list_pop PySem.F.type_list_pop mt_popAt m_popAt (mv 2) (fa_cons (fe_call h_take (takes_of rfl rfl rfl rfl) hg hr (fa_cons (mv 0) (fa_cons (fe_callB call_len c_len (by rfl) T.n_len (by decide +kernel) (fa_cons (mv 2) fa_nil)) fa_nil)) (hk := Nat.le_refl _)) fa_nil)))
      (fss_one (fs_expr (fe_mut PySem.F.plainAttrs_list PySem.F.slot_list_append PySem.F.type_list_append mt_append m_append (mv 3) (fa_cons (fe_ifExp (ft_truth (mv 6)) (fe_op o_add d_add (mv 7) (mv 4)) (fe_op o_add d_add (mv 4) (mv 7))) fa_nil))))))
      (fss_one (fs_ret (mv 3)))))))
noncomputable def b_atom (F_number F_take : MF) : MS :=
  (mSeq (mIfS (mAnd (mB (mBin neD (mVar 1) (mFz (mLst mNil)))) (mB (mBin gtI (mCall F_take 2 (mCons (mVar 0) (mCons (mC (.int 3)) mNil))) (mC (.int 0))))) (mRet (mTup (mCons (mC (.str ("var" : Str))) (mCons (mBin ixD (mVar 1) (mCall F_take 2 (mCons (mVar 0) (mCons (mN (one lenD) (mCons (mVar 1) mNil)) mNil)))) mNil)))) mNext)
  (mRet (mTup (mCons (mC (.str ("num" : Str))) (mCons (mCall F_number 2 (mCons (mVar 0) (mCons (mBin powD (mC (.int 10)) (mC (.int 30))) mNil))) mNil)))))
theorem f_atom {k : Nat} {F_number F_take : MF} (D : Def K mg "_law_atom" s_atom ["_law_bag_here", "_law_scope"]) (T : Txt K mg) (h_number : Fn P w K mg base k "_law_number" 2 F_number) (h_take : Fn P w K mg base k "_law_take" 2 F_take)    : Fn P w K mg base (k + 1) "_law_atom" 2 (fnT true 2 (b_atom  F_number F_take)) :=
  D.mini sc_atom rfl fun f cdv A outer s H E hg hr =>
    (fss_cons (fs_if (PW.pt (fw_and (ft_cmp (o_ne hr.units) d_ne (mv 1) (fe_fz (fl_lst fa_nil)) (nomark _)) (fw_and1 (ft_cmp op_gt d_gt (fe_call h_take (takes_of rfl rfl rfl rfl) hg hr (fa_cons (mv 0) (fa_cons fe_int fa_nil)) (hk := Nat.le_refl _)) fe_int (nomark _))))) (fss_one (fs_ret (fe_tup (fa_cons fe_str (fa_cons (fe_ix ix_seq d_ix (mv 1) (fe_call h_take (takes_of rfl rfl rfl rfl) hg hr (fa_cons (mv 0) (fa_cons (fe_callB call_len c_len (by rfl) T.n_len (by decide +kernel) (fa_cons (mv 1) fa_nil)) fa_nil)) (hk := Nat.le_refl _)) (fun _ _ => rfl)) fa_nil))))) fss_nil)
      (fss_one (fs_ret (fe_tup (fa_cons fe_str (fa_cons (fe_call h_number (takes_of rfl rfl rfl rfl) hg hr (fa_cons (mv 0) (fa_cons (fe_op op_pow d_pow fe_int fe_int) fa_nil)) (hk := Nat.le_refl _)) fa_nil))))))
noncomputable def b_atoms (F_atom : MF) : MS :=
  (mRet (mN (one tupD) (mCons (mFz (mLC (mItA rng1 (mCons (mVar 2) mNil)) (gN 3) mYes (mCall F_atom 2 (mCons (mVar 0) (mCons (mVar 1) mNil))) [3])) mNil)))
theorem f_atoms {k : Nat} {F_atom : MF} (D : Def K mg "_law_atoms" s_atoms ["_law_bag_here", "_law_scope", "_law_many"]) (T : Txt K mg) (h_atom : Fn P w K mg base k "_law_atom" 2 F_atom)    : Fn P w K mg base (k + 1) "_law_atoms" 3 (fnT true 4 (b_atoms  F_atom)) :=
  D.mini sc_atoms rfl fun f cdv A outer s H E hg hr =>
    (fss_one (fs_ret (fe_callTy call_tuple_of c_tuple (by rfl) T.n_tuple (by decide +kernel) (fa_cons (fe_fz (fl_lc (own := [("_law_k", 3)]) rfl sc_atoms.nd (fi_range1 (by rfl) T.n_range (fa_cons (mv 2) fa_nil)) (blkOk_by (own := [("_law_k", 3)]) (N := ["_law_bag_here", "_law_scope", "_law_many", "_law_k"]) (sc := defScope s_atoms) (by decide +kernel)) (cg_name (by decide)) (fun _ _ _ _ _ => (pg_name (i := 3) sc_atoms.nd rfl (by first | exact Or.inl rfl | exact Or.inr rfl))) (fun _ _ _ _ _ => fts_nil) (fun _ _ _ _ _ => (fe_call h_atom takes_none5 hg hr (fa_cons (mv 0) (fa_cons (mv 1) fa_nil)) (hk := Nat.le_refl _))))) fa_nil))))
noncomputable def b_leaf (F_atoms F_take F_atom : MF) : MS :=
  (mSeq (mAsg (mCall F_take 2 (mCons (mVar 0) (mCons (mC (.int 6)) mNil))) (gN 3))
  (mSeq (mIfS (mB (mBin eqD (mVar 3) (mC (.int 0)))) (mRet (mTup (mCons (mC (.str ("raise" : Str))) (mCons (mCall F_atom 2 (mCons (mVar 0) (mCons (mVar 1) mNil))) mNil)))) mNext)
  (mSeq (mIfS (mB (mBin ltI (mVar 3) (mC (.int 3)))) (mRet (mTup (mCons (mC (.str ("ask" : Str))) (mCons (mBin ixD (mC (.str ("pqa" : Str))) (mCall F_take 2 (mCons (mVar 0) (mCons (mC (.int 3)) mNil)))) (mCons (mCall F_atoms 3 (mCons (mVar 0) (mCons (mVar 1) (mCons (mCall F_take 2 (mCons (mVar 0) (mCons (mC (.int 5)) mNil))) mNil)))) mNil))))) mNext)
  (mSeq (mIfS (mOr (mB (mBin eqD (mVar 3) (mC (.int 3)))) (mB (mBin eqD (mVar 2) (mFz (mLst mNil))))) (mRet (mCall F_atom 2 (mCons (mVar 0) (mCons (mVar 1) mNil)))) mNext)
  (mSeq (mAsg (mBin ixD (mVar 2) (mCall F_take 2 (mCons (mVar 0) (mCons (mN (one lenD) (mCons (mVar 2) mNil)) mNil)))) (gT 2 (gC (gN 4) (gC (gN 5) gE))))
  (mRet (mTup (mCons (mC (.str ("call" : Str))) (mCons (mVar 4) (mCons (mCall F_atoms 3 (mCons (mVar 0) (mCons (mVar 1) (mCons (mVar 5) mNil)))) mNil))))))))))
theorem f_leaf {k : Nat} {F_atoms F_take F_atom : MF} (D : Def K mg "_law_leaf" s_leaf ["_law_bag_here", "_law_scope", "_law_rows"]) (T : Txt K mg) (h_atoms : Fn P w K mg base k "_law_atoms" 3 F_atoms) (h_take : Fn P w K mg base k "_law_take" 2 F_take) (h_atom : Fn P w K mg base k "_law_atom" 2 F_atom)    : Fn P w K mg base (k + 1) "_law_leaf" 3 (fnT true 6 (b_leaf  F_atoms F_take F_atom)) :=
  D.mini sc_leaf rfl fun f cdv A outer s H E hg hr =>
    (fss_cons (fs_set (i := 3) sc_leaf.nd rfl (by first | exact Or.inl rfl | exact Or.inr rfl) (fe_call h_take (takes_of rfl rfl rfl rfl) hg hr (fa_cons (mv 0) (fa_cons fe_int fa_nil)) (hk := Nat.le_refl _)))
      (fss_cons (fs_if (ft_cmp (o_eq hr.units) d_eq (mv 3) fe_int (nomark _)) (fss_one (fs_ret (fe_tup (fa_cons fe_str (fa_cons (fe_call h_atom (takes_of rfl rfl rfl rfl) hg hr (fa_cons (mv 0) (fa_cons (mv 1) fa_nil)) (hk := Nat.le_refl _)) fa_nil))))) fss_nil)
      (fss_cons (fs_if (ft_cmp op_lt d_lt (mv 3) fe_int (nomark _)) (fss_one (fs_ret (fe_tup (fa_cons fe_str (fa_cons (fe_ix ix_seq d_ix fe_str (fe_call h_take (takes_of rfl rfl rfl rfl) hg hr (fa_cons (mv 0) (fa_cons fe_int fa_nil)) (hk := Nat.le_refl _)) (fun _ _ => rfl)) (fa_cons (fe_call h_atoms (takes_of rfl rfl rfl rfl) hg hr (fa_cons (mv 0) (fa_cons (mv 1) (fa_cons (fe_call h_take (takes_of rfl rfl rfl rfl) hg hr (fa_cons (mv 0) (fa_cons fe_int fa_nil)) (hk := Nat.le_refl _)) fa_nil))) (hk := Nat.le_refl _)) fa_nil)))))) fss_nil)
      (fss_cons (fs_if (PW.pt (fw_or (ft_cmp (o_eq hr.units) d_eq (mv 3) fe_int (nomark _)) (fw_or1 (ft_cmp (o_eq hr.units) d_eq (mv 2) (fe_fz (fl_lst fa_nil)) (nomark _))))) (fss_one (fs_ret (fe_call h_atom (takes_of rfl rfl rfl rfl) hg hr (fa_cons (mv 0) (fa_cons (mv 1) fa_nil)) (hk := Nat.le_refl _)))) fss_nil)
      (fss_cons (fs_asg (fe_ix ix_seq d_ix (mv 2) (fe_call h_take (takes_of rfl rfl rfl rfl) hg hr (fa_cons (mv 0) (fa_cons (fe_callB call_len c_len (by rfl) T.n_len (by decide +kernel) (fa_cons (mv 2) fa_nil)) fa_nil)) (hk := Nat.le_refl _)) (fun _ _ => rfl)) (fg_tup rfl (fgs_cons (fg_name (i := 4) sc_leaf.nd rfl (by first | exact Or.inl rfl | exact Or.inr rfl)) (fgs_cons (fg_name (i := 5) sc_leaf.nd rfl (by first | exact Or.inl rfl | exact Or.inr rfl)) fgs_nil))))
      (fss_one (fs_ret (fe_tup (fa_cons fe_str (fa_cons (mv 4) (fa_cons (fe_call h_atoms (takes_of rfl rfl rfl rfl) hg hr (fa_cons (mv 0) (fa_cons (mv 1) (fa_cons (mv 5) fa_nil))) (hk := Nat.le_refl _)) fa_nil)))))))))))
noncomputable def b_expression (F_atoms F_take F_expression F_leaf : MF) : MS :=
  (mSeq (mAsg (mCall F_take 2 (mCons (mVar 0) (mCons (mC (.int 6)) mNil))) (gN 4))
  (mSeq (mIfS (mOr (mB (mBin ltI (mVar 3) (mC (.int 3)))) (mB (mBin eqD (mVar 4) (mC (.int 0))))) (mRet (mCall F_leaf 3 (mCons (mVar 0) (mCons (mVar 1) (mCons (mVar 2) mNil))))) mNext)
  (mSeq (mAsg (mBin addD (mC (.int 1)) (mCall F_take 2 (mCons (mVar 0) (mCons (mBin subD (mVar 3) (mC (.int 2))) mNil)))) (gN 5))
  (mSeq (mAsg (mIf (mOr (mB (mBin gtI (mCall F_take 2 (mCons (mVar 0) (mCons (mC (.int 3)) mNil))) (mC (.int 0)))) (mB (mBin eqD (mVar 1) (mFz (mLst mNil))))) (mBin ixD (mC (.str ("xyz" : Str))) (mCall F_take 2 (mCons (mVar 0) (mCons (mC (.int 3)) mNil)))) (mBin ixD (mVar 1) (mCall F_take 2 (mCons (mVar 0) (mCons (mN (one lenD) (mCons (mVar 1) mNil)) mNil))))) (gN 6))
  (mSeq (mAsg (mIf (mB (mBin ltI (mVar 4) (mC (.int 3)))) (mVar 1) (mBin addD (mVar 1) (mFz (mLst (mCons (mVar 6) mNil))))) (gN 7))
  (mSeq (mAsg (mCall F_expression 4 (mCons (mVar 0) (mCons (mVar 1) (mCons (mVar 2) (mCons (mVar 5) mNil))))) (gN 8))
  (mSeq (mAsg (mCall F_expression 4 (mCons (mVar 0) (mCons (mVar 7) (mCons (mVar 2) (mCons (mBin subD (mBin subD (mVar 3) (mC (.int 1))) (mVar 5)) mNil))))) (gN 9))
  (mSeq (mIfS (mB (mBin ltI (mVar 4) (mC (.int 3)))) (mRet (mTup (mCons (mC (.str ("test" : Str))) (mCons (mBin ixD (mC (.str ("tqa" : Str))) (mCall F_take 2 (mCons (mVar 0) (mCons (mC (.int 3)) mNil)))) (mCons (mCall F_atoms 3 (mCons (mVar 0) (mCons (mVar 1) (mCons (mCall F_take 2 (mCons (mVar 0) (mCons (mC (.int 5)) mNil))) mNil)))) (mCons (mVar 8) (mCons (mVar 9) mNil))))))) mNext)
  (mSeq (mIfS (mB (mBin eqD (mVar 4) (mC (.int 5)))) (mRet (mTup (mCons (mC (.str ("try" : Str))) (mCons (mVar 8) (mCons (mVar 6) (mCons (mVar 9) mNil)))))) mNext)
  (mRet (mTup (mCons (mC (.str ("let" : Str))) (mCons (mVar 6) (mCons (mVar 8) (mCons (mVar 9) mNil)))))))))))))))
theorem f_expression {k : Nat} {F_atoms F_take F_expression F_leaf : MF} (D : Def K mg "_law_expression" s_expression ["_law_bag_here", "_law_scope", "_law_rows", "_law_room"]) (T : Txt K mg) (h_atoms : Fn P w K mg base k "_law_atoms" 3 F_atoms) (h_take : Fn P w K mg base k "_law_take" 2 F_take) (h_expression : Fn P w K mg base k "_law_expression" 4 F_expression) (h_leaf : Fn P w K mg base k "_law_leaf" 3 F_leaf)    : Fn P w K mg base (k + 1) "_law_expression" 4 (fnT true 10 (b_expression  F_atoms F_take F_expression F_leaf)) :=
  D.mini sc_expression rfl fun f cdv A outer s H E hg hr =>
    (fss_cons (fs_set (i := 4) sc_expression.nd rfl (by first | exact Or.inl rfl | exact Or.inr rfl) (fe_call h_take (takes_of rfl rfl rfl rfl) hg hr (fa_cons (mv 0) (fa_cons fe_int fa_nil)) (hk := Nat.le_refl _)))
      (fss_cons (fs_if (PW.pt (fw_or (ft_cmp op_lt d_lt (mv 3) fe_int (nomark _)) (fw_or1 (ft_cmp (o_eq hr.units) d_eq (mv 4) fe_int (nomark _))))) (fss_one (fs_ret (fe_call h_leaf (takes_of rfl rfl rfl rfl) hg hr (fa_cons (mv 0) (fa_cons (mv 1) (fa_cons (mv 2) fa_nil))) (hk := Nat.le_refl _)))) fss_nil)
      (fss_cons (fs_set (i := 5) sc_expression.nd rfl (by first | exact Or.inl rfl | exact Or.inr rfl) (fe_op o_add d_add fe_int (fe_call h_take (takes_of rfl rfl rfl rfl) hg hr (fa_cons (mv 0) (fa_cons (fe_op op_sub d_sub (mv 3) fe_int) fa_nil)) (hk := Nat.le_refl _))))
      (fss_cons (fs_set (i := 6) sc_expression.nd rfl (by first | exact Or.inl rfl | exact Or.inr rfl) (fe_ifExp (PW.pt (fw_or (ft_cmp op_gt d_gt (fe_call h_take (takes_of rfl rfl rfl rfl) hg hr (fa_cons (mv 0) (fa_cons fe_int fa_nil)) (hk := Nat.le_refl _)) fe_int (nomark _)) (fw_or1 (ft_cmp (o_eq hr.units) d_eq (mv 1) (fe_fz (fl_lst fa_nil)) (nomark _))))) (fe_ix ix_seq d_ix fe_str (fe_call h_take (takes_of rfl rfl rfl rfl) hg hr (fa_cons (mv 0) (fa_cons fe_int fa_nil)) (hk := Nat.le_refl _)) (fun _ _ => rfl)) (fe_ix ix_seq d_ix (mv 1) (fe_call h_take (takes_of rfl rfl rfl rfl) hg hr (fa_cons (mv 0) (fa_cons (fe_callB call_len c_len (by rfl) T.n_len (by decide +kernel) (fa_cons (mv 1) fa_nil)) fa_nil)) (hk := Nat.le_refl _)) (fun _ _ => rfl))))
      (fss_cons (fs_set (i := 7) sc_expression.nd rfl (by first | exact Or.inl rfl | exact Or.inr rfl) (fe_ifExp (ft_cmp op_lt d_lt (mv 4) fe_int (nomark _)) (mv 1) (fe_op o_add d_add (mv 1) (fe_fz (fl_lst (fa_cons (mv 6) fa_nil))))))
      (fss_cons (fs_set (i := 8) sc_expression.nd rfl (by first | exact Or.inl rfl | exact Or.inr rfl) (fe_call h_expression (takes_of rfl rfl rfl rfl) hg hr (fa_cons (mv 0) (fa_cons (mv 1) (fa_cons (mv 2) (fa_cons (mv 5) fa_nil)))) (hk := Nat.le_refl _)))
      (fss_cons (fs_set (i := 9) sc_expression.nd rfl (by first | exact Or.inl rfl | exact Or.inr rfl) (fe_call h_expression (takes_of rfl rfl rfl rfl) hg hr (fa_cons (mv 0) (fa_cons (mv 7) (fa_cons (mv 2) (fa_cons (fe_op op_sub d_sub (fe_op op_sub d_sub (mv 3) fe_int) (mv 5)) fa_nil)))) (hk := Nat.le_refl _)))
      (fss_cons (fs_if (ft_cmp op_lt d_lt (mv 4) fe_int (nomark _)) (fss_one (fs_ret (fe_tup (fa_cons fe_str (fa_cons (fe_ix ix_seq d_ix fe_str (fe_call h_take (takes_of rfl rfl rfl rfl) hg hr (fa_cons (mv 0) (fa_cons fe_int fa_nil)) (hk := Nat.le_refl _)) (fun _ _ => rfl)) (fa_cons (fe_call h_atoms (takes_of rfl rfl rfl rfl) hg hr (fa_cons (mv 0) (fa_cons (mv 1) (fa_cons (fe_call h_take (takes_of rfl rfl rfl rfl) hg hr (fa_cons (mv 0) (fa_cons fe_int fa_nil)) (hk := Nat.le_refl _)) fa_nil))) (hk := Nat.le_refl _)) (fa_cons (mv 8) (fa_cons (mv 9) fa_nil)))))))) fss_nil)
      (fss_cons (fs_if (ft_cmp (o_eq hr.units) d_eq (mv 4) fe_int (nomark _)) (fss_one (fs_ret (fe_tup (fa_cons fe_str (fa_cons (mv 8) (fa_cons (mv 6) (fa_cons (mv 9) fa_nil))))))) fss_nil)
      (fss_one (fs_ret (fe_tup (fa_cons fe_str (fa_cons (mv 6) (fa_cons (mv 8) (fa_cons (mv 9) fa_nil))))))))))))))))
noncomputable def b_functions (F_expression F_take F_names : MF) : MS :=
  (mSeq (mPar2 3 4 (mCons (mCall F_names 2 (mCons (mVar 0) (mCons (mBin addD (mC (.int 1)) (mCall F_take 2 (mCons (mVar 0) (mCons (mVar 1) mNil)))) mNil))) (mCons (mOwn (mLst mNil)) mNil)))
  (mSeq (mAsg (mFz (mLC (mIt (mVar 3)) (gN 6) mYes (mTup (mCons (mVar 6) (mCons (mCall F_take 2 (mCons (mVar 0) (mCons (mC (.int 5)) mNil))) mNil))) [6])) (gN 5))
  (mSeq (mFor (mIt (mVar 5)) (gT 2 (gC (gN 6) (gC (gN 7) gE))) (mSeq (mAsg (mCall F_names 2 (mCons (mVar 0) (mCons (mVar 7) mNil))) (gN 8))
  (mExpr (mMut apD (mVar 4) (mCons (mTup (mCons (mVar 6) (mCons (mN (one tupD) (mCons (mVar 8) mNil)) (mCons (mCall F_expression 4 (mCons (mVar 0) (mCons (mFz (mNL listL (mCons (mVar 8) mNil))) (mCons (mVar 5) (mCons (mBin addD (mC (.int 1)) (mCall F_take 2 (mCons (mVar 0) (mCons (mVar 2) mNil)))) mNil))))) mNil)))) mNil)))))
  (mRet (mVar 4)))))
theorem f_functions {k : Nat} {F_expression F_take F_names : MF} (D : Def K mg "_law_functions" s_functions ["_law_bag_here", "_law_limit", "_law_room"]) (T : Txt K mg) (h_expression : Fn P w K mg base k "_law_expression" 4 F_expression) (h_take : Fn P w K mg base k "_law_take" 2 F_take) (h_names : Fn P w K mg base k "_law_names" 2 F_names)    : Fn P w K mg base (k + 1) "_law_functions" 3 (fnT true 9 (b_functions  F_expression F_take F_names)) :=
  D.mini sc_functions rfl fun f cdv A outer s H E hg hr =>
    (fss_cons (fs_par (i := 3) (j := 4) rfl sc_functions.nd rfl rfl (by decide) rfl rfl (fa_cons (fe_call h_names (takes_of rfl rfl rfl rfl) hg hr (fa_cons (mv 0) (fa_cons (fe_op o_add d_add fe_int (fe_call h_take (takes_of rfl rfl rfl rfl) hg hr (fa_cons (mv 0) (fa_cons (mv 1) fa_nil)) (hk := Nat.le_refl _))) fa_nil)) (hk := Nat.le_refl _)) (fa_cons (fe_own (fl_lst fa_nil)) fa_nil)) (by rfl))
      (fss_cons (fs_lcF (setLc (i := 5) (own := [("_law_name", 6)]) rfl sc_functions.nd rfl rfl (sw_true rfl rfl rfl (by decide +kernel)) (fi_val (mv 3)) (blkOk_by (own := [("_law_name", 6)]) (N := ["_law_bag_here", "_law_limit", "_law_room", "_law_names_here", "_law_found", "_law_rows", "_law_name", "_law_many", "_law_params"]) (sc := defScope s_functions) (by decide +kernel)) (cg_name (by decide)) (fun _ _ _ _ _ => (pg_name (i := 6) sc_functions.nd rfl (by first | exact Or.inl rfl | exact Or.inr rfl))) (fun _ _ _ _ _ => fts_nil) (fun _ _ _ _ _ => (fe_tup (fa_cons (mv 6) (fa_cons (fe_call h_take takes_none5 hg hr (fa_cons (mv 0) (fa_cons fe_int fa_nil)) (hk := Nat.le_refl _)) fa_nil))))))
      (fss_cons (fs_for (passes_of rfl) rfl (fi_val (mv 5)) (fg_tup rfl (fgs_cons (fg_name (i := 6) sc_functions.nd rfl (by first | exact Or.inl rfl | exact Or.inr rfl)) (fgs_cons (fg_name (i := 7) sc_functions.nd rfl (by first | exact Or.inl rfl | exact Or.inr rfl)) fgs_nil))) (fss_cons (fs_set (i := 8) sc_functions.nd rfl (by first | exact Or.inl rfl | exact Or.inr rfl) (fe_call h_names (takes_of rfl rfl rfl rfl) hg hr (fa_cons (mv 0) (fa_cons (mv 7) fa_nil)) (hk := Nat.le_refl _)))
      (fss_one (fs_expr (fe_mut PySem.F.plainAttrs_list PySem.F.slot_list_append PySem.F.type_list_append mt_append m_append (mv 4) (fa_cons (fe_tup (fa_cons (mv 6) (fa_cons (fe_callTy call_tuple_of c_tuple (by rfl) T.n_tuple (by decide +kernel) (fa_cons (mv 8) fa_nil)) (fa_cons (fe_call h_expression (takes_of rfl rfl rfl rfl) hg hr (fa_cons (mv 0) (fa_cons (fe_fz (fl_callTy call_list_of cl_list (by rfl) T.n_list (by decide +kernel) (fa_cons (mv 8) fa_nil))) (fa_cons (mv 5) (fa_cons (fe_op o_add d_add fe_int (fe_call h_take (takes_of rfl rfl rfl rfl) hg hr (fa_cons (mv 0) (fa_cons (mv 2) fa_nil)) (hk := Nat.le_refl _))) fa_nil)))) (hk := Nat.le_refl _)) fa_nil)))) fa_nil))))))
      (fss_one (fs_ret (mv 4))))))
noncomputable def b_told (c : Ad) (F_Program_len F_Program : MF) : MS :=
  (mSeq (mTry2 (mAsg (mMkF c.prog F_Program 2 (mCons (mVar 0) mNil)) (gN 1)) (⟨[c.unk], [c.bad, c.twice, c.large, c.ar, c.unb], some 2, fun C a d => (mRet (mTup (mCons (mC (.str ("unknown" : Str))) (mCons (mXf a d "name" (mVar 2)) (mCons (mN (isEG a d c.tab true) (mCons (mVar 2) (mCons (mC (.gl c.tab)) mNil))) mNil)))))⟩ :: (⟨[c.ar], [c.bad, c.twice, c.large, c.unb], some 2, fun C a d => (mRet (mTup (mCons (mC (.str ("arity" : Str))) (mCons (mXf a d "name" (mVar 2)) (mCons (mXf a d "given" (mVar 2)) (mCons (mN (isEG a d c.unk (decide (C = c.unk))) (mCons (mVar 2) (mCons (mC (.gl c.unk)) mNil))) mNil))))))⟩ :: (⟨[c.unb], [c.bad, c.twice, c.large], some 2, fun C a d => (mRet (mTup (mCons (mC (.str ("unbound" : Str))) (mCons (mXf a d "name" (mVar 2)) (mCons (mN (isET a d "ValueError" true) (mCons (mVar 2) (mCons (mC (.ty "ValueError")) mNil))) mNil)))))⟩ :: []))))
  (mRet (mTup (mCons (mC (.str ("made" : Str))) (mCons (mOLen c.prog F_Program_len (mCons (mVar 1) mNil)) mNil)))))
theorem f_told {c : Ad} {k k_Program k_Program_len : Nat} {F_Program_len F_Program : MF} (D : Def K mg "_law_told" s_told ["_law_functions_here"]) (T : Txt K mg) (XC : Fct P w K mg base c)   (s_Program_len : Spc P w K mg base k_Program_len c.prog "__len__" 1 F_Program_len) (l_Program_len : k_Program_len + 1 ≤ k) (m_Program : Mak' P w K mg base k_Program "Program" c.prog 2 F_Program) (l_Program : k_Program + 1 ≤ k)  : Fn P w K mg base (k + 1) "_law_told" 1 (fnT true 3 (b_told c F_Program_len F_Program)) :=
  D.mini sc_told rfl fun f cdv A outer s H E hg hr =>
    (fss_cons (fs_try2 rfl rfl sc_told.nd (takes_of rfl rfl rfl rfl) (fun W' pn xe tk' pw' => (fss_one (fs_set (i := 1) sc_told.nd rfl (by first | exact Or.inl rfl | exact Or.inr rfl) (fe_mkF m_Program tk' hg hr (fa_cons (mv 0) fa_nil) (hk := l_Program)))))
      (HMs2.named (i := 2) (yes := [c.unk]) (no := [c.bad, c.twice, c.large, c.ar, c.unb]) (h := fun C a d => (mRet (mTup (mCons (mC (.str ("unknown" : Str))) (mCons (mXf a d "name" (mVar 2)) (mCons (mN (isEG a d c.tab true) (mCons (mVar 2) (mCons (mC (.gl c.tab)) mNil))) mNil)))))) (⟨by rfl, by decide, .inl XC.g_Unknown⟩ : Names _ _ _) rfl rfl (by
        intro C hC
        have eC := List.mem_singleton.mp hC
        subst eC
        exact XC.e_Unknown_Unknown)
      (by
        intro C hC
        simp only [List.mem_cons, List.not_mem_nil, or_false] at hC
        rcases hC with rfl | rfl | rfl | rfl | rfl
        · exact XC.e_BadFunction_Unknown
        · exact XC.e_Twice_Unknown
        · exact XC.e_TooLarge_Unknown
        · exact XC.e_Arity_Unknown
        · exact XC.e_Unbound_Unknown)
      (fun a oe C d pn hC hz hf => by
        have eC := List.mem_singleton.mp hC
        subst eC
        exact (fss_one (fs_ret (fe_tup (fa_cons fe_str (fa_cons (fe_xf XC.xf_Unknown XC.xn_Unknown_name hz hf (mv 2)) (fa_cons (fe_callB (call_isD XC.ec_Unknown hz hf) (c_isG XC.kt_Unknown_TablesError) (by rfl) T.n_isinstance (by decide +kernel) (fa_cons (mv 2) (fa_cons (fe_gfn XC.g_TablesError) fa_nil))) fa_nil)))))))
      (HMs2.named (i := 2) (yes := [c.ar]) (no := [c.bad, c.twice, c.large, c.unb]) (h := fun C a d => (mRet (mTup (mCons (mC (.str ("arity" : Str))) (mCons (mXf a d "name" (mVar 2)) (mCons (mXf a d "given" (mVar 2)) (mCons (mN (isEG a d c.unk (decide (C = c.unk))) (mCons (mVar 2) (mCons (mC (.gl c.unk)) mNil))) mNil))))))) (⟨by rfl, by decide, .inl XC.g_Arity⟩ : Names _ _ _) rfl rfl (by
        intro C hC
        have eC := List.mem_singleton.mp hC
        subst eC
        exact XC.e_Arity_Arity)
      (by
        intro C hC
        simp only [List.mem_cons, List.not_mem_nil, or_false] at hC
        rcases hC with rfl | rfl | rfl | rfl
        · exact XC.e_BadFunction_Arity
        · exact XC.e_Twice_Arity
        · exact XC.e_TooLarge_Arity
        · exact XC.e_Unbound_Arity)
      (fun a oe C d pn hC hz hf => by
        have eC := List.mem_singleton.mp hC
        subst eC
        exact (fss_one (fs_ret (fe_tup (fa_cons fe_str (fa_cons (fe_xf XC.xf_Arity XC.xn_Arity_name hz hf (mv 2)) (fa_cons (fe_xf XC.xf_Arity XC.xn_Arity_given hz hf (mv 2)) (fa_cons (fe_callB (call_isD XC.ec_Arity hz hf) (c_isG XC.kt_Arity_Unknown) (by rfl) T.n_isinstance (by decide +kernel) (fa_cons (mv 2) (fa_cons (fe_gfn XC.g_Unknown) fa_nil))) fa_nil))))))))
      (HMs2.named (i := 2) (yes := [c.unb]) (no := [c.bad, c.twice, c.large]) (h := fun C a d => (mRet (mTup (mCons (mC (.str ("unbound" : Str))) (mCons (mXf a d "name" (mVar 2)) (mCons (mN (isET a d "ValueError" true) (mCons (mVar 2) (mCons (mC (.ty "ValueError")) mNil))) mNil)))))) (⟨by rfl, by decide, .inl XC.g_Unbound⟩ : Names _ _ _) rfl rfl (by
        intro C hC
        have eC := List.mem_singleton.mp hC
        subst eC
        exact XC.e_Unbound_Unbound)
      (by
        intro C hC
        simp only [List.mem_cons, List.not_mem_nil, or_false] at hC
        rcases hC with rfl | rfl | rfl
        · exact XC.e_BadFunction_Unbound
        · exact XC.e_Twice_Unbound
        · exact XC.e_TooLarge_Unbound)
      (fun a oe C d pn hC hz hf => by
        have eC := List.mem_singleton.mp hC
        subst eC
        exact (fss_one (fs_ret (fe_tup (fa_cons fe_str (fa_cons (fe_xf XC.xf_Unbound XC.xn_Unbound_name hz hf (mv 2)) (fa_cons (fe_callB (call_isD XC.ec_Unbound hz hf) (c_isT XC.kt_Unbound_ValueError) (by rfl) T.n_isinstance (by decide +kernel) (fa_cons (mv 2) (fa_cons (fe_ty T.n_ValueError (by decide +kernel)) fa_nil))) fa_nil)))))))
      HMs2.nil))))
      (fss_one (fs_ret (fe_tup (fa_cons fe_str (fa_cons (fe_olen s_Program_len (takes_of rfl rfl rfl rfl) hg hr T.n_len (fa_cons (mv 1) fa_nil) (hk := l_Program_len)) fa_nil))))))
noncomputable def b_first (F_first : MF) : MS :=
  (mSeq (mIfS (mAnd (mB (mBin eqD (mBin ixD (mVar 0) (mC (.int 0))) (mC (.str ("call" : Str))))) (mB (mBin (inK true) (mBin ixD (mVar 0) (mC (.int 1))) (mVar 2)))) (mRet (mTup (mCons (mC (.str ("unknown" : Str))) (mCons (mBin ixD (mVar 0) (mC (.int 1))) (mCons (mC (.bl true)) mNil))))) mNext)
  (mSeq (mIfS (mAnd (mB (mBin eqD (mBin ixD (mVar 0) (mC (.int 0))) (mC (.str ("call" : Str))))) (mB (mBin neD (mBin getK (mVar 2) (mBin ixD (mVar 0) (mC (.int 1)))) (mN (one lenD) (mCons (mBin ixD (mVar 0) (mC (.int 2))) mNil))))) (mRet (mTup (mCons (mC (.str ("arity" : Str))) (mCons (mBin ixD (mVar 0) (mC (.int 1))) (mCons (mN (one lenD) (mCons (mBin ixD (mVar 0) (mC (.int 2))) mNil)) (mCons (mC (.bl false)) mNil)))))) mNext)
  (mSeq (mAsg (mIf (mB (mBin (inD false) (mBin ixD (mVar 0) (mC (.int 0))) (mTup (mCons (mC (.str ("num" : Str))) (mCons (mC (.str ("var" : Str))) mNil))))) (mFz (mLst (mCons (mVar 0) mNil))) (mIf (mB (mBin eqD (mBin ixD (mVar 0) (mC (.int 0))) (mC (.str ("raise" : Str))))) (mFz (mLst (mCons (mBin ixD (mVar 0) (mC (.int 1))) mNil))) (mFz (mLst mNil)))) (gN 3))
  (mSeq (mIfS (mB (mBin (inD false) (mBin ixD (mVar 0) (mC (.int 0))) (mTup (mCons (mC (.str ("ask" : Str))) (mCons (mC (.str ("test" : Str))) (mCons (mC (.str ("call" : Str))) mNil)))))) (mAsg (mFz (mNL listL (mCons (mBin ixD (mVar 0) (mC (.int 2))) mNil))) (gN 3)) mNext)
  (mSeq (mFor (mIt (mVar 3)) (gN 4) (mIfS (mAnd (mB (mBin eqD (mBin ixD (mVar 4) (mC (.int 0))) (mC (.str ("var" : Str))))) (mB (mBin (inD true) (mBin ixD (mVar 4) (mC (.int 1))) (mVar 1)))) (mRet (mTup (mCons (mC (.str ("unbound" : Str))) (mCons (mBin ixD (mVar 4) (mC (.int 1))) (mCons (mC (.bl true)) mNil))))) mNext))
  (mSeq (mAsg (mIf (mB (mBin eqD (mBin ixD (mVar 0) (mC (.int 0))) (mC (.str ("test" : Str))))) (mFz (mLst (mCons (mTup (mCons (mBin ixD (mVar 0) (mC (.int 3))) (mCons (mVar 1) mNil))) (mCons (mTup (mCons (mBin ixD (mVar 0) (mC (.int 4))) (mCons (mVar 1) mNil))) mNil)))) (mFz (mLst mNil))) (gN 5))
  (mSeq (mIfS (mB (mBin eqD (mBin ixD (mVar 0) (mC (.int 0))) (mC (.str ("let" : Str))))) (mAsg (mFz (mLst (mCons (mTup (mCons (mBin ixD (mVar 0) (mC (.int 2))) (mCons (mVar 1) mNil))) (mCons (mTup (mCons (mBin ixD (mVar 0) (mC (.int 3))) (mCons (mBin addD (mVar 1) (mFz (mLst (mCons (mBin ixD (mVar 0) (mC (.int 1))) mNil)))) mNil))) mNil)))) (gN 5)) mNext)
  (mSeq (mIfS (mB (mBin eqD (mBin ixD (mVar 0) (mC (.int 0))) (mC (.str ("try" : Str))))) (mAsg (mFz (mLst (mCons (mTup (mCons (mBin ixD (mVar 0) (mC (.int 1))) (mCons (mVar 1) mNil))) (mCons (mTup (mCons (mBin ixD (mVar 0) (mC (.int 3))) (mCons (mBin addD (mVar 1) (mFz (mLst (mCons (mBin ixD (mVar 0) (mC (.int 2))) mNil)))) mNil))) mNil)))) (gN 5)) mNext)
  (mSeq (mFor (mIt (mVar 5)) (gT 2 (gC (gN 6) (gC (gN 7) gE))) (mSeq (mAsg (mCall F_first 3 (mCons (mVar 6) (mCons (mVar 7) (mCons (mVar 2) mNil)))) (gN 8))
  (mIfS (mB (mBin notN (mVar 8) (mC .non))) (mRet (mVar 8)) mNext)))
  (mRet (mC .non)))))))))))
theorem f_first {k : Nat} {F_first : MF} (D : Def K mg "_law_first" s_first ["_law_here", "_law_scope", "_law_arities"]) (T : Txt K mg) (h_first : Fn P w K mg base k "_law_first" 3 F_first)    : Fn P w K mg base (k + 1) "_law_first" 3 (fnT true 9 (b_first  F_first)) :=
  D.mini sc_first rfl fun f cdv A outer s H E hg hr =>
    (fss_cons (fs_if (PW.pt (fw_and (ft_cmp (o_eq hr.units) d_eq (fe_ix ix_seq d_ix (mv 0) fe_int (fun _ _ => rfl)) fe_str (nomark _)) (fw_and1 (ft_dnotin hr.units1 (fe_ix ix_seq d_ix (mv 0) fe_int (fun _ _ => rfl)) (mv 2))))) (fss_one (fs_ret (fe_tup (fa_cons fe_str (fa_cons (fe_ix ix_seq d_ix (mv 0) fe_int (fun _ _ => rfl)) (fa_cons fe_bl fa_nil)))))) fss_nil)
      (fss_cons (fs_if (PW.pt (fw_and (ft_cmp (o_eq hr.units) d_eq (fe_ix ix_seq d_ix (mv 0) fe_int (fun _ _ => rfl)) fe_str (nomark _)) (fw_and1 (ft_cmp (o_ne hr.units) d_ne (fe_dget hr.units1 (mv 2) (fe_ix ix_seq d_ix (mv 0) fe_int (fun _ _ => rfl))) (fe_callB call_len c_len (by rfl) T.n_len (by decide +kernel) (fa_cons (fe_ix ix_seq d_ix (mv 0) fe_int (fun _ _ => rfl)) fa_nil)) (nomark _))))) (fss_one (fs_ret (fe_tup (fa_cons fe_str (fa_cons (fe_ix ix_seq d_ix (mv 0) fe_int (fun _ _ => rfl)) (fa_cons (fe_callB call_len c_len (by rfl) T.n_len (by decide +kernel) (fa_cons (fe_ix ix_seq d_ix (mv 0) fe_int (fun _ _ => rfl)) fa_nil)) (fa_cons fe_bl fa_nil))))))) fss_nil)
      (fss_cons (fs_set (i := 3) sc_first.nd rfl (by first | exact Or.inl rfl | exact Or.inr rfl) (fe_ifExp (ft_cmp (o_in hr.units3) d_in (fe_ix ix_seq d_ix (mv 0) fe_int (fun _ _ => rfl)) (fe_tup (fa_cons fe_str (fa_cons fe_str fa_nil))) (by rfl)) (fe_fz (fl_lst (fa_cons (mv 0) fa_nil))) (fe_ifExp (ft_cmp (o_eq hr.units) d_eq (fe_ix ix_seq d_ix (mv 0) fe_int (fun _ _ => rfl)) fe_str (nomark _)) (fe_fz (fl_lst (fa_cons (fe_ix ix_seq d_ix (mv 0) fe_int (fun _ _ => rfl)) fa_nil))) (fe_fz (fl_lst fa_nil)))))
      (fss_cons (fs_if (ft_cmp (o_in hr.units3) d_in (fe_ix ix_seq d_ix (mv 0) fe_int (fun _ _ => rfl)) (fe_tup (fa_cons fe_str (fa_cons fe_str (fa_cons fe_str fa_nil)))) (by rfl)) (fss_one (fs_set (i := 3) sc_first.nd rfl (by first | exact Or.inl rfl | exact Or.inr rfl) (fe_fz (fl_callTy call_list_of cl_list (by rfl) T.n_list (by decide +kernel) (fa_cons (fe_ix ix_seq d_ix (mv 0) fe_int (fun _ _ => rfl)) fa_nil))))) fss_nil)
      (fss_cons (fs_for (passes_of rfl) rfl (fi_val (mv 3)) (fg_name (i := 4) sc_first.nd rfl (by first | exact Or.inl rfl | exact Or.inr rfl)) (fss_one (fs_if (PW.pt (fw_and (ft_cmp (o_eq hr.units) d_eq (fe_ix ix_seq d_ix (mv 4) fe_int (fun _ _ => rfl)) fe_str (nomark _)) (fw_and1 (ft_cmp (o_notin hr.units3) d_in (fe_ix ix_seq d_ix (mv 4) fe_int (fun _ _ => rfl)) (mv 1) (by rfl))))) (fss_one (fs_ret (fe_tup (fa_cons fe_str (fa_cons (fe_ix ix_seq d_ix (mv 4) fe_int (fun _ _ => rfl)) (fa_cons fe_bl fa_nil)))))) fss_nil)))
      (fss_cons (fs_set (i := 5) sc_first.nd rfl (by first | exact Or.inl rfl | exact Or.inr rfl) (fe_ifExp (ft_cmp (o_eq hr.units) d_eq (fe_ix ix_seq d_ix (mv 0) fe_int (fun _ _ => rfl)) fe_str (nomark _)) (fe_fz (fl_lst (fa_cons (fe_tup (fa_cons (fe_ix ix_seq d_ix (mv 0) fe_int (fun _ _ => rfl)) (fa_cons (mv 1) fa_nil))) (fa_cons (fe_tup (fa_cons (fe_ix ix_seq d_ix (mv 0) fe_int (fun _ _ => rfl)) (fa_cons (mv 1) fa_nil))) fa_nil)))) (fe_fz (fl_lst fa_nil))))
      (fss_cons (fs_if (ft_cmp (o_eq hr.units) d_eq (fe_ix ix_seq d_ix (mv 0) fe_int (fun _ _ => rfl)) fe_str (nomark _)) (fss_one (fs_set (i := 5) sc_first.nd rfl (by first | exact Or.inl rfl | exact Or.inr rfl) (fe_fz (fl_lst (fa_cons (fe_tup (fa_cons (fe_ix ix_seq d_ix (mv 0) fe_int (fun _ _ => rfl)) (fa_cons (mv 1) fa_nil))) (fa_cons (fe_tup (fa_cons (fe_ix ix_seq d_ix (mv 0) fe_int (fun _ _ => rfl)) (fa_cons (fe_op o_add d_add (mv 1) (fe_fz (fl_lst (fa_cons (fe_ix ix_seq d_ix (mv 0) fe_int (fun _ _ => rfl)) fa_nil)))) fa_nil))) fa_nil)))))) fss_nil)
      (fss_cons (fs_if (ft_cmp (o_eq hr.units) d_eq (fe_ix ix_seq d_ix (mv 0) fe_int (fun _ _ => rfl)) fe_str (nomark _)) (fss_one (fs_set (i := 5) sc_first.nd rfl (by first | exact Or.inl rfl | exact Or.inr rfl) (fe_fz (fl_lst (fa_cons (fe_tup (fa_cons (fe_ix ix_seq d_ix (mv 0) fe_int (fun _ _ => rfl)) (fa_cons (mv 1) fa_nil))) (fa_cons (fe_tup (fa_cons (fe_ix ix_seq d_ix (mv 0) fe_int (fun _ _ => rfl)) (fa_cons (fe_op o_add d_add (mv 1) (fe_fz (fl_lst (fa_cons (fe_ix ix_seq d_ix (mv 0) fe_int (fun _ _ => rfl)) fa_nil)))) fa_nil))) fa_nil)))))) fss_nil)
      (fss_cons (fs_for (passes_of rfl) rfl (fi_val (mv 5)) (fg_tup rfl (fgs_cons (fg_name (i := 6) sc_first.nd rfl (by first | exact Or.inl rfl | exact Or.inr rfl)) (fgs_cons (fg_name (i := 7) sc_first.nd rfl (by first | exact Or.inl rfl | exact Or.inr rfl)) fgs_nil))) (fss_cons (fs_set (i := 8) sc_first.nd rfl (by first | exact Or.inl rfl | exact Or.inr rfl) (fe_call h_first (takes_of rfl rfl rfl rfl) hg hr (fa_cons (mv 6) (fa_cons (mv 7) (fa_cons (mv 2) fa_nil))) (hk := Nat.le_refl _)))
      (fss_one (fs_if (ft_cmp op_notN d_notN (mv 8) fe_non (nomark _)) (fss_one (fs_ret (mv 8))) fss_nil))))
      (fss_one (fs_ret fe_non)))))))))))
noncomputable def b_spoilt (F_expression F_take : MF) : MS :=
  (mSeq (mAsg (mOwn (mLst mNil)) (gN 2))
  (mSeq (mFor (mIt (mVar 1)) (gT 3 (gC (gN 3) (gC (gN 4) (gC (gN 5) gE)))) (mSeq (mPar2 6 7 (mCons (mBin addD (mFz (mNL listL (mCons (mVar 4) mNil))) (mSlice (mFz (mLst (mCons (mC (.str ("x" : Str))) (mCons (mC (.str ("w" : Str))) mNil)))) pNone (pSome (mCall F_take 2 (mCons (mVar 0) (mCons (mC (.int 3)) mNil)))))) (mCons (mOwn (mLC (mIt (mVar 1)) (gN 9) mYes (mTup (mCons (mBin ixD (mVar 9) (mC (.int 0))) (mCons (mN (one lenD) (mCons (mBin ixD (mVar 9) (mC (.int 1))) mNil)) mNil))) [9])) mNil)))
  (mSeq (mAsg (mCall F_take 2 (mCons (mVar 0) (mCons (mC (.int 6)) mNil))) (gN 8))
  (mSeq (mIfS (mB (mBin eqD (mVar 8) (mC (.int 0)))) (mExpr (mMut apD (mVar 7) (mCons (mTup (mCons (mIf (mB (mBin ltI (mN (one lenD) (mCons (mVar 3) mNil)) (mC (.int 8)))) (mBin addD (mVar 3) (mC (.str ("q" : Str)))) (mC (.str ("nofun" : Str)))) (mCons (mCall F_take 2 (mCons (mVar 0) (mCons (mC (.int 5)) mNil))) mNil))) mNil))) mNext)
  (mSeq (mIfS (mB (mBin eqD (mVar 8) (mC (.int 1)))) (mExpr (mMut apD (mVar 7) (mCons (mTup (mCons (mVar 3) (mCons (mBin modD (mBin addD (mBin addD (mN (one lenD) (mCons (mVar 4) mNil)) (mC (.int 1))) (mCall F_take 2 (mCons (mVar 0) (mCons (mC (.int 4)) mNil)))) (mC (.int 5))) mNil))) mNil))) mNext)
  (mExpr (mMut apD (mVar 2) (mCons (mTup (mCons (mVar 3) (mCons (mVar 4) (mCons (mCall F_expression 4 (mCons (mVar 0) (mCons (mVar 6) (mCons (mVar 7) (mCons (mBin addD (mC (.int 1)) (mCall F_take 2 (mCons (mVar 0) (mCons (mC (.int 30)) mNil)))) mNil))))) mNil)))) mNil))))))))
  (mRet (mVar 2))))
theorem f_spoilt {k : Nat} {F_expression F_take : MF} (D : Def K mg "_law_spoilt" s_spoilt ["_law_bag_here", "_law_functions_here"]) (T : Txt K mg) (h_expression : Fn P w K mg base k "_law_expression" 4 F_expression) (h_take : Fn P w K mg base k "_law_take" 2 F_take)    : Fn P w K mg base (k + 1) "_law_spoilt" 2 (fnT true 10 (b_spoilt  F_expression F_take)) :=
  D.mini sc_spoilt rfl fun f cdv A outer s H E hg hr =>
    (fss_cons (fs_set (i := 2) sc_spoilt.nd rfl (by first | exact Or.inl rfl | exact Or.inr rfl) (fe_own (fl_lst fa_nil)))
      (fss_cons (fs_for (passes_of rfl) rfl (fi_val (mv 1)) (fg_tup rfl (fgs_cons (fg_name (i := 3) sc_spoilt.nd rfl (by first | exact Or.inl rfl | exact Or.inr rfl)) (fgs_cons (fg_name (i := 4) sc_spoilt.nd rfl (by first | exact Or.inl rfl | exact Or.inr rfl)) (fgs_cons (fg_name (i := 5) sc_spoilt.nd rfl (by first | exact Or.inl rfl | exact Or.inr rfl)) fgs_nil)))) (fss_cons (fs_par (i := 6) (j := 7) rfl sc_spoilt.nd rfl rfl (by decide) rfl rfl (fa_cons (fe_op o_add d_add (fe_fz (fl_callTy call_list_of cl_list (by rfl) T.n_list (by decide +kernel) (fa_cons (mv 4) fa_nil))) (fe_slice (fe_fz (fl_lst (fa_cons fe_str (fa_cons fe_str fa_nil)))) fp_none (fp_some (fe_call h_take (takes_of rfl rfl rfl rfl) hg hr (fa_cons (mv 0) (fa_cons fe_int fa_nil)) (hk := Nat.le_refl _))))) (fa_cons (fe_own (fl_lc (own := [("_law_row", 9)]) rfl sc_spoilt.nd (fi_val (mv 1)) (blkOk_by (own := [("_law_row", 9)]) (N := ["_law_bag_here", "_law_functions_here", "_law_found", "_law_name", "_law_params", "_law_body", "_law_scope", "_law_rows", "_law_odd", "_law_row"]) (sc := defScope s_spoilt) (by decide +kernel)) (cg_name (by decide)) (fun _ _ _ _ _ => (pg_name (i := 9) sc_spoilt.nd rfl (by first | exact Or.inl rfl | exact Or.inr rfl))) (fun _ _ _ _ _ => fts_nil) (fun _ _ _ _ _ => (fe_tup (fa_cons (fe_ix ix_seq d_ix (mv 9) fe_int (fun _ _ => rfl)) (fa_cons (fe_callB call_len c_len (by rfl) T.n_len (by decide +kernel) (fa_cons (fe_ix ix_seq d_ix (mv 9) fe_int (fun _ _ => rfl)) fa_nil)) fa_nil)))))) fa_nil)) (by rfl))
      (fss_cons (fs_set (i := 8) sc_spoilt.nd rfl (by first | exact Or.inl rfl | exact Or.inr rfl) (fe_call h_take (takes_of rfl rfl rfl rfl) hg hr (fa_cons (mv 0) (fa_cons fe_int fa_nil)) (hk := Nat.le_refl _)))
      (fss_cons (fs_if (ft_cmp (o_eq hr.units) d_eq (mv 8) fe_int (nomark _)) (fss_one (fs_expr (fe_mut PySem.F.plainAttrs_list PySem.F.slot_list_append PySem.F.type_list_append mt_append m_append (mv 7) (fa_cons (fe_tup (fa_cons (fe_ifExp (ft_cmp op_lt d_lt (fe_callB call_len c_len (by rfl) T.n_len (by decide +kernel) (fa_cons (mv 3) fa_nil)) fe_int (nomark _)) (fe_op o_add d_add (mv 3) fe_str) fe_str) (fa_cons (fe_call h_take (takes_of rfl rfl rfl rfl) hg hr (fa_cons (mv 0) (fa_cons fe_int fa_nil)) (hk := Nat.le_refl _)) fa_nil))) fa_nil)))) fss_nil)
      (fss_cons (fs_if (ft_cmp (o_eq hr.units) d_eq (mv 8) fe_int (nomark _)) (fss_one (fs_expr (fe_mut PySem.F.plainAttrs_list PySem.F.slot_list_append PySem.F.type_list_append mt_append m_append (mv 7) (fa_cons (fe_tup (fa_cons (mv 3) (fa_cons (fe_op op_mod d_mod (fe_op o_add d_add (fe_op o_add d_add (fe_callB call_len c_len (by rfl) T.n_len (by decide +kernel) (fa_cons (mv 4) fa_nil)) fe_int) (fe_call h_take (takes_of rfl rfl rfl rfl) hg hr (fa_cons (mv 0) (fa_cons fe_int fa_nil)) (hk := Nat.le_refl _))) fe_int) fa_nil))) fa_nil)))) fss_nil)
      (fss_one (fs_expr (fe_mut PySem.F.plainAttrs_list PySem.F.slot_list_append PySem.F.type_list_append mt_append m_append (mv 2) (fa_cons (fe_tup (fa_cons (mv 3) (fa_cons (mv 4) (fa_cons (fe_call h_expression (takes_of rfl rfl rfl rfl) hg hr (fa_cons (mv 0) (fa_cons (mv 6) (fa_cons (mv 7) (fa_cons (fe_op o_add d_add fe_int (fe_call h_take (takes_of rfl rfl rfl rfl) hg hr (fa_cons (mv 0) (fa_cons fe_int fa_nil)) (hk := Nat.le_refl _))) fa_nil)))) (hk := Nat.le_refl _)) fa_nil)))) fa_nil)))))))))
      (fss_one (fs_ret (mv 2)))))
noncomputable def b_law (F_told F_first F_spoilt F_functions F_bag : MF) : MS :=
  (mSeq (mFor (mItA rng1 (mCons (mN max2 (mCons (mC (.int 1)) (mCons (mN min2 (mCons (mC (.int 4)) (mCons (mN (one lenD) (mCons (mVar 0) mNil)) mNil))) mNil))) mNil)) (gN 1) (mSeq (mAsg (mCall F_bag 2 (mCons (mVar 0) (mCons (mVar 1) mNil))) (gN 2))
  (mSeq (mAsg (mCall F_functions 3 (mCons (mVar 2) (mCons (mC (.int 5)) (mCons (mC (.int 30)) mNil)))) (gN 3))
  (mSeq (mIfS (mB (mBin neD (mN (one reprD) (mCons (mCall F_told 1 (mCons (mVar 3) mNil)) mNil)) (mN (one reprD) (mCons (mTup (mCons (mC (.str ("made" : Str))) (mCons (mN (one lenD) (mCons (mVar 3) mNil)) mNil))) mNil)))) (mRet (mC (.bl false))) mNext)
  (mFor (mItA rng1 (mCons (mC (.int 3)) mNil)) (gN 4) (mSeq (mPar2 5 6 (mCons (mCall F_spoilt 2 (mCons (mVar 2) (mCons (mVar 3) mNil))) (mCons (mC .non) mNil)))
  (mSeq (mAsg (mN (one dictD) (mCons (mFz (mLC (mIt (mVar 5)) (gN 11) mYes (mTup (mCons (mBin ixD (mVar 11) (mC (.int 0))) (mCons (mN (one lenD) (mCons (mBin ixD (mVar 11) (mC (.int 1))) mNil)) mNil))) [11])) mNil)) (gN 7))
  (mSeq (mFor (mIt (mFz (mSort (mCons (mVar 5) mNil)))) (gT 3 (gC (gN 8) (gC (gN 9) (gC (gN 10) gE)))) (mIfS (mB (mBin isN (mVar 6) (mC .non))) (mAsg (mCall F_first 3 (mCons (mVar 10) (mCons (mFz (mNL listL (mCons (mVar 9) mNil))) (mCons (mVar 7) mNil)))) (gN 6)) mNext))
  (mIfS (mB (mBin neD (mN (one reprD) (mCons (mCall F_told 1 (mCons (mVar 5) mNil)) mNil)) (mN (one reprD) (mCons (mIf (mB (mBin isN (mVar 6) (mC .non))) (mTup (mCons (mC (.str ("made" : Str))) (mCons (mN (one lenD) (mCons (mVar 5) mNil)) mNil))) (mVar 6)) mNil)))) (mRet (mC (.bl false))) mNext)))))))))
  (mRet (mC (.bl true))))
theorem f_law {k : Nat} {F_told F_first F_spoilt F_functions F_bag : MF} {cc PP : Addr} (D : DefC K mg "law" s_law ["_law_script"] (.ref cc)) (T : Txt K mg) (h_told : Fn P w K mg base k "_law_told" 1 F_told) (h_first : Fn P w K mg base k "_law_first" 3 F_first) (h_spoilt : Fn P w K mg base k "_law_spoilt" 2 F_spoilt) (h_functions : Fn P w K mg base k "_law_functions" 3 F_functions) (h_bag : Fn P w K mg base k "_law_bag" 2 F_bag)    (LT : LamX.TabB base mg cc PP) (hmT : (PP, (("law" : Str) ++ ".<locals>.") ++ "<lambda>") ∈ TB.T) (huT : ∀ p ∈ TB.T, p.1 = PP → p.2 = (("law" : Str) ++ ".<locals>.") ++ "<lambda>") : Fn P w K mg base (k + 1) "law" 1 (fnT true 12 (b_law  F_told F_first F_spoilt F_functions F_bag)) :=
  D.mini sc_law rfl fun f A outer s H E hg hr =>
    (fss_cons (fs_for (passes_of rfl) rfl (fi_range1 (by rfl) T.n_range (fa_cons (fe_callB (call_max2 rfl) c_max2 (by rfl) T.n_max (by decide +kernel) (fa_cons fe_int (fa_cons (fe_callB (call_min2 rfl) c_min2 (by rfl) T.n_min (by decide +kernel) (fa_cons fe_int (fa_cons (fe_callB call_len c_len (by rfl) T.n_len (by decide +kernel) (fa_cons (mv 0) fa_nil)) fa_nil))) fa_nil))) fa_nil)) (fg_name (i := 1) sc_law.nd rfl (by first | exact Or.inl rfl | exact Or.inr rfl)) (fss_cons (fs_set (i := 2) sc_law.nd rfl (by first | exact Or.inl rfl | exact Or.inr rfl) (fe_call h_bag (takes_of rfl rfl rfl rfl) hg hr (fa_cons (mv 0) (fa_cons (mv 1) fa_nil)) (hk := Nat.le_refl _)))
      (fss_cons (fs_set (i := 3) sc_law.nd rfl (by first | exact Or.inl rfl | exact Or.inr rfl) (fe_call h_functions (takes_of rfl rfl rfl rfl) hg hr (fa_cons (mv 2) (fa_cons fe_int (fa_cons fe_int fa_nil))) (hk := Nat.le_refl _)))
      (fss_cons (fs_if (ft_cmp (o_ne hr.units) d_ne (fe_callB (call_repr hg hr.units2) c_repr (by rfl) T.n_repr (by decide +kernel) (fa_cons (fe_call h_told (takes_of rfl rfl rfl rfl) hg hr (fa_cons (mv 3) fa_nil) (hk := Nat.le_refl _)) fa_nil)) (fe_callB (call_repr hg hr.units2) c_repr (by rfl) T.n_repr (by decide +kernel) (fa_cons (fe_tup (fa_cons fe_str (fa_cons (fe_callB call_len c_len (by rfl) T.n_len (by decide +kernel) (fa_cons (mv 3) fa_nil)) fa_nil))) fa_nil)) (nomark _)) (fss_one (fs_ret fe_bl)) fss_nil)
      (fss_one (fs_for (passes_of rfl) rfl (fi_range1 (by rfl) T.n_range (fa_cons fe_int fa_nil)) (fg_name (i := 4) sc_law.nd rfl (by first | exact Or.inl rfl | exact Or.inr rfl)) (fss_cons (fs_par (i := 5) (j := 6) rfl sc_law.nd rfl rfl (by decide) rfl rfl (fa_cons (fe_call h_spoilt (takes_of rfl rfl rfl rfl) hg hr (fa_cons (mv 2) (fa_cons (mv 3) fa_nil)) (hk := Nat.le_refl _)) (fa_cons fe_non fa_nil)) (by rfl))
      (fss_cons (fs_set (i := 7) sc_law.nd rfl (by first | exact Or.inl rfl | exact Or.inr rfl) (fe_callTy (call_dictP rfl) c_dict (by rfl) T.n_dict (by decide +kernel) (fa_cons (fe_fz (fl_lc (own := [("_law_row", 11)]) rfl sc_law.nd (fi_val (mv 5)) (blkOk_by (own := [("_law_row", 11)]) (N := ["_law_script", "_law_at", "_law_bag_here", "_law_functions_here", "_law_turn", "_law_rows", "_law_due", "_law_arities", "_law_name", "_law_params", "_law_body", "_law_row"]) (sc := defScope s_law) (by decide +kernel)) (cg_name (by decide)) (fun _ _ _ _ _ => (pg_name (i := 11) sc_law.nd rfl (by first | exact Or.inl rfl | exact Or.inr rfl))) (fun _ _ _ _ _ => fts_nil) (fun _ _ _ _ _ => (fe_tup (fa_cons (fe_ix ix_seq d_ix (mv 11) fe_int (fun _ _ => rfl)) (fa_cons (fe_callB call_len c_len (by rfl) T.n_len (by decide +kernel) (fa_cons (fe_ix ix_seq d_ix (mv 11) fe_int (fun _ _ => rfl)) fa_nil)) fa_nil)))))) fa_nil)))
      (fss_cons (fs_for (passes_of rfl) rfl (fi_val (fe_fz (fl_sortK (c := cc) (P := PP) ⟨LT, rfl, hmT, huT⟩ T.n_sorted hr (fa_cons (mv 5) fa_nil)))) (fg_tup rfl (fgs_cons (fg_name (i := 8) sc_law.nd rfl (by first | exact Or.inl rfl | exact Or.inr rfl)) (fgs_cons (fg_name (i := 9) sc_law.nd rfl (by first | exact Or.inl rfl | exact Or.inr rfl)) (fgs_cons (fg_name (i := 10) sc_law.nd rfl (by first | exact Or.inl rfl | exact Or.inr rfl)) fgs_nil)))) (fss_one (fs_if (ft_cmp op_isN d_isN (mv 6) fe_non (nomark _)) (fss_one (fs_set (i := 6) sc_law.nd rfl (by first | exact Or.inl rfl | exact Or.inr rfl) (fe_call h_first (takes_of rfl rfl rfl rfl) hg hr (fa_cons (mv 10) (fa_cons (fe_fz (fl_callTy call_list_of cl_list (by rfl) T.n_list (by decide +kernel) (fa_cons (mv 9) fa_nil))) (fa_cons (mv 7) fa_nil))) (hk := Nat.le_refl _)))) fss_nil)))
      (fss_one (fs_if (ft_cmp (o_ne hr.units) d_ne (fe_callB (call_repr hg hr.units2) c_repr (by rfl) T.n_repr (by decide +kernel) (fa_cons (fe_call h_told (takes_of rfl rfl rfl rfl) hg hr (fa_cons (mv 5) fa_nil) (hk := Nat.le_refl _)) fa_nil)) (fe_callB (call_repr hg hr.units2) c_repr (by rfl) T.n_repr (by decide +kernel) (fa_cons (fe_ifExp (ft_cmp op_isN d_isN (mv 6) fe_non (nomark _)) (fe_tup (fa_cons fe_str (fa_cons (fe_callB call_len c_len (by rfl) T.n_len (by decide +kernel) (fa_cons (mv 5) fa_nil)) fa_nil))) (mv 6)) fa_nil)) (nomark _)) (fss_one (fs_ret fe_bl)) fss_nil)))))))))))
      (fss_one (fs_ret fe_bl)))
end
end TT

namespace TT
open PySem L2
section
variable [TB]
noncomputable def F_is_integer : MF := (fnT true 1 (b_is_integer))
noncomputable def F_is_name : MF := (fnT true 2 (b_is_name))
noncomputable def F_is_atom : MF := (fnT true 2 (b_is_atom  F_is_integer F_is_name))
noncomputable def F_are_atoms : MF := (fnD (fnT true 4 (b_are_atoms  F_is_atom)) [.d (.int 4)])
noncomputable def F_first_twice : MF := ftD
noncomputable def F_expressions_in : MF := (fnT true 10 (b_expressions_in  F_is_name F_are_atoms F_is_atom))
noncomputable def F_measured (c : Ad) : MF := (fnT true 9 (b_measured [( c.fe, 1, F_expressions_in)]))
noncomputable def F_is_function (c : Ad) : MF := (fnT true 3 (b_is_function c (F_measured c) F_first_twice F_is_name))
noncomputable def F_atoms_of : MF := (fnT true 7 (b_atoms_of))
noncomputable def F_level_of : MF := (fnT true 3 (b_level_of))
noncomputable def F_parts_in_scope : MF := (fnT true 10 (b_parts_in_scope))
noncomputable def F_look_body (c : Ad) : MF := (fnT true 7 (b_look_body c F_parts_in_scope F_atoms_of F_level_of))
noncomputable def F_Program___init__ (c : Ad) : MF := (fnT true 14 (b_Program___init__ c (F_look_body c) (F_measured c) F_first_twice (F_is_function c)))
noncomputable def F_Program___len__ (c : Ad) : MF := (fnT true 1 (b_Program___len__ c))
@[irreducible] noncomputable def F_bag : MF := (fnT false 6 (b_bag))
@[irreducible] noncomputable def F_take : MF := (fnT true 3 (b_take))
@[irreducible] noncomputable def F_number : MF := (fnT true 3 (b_number  F_take))
@[irreducible] noncomputable def F_names : MF := (fnT true 8 (b_names  F_take))
@[irreducible] noncomputable def F_atom : MF := (fnT true 2 (b_atom  F_number F_take))
@[irreducible] noncomputable def F_atoms : MF := (fnT true 4 (b_atoms  F_atom))
@[irreducible] noncomputable def F_leaf : MF := (fnT true 6 (b_leaf  F_atoms F_take F_atom))
@[irreducible] noncomputable def G_expression (F : MF) : MF := (fnT true 10 (b_expression  F_atoms F_take F F_leaf))
@[irreducible] noncomputable def F_expression : MF := iterF G_expression 40
@[irreducible] noncomputable def F_functions : MF := (fnT true 9 (b_functions  F_expression F_take F_names))
@[irreducible] noncomputable def F_told (c : Ad) : MF := (fnT true 3 (b_told c (F_Program___len__ c) (F_Program___init__ c)))
@[irreducible] noncomputable def G_first (F : MF) : MF := (fnT true 9 (b_first  F))
@[irreducible] noncomputable def F_first : MF := iterF G_first 40
@[irreducible] noncomputable def F_spoilt : MF := (fnT true 10 (b_spoilt  F_expression F_take))
noncomputable def F_law (c : Ad) : MF := (fnT true 12 (b_law  (F_told c) F_first F_spoilt F_functions F_bag))
set_option maxHeartbeats 20000000 in
theorem tbl_one {P : Program} {w : World} {K : PySem.W.Frag} {mg : Str → Option Value} {base : Heap} {k n : Nat} {x : Str} {F : MF} {a : Addr} (c : Fn P w K mg base k x n F) (hm : mg x = some (.ref a)) : TblOk P w K mg base k [(a, n, F)] := by
  intro b m G h
  unfold tblAt at h
  split at h
  · rename_i e
    cases h
    subst e
    obtain ⟨f, g, h1, h2⟩ := c.ex
    rw [hm] at h1
    cases h1
    exact ⟨g, h2⟩
  · cases h
set_option maxHeartbeats 20000000 in
theorem all_mk {P : Program} {w : World} {K : PySem.W.Frag} {h : Heap} {mg : Str → Option Value} {fa PP PP2 C_TablesError C_BadFunction f_iBadFunction C_Twice f_iTwice C_TooLarge f_iTooLarge C_Unknown f_iUnknown C_Arity f_iArity C_Unbound f_iUnbound C_Program f_is_integer f_is_name f_is_atom f_are_atoms t_are_atoms f_first_twice f_expressions_in f_measured f_is_function f_atoms_of f_level_of f_parts_in_scope f_look_body f_Program___init__ f_Program___len__ f_bag f_take f_number f_names f_atom f_atoms f_leaf f_expression f_functions f_told f_first f_spoilt f_law : Addr} (X : K.In h) (G : h.Ns mainGlobals mg) (hfa : mg "law" = some (.ref fa))
    {nm_BadFunction qn_BadFunction : Str} {N_BadFunction : Addr} {bs_BadFunction sub_BadFunction : List Value} {sn_BadFunction : List Str} {ab_BadFunction : Bool} {co_BadFunction : Option Bool} {dd_BadFunction : Option Addr} {m0_BadFunction m1_BadFunction m2_BadFunction m3_BadFunction m5_BadFunction : Option Value}
    {od_iBadFunction an_iBadFunction : Option Addr} {sl_iBadFunction : Array (Option Value)} {oc_iBadFunction kV_iBadFunction dc_iBadFunction pm_iBadFunction cd_iBadFunction ct_iBadFunction : Value}
    {nm_Twice qn_Twice : Str} {N_Twice : Addr} {bs_Twice sub_Twice : List Value} {sn_Twice : List Str} {ab_Twice : Bool} {co_Twice : Option Bool} {dd_Twice : Option Addr} {m0_Twice m1_Twice m2_Twice m3_Twice m5_Twice : Option Value}
    {od_iTwice an_iTwice : Option Addr} {sl_iTwice : Array (Option Value)} {oc_iTwice kV_iTwice dc_iTwice pm_iTwice cd_iTwice ct_iTwice : Value}
    {nm_TooLarge qn_TooLarge : Str} {N_TooLarge : Addr} {bs_TooLarge sub_TooLarge : List Value} {sn_TooLarge : List Str} {ab_TooLarge : Bool} {co_TooLarge : Option Bool} {dd_TooLarge : Option Addr} {m0_TooLarge m1_TooLarge m2_TooLarge m3_TooLarge m5_TooLarge : Option Value}
    {od_iTooLarge an_iTooLarge : Option Addr} {sl_iTooLarge : Array (Option Value)} {oc_iTooLarge kV_iTooLarge dc_iTooLarge pm_iTooLarge cd_iTooLarge ct_iTooLarge : Value}
    {nm_Unknown qn_Unknown : Str} {N_Unknown : Addr} {bs_Unknown sub_Unknown : List Value} {sn_Unknown : List Str} {ab_Unknown : Bool} {co_Unknown : Option Bool} {dd_Unknown : Option Addr} {m0_Unknown m1_Unknown m2_Unknown m3_Unknown m5_Unknown : Option Value}
    {od_iUnknown an_iUnknown : Option Addr} {sl_iUnknown : Array (Option Value)} {oc_iUnknown kV_iUnknown dc_iUnknown pm_iUnknown cd_iUnknown ct_iUnknown : Value}
    {nm_Arity qn_Arity : Str} {N_Arity : Addr} {bs_Arity sub_Arity : List Value} {sn_Arity : List Str} {ab_Arity : Bool} {co_Arity : Option Bool} {dd_Arity : Option Addr} {m0_Arity m1_Arity m2_Arity m3_Arity m5_Arity : Option Value}
    {od_iArity an_iArity : Option Addr} {sl_iArity : Array (Option Value)} {oc_iArity kV_iArity dc_iArity pm_iArity cd_iArity ct_iArity : Value}
    {nm_Unbound qn_Unbound : Str} {N_Unbound : Addr} {bs_Unbound sub_Unbound : List Value} {sn_Unbound : List Str} {ab_Unbound : Bool} {co_Unbound : Option Bool} {dd_Unbound : Option Addr} {m0_Unbound m1_Unbound m2_Unbound m3_Unbound m5_Unbound : Option Value}
    {od_iUnbound an_iUnbound : Option Addr} {sl_iUnbound : Array (Option Value)} {oc_iUnbound kV_iUnbound dc_iUnbound pm_iUnbound cd_iUnbound ct_iUnbound : Value}
    {u_Program_MOST_NODES : Value}
    {u_Program_MOST_DEPTH : Value}
    {od_is_integer an_is_integer : Option Addr} {sl_is_integer : Array (Option Value)} {oc_is_integer kV_is_integer dc_is_integer pm_is_integer cd_is_integer ct_is_integer : Value}
    {od_is_name an_is_name : Option Addr} {sl_is_name : Array (Option Value)} {oc_is_name kV_is_name dc_is_name pm_is_name cd_is_name ct_is_name : Value}
    {od_is_atom an_is_atom : Option Addr} {sl_is_atom : Array (Option Value)} {oc_is_atom kV_is_atom dc_is_atom pm_is_atom cd_is_atom ct_is_atom : Value}
    {od_are_atoms an_are_atoms oe_are_atoms : Option Addr} {sl_are_atoms os_are_atoms : Array (Option Value)} {oc_are_atoms kV_are_atoms dc_are_atoms pm_are_atoms cd_are_atoms ct_are_atoms oC_are_atoms : Value} {nn_are_atoms : Nat} {tk_are_atoms : Tok}
    {od_first_twice an_first_twice : Option Addr} {sl_first_twice : Array (Option Value)} {oc_first_twice kV_first_twice dc_first_twice pm_first_twice cd_first_twice ct_first_twice : Value}
    {od_expressions_in an_expressions_in : Option Addr} {sl_expressions_in : Array (Option Value)} {oc_expressions_in kV_expressions_in dc_expressions_in pm_expressions_in cd_expressions_in ct_expressions_in : Value}
    {od_measured an_measured : Option Addr} {sl_measured : Array (Option Value)} {oc_measured kV_measured dc_measured pm_measured cd_measured ct_measured : Value}
    {od_is_function an_is_function : Option Addr} {sl_is_function : Array (Option Value)} {oc_is_function kV_is_function dc_is_function pm_is_function cd_is_function ct_is_function : Value}
    {od_atoms_of an_atoms_of : Option Addr} {sl_atoms_of : Array (Option Value)} {oc_atoms_of kV_atoms_of dc_atoms_of pm_atoms_of cd_atoms_of ct_atoms_of : Value}
    {od_level_of an_level_of : Option Addr} {sl_level_of : Array (Option Value)} {oc_level_of kV_level_of dc_level_of pm_level_of cd_level_of ct_level_of : Value}
    {od_parts_in_scope an_parts_in_scope : Option Addr} {sl_parts_in_scope : Array (Option Value)} {oc_parts_in_scope kV_parts_in_scope dc_parts_in_scope pm_parts_in_scope cd_parts_in_scope ct_parts_in_scope : Value}
    {od_look_body an_look_body : Option Addr} {sl_look_body : Array (Option Value)} {oc_look_body kV_look_body dc_look_body pm_look_body cd_look_body ct_look_body : Value}
    {od_Program___init__ an_Program___init__ : Option Addr} {sl_Program___init__ : Array (Option Value)} {oc_Program___init__ kV_Program___init__ dc_Program___init__ pm_Program___init__ ct_Program___init__ : Value}
    {od_Program___len__ an_Program___len__ : Option Addr} {sl_Program___len__ : Array (Option Value)} {oc_Program___len__ kV_Program___len__ dc_Program___len__ pm_Program___len__ cd_Program___len__ ct_Program___len__ : Value}
    {od_bag an_bag : Option Addr} {sl_bag : Array (Option Value)} {oc_bag kV_bag dc_bag pm_bag cd_bag ct_bag : Value}
    {od_take an_take : Option Addr} {sl_take : Array (Option Value)} {oc_take kV_take dc_take pm_take cd_take ct_take : Value}
    {od_number an_number : Option Addr} {sl_number : Array (Option Value)} {oc_number kV_number dc_number pm_number cd_number ct_number : Value}
    {od_names an_names : Option Addr} {sl_names : Array (Option Value)} {oc_names kV_names dc_names pm_names cd_names ct_names : Value}
    {od_atom an_atom : Option Addr} {sl_atom : Array (Option Value)} {oc_atom kV_atom dc_atom pm_atom cd_atom ct_atom : Value}
    {od_atoms an_atoms : Option Addr} {sl_atoms : Array (Option Value)} {oc_atoms kV_atoms dc_atoms pm_atoms cd_atoms ct_atoms : Value}
    {od_leaf an_leaf : Option Addr} {sl_leaf : Array (Option Value)} {oc_leaf kV_leaf dc_leaf pm_leaf cd_leaf ct_leaf : Value}
    {od_expression an_expression : Option Addr} {sl_expression : Array (Option Value)} {oc_expression kV_expression dc_expression pm_expression cd_expression ct_expression : Value}
    {od_functions an_functions : Option Addr} {sl_functions : Array (Option Value)} {oc_functions kV_functions dc_functions pm_functions cd_functions ct_functions : Value}
    {od_told an_told : Option Addr} {sl_told : Array (Option Value)} {oc_told kV_told dc_told pm_told cd_told ct_told : Value}
    {od_first an_first : Option Addr} {sl_first : Array (Option Value)} {oc_first kV_first dc_first pm_first cd_first ct_first : Value}
    {od_spoilt an_spoilt : Option Addr} {sl_spoilt : Array (Option Value)} {oc_spoilt kV_spoilt dc_spoilt pm_spoilt cd_spoilt ct_spoilt : Value}
    {od_law an_law : Option Addr} {sl_law : Array (Option Value)} {oc_law kV_law dc_law pm_law ct_law : Value}
    {gt_MOST_LETTERS : Tok}
    {gt_MOST_ARGS : Tok}
    {gt_MOST_CONSTANT : Tok}
    {gt_LETTERS : Tok}
    (aC_TablesError : PySem.W.nsIn K mainGlobals "TablesError" = some (some (.ref C_TablesError)))
    (aC_BadFunction : PySem.W.nsIn K mainGlobals "BadFunction" = some (some (.ref C_BadFunction)))
    (xL_BadFunction : K.lookup C_BadFunction = some (excClassObj nm_BadFunction qn_BadFunction C_BadFunction N_BadFunction bs_BadFunction [.ref C_TablesError, .type "ValueError", .type "Exception", .type "BaseException", .type "object"] true sn_BadFunction sub_BadFunction ab_BadFunction co_BadFunction dd_BadFunction m0_BadFunction m1_BadFunction m2_BadFunction m3_BadFunction m5_BadFunction "ValueError.__new__"))
    (sa_BadFunction : PySem.W.findIn K (.ref C_BadFunction) "__setattr__" = some (some (.builtin "object.__setattr__")))
    (ec_BadFunction : PySem.W.subIn K (.ref C_BadFunction) (.type "BaseException") = some true)
    (tc_BadFunction : PySem.W.typeIn K (.ref C_BadFunction) = some (.type "type"))
    (kc_BadFunction : PySem.W.keepIn K (.ref C_BadFunction) = true)
    (xf_BadFunction : xfB K C_BadFunction = true)
    (xn_BadFunction_at : PySem.W.findIn K (.ref C_BadFunction) "at" = some none)
    (a_iBadFunction : PySem.W.findIn K (.ref C_BadFunction) "__init__" = some (some (.ref f_iBadFunction)))
    (t_iBadFunction : PySem.W.typeIn K (.ref f_iBadFunction) = some (.type "function"))
    (l_iBadFunction : K.lookup f_iBadFunction = some ⟨oc_iBadFunction, od_iBadFunction, .func (PySem.W.fnOf "__init__" "BadFunction.__init__" (defArgs s_BadFunction___init__) (defBody s_BadFunction___init__) (defScope s_BadFunction___init__) .none kV_iBadFunction dc_iBadFunction pm_iBadFunction an_iBadFunction cd_iBadFunction ct_iBadFunction), sl_iBadFunction⟩)
    (hc_iBadFunction : PySem.W.codeIn K cd_iBadFunction "BadFunction.__init__" = true)
    (k_iBadFunction : PySem.W.keepIn K (.ref f_iBadFunction) = true)
    (aC_Twice : PySem.W.nsIn K mainGlobals "Twice" = some (some (.ref C_Twice)))
    (xL_Twice : K.lookup C_Twice = some (excClassObj nm_Twice qn_Twice C_Twice N_Twice bs_Twice [.ref C_TablesError, .type "ValueError", .type "Exception", .type "BaseException", .type "object"] true sn_Twice sub_Twice ab_Twice co_Twice dd_Twice m0_Twice m1_Twice m2_Twice m3_Twice m5_Twice "ValueError.__new__"))
    (sa_Twice : PySem.W.findIn K (.ref C_Twice) "__setattr__" = some (some (.builtin "object.__setattr__")))
    (ec_Twice : PySem.W.subIn K (.ref C_Twice) (.type "BaseException") = some true)
    (tc_Twice : PySem.W.typeIn K (.ref C_Twice) = some (.type "type"))
    (kc_Twice : PySem.W.keepIn K (.ref C_Twice) = true)
    (xf_Twice : xfB K C_Twice = true)
    (xn_Twice_name : PySem.W.findIn K (.ref C_Twice) "name" = some none)
    (a_iTwice : PySem.W.findIn K (.ref C_Twice) "__init__" = some (some (.ref f_iTwice)))
    (t_iTwice : PySem.W.typeIn K (.ref f_iTwice) = some (.type "function"))
    (l_iTwice : K.lookup f_iTwice = some ⟨oc_iTwice, od_iTwice, .func (PySem.W.fnOf "__init__" "Twice.__init__" (defArgs s_Twice___init__) (defBody s_Twice___init__) (defScope s_Twice___init__) .none kV_iTwice dc_iTwice pm_iTwice an_iTwice cd_iTwice ct_iTwice), sl_iTwice⟩)
    (hc_iTwice : PySem.W.codeIn K cd_iTwice "Twice.__init__" = true)
    (k_iTwice : PySem.W.keepIn K (.ref f_iTwice) = true)
    (aC_TooLarge : PySem.W.nsIn K mainGlobals "TooLarge" = some (some (.ref C_TooLarge)))
    (xL_TooLarge : K.lookup C_TooLarge = some (excClassObj nm_TooLarge qn_TooLarge C_TooLarge N_TooLarge bs_TooLarge [.ref C_TablesError, .type "ValueError", .type "Exception", .type "BaseException", .type "object"] true sn_TooLarge sub_TooLarge ab_TooLarge co_TooLarge dd_TooLarge m0_TooLarge m1_TooLarge m2_TooLarge m3_TooLarge m5_TooLarge "ValueError.__new__"))
    (sa_TooLarge : PySem.W.findIn K (.ref C_TooLarge) "__setattr__" = some (some (.builtin "object.__setattr__")))
    (ec_TooLarge : PySem.W.subIn K (.ref C_TooLarge) (.type "BaseException") = some true)
    (tc_TooLarge : PySem.W.typeIn K (.ref C_TooLarge) = some (.type "type"))
    (kc_TooLarge : PySem.W.keepIn K (.ref C_TooLarge) = true)
    (xf_TooLarge : xfB K C_TooLarge = true)
    (xn_TooLarge_nodes : PySem.W.findIn K (.ref C_TooLarge) "nodes" = some none)
    (xn_TooLarge_deepest : PySem.W.findIn K (.ref C_TooLarge) "deepest" = some none)
    (a_iTooLarge : PySem.W.findIn K (.ref C_TooLarge) "__init__" = some (some (.ref f_iTooLarge)))
    (t_iTooLarge : PySem.W.typeIn K (.ref f_iTooLarge) = some (.type "function"))
    (l_iTooLarge : K.lookup f_iTooLarge = some ⟨oc_iTooLarge, od_iTooLarge, .func (PySem.W.fnOf "__init__" "TooLarge.__init__" (defArgs s_TooLarge___init__) (defBody s_TooLarge___init__) (defScope s_TooLarge___init__) .none kV_iTooLarge dc_iTooLarge pm_iTooLarge an_iTooLarge cd_iTooLarge ct_iTooLarge), sl_iTooLarge⟩)
    (hc_iTooLarge : PySem.W.codeIn K cd_iTooLarge "TooLarge.__init__" = true)
    (k_iTooLarge : PySem.W.keepIn K (.ref f_iTooLarge) = true)
    (aC_Unknown : PySem.W.nsIn K mainGlobals "Unknown" = some (some (.ref C_Unknown)))
    (xL_Unknown : K.lookup C_Unknown = some (excClassObj nm_Unknown qn_Unknown C_Unknown N_Unknown bs_Unknown [.ref C_TablesError, .type "ValueError", .type "Exception", .type "BaseException", .type "object"] true sn_Unknown sub_Unknown ab_Unknown co_Unknown dd_Unknown m0_Unknown m1_Unknown m2_Unknown m3_Unknown m5_Unknown "ValueError.__new__"))
    (sa_Unknown : PySem.W.findIn K (.ref C_Unknown) "__setattr__" = some (some (.builtin "object.__setattr__")))
    (ec_Unknown : PySem.W.subIn K (.ref C_Unknown) (.type "BaseException") = some true)
    (tc_Unknown : PySem.W.typeIn K (.ref C_Unknown) = some (.type "type"))
    (kc_Unknown : PySem.W.keepIn K (.ref C_Unknown) = true)
    (xf_Unknown : xfB K C_Unknown = true)
    (xn_Unknown_name : PySem.W.findIn K (.ref C_Unknown) "name" = some none)
    (a_iUnknown : PySem.W.findIn K (.ref C_Unknown) "__init__" = some (some (.ref f_iUnknown)))
    (t_iUnknown : PySem.W.typeIn K (.ref f_iUnknown) = some (.type "function"))
    (l_iUnknown : K.lookup f_iUnknown = some ⟨oc_iUnknown, od_iUnknown, .func (PySem.W.fnOf "__init__" "Unknown.__init__" (defArgs s_Unknown___init__) (defBody s_Unknown___init__) (defScope s_Unknown___init__) .none kV_iUnknown dc_iUnknown pm_iUnknown an_iUnknown cd_iUnknown ct_iUnknown), sl_iUnknown⟩)
    (hc_iUnknown : PySem.W.codeIn K cd_iUnknown "Unknown.__init__" = true)
    (k_iUnknown : PySem.W.keepIn K (.ref f_iUnknown) = true)
    (aC_Arity : PySem.W.nsIn K mainGlobals "Arity" = some (some (.ref C_Arity)))
    (xL_Arity : K.lookup C_Arity = some (excClassObj nm_Arity qn_Arity C_Arity N_Arity bs_Arity [.ref C_TablesError, .type "ValueError", .type "Exception", .type "BaseException", .type "object"] true sn_Arity sub_Arity ab_Arity co_Arity dd_Arity m0_Arity m1_Arity m2_Arity m3_Arity m5_Arity "ValueError.__new__"))
    (sa_Arity : PySem.W.findIn K (.ref C_Arity) "__setattr__" = some (some (.builtin "object.__setattr__")))
    (ec_Arity : PySem.W.subIn K (.ref C_Arity) (.type "BaseException") = some true)
    (tc_Arity : PySem.W.typeIn K (.ref C_Arity) = some (.type "type"))
    (kc_Arity : PySem.W.keepIn K (.ref C_Arity) = true)
    (xf_Arity : xfB K C_Arity = true)
    (xn_Arity_name : PySem.W.findIn K (.ref C_Arity) "name" = some none)
    (xn_Arity_given : PySem.W.findIn K (.ref C_Arity) "given" = some none)
    (a_iArity : PySem.W.findIn K (.ref C_Arity) "__init__" = some (some (.ref f_iArity)))
    (t_iArity : PySem.W.typeIn K (.ref f_iArity) = some (.type "function"))
    (l_iArity : K.lookup f_iArity = some ⟨oc_iArity, od_iArity, .func (PySem.W.fnOf "__init__" "Arity.__init__" (defArgs s_Arity___init__) (defBody s_Arity___init__) (defScope s_Arity___init__) .none kV_iArity dc_iArity pm_iArity an_iArity cd_iArity ct_iArity), sl_iArity⟩)
    (hc_iArity : PySem.W.codeIn K cd_iArity "Arity.__init__" = true)
    (k_iArity : PySem.W.keepIn K (.ref f_iArity) = true)
    (aC_Unbound : PySem.W.nsIn K mainGlobals "Unbound" = some (some (.ref C_Unbound)))
    (xL_Unbound : K.lookup C_Unbound = some (excClassObj nm_Unbound qn_Unbound C_Unbound N_Unbound bs_Unbound [.ref C_TablesError, .type "ValueError", .type "Exception", .type "BaseException", .type "object"] true sn_Unbound sub_Unbound ab_Unbound co_Unbound dd_Unbound m0_Unbound m1_Unbound m2_Unbound m3_Unbound m5_Unbound "ValueError.__new__"))
    (sa_Unbound : PySem.W.findIn K (.ref C_Unbound) "__setattr__" = some (some (.builtin "object.__setattr__")))
    (ec_Unbound : PySem.W.subIn K (.ref C_Unbound) (.type "BaseException") = some true)
    (tc_Unbound : PySem.W.typeIn K (.ref C_Unbound) = some (.type "type"))
    (kc_Unbound : PySem.W.keepIn K (.ref C_Unbound) = true)
    (xf_Unbound : xfB K C_Unbound = true)
    (xn_Unbound_name : PySem.W.findIn K (.ref C_Unbound) "name" = some none)
    (a_iUnbound : PySem.W.findIn K (.ref C_Unbound) "__init__" = some (some (.ref f_iUnbound)))
    (t_iUnbound : PySem.W.typeIn K (.ref f_iUnbound) = some (.type "function"))
    (l_iUnbound : K.lookup f_iUnbound = some ⟨oc_iUnbound, od_iUnbound, .func (PySem.W.fnOf "__init__" "Unbound.__init__" (defArgs s_Unbound___init__) (defBody s_Unbound___init__) (defScope s_Unbound___init__) .none kV_iUnbound dc_iUnbound pm_iUnbound an_iUnbound cd_iUnbound ct_iUnbound), sl_iUnbound⟩)
    (hc_iUnbound : PySem.W.codeIn K cd_iUnbound "Unbound.__init__" = true)
    (k_iUnbound : PySem.W.keepIn K (.ref f_iUnbound) = true)
    (e_BadFunction_BadFunction : PySem.W.exmOne K (.ref C_BadFunction) (.ref C_BadFunction) = some true)
    (e_BadFunction_Twice : PySem.W.exmOne K (.ref C_BadFunction) (.ref C_Twice) = some false)
    (e_BadFunction_TooLarge : PySem.W.exmOne K (.ref C_BadFunction) (.ref C_TooLarge) = some false)
    (e_BadFunction_Unknown : PySem.W.exmOne K (.ref C_BadFunction) (.ref C_Unknown) = some false)
    (e_BadFunction_Arity : PySem.W.exmOne K (.ref C_BadFunction) (.ref C_Arity) = some false)
    (e_BadFunction_Unbound : PySem.W.exmOne K (.ref C_BadFunction) (.ref C_Unbound) = some false)
    (e_Twice_BadFunction : PySem.W.exmOne K (.ref C_Twice) (.ref C_BadFunction) = some false)
    (e_Twice_Twice : PySem.W.exmOne K (.ref C_Twice) (.ref C_Twice) = some true)
    (e_Twice_TooLarge : PySem.W.exmOne K (.ref C_Twice) (.ref C_TooLarge) = some false)
    (e_Twice_Unknown : PySem.W.exmOne K (.ref C_Twice) (.ref C_Unknown) = some false)
    (e_Twice_Arity : PySem.W.exmOne K (.ref C_Twice) (.ref C_Arity) = some false)
    (e_Twice_Unbound : PySem.W.exmOne K (.ref C_Twice) (.ref C_Unbound) = some false)
    (e_TooLarge_BadFunction : PySem.W.exmOne K (.ref C_TooLarge) (.ref C_BadFunction) = some false)
    (e_TooLarge_Twice : PySem.W.exmOne K (.ref C_TooLarge) (.ref C_Twice) = some false)
    (e_TooLarge_TooLarge : PySem.W.exmOne K (.ref C_TooLarge) (.ref C_TooLarge) = some true)
    (e_TooLarge_Unknown : PySem.W.exmOne K (.ref C_TooLarge) (.ref C_Unknown) = some false)
    (e_TooLarge_Arity : PySem.W.exmOne K (.ref C_TooLarge) (.ref C_Arity) = some false)
    (e_TooLarge_Unbound : PySem.W.exmOne K (.ref C_TooLarge) (.ref C_Unbound) = some false)
    (e_Unknown_BadFunction : PySem.W.exmOne K (.ref C_Unknown) (.ref C_BadFunction) = some false)
    (e_Unknown_Twice : PySem.W.exmOne K (.ref C_Unknown) (.ref C_Twice) = some false)
    (e_Unknown_TooLarge : PySem.W.exmOne K (.ref C_Unknown) (.ref C_TooLarge) = some false)
    (e_Unknown_Unknown : PySem.W.exmOne K (.ref C_Unknown) (.ref C_Unknown) = some true)
    (e_Unknown_Arity : PySem.W.exmOne K (.ref C_Unknown) (.ref C_Arity) = some false)
    (e_Unknown_Unbound : PySem.W.exmOne K (.ref C_Unknown) (.ref C_Unbound) = some false)
    (e_Arity_BadFunction : PySem.W.exmOne K (.ref C_Arity) (.ref C_BadFunction) = some false)
    (e_Arity_Twice : PySem.W.exmOne K (.ref C_Arity) (.ref C_Twice) = some false)
    (e_Arity_TooLarge : PySem.W.exmOne K (.ref C_Arity) (.ref C_TooLarge) = some false)
    (e_Arity_Unknown : PySem.W.exmOne K (.ref C_Arity) (.ref C_Unknown) = some false)
    (e_Arity_Arity : PySem.W.exmOne K (.ref C_Arity) (.ref C_Arity) = some true)
    (e_Arity_Unbound : PySem.W.exmOne K (.ref C_Arity) (.ref C_Unbound) = some false)
    (e_Unbound_BadFunction : PySem.W.exmOne K (.ref C_Unbound) (.ref C_BadFunction) = some false)
    (e_Unbound_Twice : PySem.W.exmOne K (.ref C_Unbound) (.ref C_Twice) = some false)
    (e_Unbound_TooLarge : PySem.W.exmOne K (.ref C_Unbound) (.ref C_TooLarge) = some false)
    (e_Unbound_Unknown : PySem.W.exmOne K (.ref C_Unbound) (.ref C_Unknown) = some false)
    (e_Unbound_Arity : PySem.W.exmOne K (.ref C_Unbound) (.ref C_Arity) = some false)
    (e_Unbound_Unbound : PySem.W.exmOne K (.ref C_Unbound) (.ref C_Unbound) = some true)
    (eb_Unknown : excB K C_Unknown = true)
    (eb_Arity : excB K C_Arity = true)
    (eb_Unbound : excB K C_Unbound = true)
    (kt_Unknown_TablesError : PySem.W.kitOne K (.ref C_Unknown) (.ref C_TablesError) = some true)
    (kt_Arity_Unknown : PySem.W.kitOne K (.ref C_Arity) (.ref C_Unknown) = some (decide (C_Arity = C_Unknown)))
    (kt_Unbound_ValueError : PySem.W.kitOne K (.ref C_Unbound) (.type "ValueError") = some true)
    (aC_Program : PySem.W.nsIn K mainGlobals "Program" = some (some (.ref C_Program)))
    (pg_Program : PySem.W.plainGet K C_Program Str.empty = true)
    (hd_Program : PySem.W.hasDictIn K C_Program = true)
    (po_Program : PySem.W.plainOver K C_Program = true)
    (sa_Program : PySem.W.findIn K (.ref C_Program) "__setattr__" = some (some (.builtin "object.__setattr__")))
    (mk_Program : PySem.W.makesIn K C_Program = true)
    (kc_Program : PySem.W.keepIn K (.ref C_Program) = true)
    (no_Program_functions : PySem.W.findIn K (.ref C_Program) "functions" = some none)
    (no_Program_names : PySem.W.findIn K (.ref C_Program) "names" = some none)
    (rd_Program : PySem.W.readsIn K C_Program (.type "type") = true)
    (ga_Program : PySem.W.specialIn K (.ref C_Program) "__getattribute__" = some (some (.builtin "type.__getattribute__")))
    (cv_Program_MOST_NODES : PySem.W.findCls K (.ref C_Program) (.type "type") "MOST_NODES" = some (.val u_Program_MOST_NODES))
    (rv_Program_MOST_NODES : RelV (.int 2000) u_Program_MOST_NODES)
    (cv_Program_MOST_DEPTH : PySem.W.findCls K (.ref C_Program) (.type "type") "MOST_DEPTH" = some (.val u_Program_MOST_DEPTH))
    (rv_Program_MOST_DEPTH : RelV (.int 100) u_Program_MOST_DEPTH)
    (a_is_integer : PySem.W.nsIn K mainGlobals "is_integer" = some (some (.ref f_is_integer)))
    (l_is_integer : K.lookup f_is_integer = some ⟨oc_is_integer, od_is_integer, .func (PySem.W.fnOf "is_integer" "is_integer" (defArgs s_is_integer) (defBody s_is_integer) (defScope s_is_integer) .none kV_is_integer dc_is_integer pm_is_integer an_is_integer cd_is_integer ct_is_integer), sl_is_integer⟩)
    (hc_is_integer : PySem.W.codeIn K cd_is_integer "is_integer" = true)
    (k_is_integer : PySem.W.keepIn K (.ref f_is_integer) = true)
    (a_is_name : PySem.W.nsIn K mainGlobals "is_name" = some (some (.ref f_is_name)))
    (l_is_name : K.lookup f_is_name = some ⟨oc_is_name, od_is_name, .func (PySem.W.fnOf "is_name" "is_name" (defArgs s_is_name) (defBody s_is_name) (defScope s_is_name) .none kV_is_name dc_is_name pm_is_name an_is_name cd_is_name ct_is_name), sl_is_name⟩)
    (hc_is_name : PySem.W.codeIn K cd_is_name "is_name" = true)
    (k_is_name : PySem.W.keepIn K (.ref f_is_name) = true)
    (a_is_atom : PySem.W.nsIn K mainGlobals "is_atom" = some (some (.ref f_is_atom)))
    (l_is_atom : K.lookup f_is_atom = some ⟨oc_is_atom, od_is_atom, .func (PySem.W.fnOf "is_atom" "is_atom" (defArgs s_is_atom) (defBody s_is_atom) (defScope s_is_atom) .none kV_is_atom dc_is_atom pm_is_atom an_is_atom cd_is_atom ct_is_atom), sl_is_atom⟩)
    (hc_is_atom : PySem.W.codeIn K cd_is_atom "is_atom" = true)
    (k_is_atom : PySem.W.keepIn K (.ref f_is_atom) = true)
    (a_are_atoms : PySem.W.nsIn K mainGlobals "are_atoms" = some (some (.ref f_are_atoms)))
    (l_are_atoms : K.lookup f_are_atoms = some ⟨oc_are_atoms, od_are_atoms, .func (PySem.W.fnOf "are_atoms" "are_atoms" (defArgs s_are_atoms) (defBody s_are_atoms) (defScope s_are_atoms) (.ref t_are_atoms) kV_are_atoms dc_are_atoms pm_are_atoms an_are_atoms cd_are_atoms ct_are_atoms), sl_are_atoms⟩)
    (hc_are_atoms : PySem.W.codeIn K cd_are_atoms "are_atoms" = true)
    (k_are_atoms : PySem.W.keepIn K (.ref f_are_atoms) = true)
    (lt_are_atoms : K.lookup t_are_atoms = some ⟨oC_are_atoms, oe_are_atoms, .seq #[.int 4 tk_are_atoms] nn_are_atoms, os_are_atoms⟩)
    (a_first_twice : PySem.W.nsIn K mainGlobals "first_twice" = some (some (.ref f_first_twice)))
    (l_first_twice : K.lookup f_first_twice = some ⟨oc_first_twice, od_first_twice, .func (PySem.W.fnOf "first_twice" "first_twice" (defArgs s_first_twice) (defBody s_first_twice) (defScope s_first_twice) .none kV_first_twice dc_first_twice pm_first_twice an_first_twice cd_first_twice ct_first_twice), sl_first_twice⟩)
    (hc_first_twice : PySem.W.codeIn K cd_first_twice "first_twice" = true)
    (k_first_twice : PySem.W.keepIn K (.ref f_first_twice) = true)
    (a_expressions_in : PySem.W.nsIn K mainGlobals "expressions_in" = some (some (.ref f_expressions_in)))
    (l_expressions_in : K.lookup f_expressions_in = some ⟨oc_expressions_in, od_expressions_in, .func (PySem.W.fnOf "expressions_in" "expressions_in" (defArgs s_expressions_in) (defBody s_expressions_in) (defScope s_expressions_in) .none kV_expressions_in dc_expressions_in pm_expressions_in an_expressions_in cd_expressions_in ct_expressions_in), sl_expressions_in⟩)
    (hc_expressions_in : PySem.W.codeIn K cd_expressions_in "expressions_in" = true)
    (k_expressions_in : PySem.W.keepIn K (.ref f_expressions_in) = true)
    (a_measured : PySem.W.nsIn K mainGlobals "measured" = some (some (.ref f_measured)))
    (l_measured : K.lookup f_measured = some ⟨oc_measured, od_measured, .func (PySem.W.fnOf "measured" "measured" (defArgs s_measured) (defBody s_measured) (defScope s_measured) .none kV_measured dc_measured pm_measured an_measured cd_measured ct_measured), sl_measured⟩)
    (hc_measured : PySem.W.codeIn K cd_measured "measured" = true)
    (k_measured : PySem.W.keepIn K (.ref f_measured) = true)
    (a_is_function : PySem.W.nsIn K mainGlobals "is_function" = some (some (.ref f_is_function)))
    (l_is_function : K.lookup f_is_function = some ⟨oc_is_function, od_is_function, .func (PySem.W.fnOf "is_function" "is_function" (defArgs s_is_function) (defBody s_is_function) (defScope s_is_function) .none kV_is_function dc_is_function pm_is_function an_is_function cd_is_function ct_is_function), sl_is_function⟩)
    (hc_is_function : PySem.W.codeIn K cd_is_function "is_function" = true)
    (k_is_function : PySem.W.keepIn K (.ref f_is_function) = true)
    (a_atoms_of : PySem.W.nsIn K mainGlobals "atoms_of" = some (some (.ref f_atoms_of)))
    (l_atoms_of : K.lookup f_atoms_of = some ⟨oc_atoms_of, od_atoms_of, .func (PySem.W.fnOf "atoms_of" "atoms_of" (defArgs s_atoms_of) (defBody s_atoms_of) (defScope s_atoms_of) .none kV_atoms_of dc_atoms_of pm_atoms_of an_atoms_of cd_atoms_of ct_atoms_of), sl_atoms_of⟩)
    (hc_atoms_of : PySem.W.codeIn K cd_atoms_of "atoms_of" = true)
    (k_atoms_of : PySem.W.keepIn K (.ref f_atoms_of) = true)
    (a_level_of : PySem.W.nsIn K mainGlobals "level_of" = some (some (.ref f_level_of)))
    (l_level_of : K.lookup f_level_of = some ⟨oc_level_of, od_level_of, .func (PySem.W.fnOf "level_of" "level_of" (defArgs s_level_of) (defBody s_level_of) (defScope s_level_of) .none kV_level_of dc_level_of pm_level_of an_level_of cd_level_of ct_level_of), sl_level_of⟩)
    (hc_level_of : PySem.W.codeIn K cd_level_of "level_of" = true)
    (k_level_of : PySem.W.keepIn K (.ref f_level_of) = true)
    (a_parts_in_scope : PySem.W.nsIn K mainGlobals "parts_in_scope" = some (some (.ref f_parts_in_scope)))
    (l_parts_in_scope : K.lookup f_parts_in_scope = some ⟨oc_parts_in_scope, od_parts_in_scope, .func (PySem.W.fnOf "parts_in_scope" "parts_in_scope" (defArgs s_parts_in_scope) (defBody s_parts_in_scope) (defScope s_parts_in_scope) .none kV_parts_in_scope dc_parts_in_scope pm_parts_in_scope an_parts_in_scope cd_parts_in_scope ct_parts_in_scope), sl_parts_in_scope⟩)
    (hc_parts_in_scope : PySem.W.codeIn K cd_parts_in_scope "parts_in_scope" = true)
    (k_parts_in_scope : PySem.W.keepIn K (.ref f_parts_in_scope) = true)
    (a_look_body : PySem.W.nsIn K mainGlobals "look_body" = some (some (.ref f_look_body)))
    (l_look_body : K.lookup f_look_body = some ⟨oc_look_body, od_look_body, .func (PySem.W.fnOf "look_body" "look_body" (defArgs s_look_body) (defBody s_look_body) (defScope s_look_body) .none kV_look_body dc_look_body pm_look_body an_look_body cd_look_body ct_look_body), sl_look_body⟩)
    (hc_look_body : PySem.W.codeIn K cd_look_body "look_body" = true)
    (k_look_body : PySem.W.keepIn K (.ref f_look_body) = true)
    (a_Program___init__ : PySem.W.findIn K (.ref C_Program) "__init__" = some (some (.ref f_Program___init__)))
    (l_Program___init__ : K.lookup f_Program___init__ = some ⟨oc_Program___init__, od_Program___init__, .func (PySem.W.fnOf "__init__" "Program.__init__" (defArgs s_Program___init__) (defBody s_Program___init__) (defScope s_Program___init__) .none kV_Program___init__ dc_Program___init__ pm_Program___init__ an_Program___init__ (.ref 230) ct_Program___init__), sl_Program___init__⟩)
    (hc_Program___init__ : PySem.W.codeIn K (.ref 230) "Program.__init__" = true)
    (i_Program___init__ : PySem.W.isFn K (.ref f_Program___init__) = true)
    (a_Program___len__ : PySem.W.findIn K (.ref C_Program) "__len__" = some (some (.ref f_Program___len__)))
    (l_Program___len__ : K.lookup f_Program___len__ = some ⟨oc_Program___len__, od_Program___len__, .func (PySem.W.fnOf "__len__" "Program.__len__" (defArgs s_Program___len__) (defBody s_Program___len__) (defScope s_Program___len__) .none kV_Program___len__ dc_Program___len__ pm_Program___len__ an_Program___len__ cd_Program___len__ ct_Program___len__), sl_Program___len__⟩)
    (hc_Program___len__ : PySem.W.codeIn K cd_Program___len__ "Program.__len__" = true)
    (k_Program___len__ : PySem.W.keepIn K (.ref f_Program___len__) = true)
    (i_Program___len__ : PySem.W.isFn K (.ref f_Program___len__) = true)
    (n_Program___len__ : PySem.W.fnIn K f_Program___len__ = true)
    (a_bag : PySem.W.nsIn K mainGlobals "_law_bag" = some (some (.ref f_bag)))
    (l_bag : K.lookup f_bag = some ⟨oc_bag, od_bag, .func (PySem.W.fnOf "_law_bag" "_law_bag" (defArgs s_bag) (defBody s_bag) (defScope s_bag) .none kV_bag dc_bag pm_bag an_bag cd_bag ct_bag), sl_bag⟩)
    (hc_bag : PySem.W.codeIn K cd_bag "_law_bag" = true)
    (k_bag : PySem.W.keepIn K (.ref f_bag) = true)
    (a_take : PySem.W.nsIn K mainGlobals "_law_take" = some (some (.ref f_take)))
    (l_take : K.lookup f_take = some ⟨oc_take, od_take, .func (PySem.W.fnOf "_law_take" "_law_take" (defArgs s_take) (defBody s_take) (defScope s_take) .none kV_take dc_take pm_take an_take cd_take ct_take), sl_take⟩)
    (hc_take : PySem.W.codeIn K cd_take "_law_take" = true)
    (k_take : PySem.W.keepIn K (.ref f_take) = true)
    (a_number : PySem.W.nsIn K mainGlobals "_law_number" = some (some (.ref f_number)))
    (l_number : K.lookup f_number = some ⟨oc_number, od_number, .func (PySem.W.fnOf "_law_number" "_law_number" (defArgs s_number) (defBody s_number) (defScope s_number) .none kV_number dc_number pm_number an_number cd_number ct_number), sl_number⟩)
    (hc_number : PySem.W.codeIn K cd_number "_law_number" = true)
    (k_number : PySem.W.keepIn K (.ref f_number) = true)
    (a_names : PySem.W.nsIn K mainGlobals "_law_names" = some (some (.ref f_names)))
    (l_names : K.lookup f_names = some ⟨oc_names, od_names, .func (PySem.W.fnOf "_law_names" "_law_names" (defArgs s_names) (defBody s_names) (defScope s_names) .none kV_names dc_names pm_names an_names cd_names ct_names), sl_names⟩)
    (hc_names : PySem.W.codeIn K cd_names "_law_names" = true)
    (k_names : PySem.W.keepIn K (.ref f_names) = true)
    (a_atom : PySem.W.nsIn K mainGlobals "_law_atom" = some (some (.ref f_atom)))
    (l_atom : K.lookup f_atom = some ⟨oc_atom, od_atom, .func (PySem.W.fnOf "_law_atom" "_law_atom" (defArgs s_atom) (defBody s_atom) (defScope s_atom) .none kV_atom dc_atom pm_atom an_atom cd_atom ct_atom), sl_atom⟩)
    (hc_atom : PySem.W.codeIn K cd_atom "_law_atom" = true)
    (k_atom : PySem.W.keepIn K (.ref f_atom) = true)
    (a_atoms : PySem.W.nsIn K mainGlobals "_law_atoms" = some (some (.ref f_atoms)))
    (l_atoms : K.lookup f_atoms = some ⟨oc_atoms, od_atoms, .func (PySem.W.fnOf "_law_atoms" "_law_atoms" (defArgs s_atoms) (defBody s_atoms) (defScope s_atoms) .none kV_atoms dc_atoms pm_atoms an_atoms cd_atoms ct_atoms), sl_atoms⟩)
    (hc_atoms : PySem.W.codeIn K cd_atoms "_law_atoms" = true)
    (k_atoms : PySem.W.keepIn K (.ref f_atoms) = true)
    (a_leaf : PySem.W.nsIn K mainGlobals "_law_leaf" = some (some (.ref f_leaf)))
    (l_leaf : K.lookup f_leaf = some ⟨oc_leaf, od_leaf, .func (PySem.W.fnOf "_law_leaf" "_law_leaf" (defArgs s_leaf) (defBody s_leaf) (defScope s_leaf) .none kV_leaf dc_leaf pm_leaf an_leaf cd_leaf ct_leaf), sl_leaf⟩)
    (hc_leaf : PySem.W.codeIn K cd_leaf "_law_leaf" = true)
    (k_leaf : PySem.W.keepIn K (.ref f_leaf) = true)
    (a_expression : PySem.W.nsIn K mainGlobals "_law_expression" = some (some (.ref f_expression)))
    (l_expression : K.lookup f_expression = some ⟨oc_expression, od_expression, .func (PySem.W.fnOf "_law_expression" "_law_expression" (defArgs s_expression) (defBody s_expression) (defScope s_expression) .none kV_expression dc_expression pm_expression an_expression cd_expression ct_expression), sl_expression⟩)
    (hc_expression : PySem.W.codeIn K cd_expression "_law_expression" = true)
    (k_expression : PySem.W.keepIn K (.ref f_expression) = true)
    (a_functions : PySem.W.nsIn K mainGlobals "_law_functions" = some (some (.ref f_functions)))
    (l_functions : K.lookup f_functions = some ⟨oc_functions, od_functions, .func (PySem.W.fnOf "_law_functions" "_law_functions" (defArgs s_functions) (defBody s_functions) (defScope s_functions) .none kV_functions dc_functions pm_functions an_functions cd_functions ct_functions), sl_functions⟩)
    (hc_functions : PySem.W.codeIn K cd_functions "_law_functions" = true)
    (k_functions : PySem.W.keepIn K (.ref f_functions) = true)
    (a_told : PySem.W.nsIn K mainGlobals "_law_told" = some (some (.ref f_told)))
    (l_told : K.lookup f_told = some ⟨oc_told, od_told, .func (PySem.W.fnOf "_law_told" "_law_told" (defArgs s_told) (defBody s_told) (defScope s_told) .none kV_told dc_told pm_told an_told cd_told ct_told), sl_told⟩)
    (hc_told : PySem.W.codeIn K cd_told "_law_told" = true)
    (k_told : PySem.W.keepIn K (.ref f_told) = true)
    (a_first : PySem.W.nsIn K mainGlobals "_law_first" = some (some (.ref f_first)))
    (l_first : K.lookup f_first = some ⟨oc_first, od_first, .func (PySem.W.fnOf "_law_first" "_law_first" (defArgs s_first) (defBody s_first) (defScope s_first) .none kV_first dc_first pm_first an_first cd_first ct_first), sl_first⟩)
    (hc_first : PySem.W.codeIn K cd_first "_law_first" = true)
    (k_first : PySem.W.keepIn K (.ref f_first) = true)
    (a_spoilt : PySem.W.nsIn K mainGlobals "_law_spoilt" = some (some (.ref f_spoilt)))
    (l_spoilt : K.lookup f_spoilt = some ⟨oc_spoilt, od_spoilt, .func (PySem.W.fnOf "_law_spoilt" "_law_spoilt" (defArgs s_spoilt) (defBody s_spoilt) (defScope s_spoilt) .none kV_spoilt dc_spoilt pm_spoilt an_spoilt cd_spoilt ct_spoilt), sl_spoilt⟩)
    (hc_spoilt : PySem.W.codeIn K cd_spoilt "_law_spoilt" = true)
    (k_spoilt : PySem.W.keepIn K (.ref f_spoilt) = true)
    (a_law : PySem.W.nsIn K mainGlobals "law" = some (some (.ref f_law)))
    (l_law : K.lookup f_law = some ⟨oc_law, od_law, .func (PySem.W.fnOf "law" "law" (defArgs s_law) (defBody s_law) (defScope s_law) .none kV_law dc_law pm_law an_law (.ref 358) ct_law), sl_law⟩)
    (hc_law : PySem.W.codeIn K (.ref 358) "law" = true)
    (k_law : PySem.W.keepIn K (.ref f_law) = true)
    (gv_MOST_LETTERS : PySem.W.nsIn K mainGlobals "MOST_LETTERS" = some (some (.int 8 gt_MOST_LETTERS)))
    (gv_MOST_ARGS : PySem.W.nsIn K mainGlobals "MOST_ARGS" = some (some (.int 4 gt_MOST_ARGS)))
    (gv_MOST_CONSTANT : PySem.W.nsIn K mainGlobals "MOST_CONSTANT" = some (some (.int 1000000000000000000000000000000 gt_MOST_CONSTANT)))
    (gv_LETTERS : PySem.W.nsIn K mainGlobals "LETTERS" = some (some (.str "abcdefghijklmnopqrstuvwxyz" gt_LETTERS)))
    (z_len : PySem.W.nsIn K mainGlobals "len" = some none)
    (z_int : PySem.W.nsIn K mainGlobals "int" = some none)
    (z_abs : PySem.W.nsIn K mainGlobals "abs" = some none)
    (z_bool : PySem.W.nsIn K mainGlobals "bool" = some none)
    (z_str : PySem.W.nsIn K mainGlobals "str" = some none)
    (z_enumerate : PySem.W.nsIn K mainGlobals "enumerate" = some none)
    (z_list : PySem.W.nsIn K mainGlobals "list" = some none)
    (z_tuple : PySem.W.nsIn K mainGlobals "tuple" = some none)
    (z_range : PySem.W.nsIn K mainGlobals "range" = some none)
    (z_min : PySem.W.nsIn K mainGlobals "min" = some none)
    (z_max : PySem.W.nsIn K mainGlobals "max" = some none)
    (z_all : PySem.W.nsIn K mainGlobals "all" = some none)
    (z_sum : PySem.W.nsIn K mainGlobals "sum" = some none)
    (z_set : PySem.W.nsIn K mainGlobals "set" = some none)
    (z_sorted : PySem.W.nsIn K mainGlobals "sorted" = some none)
    (z_isinstance : PySem.W.nsIn K mainGlobals "isinstance" = some none)
    (z_repr : PySem.W.nsIn K mainGlobals "repr" = some none)
    (z_dict : PySem.W.nsIn K mainGlobals "dict" = some none)
    (z_ValueError : PySem.W.nsIn K mainGlobals "ValueError" = some none)
    (hmT : (PP, (("Program.__init__" : Str) ++ ".<locals>.") ++ "<lambda>") ∈ TB.T) (huT : ∀ p ∈ TB.T, p.1 = PP → p.2 = (("Program.__init__" : Str) ++ ".<locals>.") ++ "<lambda>")
    (hmT2 : (PP2, (("law" : Str) ++ ".<locals>.") ++ "<lambda>") ∈ TB.T) (huT2 : ∀ p ∈ TB.T, p.1 = PP2 → p.2 = (("law" : Str) ++ ".<locals>.") ++ "<lambda>") :
    ∀ base : Heap, K.In base → base.Ns mainGlobals mg → (∀ p ∈ [((230 : Addr), PP), ((358 : Addr), PP2)], LamX.TabB base mg p.1 p.2) → FnG P w K mg base (L2.CX P w) 47 fa (spF K 1 (F_law ⟨C_BadFunction, C_Twice, C_TooLarge, C_Unknown, C_Arity, C_Unbound, C_Program, C_TablesError, f_expressions_in⟩)) := by
  have TO_BadFunction : OexC K C_BadFunction := ⟨⟨_, _, _, _, _, _, _, _, _, _, _, _, _, _, _, xL_BadFunction, (show PySem.HandSPX.refsVE [.type "ValueError", .type "Exception", .type "BaseException", .type "object"] = true by decide +kernel)⟩, sa_BadFunction, ec_BadFunction, tc_BadFunction, kc_BadFunction⟩
  have FU_BadFunction := fun_mk (st := s_BadFunction___init__) l_iBadFunction hc_iBadFunction k_iBadFunction
  have TO_Twice : OexC K C_Twice := ⟨⟨_, _, _, _, _, _, _, _, _, _, _, _, _, _, _, xL_Twice, (show PySem.HandSPX.refsVE [.type "ValueError", .type "Exception", .type "BaseException", .type "object"] = true by decide +kernel)⟩, sa_Twice, ec_Twice, tc_Twice, kc_Twice⟩
  have FU_Twice := fun_mk (st := s_Twice___init__) l_iTwice hc_iTwice k_iTwice
  have TO_TooLarge : OexC K C_TooLarge := ⟨⟨_, _, _, _, _, _, _, _, _, _, _, _, _, _, _, xL_TooLarge, (show PySem.HandSPX.refsVE [.type "ValueError", .type "Exception", .type "BaseException", .type "object"] = true by decide +kernel)⟩, sa_TooLarge, ec_TooLarge, tc_TooLarge, kc_TooLarge⟩
  have FU_TooLarge := fun_mk (st := s_TooLarge___init__) l_iTooLarge hc_iTooLarge k_iTooLarge
  have TO_Unknown : OexC K C_Unknown := ⟨⟨_, _, _, _, _, _, _, _, _, _, _, _, _, _, _, xL_Unknown, (show PySem.HandSPX.refsVE [.type "ValueError", .type "Exception", .type "BaseException", .type "object"] = true by decide +kernel)⟩, sa_Unknown, ec_Unknown, tc_Unknown, kc_Unknown⟩
  have FU_Unknown := fun_mk (st := s_Unknown___init__) l_iUnknown hc_iUnknown k_iUnknown
  have TO_Arity : OexC K C_Arity := ⟨⟨_, _, _, _, _, _, _, _, _, _, _, _, _, _, _, xL_Arity, (show PySem.HandSPX.refsVE [.type "ValueError", .type "Exception", .type "BaseException", .type "object"] = true by decide +kernel)⟩, sa_Arity, ec_Arity, tc_Arity, kc_Arity⟩
  have FU_Arity := fun_mk (st := s_Arity___init__) l_iArity hc_iArity k_iArity
  have TO_Unbound : OexC K C_Unbound := ⟨⟨_, _, _, _, _, _, _, _, _, _, _, _, _, _, _, xL_Unbound, (show PySem.HandSPX.refsVE [.type "ValueError", .type "Exception", .type "BaseException", .type "object"] = true by decide +kernel)⟩, sa_Unbound, ec_Unbound, tc_Unbound, kc_Unbound⟩
  have FU_Unbound := fun_mk (st := s_Unbound___init__) l_iUnbound hc_iUnbound k_iUnbound
  have cl_Program : Cls K C_Program := ⟨pg_Program, hd_Program, po_Program, sa_Program⟩
  have mgC_Program := PySem.W.mg_of X G aC_Program
  have D_is_integer : Def K mg "is_integer" s_is_integer ["thing"] := ⟨f_is_integer, _, fun_mk (st := s_is_integer) l_is_integer hc_is_integer k_is_integer, PySem.W.mg_of X G a_is_integer, (fun_mk (st := s_is_integer) l_is_integer hc_is_integer k_is_integer).binds fun _ _ _ _ _ _ us hl => match us, hl with | [_], _ => rfl⟩
  have D_is_name : Def K mg "is_name" s_is_name ["thing"] := ⟨f_is_name, _, fun_mk (st := s_is_name) l_is_name hc_is_name k_is_name, PySem.W.mg_of X G a_is_name, (fun_mk (st := s_is_name) l_is_name hc_is_name k_is_name).binds fun _ _ _ _ _ _ us hl => match us, hl with | [_], _ => rfl⟩
  have D_is_atom : Def K mg "is_atom" s_is_atom ["thing", "place"] := ⟨f_is_atom, _, fun_mk (st := s_is_atom) l_is_atom hc_is_atom k_is_atom, PySem.W.mg_of X G a_is_atom, (fun_mk (st := s_is_atom) l_is_atom hc_is_atom k_is_atom).binds fun _ _ _ _ _ _ us hl => match us, hl with | [_, _], _ => rfl⟩
  have FD_are_atoms : FunD K "are_atoms" "are_atoms" (defArgs s_are_atoms) (defBody s_are_atoms) (defScope s_are_atoms) [V.int 4] [] f_are_atoms _ := ⟨⟨_, _, _, _, _, _, _, _, _, _, rfl, l_are_atoms, hc_are_atoms, .inr ⟨by simp, t_are_atoms, _, [.int 4 tk_are_atoms], _, rfl, lt_are_atoms, rfl, .cons ⟨_, rfl⟩ .nil⟩, .inl rfl⟩, k_are_atoms⟩
  have D_are_atoms : DefD K mg "are_atoms" s_are_atoms ["things", "place", "most"] [V.int 4] := by
    obtain ⟨ds, h1, h2⟩ := FD_are_atoms.binds1 (ps := ["things", "place", "most"]) 2 0 (by simp) rfl (fun T kV doc pm an cdv ct us its hu hi => match us, its, hu, hi with | [_, _], [_], _, _ => ⟨_, rfl, rfl⟩)
    exact ⟨f_are_atoms, _, ds, FD_are_atoms, PySem.W.mg_of X G a_are_atoms, h1, h2⟩
  have D_first_twice : Def K mg "first_twice" s_first_twice ["names"] := ⟨f_first_twice, _, fun_mk (st := s_first_twice) l_first_twice hc_first_twice k_first_twice, PySem.W.mg_of X G a_first_twice, (fun_mk (st := s_first_twice) l_first_twice hc_first_twice k_first_twice).binds fun _ _ _ _ _ _ us hl => match us, hl with | [_], _ => rfl⟩
  have D_expressions_in : Def K mg "expressions_in" s_expressions_in ["thing"] := ⟨f_expressions_in, _, fun_mk (st := s_expressions_in) l_expressions_in hc_expressions_in k_expressions_in, PySem.W.mg_of X G a_expressions_in, (fun_mk (st := s_expressions_in) l_expressions_in hc_expressions_in k_expressions_in).binds fun _ _ _ _ _ _ us hl => match us, hl with | [_], _ => rfl⟩
  have D_measured : Def K mg "measured" s_measured ["body", "inside"] := ⟨f_measured, _, fun_mk (st := s_measured) l_measured hc_measured k_measured, PySem.W.mg_of X G a_measured, (fun_mk (st := s_measured) l_measured hc_measured k_measured).binds fun _ _ _ _ _ _ us hl => match us, hl with | [_, _], _ => rfl⟩
  have D_is_function : Def K mg "is_function" s_is_function ["thing"] := ⟨f_is_function, _, fun_mk (st := s_is_function) l_is_function hc_is_function k_is_function, PySem.W.mg_of X G a_is_function, (fun_mk (st := s_is_function) l_is_function hc_is_function k_is_function).binds fun _ _ _ _ _ _ us hl => match us, hl with | [_], _ => rfl⟩
  have D_atoms_of : Def K mg "atoms_of" s_atoms_of ["expression"] := ⟨f_atoms_of, _, fun_mk (st := s_atoms_of) l_atoms_of hc_atoms_of k_atoms_of, PySem.W.mg_of X G a_atoms_of, (fun_mk (st := s_atoms_of) l_atoms_of hc_atoms_of k_atoms_of).binds fun _ _ _ _ _ _ us hl => match us, hl with | [_], _ => rfl⟩
  have D_level_of : Def K mg "level_of" s_level_of ["name", "scope"] := ⟨f_level_of, _, fun_mk (st := s_level_of) l_level_of hc_level_of k_level_of, PySem.W.mg_of X G a_level_of, (fun_mk (st := s_level_of) l_level_of hc_level_of k_level_of).binds fun _ _ _ _ _ _ us hl => match us, hl with | [_, _], _ => rfl⟩
  have D_parts_in_scope : Def K mg "parts_in_scope" s_parts_in_scope ["expression", "scope"] := ⟨f_parts_in_scope, _, fun_mk (st := s_parts_in_scope) l_parts_in_scope hc_parts_in_scope k_parts_in_scope, PySem.W.mg_of X G a_parts_in_scope, (fun_mk (st := s_parts_in_scope) l_parts_in_scope hc_parts_in_scope k_parts_in_scope).binds fun _ _ _ _ _ _ us hl => match us, hl with | [_, _], _ => rfl⟩
  have D_look_body : Def K mg "look_body" s_look_body ["body", "params", "arities"] := ⟨f_look_body, _, fun_mk (st := s_look_body) l_look_body hc_look_body k_look_body, PySem.W.mg_of X G a_look_body, (fun_mk (st := s_look_body) l_look_body hc_look_body k_look_body).binds fun _ _ _ _ _ _ us hl => match us, hl with | [_, _, _], _ => rfl⟩
  have D_Program___init__ : MdefC K "__init__" "Program.__init__" s_Program___init__ ["self", "functions"] f_Program___init__ (.ref 230) := ⟨_, ⟨_, _, _, _, _, _, _, _, rfl, l_Program___init__, hc_Program___init__⟩, .all fun us hl => match us, hl with | [_, _], _ => rfl⟩
  have M_Program___init__ : Mk K C_Program f_Program___init__ := ⟨mk_Program, a_Program___init__, i_Program___init__, kc_Program⟩
  have D_Program___len__ : Mdef K "__len__" "Program.__len__" s_Program___len__ ["self"] f_Program___len__ := ⟨_, fun_mk (st := s_Program___len__) l_Program___len__ hc_Program___len__ k_Program___len__, (fun_mk (st := s_Program___len__) l_Program___len__ hc_Program___len__ k_Program___len__).binds fun _ _ _ _ _ _ us hl => match us, hl with | [_], _ => rfl⟩
  have D_bag : Def K mg "_law_bag" s_bag ["_law_script", "_law_at"] := ⟨f_bag, _, fun_mk (st := s_bag) l_bag hc_bag k_bag, PySem.W.mg_of X G a_bag, (fun_mk (st := s_bag) l_bag hc_bag k_bag).binds fun _ _ _ _ _ _ us hl => match us, hl with | [_, _], _ => rfl⟩
  have D_take : Def K mg "_law_take" s_take ["_law_bag_here", "_law_many"] := ⟨f_take, _, fun_mk (st := s_take) l_take hc_take k_take, PySem.W.mg_of X G a_take, (fun_mk (st := s_take) l_take hc_take k_take).binds fun _ _ _ _ _ _ us hl => match us, hl with | [_, _], _ => rfl⟩
  have D_number : Def K mg "_law_number" s_number ["_law_bag_here", "_law_limit"] := ⟨f_number, _, fun_mk (st := s_number) l_number hc_number k_number, PySem.W.mg_of X G a_number, (fun_mk (st := s_number) l_number hc_number k_number).binds fun _ _ _ _ _ _ us hl => match us, hl with | [_, _], _ => rfl⟩
  have D_names : Def K mg "_law_names" s_names ["_law_bag_here", "_law_many"] := ⟨f_names, _, fun_mk (st := s_names) l_names hc_names k_names, PySem.W.mg_of X G a_names, (fun_mk (st := s_names) l_names hc_names k_names).binds fun _ _ _ _ _ _ us hl => match us, hl with | [_, _], _ => rfl⟩
  have D_atom : Def K mg "_law_atom" s_atom ["_law_bag_here", "_law_scope"] := ⟨f_atom, _, fun_mk (st := s_atom) l_atom hc_atom k_atom, PySem.W.mg_of X G a_atom, (fun_mk (st := s_atom) l_atom hc_atom k_atom).binds fun _ _ _ _ _ _ us hl => match us, hl with | [_, _], _ => rfl⟩
  have D_atoms : Def K mg "_law_atoms" s_atoms ["_law_bag_here", "_law_scope", "_law_many"] := ⟨f_atoms, _, fun_mk (st := s_atoms) l_atoms hc_atoms k_atoms, PySem.W.mg_of X G a_atoms, (fun_mk (st := s_atoms) l_atoms hc_atoms k_atoms).binds fun _ _ _ _ _ _ us hl => match us, hl with | [_, _, _], _ => rfl⟩
  have D_leaf : Def K mg "_law_leaf" s_leaf ["_law_bag_here", "_law_scope", "_law_rows"] := ⟨f_leaf, _, fun_mk (st := s_leaf) l_leaf hc_leaf k_leaf, PySem.W.mg_of X G a_leaf, (fun_mk (st := s_leaf) l_leaf hc_leaf k_leaf).binds fun _ _ _ _ _ _ us hl => match us, hl with | [_, _, _], _ => rfl⟩
  have D_expression : Def K mg "_law_expression" s_expression ["_law_bag_here", "_law_scope", "_law_rows", "_law_room"] := ⟨f_expression, _, fun_mk (st := s_expression) l_expression hc_expression k_expression, PySem.W.mg_of X G a_expression, (fun_mk (st := s_expression) l_expression hc_expression k_expression).binds fun _ _ _ _ _ _ us hl => match us, hl with | [_, _, _, _], _ => rfl⟩
  have D_functions : Def K mg "_law_functions" s_functions ["_law_bag_here", "_law_limit", "_law_room"] := ⟨f_functions, _, fun_mk (st := s_functions) l_functions hc_functions k_functions, PySem.W.mg_of X G a_functions, (fun_mk (st := s_functions) l_functions hc_functions k_functions).binds fun _ _ _ _ _ _ us hl => match us, hl with | [_, _, _], _ => rfl⟩
  have D_told : Def K mg "_law_told" s_told ["_law_functions_here"] := ⟨f_told, _, fun_mk (st := s_told) l_told hc_told k_told, PySem.W.mg_of X G a_told, (fun_mk (st := s_told) l_told hc_told k_told).binds fun _ _ _ _ _ _ us hl => match us, hl with | [_], _ => rfl⟩
  have D_first : Def K mg "_law_first" s_first ["_law_here", "_law_scope", "_law_arities"] := ⟨f_first, _, fun_mk (st := s_first) l_first hc_first k_first, PySem.W.mg_of X G a_first, (fun_mk (st := s_first) l_first hc_first k_first).binds fun _ _ _ _ _ _ us hl => match us, hl with | [_, _, _], _ => rfl⟩
  have D_spoilt : Def K mg "_law_spoilt" s_spoilt ["_law_bag_here", "_law_functions_here"] := ⟨f_spoilt, _, fun_mk (st := s_spoilt) l_spoilt hc_spoilt k_spoilt, PySem.W.mg_of X G a_spoilt, (fun_mk (st := s_spoilt) l_spoilt hc_spoilt k_spoilt).binds fun _ _ _ _ _ _ us hl => match us, hl with | [_, _], _ => rfl⟩
  have D_law : DefC K mg "law" s_law ["_law_script"] (.ref 358) := ⟨f_law, _, ⟨_, _, _, _, _, _, _, _, rfl, l_law, hc_law⟩, PySem.W.mg_of X G a_law, .all fun us hl => match us, hl with | [_], _ => rfl, k_law⟩
  have T : Txt K mg := ⟨PySem.W.mg_none_of X G z_len, PySem.W.mg_none_of X G z_int, PySem.W.mg_none_of X G z_abs, PySem.W.mg_none_of X G z_bool, PySem.W.mg_none_of X G z_str, PySem.W.mg_none_of X G z_enumerate, PySem.W.mg_none_of X G z_list, PySem.W.mg_none_of X G z_tuple, PySem.W.mg_none_of X G z_range, PySem.W.mg_none_of X G z_min, PySem.W.mg_none_of X G z_max, PySem.W.mg_none_of X G z_all, PySem.W.mg_none_of X G z_sum, PySem.W.mg_none_of X G z_set, PySem.W.mg_none_of X G z_sorted, PySem.W.mg_none_of X G z_isinstance, PySem.W.mg_none_of X G z_repr, PySem.W.mg_none_of X G z_dict, PySem.W.mg_none_of X G z_ValueError, ⟨_, PySem.W.mg_of X G gv_MOST_LETTERS⟩, ⟨_, PySem.W.mg_of X G gv_MOST_ARGS⟩, ⟨_, PySem.W.mg_of X G gv_MOST_CONSTANT⟩, ⟨_, PySem.W.mg_of X G gv_LETTERS⟩⟩
  intro base KB GB TBs
  have LT := TBs _ List.mem_cons_self
  have LT2 := TBs _ (List.mem_cons_of_mem _ List.mem_cons_self)
  have X_BadFunction : Exc P w K mg base 1 "BadFunction" C_BadFunction 1 (spX1 C_BadFunction "at") := ⟨TO_BadFunction, PySem.W.mg_of X G aC_BadFunction, f_iBadFunction, _, ["self", "at"], a_iBadFunction, t_iBadFunction, x1_init TO_BadFunction xn_BadFunction_at FU_BadFunction sc_BadFunction___init__ rfl rfl rfl (by decide) (by decide) (fun _ => rfl), FU_BadFunction.binds fun _ _ _ _ _ _ us hl => match us, hl with | [_, _], _ => rfl⟩
  have X_Twice : Exc P w K mg base 1 "Twice" C_Twice 1 (spX1 C_Twice "name") := ⟨TO_Twice, PySem.W.mg_of X G aC_Twice, f_iTwice, _, ["self", "name"], a_iTwice, t_iTwice, x1_init TO_Twice xn_Twice_name FU_Twice sc_Twice___init__ rfl rfl rfl (by decide) (by decide) (fun _ => rfl), FU_Twice.binds fun _ _ _ _ _ _ us hl => match us, hl with | [_, _], _ => rfl⟩
  have X_TooLarge : Exc P w K mg base 1 "TooLarge" C_TooLarge 2 (spX2 C_TooLarge "nodes" "deepest") := ⟨TO_TooLarge, PySem.W.mg_of X G aC_TooLarge, f_iTooLarge, _, ["self", "nodes", "deepest"], a_iTooLarge, t_iTooLarge, x2_init TO_TooLarge xn_TooLarge_nodes xn_TooLarge_deepest FU_TooLarge sc_TooLarge___init__ rfl rfl rfl rfl (by decide) (by decide) (by decide) (by decide) (fun _ => rfl) (fun _ => rfl), FU_TooLarge.binds fun _ _ _ _ _ _ us hl => match us, hl with | [_, _, _], _ => rfl⟩
  have X_Unknown : Exc P w K mg base 1 "Unknown" C_Unknown 1 (spX1 C_Unknown "name") := ⟨TO_Unknown, PySem.W.mg_of X G aC_Unknown, f_iUnknown, _, ["self", "name"], a_iUnknown, t_iUnknown, x1_init TO_Unknown xn_Unknown_name FU_Unknown sc_Unknown___init__ rfl rfl rfl (by decide) (by decide) (fun _ => rfl), FU_Unknown.binds fun _ _ _ _ _ _ us hl => match us, hl with | [_, _], _ => rfl⟩
  have X_Arity : Exc P w K mg base 1 "Arity" C_Arity 2 (spX2 C_Arity "name" "given") := ⟨TO_Arity, PySem.W.mg_of X G aC_Arity, f_iArity, _, ["self", "name", "given"], a_iArity, t_iArity, x2_init TO_Arity xn_Arity_name xn_Arity_given FU_Arity sc_Arity___init__ rfl rfl rfl rfl (by decide) (by decide) (by decide) (by decide) (fun _ => rfl) (fun _ => rfl), FU_Arity.binds fun _ _ _ _ _ _ us hl => match us, hl with | [_, _, _], _ => rfl⟩
  have X_Unbound : Exc P w K mg base 1 "Unbound" C_Unbound 1 (spX1 C_Unbound "name") := ⟨TO_Unbound, PySem.W.mg_of X G aC_Unbound, f_iUnbound, _, ["self", "name"], a_iUnbound, t_iUnbound, x1_init TO_Unbound xn_Unbound_name FU_Unbound sc_Unbound___init__ rfl rfl rfl (by decide) (by decide) (fun _ => rfl), FU_Unbound.binds fun _ _ _ _ _ _ us hl => match us, hl with | [_, _], _ => rfl⟩
  let c : Ad := ⟨C_BadFunction, C_Twice, C_TooLarge, C_Unknown, C_Arity, C_Unbound, C_Program, C_TablesError, f_expressions_in⟩
  have XC : Fct P w K mg base c := ⟨X_BadFunction, PySem.W.mg_of X G aC_BadFunction, xfB_ok xf_BadFunction, xn_BadFunction_at, e_BadFunction_BadFunction, e_BadFunction_Twice, e_BadFunction_TooLarge, e_BadFunction_Unknown, e_BadFunction_Arity, e_BadFunction_Unbound, X_Twice, PySem.W.mg_of X G aC_Twice, xfB_ok xf_Twice, xn_Twice_name, e_Twice_BadFunction, e_Twice_Twice, e_Twice_TooLarge, e_Twice_Unknown, e_Twice_Arity, e_Twice_Unbound, X_TooLarge, PySem.W.mg_of X G aC_TooLarge, xfB_ok xf_TooLarge, xn_TooLarge_nodes, xn_TooLarge_deepest, e_TooLarge_BadFunction, e_TooLarge_Twice, e_TooLarge_TooLarge, e_TooLarge_Unknown, e_TooLarge_Arity, e_TooLarge_Unbound, X_Unknown, PySem.W.mg_of X G aC_Unknown, xfB_ok xf_Unknown, xn_Unknown_name, e_Unknown_BadFunction, e_Unknown_Twice, e_Unknown_TooLarge, e_Unknown_Unknown, e_Unknown_Arity, e_Unknown_Unbound, X_Arity, PySem.W.mg_of X G aC_Arity, xfB_ok xf_Arity, xn_Arity_name, xn_Arity_given, e_Arity_BadFunction, e_Arity_Twice, e_Arity_TooLarge, e_Arity_Unknown, e_Arity_Arity, e_Arity_Unbound, X_Unbound, PySem.W.mg_of X G aC_Unbound, xfB_ok xf_Unbound, xn_Unbound_name, e_Unbound_BadFunction, e_Unbound_Twice, e_Unbound_TooLarge, e_Unbound_Unknown, e_Unbound_Arity, e_Unbound_Unbound, PySem.W.mg_of X G aC_TablesError, mgC_Program, cl_Program, no_Program_functions, no_Program_names, ⟨rd_Program, ga_Program⟩, ⟨_, cv_Program_MOST_NODES, rv_Program_MOST_NODES⟩, ⟨_, cv_Program_MOST_DEPTH, rv_Program_MOST_DEPTH⟩, excB_ok eb_Unknown, excB_ok eb_Arity, excB_ok eb_Unbound, kt_Unknown_TablesError, kt_Arity_Unknown, kt_Unbound_ValueError, PySem.W.mg_of X G a_expressions_in⟩
  have cc_is_integer : Fn P w K mg base 1 "is_integer" 1 F_is_integer := TT.f_is_integer (k := 0) D_is_integer T
  have cc_is_name : Fn P w K mg base 1 "is_name" 1 F_is_name := TT.f_is_name (k := 0) D_is_name T
  have cc_is_atom : Fn P w K mg base 2 "is_atom" 2 F_is_atom := TT.f_is_atom (k := 1) D_is_atom T (cc_is_integer.mono (by decide)) (cc_is_name.mono (by decide))
  have cc_are_atoms : Fn P w K mg base 3 "are_atoms" 2 F_are_atoms := TT.f_are_atoms (k := 2) D_are_atoms T (cc_is_atom.mono (by decide))
  have cc_first_twice : Fn P w K mg base 1 "first_twice" 1 F_first_twice := TT.f_first_twice (k := 0) D_first_twice T
  have cc_expressions_in : Fn P w K mg base 4 "expressions_in" 1 F_expressions_in := TT.f_expressions_in (k := 3) D_expressions_in T (cc_is_name.mono (by decide)) (cc_are_atoms.mono (by decide)) (cc_is_atom.mono (by decide))
  have cc_measured : Fn P w K mg base 5 "measured" 2 (F_measured c) := TT.f_measured (k := 4) D_measured T (tbl_one (cc_expressions_in.mono (by decide)) XC.a_expressions_in)
  have cc_is_function : Fn P w K mg base 6 "is_function" 1 (F_is_function c) := TT.f_is_function (k := 5) D_is_function T XC (cc_measured.mono (by decide)) (cc_first_twice.mono (by decide)) (cc_is_name.mono (by decide))
  have cc_atoms_of : Fn P w K mg base 1 "atoms_of" 1 F_atoms_of := TT.f_atoms_of (k := 0) D_atoms_of T
  have cc_level_of : Fn P w K mg base 1 "level_of" 2 F_level_of := TT.f_level_of (k := 0) D_level_of T
  have cc_parts_in_scope : Fn P w K mg base 1 "parts_in_scope" 2 F_parts_in_scope := TT.f_parts_in_scope (k := 0) D_parts_in_scope T
  have cc_look_body : Fn P w K mg base 3 "look_body" 3 (F_look_body c) := TT.f_look_body (k := 2) D_look_body T XC (cc_parts_in_scope.mono (by decide)) (cc_atoms_of.mono (by decide)) (cc_level_of.mono (by decide)) (by decide)
  have cc_Program___init__ : FnG P w K mg base (L2.CX P w) 7 f_Program___init__ (spF K 2 (F_Program___init__ c)) := TT.f_Program___init__ (k := 6) D_Program___init__ T XC (cc_look_body.mono (by decide)) (cc_measured.mono (by decide)) (cc_first_twice.mono (by decide)) (cc_is_function.mono (by decide)) (by decide) LT hmT huT
  have M_Program : Mak' P w K mg base 7 "Program" C_Program 2 (F_Program___init__ c) := ⟨PySem.W.mg_of X G aC_Program, f_Program___init__, M_Program___init__, cc_Program___init__⟩
  have cc_Program___len__ : FnG P w K mg base (L2.CX P w) 1 f_Program___len__ (spF K 1 (F_Program___len__ c)) := TT.f_Program___len__ (k := 0) D_Program___len__ T XC
  have S_Program_len : Spc P w K mg base 1 C_Program "__len__" 1 (F_Program___len__ c) := ⟨f_Program___len__, a_Program___len__, i_Program___len__, n_Program___len__, cc_Program___len__⟩
  have cc_bag : Fn P w K mg base 1 "_law_bag" 2 F_bag := by unfold F_bag; exact TT.f_bag (k := 0) D_bag T
  have cc_take : Fn P w K mg base 1 "_law_take" 2 F_take := by unfold F_take; exact TT.f_take (k := 0) D_take T
  have cc_number : Fn P w K mg base 2 "_law_number" 2 F_number := by unfold F_number; exact TT.f_number (k := 1) D_number T (cc_take.mono (by decide))
  have cc_names : Fn P w K mg base 2 "_law_names" 2 F_names := by unfold F_names; exact TT.f_names (k := 1) D_names T (cc_take.mono (by decide))
  have cc_atom : Fn P w K mg base 3 "_law_atom" 2 F_atom := by unfold F_atom; exact TT.f_atom (k := 2) D_atom T (cc_number.mono (by decide)) (cc_take.mono (by decide))
  have cc_atoms : Fn P w K mg base 4 "_law_atoms" 3 F_atoms := by unfold F_atoms; exact TT.f_atoms (k := 3) D_atoms T (cc_atom.mono (by decide))
  have cc_leaf : Fn P w K mg base 5 "_law_leaf" 3 F_leaf := by unfold F_leaf; exact TT.f_leaf (k := 4) D_leaf T (cc_atoms.mono (by decide)) (cc_take.mono (by decide)) (cc_atom.mono (by decide))
  have cc_expression : Fn P w K mg base 45 "_law_expression" 4 F_expression := by unfold F_expression; exact fn_rec D_expression G_expression 5 (fun k F hk hF => by unfold G_expression; exact TT.f_expression (k := k) D_expression T (cc_atoms.mono (Nat.le_trans (by decide) hk)) (cc_take.mono (Nat.le_trans (by decide) hk)) hF (cc_leaf.mono (Nat.le_trans (by decide) hk))) 40
  have cc_functions : Fn P w K mg base 46 "_law_functions" 3 F_functions := by unfold F_functions; exact TT.f_functions (k := 45) D_functions T (cc_expression.mono (by decide)) (cc_take.mono (by decide)) (cc_names.mono (by decide))
  have cc_told : Fn P w K mg base 9 "_law_told" 1 (F_told c) := by unfold F_told; exact TT.f_told (k := 8) D_told T XC S_Program_len (by decide) M_Program (by decide)
  have cc_first : Fn P w K mg base 40 "_law_first" 3 F_first := by unfold F_first; exact fn_rec D_first G_first 0 (fun k F hk hF => by unfold G_first; exact TT.f_first (k := k) D_first T hF) 40
  have cc_spoilt : Fn P w K mg base 46 "_law_spoilt" 2 F_spoilt := by unfold F_spoilt; exact TT.f_spoilt (k := 45) D_spoilt T (cc_expression.mono (by decide)) (cc_take.mono (by decide))
  have cc_law : Fn P w K mg base 47 "law" 1 (F_law c) := TT.f_law (k := 46) D_law T (cc_told.mono (by decide)) (cc_first.mono (by decide)) (cc_spoilt.mono (by decide)) (cc_functions.mono (by decide)) (cc_bag.mono (by decide)) LT2 hmT2 huT2
  obtain ⟨fz, FZ, mz, _⟩ := cc_law.ex
  have ez := hfa.symm.trans mz
  cases ez
  exact FZ
end
end TT

namespace TT
open PySem L2
variable [TB]
/-! the bag -/
def Bag (b : List D) : Prop := ∃ x y : Int, b = [.int x, .int y] ∧ 0 ≤ x ∧ 0 ≤ y ∧ y < 2147483647
theorem take_a (x y m : Int) (hx : 0 < x) (hm : 0 < m) (hb : m.natAbs.log2 < 9000) : F_take [.ref 0, .d (.int m)] [.lst [.int x, .int y]] = .ok (.d (.int (x % m))) [.lst [.int (x / m), .int y]] := by
  simp [F_take, b_take, hx, hm, hb]
theorem log2_small (z : Int) (h0 : 0 ≤ z) (h1 : z < 2 ^ 300) : z.natAbs.log2 < 9000 := by
  have : z.natAbs < 2 ^ 9000 := by
    have h2 : z.natAbs < 2 ^ 300 := by omega
    exact Nat.lt_of_lt_of_le h2 (Nat.pow_le_pow_right (by decide) (by decide))
  rcases Nat.eq_zero_or_pos z.natAbs with h | h
  · rw [h]; decide
  · exact (Nat.log2_lt (by omega)).mpr this
theorem take_b (y m : Int) (hy : 0 ≤ y) (hy2 : y < 2147483647) (hm : 0 < m) : ∃ r y', F_take [.ref 0, .d (.int m)] [.lst [.int 0, .int y]] = .ok (.d (.int (r % m))) [.lst [.int 0, .int y']] ∧ 0 ≤ y' ∧ y' < 2147483647 := by
  refine ⟨((y * 69621 + 70001) % 2147483647 / 7 * 40014 % 2147483563 / 128), (y * 69621 + 70001) % 2147483647, ?_, by omega, by omega⟩
  have e7 : Nat.log2 7 < 9000 := by decide
  have e128 : Nat.log2 128 < 9000 := by decide
  simp [F_take, b_take, hm, e7, e128]
/-- some number below m, and the bag behind -/
theorem take_ok {b : List D} (h : Bag b) (m : Int) (hm : 0 < m) (hm2 : m < 2 ^ 300) : ∃ r b', F_take [.ref 0, .d (.int m)] [.lst b] = .ok (.d (.int r)) [.lst b'] ∧ 0 ≤ r ∧ r < m ∧ Bag b' := by
  obtain ⟨x, y, rfl, hx, hy, hy2⟩ := h
  by_cases h : 0 < x
  · exact ⟨_, _, take_a x y m h hm (log2_small m (by omega) hm2), Int.emod_nonneg _ (by omega), Int.emod_lt_of_pos _ hm, _, _, rfl, Int.ediv_nonneg hx (by omega), hy, hy2⟩
  · have : x = 0 := by omega
    subst this
    obtain ⟨r, y', e, h1, h2⟩ := take_b y m hy hy2 hm
    exact ⟨_, _, e, Int.emod_nonneg _ (by omega), Int.emod_lt_of_pos _ hm, _, _, rfl, Int.le_refl _, h1, h2⟩
theorem callNew {F : MF} {μ : List MO} {ds xs : List D} (h : F (ds.map MV.d) [] = .ok (.ref 0) [.lst xs]) : callF F (ds.map MV.d) μ = .ok (.ref μ.length) (μ ++ [.lst xs]) := by
  unfold callF
  rw [selOf_d]
  simp [toCs_d, pick, h, back, wb, putAll, backO]
theorem bag_ok (ns : List Int) (hl : ns.length ≤ 63) (a : Int) (ha : 0 ≤ a) (ha2 : a < 100) : ∃ b, F_bag [.d (.fl (ns.map D.int)), .d (.int a)] [] = .ok (.ref 0) [.lst b] ∧ Bag b := by
  have hz : (ns.map D.int).length ≤ sizeLine := by rw [List.length_map]; exact Nat.le_trans hl (by decide)
  -- the first number
  obtain ⟨c, hc, hc0⟩ : ∃ c : Int, (mIf (mB (mBin ltI (mVar 1) (mN (one lenD) (mCons (mVar 0) mNil)))) (mN (one absD) (mCons (mBin ixD (mVar 0) (mVar 1)) mNil)) (mC (.int 0))) [some (.d (.fl (ns.map D.int))), some (.d (.int a)), none, none, none, none] [] = .ok (.d (.int c)) [] ∧ 0 ≤ c := by
    by_cases h : a < ns.length
    · obtain ⟨k, rfl⟩ : ∃ k : Nat, a = k := ⟨a.toNat, by omega⟩
      have hk : k < ns.length := by omega
      refine ⟨if ns[k] < 0 then -ns[k] else ns[k], ?_, by split <;> omega⟩
      simp [hz, hk]
    · refine ⟨0, ?_, Int.le_refl _⟩
      simp [hz, h]
  obtain ⟨ms, hms, hml⟩ : ∃ ms : List Int, cutD (ns.map D.int) none (some 63) = ms.map D.int ∧ ms.length ≤ 63 := by
    refine ⟨(ns.drop _).take _, by unfold cutD; rw [List.map_take, List.map_drop], ?_⟩
    rw [List.length_take, List.length_drop]
    omega
  have loop := for_ok (q := (enumD (ms.map D.int), none)) (g := gT 2 (gC (gN 4) (gC (gN 5) gE)))
    (b := (mAsg (mBin modD (mN (one intD) (mCons (mBin addD (mBin addD (mBin mulD (mVar 3) (mC (.int 48271))) (mBin modD (mN (one intD) (mCons (mVar 5) mNil)) (mC (.int 2147483579)))) (mBin mulD (mC (.int 409)) (mVar 4))) mNil)) (mC (.int 2147483647))) (gN 3))) rfl
    (fun i ρ μ => ∃ m x4 x5, ρ = [some (.d (.fl (ns.map D.int))), some (.d (.int a)), some (.d (.int c)), some (.d (.int m)), x4, x5] ∧ μ = [] ∧ 0 ≤ m ∧ m < 2147483647) (enumD (ms.map D.int)) 0
    [some (.d (.fl (ns.map D.int))), some (.d (.int a)), some (.d (.int c)), some (.d (.int (7013 + 5077 * a))), none, none] [] ⟨_, _, _, rfl, rfl, by omega, by omega⟩ (by
      rintro j x ρ μ hx ⟨m, x4, x5, rfl, rfl, h1, h2⟩
      simp only [enumD, List.getElem?_mapIdx, List.getElem?_map, Option.map_eq_some_iff] at hx
      obtain ⟨y, ⟨z, hz1, rfl⟩, rfl⟩ := hx
      refine ⟨[some (.d (.fl (ns.map D.int))), some (.d (.int a)), some (.d (.int c)), some (.d (.int m)), some (.d (.int j)), some (.d (.int z))], _, _, by simp, ?_, (m * 48271 + z % 2147483579 + 409 * j) % 2147483647, some (.d (.int j)), some (.d (.int z)), rfl, rfl, by omega, by omega⟩
      simp)
  obtain ⟨ρ', μ', h1, m, x4, x5, rfl, rfl, h2, h3⟩ := loop
  have e10 : (10 : Int).natAbs < 2 ^ 64 := by decide
  refine ⟨[.int (if c ≥ 1000000000000000000 then c else 0), .int m], ?_, _, _, rfl, by split <;> omega, h2, h3⟩
  unfold F_bag b_bag
  show SR.finT false 0 (mSeq _ _ [some (.d (.fl (ns.map D.int))), some (.d (.int a)), none, none, none, none] []) = _
  rw [seq_nx (asg_eq (ρ1 := [some (.d (.fl (ns.map D.int))), some (.d (.int a)), some (.d (.int c)), none, none, none]) hc rfl), seq_nx (asg_eq (v := .d (.int (7013 + 5077 * a))) (ρ1 := [some (.d (.fl (ns.map D.int))), some (.d (.int a)), some (.d (.int c)), some (.d (.int (7013 + 5077 * a))), none, none]) (μ1 := []) (by simp) rfl), seq_nx (for_eq (q := (enumD (ms.map D.int), none)) (μ1 := []) (by simp [mSlice, pNone, pSome, sliceD, hms, enumOf]) h1)]
  by_cases h : c ≥ 1000000000000000000
  · simp [powD, CPow, h]
  · simp [powD, CPow, h]
end TT

namespace TT
open PySem L2
variable [TB]
/-! texts by their signs -/
def tx (l : List Nat) : Str := ⟨l.toArray⟩
def nm (l : List Nat) : D := .str (tx l)
def letters : List Nat := [97, 98, 99, 100, 101, 102, 103, 104, 105, 106, 107, 108, 109, 110, 111, 112, 113, 114, 115, 116, 117, 118, 119, 120, 121, 122]
def NameOk (l : List Nat) : Prop := 1 ≤ l.length ∧ l.length ≤ 8 ∧ ∀ c ∈ l, c ∈ letters
theorem tx_app (a b : List Nat) : tx a ++ tx b = tx (a ++ b) := by
  show Str.append (tx a) (tx b) = tx (a ++ b)
  simp [Str.append, tx]
theorem tx_len (a : List Nat) : (tx a).length = a.length := by simp [tx, Str.length]
theorem tx_inj {a b : List Nat} (h : tx a = tx b) : a = b := by
  have : (tx a).cps.toList = (tx b).cps.toList := by rw [h]
  simpa [tx] using this
theorem abc : ("abcdefghijklmnopqrstuvwxyz" : Str) = tx letters := by decide +kernel
theorem azmk : ("azmk" : Str) = tx [97, 122, 109, 107] := by decide +kernel
theorem ix_tx (l : List Nat) (hl : l.length ≤ 1000) (r : Int) (h0 : 0 ≤ r) (h1 : r < l.length) : ∃ c ∈ l, ixD (.str (tx l)) (.int r) = some (nm [c]) := by
  obtain ⟨k, rfl⟩ : ∃ k : Nat, r = k := ⟨r.toNat, by omega⟩
  have hk : k < l.length := by omega
  refine ⟨l[k], List.getElem_mem hk, ?_⟩
  have h2 : l.length ≤ 16777216 := by omega
  simp only [ixD]
  rw [if_pos (by rw [tx_len, sizeLine_eq]; exact h2)]
  simp [tx, nm, hk]
theorem add_tx (a b : List Nat) (h : a.length + b.length ≤ 1000) : addD (.str (tx a)) (.str (tx b)) = some (nm (a ++ b)) := by
  have e : (tx a).length + (tx b).length ≤ sizeLine := by rw [tx_len, tx_len, sizeLine_eq]; omega
  simp only [addD, addI, intOp, addS, if_pos e, tx_app]
  rfl
theorem chars_tx (l : List Nat) : chars (tx l) = l.map fun c => nm [c] := by
  simp [chars, tx, nm]
def mk (ahead : Bool) (st : List Nat) (c : Nat) : List Nat := if ahead then c :: st else st ++ [c]
theorem mk_inj {ahead : Bool} {st : List Nat} {c d : Nat} (h : mk ahead st c = mk ahead st d) : c = d := by
  cases ahead <;> simpa [mk] using h
theorem call_take {b : List D} {μ : List MO} (n : Nat) (hn : μ[n]? = some (.lst b)) (h : Bag b) (m : Int) (hm : 0 < m) (hm2 : m < 2 ^ 300) : ∃ r b', callF F_take [.ref n, .d (.int m)] μ = .ok (.d (.int r)) (μ.set n (.lst b')) ∧ 0 ≤ r ∧ r < m ∧ Bag b' := by
  obtain ⟨r, b', h1, h2, h3, h4⟩ := take_ok h m hm hm2
  exact ⟨r, b', callB2 hn h1, h2, h3, h4⟩
theorem erase_map {α β : Type} (g : α → β) : ∀ (l : List α) (k : Nat), (l.map g).eraseIdx k = (l.eraseIdx k).map g
  | [], _ => rfl
  | _ :: _, 0 => rfl
  | a :: l, k + 1 => by simp only [List.map_cons, List.eraseIdx_cons_succ, erase_map g l k]
theorem erase_perm {α : Type} : ∀ (l : List α) (k : Nat) (h : k < l.length), l.Perm (l[k] :: l.eraseIdx k)
  | a :: l, 0, _ => by simp
  | a :: l, k + 1, h => by
    simp only [List.eraseIdx_cons_succ, List.getElem_cons_succ]
    exact ((erase_perm l k (by simpa using h)).cons a).trans (List.Perm.swap _ _ _)
theorem mk_ok {ahead : Bool} {st : List Nat} {c : Nat} (h : st.length ≤ 7) (hs : ∀ c ∈ st, c ∈ letters) (hc : c ∈ letters) : NameOk (mk ahead st c) := by
  cases ahead
  · refine ⟨by simp [mk], by simp [mk]; omega, fun d hd => ?_⟩
    simp only [mk, Bool.false_eq_true, if_false, List.mem_append, List.mem_singleton] at hd
    rcases hd with q | q
    · exact hs d q
    · rw [q]; exact hc
  · refine ⟨by simp [mk], by simp [mk]; omega, fun d hd => ?_⟩
    simp only [mk, if_true, List.mem_cons] at hd
    rcases hd with q | q
    · rw [q]; exact hc
    · exact hs d q
theorem nodup_map {α β : Type} {g : α → β} (hg : ∀ a b, g a = g b → a = b) : ∀ {l : List α}, l.Nodup → (l.map g).Nodup
  | [], _ => List.nodup_nil
  | a :: l, h => by
    rw [List.map_cons, List.nodup_cons]
    rw [List.nodup_cons] at h
    refine ⟨fun q => ?_, nodup_map hg h.2⟩
    obtain ⟨b, h1, h2⟩ := List.mem_map.mp q
    rw [hg b a h2] at h1
    exact h.1 h1
theorem rng1_eq {μ : List MO} (j : Int) (h0 : 0 ≤ j) (h1 : j < 1000000) : rng1 [.d (.int j)] μ = .ok (intsD 0 j.toNat, none) μ := by
  have : -(2 ^ 62) ≤ j ∧ j < 2 ^ 62 := by constructor <;> omega
  simp only [rng1, if_pos this]
theorem names_ok {b : List D} (hb : Bag b) (m : Int) (hm0 : 0 ≤ m) (hm : m ≤ 20) : ∃ (ls : List (List Nat)) (b' : List D), F_names [.ref 0, .d (.int m)] [.lst b] = .ok (.d (.lst (ls.map nm))) [.lst b'] ∧ Bag b' ∧ ls.length = m.toNat ∧ ls.Nodup ∧ ∀ l ∈ ls, NameOk l := by
  obtain ⟨r0, b0, h0, h1, h2, hb0⟩ := call_take (μ := [.lst b, .lst (letters.map fun c => nm [c]), .lst []]) 0 rfl hb 8 (by decide) (by decide)
  -- the stem
  have loop1 := for_ok (q := (intsD 0 r0.toNat, none)) (g := gN 5) (b := (mAsg (mBin addD (mVar 4) (mBin ixD (mC (.str ("azmk" : Str))) (mCall F_take 2 (mCons (mVar 0) (mCons (mC (.int 4)) mNil))))) (gN 4))) rfl
    (fun i ρ μ => ∃ b st x5, Bag b ∧ st.length = i ∧ (∀ c ∈ st, c ∈ letters) ∧ ρ = [some (.ref 0), some (.d (.int m)), some (.ref 1), some (.ref 2), some (.d (nm st)), x5, none, none] ∧ μ = [.lst b, .lst (letters.map fun c => nm [c]), .lst []]) (intsD 0 r0.toNat) 0
    [some (.ref 0), some (.d (.int m)), some (.ref 1), some (.ref 2), some (.d (nm [])), none, none, none] [.lst b0, .lst (letters.map fun c => nm [c]), .lst []] ⟨b0, [], none, hb0, rfl, (fun c h => by cases h), rfl, rfl⟩ (by
      rintro j x ρ μ hx ⟨b, st, x5, k1, k2, k3, rfl, rfl⟩
      rw [ints_get hx]
      have hj : j < r0.toNat := by
        have := (List.getElem?_eq_some_iff.mp hx).1
        rwa [ints_len] at this
      obtain ⟨r, b', e1, e2, e3, e4⟩ := call_take (μ := [.lst b, .lst (letters.map fun c => nm [c]), .lst []]) 0 rfl k1 4 (by decide) (by decide)
      obtain ⟨c, hc, e5⟩ := ix_tx [97, 122, 109, 107] (by decide) r e2 e3
      refine ⟨_, [some (.ref 0), some (.d (.int m)), some (.ref 1), some (.ref 2), some (.d (nm (st ++ [c]))), some (.d (.int (0 + (j : Int)))), none, none], [.lst b', .lst (letters.map fun c => nm [c]), .lst []], rfl, ?_, b', st ++ [c], _, e4, by simp [k2], fun d hd => ?_, rfl, rfl⟩
      · have e1' : callF F_take [.ref 0, .d (.int 4)] [.lst b, .lst (letters.map fun c => nm [c]), .lst []] = .ok (.d (.int r)) [.lst b', .lst (letters.map fun c => nm [c]), .lst []] := e1
        rw [azmk]
        exact asg_eq (bin_eq rfl (bin_eq rfl (call_eq rfl rfl e1') rfl rfl e5) rfl rfl (add_tx st [c] (by simp [k2]; omega))) rfl
      · rcases List.mem_append.mp hd with q | q
        · exact k3 d q
        · rw [List.mem_singleton.mp q]
          have : ∀ c ∈ ([97, 122, 109, 107] : List Nat), c ∈ letters := by decide
          exact this c hc)
  obtain ⟨ρ1, μ1, l1, b1, st, x5, hb1, hst, hstl, rfl, rfl⟩ := loop1
  have hst7 : st.length ≤ 7 := by rw [hst, ints_len]; omega
  obtain ⟨r2, b2, e20, e21, e22, hb2⟩ := call_take (μ := [.lst b1, .lst (letters.map fun c => nm [c]), .lst []]) 0 rfl hb1 2 (by decide) (by decide)
  -- the names
  have loop2 := for_ok (q := (intsD 0 m.toNat, none)) (g := gN 5) (b := (mSeq (mAsg (mMut popAt (mVar 2) (mCons (mCall F_take 2 (mCons (mVar 0) (mCons (mN (one lenD) (mCons (mVar 2) mNil)) mNil))) mNil)) (gN 7))
      (mExpr (mMut apD (mVar 3) (mCons (mIf (mT (mVar 6)) (mBin addD (mVar 7) (mVar 4)) (mBin addD (mVar 4) (mVar 7))) mNil))))) rfl
    (fun i ρ μ => ∃ b left used x5 x7, Bag b ∧ left.length + i = 26 ∧ used.length = i ∧ (left ++ used).Nodup ∧ (∀ c ∈ left ++ used, c ∈ letters) ∧ ρ = [some (.ref 0), some (.d (.int m)), some (.ref 1), some (.ref 2), some (.d (nm st)), x5, some (.d (.bl (decide (r2 = 0)))), x7] ∧
      μ = [.lst b, .lst (left.map fun c => nm [c]), .lst ((used.map (mk (decide (r2 = 0)) st)).map nm)]) (intsD 0 m.toNat) 0
    [some (.ref 0), some (.d (.int m)), some (.ref 1), some (.ref 2), some (.d (nm st)), x5, some (.d (.bl (decide (r2 = 0)))), none] [.lst b2, .lst (letters.map fun c => nm [c]), .lst []] ⟨b2, letters, [], x5, none, hb2, rfl, rfl, by decide, (fun c h => by simpa using h), rfl, rfl⟩ (by
      rintro j x ρ μ hx ⟨b, left, used, x5, x7, k1, k2, k3, k4, k5, rfl, rfl⟩
      rw [ints_get hx]
      have hj : j < m.toNat := by
        have := (List.getElem?_eq_some_iff.mp hx).1
        rw [ints_len] at this
        omega
      have hlen : 0 < left.length := by omega
      obtain ⟨r, b', e1, e2, e3, e4⟩ := call_take (μ := [.lst b, .lst (left.map fun c => nm [c]), .lst ((used.map (mk (decide (r2 = 0)) st)).map nm)]) 0 rfl k1 left.length (by omega) (by omega)
      have e1' : callF F_take [.ref 0, .d (.int left.length)] [.lst b, .lst (left.map fun c => nm [c]), .lst ((used.map (mk (decide (r2 = 0)) st)).map nm)] = .ok (.d (.int r)) [.lst b', .lst (left.map fun c => nm [c]), .lst ((used.map (mk (decide (r2 = 0)) st)).map nm)] := e1
      obtain ⟨k, rfl⟩ : ∃ k : Nat, r = k := ⟨r.toNat, by omega⟩
      have hk : k < left.length := by omega
      have hpop : popAt (left.map fun c => nm [c]) [.int k] = some (nm [left[k]], (left.eraseIdx k).map fun c => nm [c]) := by
        have h1 : -(2 ^ 63) ≤ (k : Int) ∧ (k : Int) < 2 ^ 63 := by constructor <;> omega
        have h2 : seqIndex? (k : Int) (left.map fun c => nm [c]).length = some k := by
          rw [List.length_map]
          unfold seqIndex?
          have h3 : ¬ (k : Int) < 0 := by omega
          simp [h3, hk]
        simp only [popAt, if_pos h1, h2, List.getElem?_map, List.getElem?_eq_getElem hk, Option.map_some]
        rw [erase_map]
      have hlenD : lenD (.lst (left.map fun c => nm [c])) = some (.int left.length) := by simp [lenD]
      have ec : mCall F_take 2 (mCons (mVar 0) (mCons (mN (one lenD) (mCons (mVar 2) mNil)) mNil)) [some (.ref 0), some (.d (.int m)), some (.ref 1), some (.ref 2), some (.d (nm st)), some (.d (.int (0 + (j : Int)))), some (.d (.bl (decide (r2 = 0)))), x7] [.lst b, .lst (left.map fun c => nm [c]), .lst ((used.map (mk (decide (r2 = 0)) st)).map nm)] = .ok (.d (.int k)) [.lst b', .lst (left.map fun c => nm [c]), .lst ((used.map (mk (decide (r2 = 0)) st)).map nm)] :=
        call_eq (cons_eq rfl (cons_eq (n_eq (hn := one lenD) rfl rfl hlenD) rfl)) rfl e1'
      have hadd : (mIf (mT (mVar 6)) (mBin addD (mVar 7) (mVar 4)) (mBin addD (mVar 4) (mVar 7))) [some (.ref 0), some (.d (.int m)), some (.ref 1), some (.ref 2), some (.d (nm st)), some (.d (.int (0 + (j : Int)))), some (.d (.bl (decide (r2 = 0)))), some (.d (nm [left[k]]))] [.lst b', .lst ((left.eraseIdx k).map fun c => nm [c]), .lst ((used.map (mk (decide (r2 = 0)) st)).map nm)] = .ok (.d (nm (mk (decide (r2 = 0)) st left[k]))) [.lst b', .lst ((left.eraseIdx k).map fun c => nm [c]), .lst ((used.map (mk (decide (r2 = 0)) st)).map nm)] := by
        cases hd : decide (r2 = 0) with
        | true => exact if_t (t_eq rfl) (bin_eq rfl rfl rfl rfl (add_tx [left[k]] st (by simp; omega)))
        | false => exact if_f (t_eq rfl) (bin_eq rfl rfl rfl rfl (add_tx st [left[k]] (by simp; omega)))
      have hap : apD ((used.map (mk (decide (r2 = 0)) st)).map nm) [nm (mk (decide (r2 = 0)) st left[k])] = some (.non, ((used ++ [left[k]]).map (mk (decide (r2 = 0)) st)).map nm) := by
        have : ((used.map (mk (decide (r2 = 0)) st)).map nm).length < sizeLine := by rw [List.length_map, List.length_map, sizeLine_eq]; omega
        simp only [apD, if_pos this, List.map_append, List.map_cons, List.map_nil]
      have perm : (left ++ used).Perm (left.eraseIdx k ++ (used ++ [left[k]])) := by
        have h1 : left.Perm (left[k] :: left.eraseIdx k) := erase_perm left k hk
        refine (h1.append_right used).trans ?_
        rw [← List.append_assoc]
        exact (List.perm_append_singleton _ _).symm
      refine ⟨_, _, _, rfl, (seq_nx (asg_eq (mut_eq (p := 1) rfl rfl (cons_eq ec rfl) rfl rfl hpop) rfl)).trans (expr_eq (mut_eq (p := 2) rfl rfl (cons_eq hadd rfl) rfl rfl hap)), b', left.eraseIdx k, used ++ [left[k]], _, _, e4, ?_, by simp [k3], perm.nodup_iff.mp k4, fun c hc => k5 c (perm.mem_iff.mpr hc), rfl, rfl⟩
      rw [List.length_eraseIdx_of_lt hk]
      omega)
  obtain ⟨ρ2, μ2, l2, b3, left, used, y5, y7, hb3, _, hu, hnd, hin, rfl, rfl⟩ := loop2
  refine ⟨used.map (mk (decide (r2 = 0)) st), b3, ?_, hb3, ?_, ?_, ?_⟩
  · unfold F_names b_names
    have e0 : mCall F_take 2 (mCons (mVar 0) (mCons (mC (.int 8)) mNil)) [some (.ref 0), some (.d (.int m)), some (.ref 1), some (.ref 2), some (.d (nm [])), none, none, none] [.lst b, .lst (letters.map fun c => nm [c]), .lst []] = .ok (.d (.int r0)) [.lst b0, .lst (letters.map fun c => nm [c]), .lst []] := call_eq rfl rfl h0
    have e2 : mCall F_take 2 (mCons (mVar 0) (mCons (mC (.int 2)) mNil)) [some (.ref 0), some (.d (.int m)), some (.ref 1), some (.ref 2), some (.d (nm st)), x5, none, none] [.lst b1, .lst (letters.map fun c => nm [c]), .lst []] = .ok (.d (.int r2)) [.lst b2, .lst (letters.map fun c => nm [c]), .lst []] := call_eq rfl rfl e20
    have p1 : (mPar3 2 3 4 (mCons (mOwn (mNL listS (mCons (mC (.str ("abcdefghijklmnopqrstuvwxyz" : Str))) mNil))) (mCons (mOwn (mLst mNil)) (mCons (mC (.str ("" : Str))) mNil)))) [some (.ref 0), some (.d (.int m)), none, none, none, none, none, none] [.lst b] = .nx [some (.ref 0), some (.d (.int m)), some (.ref 1), some (.ref 2), some (.d (nm [])), none, none, none] [.lst b, .lst (letters.map fun c => nm [c]), .lst []] := by
      rw [abc, show ("" : Str) = tx [] from by decide +kernel]
      have hl : (tx letters).length ≤ sizeLine := by rw [tx_len, sizeLine_eq]; decide
      have hl2 : letters.length ≤ 16777216 := by decide
      simp [listS, hl, chars_tx, nm, tx_len, hl2]
    have r1 : mItA rng1 (mCons (mCall F_take 2 (mCons (mVar 0) (mCons (mC (.int 8)) mNil))) mNil) [some (.ref 0), some (.d (.int m)), some (.ref 1), some (.ref 2), some (.d (nm [])), none, none, none] [.lst b, .lst (letters.map fun c => nm [c]), .lst []] = .ok (intsD 0 r0.toNat, none) [.lst b0, .lst (letters.map fun c => nm [c]), .lst []] := by
      unfold mItA
      rw [cons_eq e0 rfl]
      exact rng1_eq r0 h1 (by omega)
    have r2' : mItA rng1 (mCons (mVar 1) mNil) [some (.ref 0), some (.d (.int m)), some (.ref 1), some (.ref 2), some (.d (nm st)), x5, some (.d (.bl (decide (r2 = 0)))), none] [.lst b2, .lst (letters.map fun c => nm [c]), .lst []] = .ok (intsD 0 m.toNat, none) [.lst b2, .lst (letters.map fun c => nm [c]), .lst []] := by
      unfold mItA
      rw [cons_eq (a := .d (.int m)) (as := []) (μ1 := [.lst b2, .lst (letters.map fun c => nm [c]), .lst []]) (μ2 := [.lst b2, .lst (letters.map fun c => nm [c]), .lst []]) rfl rfl]
      exact rng1_eq m (by omega) (by omega)
    have p2 : mAsg (mBin eqD (mCall F_take 2 (mCons (mVar 0) (mCons (mC (.int 2)) mNil))) (mC (.int 0))) (gN 6) [some (.ref 0), some (.d (.int m)), some (.ref 1), some (.ref 2), some (.d (nm st)), x5, none, none] [.lst b1, .lst (letters.map fun c => nm [c]), .lst []] = .nx [some (.ref 0), some (.d (.int m)), some (.ref 1), some (.ref 2), some (.d (nm st)), x5, some (.d (.bl (decide (r2 = 0)))), none] [.lst b2, .lst (letters.map fun c => nm [c]), .lst []] :=
      asg_eq (v := .d (.bl (decide (r2 = 0)))) (bin_eq e2 rfl rfl rfl rfl) rfl
    show SR.finT true 1 (mSeq _ _ [some (.ref 0), some (.d (.int m)), none, none, none, none, none, none] [.lst b]) = _
    rw [seq_nx p1, seq_nx (for_eq r1 l1), seq_nx p2, seq_nx (for_eq r2' l2)]
    rfl
  · rw [List.length_map, hu, ints_len]; omega
  · exact nodup_map (fun _ _ h => mk_inj h) (List.nodup_append.mp hnd).2.1
  · intro l hl
    obtain ⟨c, h1, rfl⟩ := List.mem_map.mp hl
    exact mk_ok hst7 hstl (hin c (List.mem_append_right _ h1))
end TT

namespace TT
open PySem L2
variable [TB]
/-! comprehensions of plain data -/
theorem lc_ok {q : List D × Option Nat} {g : MG} {el : ME} {ρ : En} {μ : List MO} (hq : q.2 = none) (f : D → D) : ∀ (xs acc : List D), (∀ x ∈ xs, ∃ ρ1, g (.d x) ρ = some ρ1 ∧ el ρ1 μ = .ok (.d (f x)) μ) → lcD q g mYes el ρ xs acc μ = .ok (acc ++ xs.map f) μ
  | [], acc, _ => by unfold lcD chk; rw [hq]; simp
  | x :: xs, acc, h => by
    obtain ⟨ρ1, h1, h2⟩ := h x List.mem_cons_self
    unfold lcD chk
    rw [hq]
    simp only [if_true, h1, mYes, Res.calm_ok, Res.bind_ok, h2]
    rw [lc_ok hq f xs _ fun y hy => h y (List.mem_cons_of_mem _ hy)]
    simp
theorem lc_eq {mi : MI} {q : List D × Option Nat} {g : MG} {el : ME} {vs : List Nat} {ρ : En} {μ : List MO} (f : D → D) (hi : mi ρ μ = .ok q μ) (hq : q.2 = none) (hl : q.1.length ≤ sizeLine) (h : ∀ x ∈ q.1, ∃ ρ1, g (.d x) (wipeM ρ vs) = some ρ1 ∧ el ρ1 μ = .ok (.d (f x)) μ) : mFz (mLC mi g mYes el vs) ρ μ = .ok (.d (.lst (q.1.map f))) μ := by
  unfold mFz mLC
  rw [hi]
  simp only [Res.bind_ok, if_pos hl]
  rw [lc_ok hq f _ _ h]
  rfl
theorem bools_true : ∀ {xs : List D}, (∀ x ∈ xs, x = .bl true) → bools xs = some (xs.map fun _ => true)
  | [], _ => rfl
  | x :: xs, h => by
    rw [h x List.mem_cons_self]
    simp [bools, bools_true fun y hy => h y (List.mem_cons_of_mem _ hy)]
theorem isi_eq {d : D} {t n : String} (h1 : tyD d = some t) (h2 : n ∈ tys := by decide) : isiD [d, .ty n] = some (.bl (isTy t n)) := by
  simp only [isiD, h1, if_pos h2]
theorem len_nm {l : List Nat} (h : l.length ≤ 1000) : lenD (nm l) = some (.int l.length) := by
  have hl : (tx l).length ≤ sizeLine := by rw [tx_len, sizeLine_eq]; omega
  simp only [nm, lenD]
  rw [if_pos hl, tx_len]
theorem in_nm (c : Nat) (l : List Nat) : inD false (nm [c]) (.str (tx l)) = some (.bl (decide (c ∈ l))) := by
  simp [inD, inB, inTx, nm, tx]
theorem is_name_ok {l : List Nat} (h : NameOk l) : F_is_name [.d (nm l)] [] = .ok (.d (.bl true)) [] := by
  obtain ⟨h1, h2, h3⟩ := h
  unfold F_is_name b_is_name
  have c1 : (mOr (mNot (mT (mN isiD (mCons (mVar 0) (mCons (mC (.ty "str")) mNil))))) (mNot (mB (mChain leI leI (mC (.int 1)) (mN (one lenD) (mCons (mVar 0) mNil)) (mC (.int 8)))))) [some (.d (nm l)), none] [] = .ok false [] := by
    refine or_f (not_eq (bl := true) (t_eq (n_eq rfl rfl (isi_eq (t := "str") rfl)))) (not_eq (bl := true) (b_eq ?_))
    have e1 : (1 : Int) ≤ l.length := by omega
    have e2 : (l.length : Int) ≤ 8 := by omega
    simp [-lenD, len_nm (show l.length ≤ 1000 by omega), e1, e2]
  have c2 : mFz (mLC (mIt (mVar 0)) (gN 1) mYes (mBin (inD false) (mVar 1) (mC (.str ("abcdefghijklmnopqrstuvwxyz" : Str)))) [1]) [some (.d (nm l)), none] [] = .ok (.d (.lst ((chars (tx l)).map fun _ => .bl true))) [] := by
    rw [abc]
    refine lc_eq (q := (chars (tx l), none)) (fun _ => .bl true) rfl rfl (by rw [chars_tx, List.length_map, sizeLine_eq]; omega) fun x hx => ?_
    rw [chars_tx] at hx
    obtain ⟨c, hc, rfl⟩ := List.mem_map.mp hx
    have e := in_nm c letters
    rw [decide_eq_true (h3 c hc)] at e
    exact ⟨_, rfl, bin_eq rfl rfl rfl rfl e⟩
  have c3 : one allD [.lst ((chars (tx l)).map fun _ => D.bl true)] = some (.bl true) := by
    have := bools_true (xs := (chars (tx l)).map fun _ => D.bl true) (fun x hx => by obtain ⟨_, _, rfl⟩ := List.mem_map.mp hx; rfl)
    simp [one, allD, this]
  exact fn_rt ((seq_nx (ifs_f c1 rfl)).trans (ret_eq (n_eq (cons_eq c2 rfl) rfl c3))) rfl
theorem eq_t (x : Str) : eqD (.str x) (.str x) = some (.bl true) := by simp [eqD, eqB]
theorem eq_f {x y : Str} (h : x ≠ y) : eqD (.str x) (.str y) = some (.bl false) := by simp [eqD, eqB, h]
theorem ne_f (x : Str) : neD (.str x) (.str x) = some (.bl false) := by simp [neD, eqB]
theorem ne_t {x y : Str} (h : x ≠ y) : neD (.str x) (.str y) = some (.bl true) := by simp [neD, eqB, h]
/-! atoms -/
inductive At where
  | num (i : Int) | var (x : List Nat)
def At.d : At → D
  | .num i => .tup [.str "num", .int i]
  | .var x => .tup [.str "var", nm x]
def At.Ok : At → Prop
  | .num i => -1000000000000000000000000000000 ≤ i ∧ i ≤ 1000000000000000000000000000000
  | .var x => NameOk x
theorem is_int (i : Int) : F_is_integer [.d (.int i)] [] = .ok (.d (.bl true)) [] := by
  unfold F_is_integer b_is_integer
  exact fn_rt (ret_eq (andv_t (n_eq rfl rfl (isi_eq (t := "int") rfl)) (un_eq (n_eq rfl rfl (isi_eq (t := "int") rfl)) rfl rfl))) rfl
theorem is_atom_ok {a : At} (h : a.Ok) : F_is_atom [.d a.d, .d (.str "var")] [] = .ok (.d (.bl true)) [] := by
  unfold F_is_atom b_is_atom
  cases a with
  | num i =>
    have c1 : (mOr (mNot (mT (mN isiD (mCons (mVar 0) (mCons (mC (.ty "tuple")) mNil))))) (mOr (mB (mBin neD (mN (one lenD) (mCons (mVar 0) mNil)) (mC (.int 2)))) (mNot (mT (mN isiD (mCons (mBin ixD (mVar 0) (mC (.int 0))) (mCons (mC (.ty "str")) mNil))))))) [some (.d (At.num i).d), some (.d (.str "var"))] [] = .ok false [] :=
      or_f (not_eq (bl := true) (t_eq (n_eq rfl rfl (isi_eq (t := "tuple") rfl)))) (or_f (b_eq (bin_eq (n_eq (hn := one lenD) rfl rfl rfl) rfl rfl rfl rfl)) (not_eq (bl := true) (t_eq (n_eq (cons_eq (bin_eq rfl rfl rfl rfl rfl) rfl) rfl (isi_eq (t := "str") rfl)))))
    have c2 : (mB (mBin eqD (mBin ixD (mVar 0) (mC (.int 0))) (mC (.str ("num" : Str))))) [some (.d (At.num i).d), some (.d (.str "var"))] [] = .ok true [] := b_eq (bin_eq (bin_eq rfl rfl rfl rfl rfl) rfl rfl rfl (eq_t _))
    have e2 : (mChain leI leI (mUn negD (mC (.int 1000000000000000000000000000000))) (mBin ixD (mVar 0) (mC (.int 1))) (mC (.int 1000000000000000000000000000000))) [some (.d (At.num i).d), some (.d (.str "var"))] [] = .ok (.d (.bl true)) [] := by
      obtain ⟨h1, h2⟩ := h
      simp [At.d, h1, h2]
    exact fn_rt ((seq_nx (ifs_f c1 rfl)).trans (seq_rt (ifs_t c2 (ret_eq (andv_t (call_eq (cons_eq (bin_eq rfl rfl rfl rfl rfl) rfl) rfl (call1 (is_int i))) e2))))) rfl
  | var x =>
    have c1 : (mOr (mNot (mT (mN isiD (mCons (mVar 0) (mCons (mC (.ty "tuple")) mNil))))) (mOr (mB (mBin neD (mN (one lenD) (mCons (mVar 0) mNil)) (mC (.int 2)))) (mNot (mT (mN isiD (mCons (mBin ixD (mVar 0) (mC (.int 0))) (mCons (mC (.ty "str")) mNil))))))) [some (.d (At.var x).d), some (.d (.str "var"))] [] = .ok false [] :=
      or_f (not_eq (bl := true) (t_eq (n_eq rfl rfl (isi_eq (t := "tuple") rfl)))) (or_f (b_eq (bin_eq (n_eq (hn := one lenD) rfl rfl rfl) rfl rfl rfl rfl)) (not_eq (bl := true) (t_eq (n_eq (cons_eq (bin_eq rfl rfl rfl rfl rfl) rfl) rfl (isi_eq (t := "str") rfl)))))
    have c2 : (mB (mBin eqD (mBin ixD (mVar 0) (mC (.int 0))) (mC (.str ("num" : Str))))) [some (.d (At.var x).d), some (.d (.str "var"))] [] = .ok false [] := b_eq (bin_eq (bin_eq rfl rfl rfl rfl rfl) rfl rfl rfl (eq_f (by decide)))
    have c3 : (mB (mBin neD (mBin ixD (mVar 0) (mC (.int 0))) (mVar 1))) [some (.d (At.var x).d), some (.d (.str "var"))] [] = .ok false [] := b_eq (bin_eq (bin_eq rfl rfl rfl rfl rfl) rfl rfl rfl (ne_f _))
    have c4 : (mB (mBin eqD (mVar 1) (mC (.str ("var" : Str))))) [some (.d (At.var x).d), some (.d (.str "var"))] [] = .ok true [] := b_eq (bin_eq rfl rfl rfl rfl (eq_t _))
    exact fn_rt ((seq_nx (ifs_f c1 rfl)).trans ((seq_nx (ifs_f c2 rfl)).trans ((seq_nx (ifs_f c3 rfl)).trans (seq_rt (ifs_t c4 (ret_eq (call_eq (cons_eq (bin_eq rfl rfl rfl rfl rfl) rfl) rfl (call1 (is_name_ok h))))))))) rfl
/-- a tuple of another length, or with another word ahead, is no atom -/
theorem is_atom_no {xs : List D} (h : xs.length ≠ 2) : F_is_atom [.d (.tup xs), .d (.str "var")] [] = .ok (.d (.bl false)) [] := by
  unfold F_is_atom b_is_atom
  have c1 : (mOr (mNot (mT (mN isiD (mCons (mVar 0) (mCons (mC (.ty "tuple")) mNil))))) (mOr (mB (mBin neD (mN (one lenD) (mCons (mVar 0) mNil)) (mC (.int 2)))) (mNot (mT (mN isiD (mCons (mBin ixD (mVar 0) (mC (.int 0))) (mCons (mC (.ty "str")) mNil))))))) [some (.d (.tup xs)), some (.d (.str "var"))] [] = .ok true [] := by
    refine or_f (not_eq (bl := true) (t_eq (n_eq rfl rfl (isi_eq (t := "tuple") rfl)))) (or_t (b_eq (bin_eq (n_eq (hn := one lenD) rfl rfl rfl) rfl rfl rfl ?_)))
    have : ((xs.length : Nat) : Int) ≠ 2 := by omega
    simp [neD, eqB, this]
  exact fn_rt (seq_rt (ifs_t c1 rfl)) rfl
theorem is_atom_tag {t : Str} {y : D} (h1 : t ≠ "num") (h2 : t ≠ "var") : F_is_atom [.d (.tup [.str t, y]), .d (.str "var")] [] = .ok (.d (.bl false)) [] := by
  unfold F_is_atom b_is_atom
  have c1 : (mOr (mNot (mT (mN isiD (mCons (mVar 0) (mCons (mC (.ty "tuple")) mNil))))) (mOr (mB (mBin neD (mN (one lenD) (mCons (mVar 0) mNil)) (mC (.int 2)))) (mNot (mT (mN isiD (mCons (mBin ixD (mVar 0) (mC (.int 0))) (mCons (mC (.ty "str")) mNil))))))) [some (.d (.tup [.str t, y])), some (.d (.str "var"))] [] = .ok false [] :=
    or_f (not_eq (bl := true) (t_eq (n_eq rfl rfl (isi_eq (t := "tuple") rfl)))) (or_f (b_eq (bin_eq (n_eq (hn := one lenD) rfl rfl rfl) rfl rfl rfl rfl)) (not_eq (bl := true) (t_eq (n_eq (cons_eq (bin_eq rfl rfl rfl rfl rfl) rfl) rfl (isi_eq (t := "str") rfl)))))
  have c2 : (mB (mBin eqD (mBin ixD (mVar 0) (mC (.int 0))) (mC (.str ("num" : Str))))) [some (.d (.tup [.str t, y])), some (.d (.str "var"))] [] = .ok false [] := b_eq (bin_eq (bin_eq rfl rfl rfl rfl rfl) rfl rfl rfl (eq_f h1))
  have c3 : (mB (mBin neD (mBin ixD (mVar 0) (mC (.int 0))) (mVar 1))) [some (.d (.tup [.str t, y])), some (.d (.str "var"))] [] = .ok true [] := b_eq (bin_eq (bin_eq rfl rfl rfl rfl rfl) rfl rfl rfl (ne_t h2))
  exact fn_rt ((seq_nx (ifs_f c1 rfl)).trans ((seq_nx (ifs_f c2 rfl)).trans (seq_rt (ifs_t c3 rfl)))) rfl
theorem are_atoms_ok {as : List At} (h : ∀ a ∈ as, a.Ok) (hl : as.length ≤ 4) : F_are_atoms [.d (.tup (as.map At.d)), .d (.str "var")] [] = .ok (.d (.bl true)) [] := by
  unfold F_are_atoms b_are_atoms
  have c2 : mFz (mLC (mIt (mVar 0)) (gN 3) mYes (mCall F_is_atom 2 (mCons (mVar 3) (mCons (mVar 1) mNil))) [3]) [some (.d (.tup (as.map At.d))), some (.d (.str "var")), some (.d (.int 4)), none] [] = .ok (.d (.lst ((as.map At.d).map fun _ => .bl true))) [] := by
    refine lc_eq (q := (as.map At.d, none)) (fun _ => .bl true) rfl rfl (by rw [List.length_map, sizeLine_eq]; omega) fun x hx => ?_
    obtain ⟨a, ha, rfl⟩ := List.mem_map.mp hx
    exact ⟨_, rfl, call_eq rfl rfl (call2 (is_atom_ok (h a ha)))⟩
  have c3 : one allD [.lst ((as.map At.d).map fun _ => D.bl true)] = some (.bl true) := by
    have := bools_true (xs := (as.map At.d).map fun _ => D.bl true) (fun x hx => by obtain ⟨_, _, rfl⟩ := List.mem_map.mp hx; rfl)
    simp only [one, allD, this, Option.map_some]
    simp
  have c1 : leI (.int ((as.map At.d).length : Nat)) (.int 4) = some (.bl true) := by
    have : ((as.length : Nat) : Int) ≤ 4 := by omega
    simp [leI, intOp, this]
  exact fn_rt (ret_eq (andv_t (n_eq rfl rfl (isi_eq (t := "tuple") rfl)) (andv_t (bin_eq (n_eq (hn := one lenD) rfl rfl rfl) rfl rfl rfl c1) (n_eq (cons_eq c2 rfl) rfl c3)))) rfl
end TT

namespace TT
open PySem L2
variable [TB]
/-! expressions -/
inductive Ex where
  | at (a : At) | rais (a : At) | ask (n : List Nat) (as : List At) | call (n : List Nat) (as : List At) | test (n : List Nat) (as : List At) (y z : Ex) | lt (x : List Nat) (a b : Ex) | tr (a : Ex) (x : List Nat) (b : Ex)
def Ex.d : Ex → D
  | .at a => a.d
  | .rais a => .tup [.str "raise", a.d]
  | .ask n as => .tup [.str "ask", nm n, .tup (as.map At.d)]
  | .call n as => .tup [.str "call", nm n, .tup (as.map At.d)]
  | .test n as y z => .tup [.str "test", nm n, .tup (as.map At.d), y.d, z.d]
  | .lt x a b => .tup [.str "let", nm x, a.d, b.d]
  | .tr a x b => .tup [.str "try", a.d, nm x, b.d]
def AtsOk (as : List At) : Prop := (∀ a ∈ as, a.Ok) ∧ as.length ≤ 4
def Ex.Ok : Ex → Prop
  | .at a => a.Ok
  | .rais a => a.Ok
  | .ask n as => NameOk n ∧ AtsOk as
  | .call n as => NameOk n ∧ AtsOk as
  | .test n as y z => NameOk n ∧ AtsOk as ∧ y.Ok ∧ z.Ok
  | .lt x a b => NameOk x ∧ a.Ok ∧ b.Ok
  | .tr a x b => NameOk x ∧ a.Ok ∧ b.Ok
def Ex.kids : Ex → List Ex
  | .test _ _ y z => [y, z]
  | .lt _ a b => [a, b]
  | .tr a _ b => [a, b]
  | _ => []
def Ex.size : Ex → Nat
  | .test _ _ y z => 1 + y.size + z.size
  | .lt _ a b => 1 + a.size + b.size
  | .tr a _ b => 1 + a.size + b.size
  | _ => 1
def Ex.deep : Ex → Nat
  | .test _ _ y z => 1 + max y.deep z.deep
  | .lt _ a b => 1 + max a.deep b.deep
  | .tr a _ b => 1 + max a.deep b.deep
  | _ => 1
section
variable {tag t : Str} {is : List Nat} {m : MS} {r : MM} {ρ : En} {μ : List MO} {xs ys : List D}
theorem cs_hit (hl : ys.length = is.length) : cSeq tag is m r (.tup (.str tag :: ys)) ρ μ = m (setAll ρ is ys) μ := by simp [cSeq, hl, eqB]
theorem cs_len (h : xs.length ≠ is.length + 1) : cSeq tag is m r (.tup xs) ρ μ = r (.tup xs) ρ μ := by simp [cSeq, h]
theorem cs_tag (hl : ys.length = is.length) (h : t ≠ tag) : cSeq tag is m r (.tup (.str t :: ys)) ρ μ = r (.tup (.str t :: ys)) ρ μ := by simp [cSeq, hl, eqB, h]
end
theorem lst_nil {ρ : En} {μ : List MO} : mFz (mLst mNil) ρ μ = .ok (.d (.lst [])) μ := by simp
theorem lst_two {ρ : En} {μ : List MO} {i j : Nat} {x y : D} (h1 : ρ[i]? = some (some (.d x)) := by rfl) (h2 : ρ[j]? = some (some (.d y)) := by rfl) : mFz (mLst (mCons (mVar i) (mCons (mVar j) mNil))) ρ μ = .ok (.d (.lst [x, y])) μ := by simp [h1, h2]
theorem match_eq {ma : ME} {r : MM} {ρ : En} {μ μ1 : List MO} {x : D} (h : ma ρ μ = .ok (.d x) μ1) : mMatch ma r ρ μ = r x ρ μ1 := by simp only [mMatch, h, Res.stm_ok]
theorem at_ty (a : At) : tyD a.d = some "tuple" := by cases a <;> rfl
theorem ex_in {e : Ex} (h : e.Ok) : F_expressions_in [.d e.d] [] = .ok (.d (.lst (e.kids.map Ex.d))) [] := by
  unfold F_expressions_in b_expressions_in
  -- what is no atom
  have past : ∀ {xs : List D} {b2 b3 : MS} {q : SR}, F_is_atom [.d (.tup xs), .d (.str "var")] [] = .ok (.d (.bl false)) [] → b3 [some (.d (.tup xs)), none, none, none, none, none, none, none, none, none] [] = q →
      (mSeq (mIfS (mT (mCall F_is_atom 2 (mCons (mVar 0) (mCons (mC (.str ("var" : Str))) mNil)))) (mRet (mFz (mLst mNil))) mNext)
      (mSeq (mIfS (mNot (mT (mN isiD (mCons (mVar 0) (mCons (mC (.ty "tuple")) mNil))))) (mRet (mC .non)) mNext) b3)) [some (.d (.tup xs)), none, none, none, none, none, none, none, none, none] [] = q := fun {xs b2 b3 q} h1 h2 =>
    (seq_nx (ifs_f (t_eq (call_eq rfl rfl (call2 h1))) rfl)).trans ((seq_nx (ifs_f (not_eq (bl := true) (t_eq (n_eq rfl rfl (isi_eq (t := "tuple") rfl)))) rfl)).trans h2)
  cases e with
  | «at» a => exact fn_rt (seq_rt (ifs_t (t_eq (call_eq rfl rfl (call2 (is_atom_ok h)))) (ret_eq lst_nil))) rfl
  | rais a =>
    refine fn_rt (μ1 := []) (past (b2 := mNext) (is_atom_tag (by decide) (by decide)) ?_) rfl
    rw [match_eq (x := (.tup [.str "raise", a.d])) (μ1 := []) rfl, cs_hit rfl]
    exact ret_eq (if_t (t_eq (call_eq rfl rfl (call2 (is_atom_ok h)))) lst_nil)
  | ask n as =>
    refine fn_rt (μ1 := []) (past (b2 := mNext) (is_atom_no (by simp)) ?_) rfl
    rw [match_eq (x := (.tup [.str "ask", nm n, .tup (as.map At.d)])) (μ1 := []) rfl, cs_len (by simp), cs_hit rfl]
    exact ret_eq (if_t (and_t (t_eq (call_eq rfl rfl (call1 (is_name_ok h.1)))) (t_eq (call_eq rfl rfl (call2 (are_atoms_ok h.2.1 h.2.2))))) lst_nil)
  | call n as =>
    refine fn_rt (μ1 := []) (past (b2 := mNext) (is_atom_no (by simp)) ?_) rfl
    rw [match_eq (x := (.tup [.str "call", nm n, .tup (as.map At.d)])) (μ1 := []) rfl, cs_len (by simp), cs_tag rfl (by decide), cs_hit rfl]
    exact ret_eq (if_t (and_t (t_eq (call_eq rfl rfl (call1 (is_name_ok h.1)))) (t_eq (call_eq rfl rfl (call2 (are_atoms_ok h.2.1 h.2.2))))) lst_nil)
  | test n as y z =>
    refine fn_rt (μ1 := []) (past (b2 := mNext) (is_atom_no (by simp)) ?_) rfl
    rw [match_eq (x := (.tup [.str "test", nm n, .tup (as.map At.d), y.d, z.d])) (μ1 := []) rfl, cs_len (by simp), cs_len (by simp), cs_len (by simp), cs_hit rfl]
    exact ret_eq (if_t (and_t (t_eq (call_eq rfl rfl (call1 (is_name_ok h.1)))) (t_eq (call_eq rfl rfl (call2 (are_atoms_ok h.2.1.1 h.2.1.2))))) lst_two)
  | lt x a b =>
    refine fn_rt (μ1 := []) (past (b2 := mNext) (is_atom_no (by simp)) ?_) rfl
    rw [match_eq (x := (.tup [.str "let", nm x, a.d, b.d])) (μ1 := []) rfl, cs_len (by simp), cs_len (by simp), cs_len (by simp), cs_len (by simp), cs_hit rfl]
    exact ret_eq (if_t (t_eq (call_eq rfl rfl (call1 (is_name_ok h.1)))) lst_two)
  | tr a x b =>
    refine fn_rt (μ1 := []) (past (b2 := mNext) (is_atom_no (by simp)) ?_) rfl
    rw [match_eq (x := (.tup [.str "try", a.d, nm x, b.d])) (μ1 := []) rfl, cs_len (by simp), cs_len (by simp), cs_len (by simp), cs_len (by simp), cs_tag rfl (by decide), cs_hit rfl]
    exact ret_eq (if_t (t_eq (call_eq rfl rfl (call1 (is_name_ok h.1)))) lst_two)
end TT

namespace TT
open PySem L2
variable [TB]
/-! how large a body is -/
def sD (p : Ex × Nat) : D := .tup [p.1.d, .int p.2]
def tot (s : List (Ex × Nat)) : Nat := (s.map fun p => p.1.size).sum
def dm : List (Ex × Nat) → Nat
  | [] => 0
  | p :: s => max (p.2 + p.1.deep - 1) (dm s)
theorem tot_app (a b : List (Ex × Nat)) : tot (a ++ b) = tot a + tot b := by simp [tot]
theorem dm_app : ∀ a b : List (Ex × Nat), dm (a ++ b) = max (dm a) (dm b)
  | [], b => by simp [dm]
  | p :: a, b => by simp only [List.cons_append, dm, dm_app a b]; omega
theorem size_pos (e : Ex) : 1 ≤ e.size := by cases e <;> simp [Ex.size] <;> omega
theorem deep_pos (e : Ex) : 1 ≤ e.deep := by cases e <;> simp [Ex.deep] <;> omega
theorem size_kids (e : Ex) (l : Nat) : e.size = 1 + tot (e.kids.map fun k => (k, l)) := by cases e <;> simp [Ex.size, Ex.kids, tot] <;> omega
theorem deep_kids (e : Ex) (l : Nat) (h : 1 ≤ l) : l + e.deep - 1 = max l (dm (e.kids.map fun k => (k, l + 1))) := by
  cases e <;> simp [Ex.deep, Ex.kids, dm]
  all_goals omega
theorem len_tot : ∀ s : List (Ex × Nat), s.length ≤ tot s
  | [] => by simp [tot]
  | p :: s => by
    have := len_tot s
    have := size_pos p.1
    simp only [tot, List.length_cons, List.map_cons, List.sum_cons] at *
    omega
theorem kids_ok {e : Ex} (h : e.Ok) : ∀ k ∈ e.kids, k.Ok := by
  cases e <;> simp [Ex.kids, Ex.Ok] at h ⊢
  · exact ⟨h.2.2.1, h.2.2.2⟩
  · exact ⟨h.2.1, h.2.2⟩
  · exact ⟨h.2.1, h.2.2⟩
abbrev mCond : MT := (mB (mBin neD (mVar 2) (mFz (mLst mNil))))
noncomputable abbrev mBody (c : Ad) : MS := (mSeq (mAsg (mMut popD (mVar 2) mNil) (gT 2 (gC (gN 5) (gC (gN 6) gE))))
  (mSeq (mAsg (mCallV [( c.fe, 1, F_expressions_in)] 1 (mCons (mVar 5) mNil)) (gN 7))
  (mSeq (mIfS (mB (mBin isN (mVar 7) (mC .non))) (mRet (mC .non)) mNext)
  (mSeq (mAug 3 addI (mC (.int 1)))
  (mSeq (mAsg (mIf (mB (mBin gtI (mVar 6) (mVar 4))) (mVar 6) (mVar 4)) (gN 4))
  (mExpr (mMut extD (mVar 2) (mCons (mFz (mLC (mIt (mVar 7)) (gN 8) mYes (mTup (mCons (mVar 8) (mCons (mBin addD (mVar 6) (mC (.int 1))) mNil))) [8])) mNil))))))))
theorem while_f {n : Nat} {c : MT} {b : MS} {ρ : En} {μ μ1 : List MO} (hc : c ρ μ = .ok false μ1) : whileM (n + 1) c b ρ μ = .nx ρ μ1 := by simp [whileM, hc]
theorem while_t {n : Nat} {c : MT} {b : MS} {ρ ρ2 : En} {μ μ1 μ2 : List MO} (hc : c ρ μ = .ok true μ1) (hb : b ρ μ1 = .nx ρ2 μ2) : whileM (n + 1) c b ρ μ = whileM n c b ρ2 μ2 := by simp only [whileM, hc, Res.stm_ok, if_true, hb]
theorem ne_nil (xs : List D) (h : xs ≠ []) : neD (.lst xs) (.lst []) = some (.bl true) := by
  have : xs.length ≠ 0 := fun q => h (List.length_eq_zero_iff.mp q)
  simp [neD, eqB, this]
theorem ne_nil0 : neD (.lst []) (.lst []) = some (.bl false) := by
  have e : toPy (.lst []) = some (.list []) := rfl
  have s : SeqAt.shaped (.list []) = true := by decide
  simp only [neD, eqB, List.length_nil, if_true, eqL, e, s, and_self, if_true, PyData.eqv, PyData.eqvAll]
  rfl
theorem body_meas (c : Ad) {e : Ex} (he : e.Ok) (s : List (Ex × Nat)) (l k d : Nat) (hl : 1 ≤ l) (hs : s.length ≤ 5000) (b x5 x6 x7 x8 : Option MV) :
    mBody c [b, some (.d (.gl c.fe)), some (.ref 0), some (.d (.int k)), some (.d (.int d)), x5, x6, x7, x8] [.lst ((s ++ [(e, l)]).map sD)] =
      .nx [b, some (.d (.gl c.fe)), some (.ref 0), some (.d (.int ((k + 1 : Nat) : Int))), some (.d (.int ((max d l : Nat) : Int))), some (.d e.d), some (.d (.int l)), some (.d (.lst (e.kids.map Ex.d))), x8] [.lst ((s ++ e.kids.map fun x => (x, l + 1)).map sD)] := by
  have hk2 : e.kids.length ≤ 2 := by cases e <;> simp [Ex.kids]
  have p1 : popD ((s ++ [(e, l)]).map sD) [] = some (.tup [e.d, .int l], s.map sD) := by
    simp [popD, sD]
  have t1 : tblAt [(c.fe, 1, F_expressions_in)] c.fe = some (1, F_expressions_in) := by simp [tblAt]
  have c1 : mCallV [( c.fe, 1, F_expressions_in)] 1 (mCons (mVar 5) mNil) [b, some (.d (.gl c.fe)), some (.ref 0), some (.d (.int k)), some (.d (.int d)), some (.d e.d), some (.d (.int l)), x7, x8] [.lst (s.map sD)] = .ok (.d (.lst (e.kids.map Ex.d))) [.lst (s.map sD)] := by
    have h1 := call1 (μ := [.lst (s.map sD)]) (ex_in he)
    show (match tblAt [(c.fe, 1, F_expressions_in)] c.fe with | some (n, F) => _ | none => _) = _
    rw [t1]
    exact h1
  have m1 : mAsg (mIf (mB (mBin gtI (mVar 6) (mVar 4))) (mVar 6) (mVar 4)) (gN 4) [b, some (.d (.gl c.fe)), some (.ref 0), some (.d (.int ((k + 1 : Nat) : Int))), some (.d (.int d)), some (.d e.d), some (.d (.int l)), some (.d (.lst (e.kids.map Ex.d))), x8] [.lst (s.map sD)] = .nx [b, some (.d (.gl c.fe)), some (.ref 0), some (.d (.int ((k + 1 : Nat) : Int))), some (.d (.int ((max d l : Nat) : Int))), some (.d e.d), some (.d (.int l)), some (.d (.lst (e.kids.map Ex.d))), x8] [.lst (s.map sD)] := by
    by_cases h : d < l
    · have h2 : gtI (.int (l : Int)) (.int (d : Int)) = some (.bl true) := by simp [gtI, intOp, h]
      rw [show max d l = l by omega]
      exact asg_eq (if_t (b_eq (bin_eq rfl rfl rfl rfl h2)) rfl) rfl
    · have h2 : gtI (.int (l : Int)) (.int (d : Int)) = some (.bl false) := by simp [gtI, intOp]; omega
      rw [show max d l = d by omega]
      exact asg_eq (if_f (b_eq (bin_eq rfl rfl rfl rfl h2)) rfl) rfl
  have q1 : mFz (mLC (mIt (mVar 7)) (gN 8) mYes (mTup (mCons (mVar 8) (mCons (mBin addD (mVar 6) (mC (.int 1))) mNil))) [8]) [b, some (.d (.gl c.fe)), some (.ref 0), some (.d (.int ((k + 1 : Nat) : Int))), some (.d (.int ((max d l : Nat) : Int))), some (.d e.d), some (.d (.int l)), some (.d (.lst (e.kids.map Ex.d))), x8] [.lst (s.map sD)] =
      .ok (.d (.lst ((e.kids.map Ex.d).map fun x => .tup [x, .int ((l + 1 : Nat) : Int)]))) [.lst (s.map sD)] := by
    refine lc_eq (q := (e.kids.map Ex.d, none)) (fun x => .tup [x, .int ((l + 1 : Nat) : Int)]) rfl rfl (by rw [List.length_map, sizeLine_eq]; omega) fun x hx => ⟨_, rfl, ?_⟩
    exact tup_eq (cons_eq rfl (cons_eq (bin_eq rfl rfl rfl rfl (show addD (.int l) (.int 1) = some (.int ((l + 1 : Nat) : Int)) by simp)) rfl)) rfl (by simp [sizeLine_eq])
  have q2 : extD (s.map sD) [.lst ((e.kids.map Ex.d).map fun x => .tup [x, .int ((l + 1 : Nat) : Int)])] = some (.non, (s ++ e.kids.map fun x => (x, l + 1)).map sD) := by
    have hz : (s.map sD).length + ((e.kids.map Ex.d).map fun x => D.tup [x, .int ((l + 1 : Nat) : Int)]).length ≤ sizeLine := by simp [sizeLine_eq]; omega
    simp only [extD]
    rw [if_pos hz, List.map_append, List.map_map, List.map_map]
    rfl
  have a1 : mAug 3 addI (mC (.int 1)) [b, some (.d (.gl c.fe)), some (.ref 0), some (.d (.int k)), some (.d (.int d)), some (.d e.d), some (.d (.int l)), some (.d (.lst (e.kids.map Ex.d))), x8] [.lst (s.map sD)] = .nx [b, some (.d (.gl c.fe)), some (.ref 0), some (.d (.int ((k + 1 : Nat) : Int))), some (.d (.int d)), some (.d e.d), some (.d (.int l)), some (.d (.lst (e.kids.map Ex.d))), x8] [.lst (s.map sD)] := by
    simp [mAug]
  have s1 : mAsg (mMut popD (mVar 2) mNil) (gT 2 (gC (gN 5) (gC (gN 6) gE))) [b, some (.d (.gl c.fe)), some (.ref 0), some (.d (.int k)), some (.d (.int d)), x5, x6, x7, x8] [.lst ((s ++ [(e, l)]).map sD)] = .nx [b, some (.d (.gl c.fe)), some (.ref 0), some (.d (.int k)), some (.d (.int d)), some (.d e.d), some (.d (.int l)), x7, x8] [.lst (s.map sD)] :=
    asg_eq (v := .d (.tup [e.d, .int l])) (mut_eq (p := 0) (μ2 := [.lst ((s ++ [(e, l)]).map sD)]) rfl rfl rfl rfl rfl p1) rfl
  unfold mBody
  rw [seq_nx s1, seq_nx (asg_eq (ρ1 := [b, some (.d (.gl c.fe)), some (.ref 0), some (.d (.int k)), some (.d (.int d)), some (.d e.d), some (.d (.int l)), some (.d (.lst (e.kids.map Ex.d))), x8]) c1 rfl),
    seq_nx (ifs_f (b_eq (bin_eq rfl rfl rfl rfl (show isN (.lst (e.kids.map Ex.d)) .non = some (.bl false) from rfl))) (show mNext _ _ = .nx [b, some (.d (.gl c.fe)), some (.ref 0), some (.d (.int k)), some (.d (.int d)), some (.d e.d), some (.d (.int l)), some (.d (.lst (e.kids.map Ex.d))), x8] [.lst (s.map sD)] from rfl)), seq_nx a1, seq_nx m1]
  exact expr_eq (a := .d .non) (mut_eq (p := 0) (μ1 := [.lst (s.map sD)]) (μ2 := [.lst (s.map sD)]) rfl rfl (cons_eq q1 rfl) rfl rfl q2)
theorem while_meas (c : Ad) : ∀ (n : Nat) (s : List (Ex × Nat)), tot s = n → (∀ p ∈ s, p.1.Ok ∧ 1 ≤ p.2) → n ≤ 5000 → ∀ (fuel : Nat), n < fuel → ∀ (k d : Nat) (b x5 x6 x7 x8 : Option MV), ∃ y5 y6 y7 y8,
    whileM fuel mCond (mBody c) [b, some (.d (.gl c.fe)), some (.ref 0), some (.d (.int k)), some (.d (.int d)), x5, x6, x7, x8] [.lst (s.map sD)] = .nx [b, some (.d (.gl c.fe)), some (.ref 0), some (.d (.int ((k + n : Nat) : Int))), some (.d (.int ((max d (dm s) : Nat) : Int))), y5, y6, y7, y8] [.lst []] := by
  intro n
  induction n with
  | zero =>
    intro s hs hok hn fuel hf k d b x5 x6 x7 x8
    have : s = [] := by
      have := len_tot s
      exact List.length_eq_zero_iff.mp (by omega)
    subst this
    obtain ⟨f, rfl⟩ : ∃ f, fuel = f + 1 := ⟨fuel - 1, by omega⟩
    refine ⟨x5, x6, x7, x8, ?_⟩
    have hc : mCond [b, some (.d (.gl c.fe)), some (.ref 0), some (.d (.int k)), some (.d (.int d)), x5, x6, x7, x8] [.lst []] = .ok false [.lst []] := b_eq (bin_eq rfl lst_nil rfl rfl ne_nil0)
    rw [show [].map sD = ([] : List D) from rfl, while_f hc]
    simp [dm]
  | succ n ih =>
    intro s hs hok hn fuel hf k d b x5 x6 x7 x8
    have hne : s ≠ [] := fun q => by subst q; simp [tot] at hs
    obtain ⟨init, p, rfl⟩ : ∃ init p, s = init ++ [p] := ⟨s.dropLast, s.getLast hne, (List.dropLast_concat_getLast hne).symm⟩
    obtain ⟨e, l⟩ := p
    have he := hok (e, l) (by simp)
    obtain ⟨f, rfl⟩ : ∃ f, fuel = f + 1 := ⟨fuel - 1, by omega⟩
    have hlen : init.length ≤ 5000 := by
      have := len_tot (init ++ [(e, l)])
      simp at this
      omega
    have ht : tot (init ++ e.kids.map fun x => (x, l + 1)) = n := by
      have h1 := size_kids e (l + 1)
      rw [tot_app] at hs ⊢
      simp only [tot, List.map_cons, List.map_nil, List.sum_cons, List.sum_nil] at hs h1 ⊢
      omega
    obtain ⟨y5, y6, y7, y8, hw⟩ := ih (init ++ e.kids.map fun x => (x, l + 1)) ht (fun q hq => by
      rcases List.mem_append.mp hq with z | z
      · exact hok q (List.mem_append_left _ z)
      · obtain ⟨x, hx, rfl⟩ := List.mem_map.mp z
        exact ⟨kids_ok he.1 x hx, by simp⟩) (by omega) f (by omega) (k + 1) (max d l) b (some (.d e.d)) (some (.d (.int l))) (some (.d (.lst (e.kids.map Ex.d)))) x8
    refine ⟨y5, y6, y7, y8, ?_⟩
    have hc : mCond [b, some (.d (.gl c.fe)), some (.ref 0), some (.d (.int k)), some (.d (.int d)), x5, x6, x7, x8] [.lst ((init ++ [(e, l)]).map sD)] = .ok true [.lst ((init ++ [(e, l)]).map sD)] := b_eq (bin_eq rfl lst_nil rfl rfl (ne_nil _ (by simp)))
    have hd : max d (dm (init ++ [(e, l)])) = max (max d l) (dm (init ++ e.kids.map fun x => (x, l + 1))) := by
      have h1 := deep_kids e l he.2
      rw [dm_app, dm_app]
      simp only [dm]
      omega
    rw [while_t hc (body_meas c he.1 init l k d he.2 hlen b x5 x6 x7 x8), hw, hd, show k + 1 + n = k + (n + 1) by omega]
theorem measured_ok (c : Ad) {e : Ex} (h : e.Ok) (hs : e.size ≤ 5000) : F_measured c [.d e.d, .d (.gl c.fe)] [] = .ok (.d (.tup [.int e.size, .int e.deep])) [] := by
  unfold F_measured b_measured
  obtain ⟨y5, y6, y7, y8, hw⟩ := while_meas c e.size [(e, 1)] (by simp [tot]) (by simp [h]) hs fuelW (by unfold fuelW; omega) 0 0 (some (.d e.d)) none none none none
  have p1 : mPar3 2 3 4 (mCons (mOwn (mLst (mCons (mTup (mCons (mVar 0) (mCons (mC (.int 1)) mNil))) mNil))) (mCons (mC (.int 0)) (mCons (mC (.int 0)) mNil))) [some (.d e.d), some (.d (.gl c.fe)), none, none, none, none, none, none, none] [] = .nx [some (.d e.d), some (.d (.gl c.fe)), some (.ref 0), some (.d (.int ((0 : Nat) : Int))), some (.d (.int ((0 : Nat) : Int))), none, none, none, none] [.lst ([(e, 1)].map sD)] := by
    simp [sD]
  have hd : max 0 (dm [(e, 1)]) = e.deep := by
    have := deep_pos e
    simp only [dm]
    omega
  rw [hd, Nat.zero_add] at hw
  exact fn_rt ((seq_nx p1).trans ((seq_nx hw).trans (ret_eq (tup_eq rfl rfl (by simp [sizeLine_eq]))))) rfl
end TT

namespace TT
open PySem L2
variable [TB]
/-! rows -/
theorem strs_nm : ∀ l : List (List Nat), strsD (l.map nm) = some (l.map tx)
  | [] => rfl
  | a :: l => by
    show (strsD (l.map nm)).map (tx a :: ·) = _
    rw [strs_nm l]
    rfl
theorem ft_none : ∀ (l seen : List (List Nat)), l.Nodup → (∀ x ∈ l, x ∉ seen) → ftAt (seen.map tx) (l.map tx) = .non
  | [], _, _, _ => rfl
  | a :: l, seen, h, hd => by
    rw [List.map_cons, ft_cons, if_neg]
    · have := ft_none l (a :: seen) (List.nodup_cons.mp h).2 fun x hx q => by
        rcases List.mem_cons.mp q with z | z
        · subst z; exact (List.nodup_cons.mp h).1 hx
        · exact hd x (List.mem_cons_of_mem _ hx) z
      simpa using this
    · intro q
      obtain ⟨y, h1, h2⟩ := List.mem_map.mp q
      rw [tx_inj h2] at h1
      exact hd a List.mem_cons_self h1
theorem ft_tup {l : List (List Nat)} (hl : l.length < 4000) : F_first_twice [.d (.tup (l.map nm))] [] = .ok (.d (ftAt [] (l.map tx))) [] := by
  show ftD _ _ = _
  simp [ftD, itemsD, strs_nm, hl]
theorem ft_lst {l : List (List Nat)} (hl : l.length < 4000) : F_first_twice [.d (.lst (l.map nm))] [] = .ok (.d (ftAt [] (l.map tx))) [] := by
  show ftD _ _ = _
  simp [ftD, itemsD, strs_nm, hl]
structure Row where
  (n : List Nat) (ps : List (List Nat)) (e : Ex)
def Row.d (r : Row) : D := .tup [nm r.n, .tup (r.ps.map nm), r.e.d]
structure Row.Ok (r : Row) : Prop where
  n : NameOk r.n
  ps : ∀ p ∈ r.ps, NameOk p
  len : r.ps.length ≤ 4
  nd : r.ps.Nodup
  e : r.e.Ok
  size : r.e.size ≤ 5000
theorem is_function_ok (c : Ad) {r : Row} (h : r.Ok) : F_is_function c [.d r.d] [] = .ok (.d (.bl true)) [] := by
  unfold F_is_function b_is_function
  have c1 : (mOr (mNot (mT (mN isiD (mCons (mVar 0) (mCons (mC (.ty "tuple")) mNil))))) (mOr (mB (mBin neD (mN (one lenD) (mCons (mVar 0) mNil)) (mC (.int 3)))) (mNot (mT (mCall F_is_name 1 (mCons (mBin ixD (mVar 0) (mC (.int 0))) mNil)))))) [some (.d r.d), none, none] [] = .ok false [] :=
    or_f (not_eq (bl := true) (t_eq (n_eq rfl rfl (isi_eq (t := "tuple") rfl)))) (or_f (b_eq (bin_eq (n_eq (hn := one lenD) rfl rfl rfl) rfl rfl rfl rfl)) (not_eq (bl := true) (t_eq (call_eq (cons_eq (bin_eq rfl rfl rfl rfl rfl) rfl) rfl (call1 (is_name_ok h.n))))))
  have a1 : mAsg (mBin ixD (mVar 0) (mC (.int 1))) (gN 1) [some (.d r.d), none, none] [] = .nx [some (.d r.d), some (.d (.tup (r.ps.map nm))), none] [] := asg_eq (v := .d (.tup (r.ps.map nm))) (bin_eq rfl rfl rfl rfl rfl) rfl
  have c2 : (mOr (mNot (mT (mN isiD (mCons (mVar 1) (mCons (mC (.ty "tuple")) mNil))))) (mB (mBin gtI (mN (one lenD) (mCons (mVar 1) mNil)) (mC (.int 4))))) [some (.d r.d), some (.d (.tup (r.ps.map nm))), none] [] = .ok false [] := by
    have hg : gtI (.int ((r.ps.map nm).length : Nat)) (.int 4) = some (.bl false) := by
      have := h.len
      simp [gtI, intOp]
      omega
    exact or_f (not_eq (bl := true) (t_eq (n_eq rfl rfl (isi_eq (t := "tuple") rfl)))) (b_eq (bin_eq (n_eq (hn := one lenD) rfl rfl rfl) rfl rfl rfl hg))
  have c3 : (mOr (mNot (mT (mN (one allD) (mCons (mFz (mLC (mIt (mVar 1)) (gN 2) mYes (mCall F_is_name 1 (mCons (mVar 2) mNil)) [2])) mNil)))) (mB (mBin notN (mCall F_first_twice 1 (mCons (mVar 1) mNil)) (mC .non)))) [some (.d r.d), some (.d (.tup (r.ps.map nm))), none] [] = .ok false [] := by
    have q1 : mFz (mLC (mIt (mVar 1)) (gN 2) mYes (mCall F_is_name 1 (mCons (mVar 2) mNil)) [2]) [some (.d r.d), some (.d (.tup (r.ps.map nm))), none] [] = .ok (.d (.lst ((r.ps.map nm).map fun _ => .bl true))) [] := by
      refine lc_eq (q := (r.ps.map nm, none)) (fun _ => .bl true) rfl rfl (by rw [List.length_map, sizeLine_eq]; have := h.len; omega) fun x hx => ?_
      obtain ⟨p, hp, rfl⟩ := List.mem_map.mp hx
      exact ⟨_, rfl, call_eq rfl rfl (call1 (is_name_ok (h.ps p hp)))⟩
    have q2 : one allD [.lst ((r.ps.map nm).map fun _ => D.bl true)] = some (.bl true) := by
      have := bools_true (xs := (r.ps.map nm).map fun _ => D.bl true) (fun x hx => by obtain ⟨_, _, rfl⟩ := List.mem_map.mp hx; rfl)
      simp only [one, allD, this, Option.map_some]
      simp
    have q3 := ft_tup (l := r.ps) (by have := h.len; omega)
    have q4 := ft_none r.ps [] h.nd (fun x _ q => by cases q)
    rw [show ([] : List (List Nat)).map tx = [] from rfl] at q4
    rw [q4] at q3
    exact or_f (not_eq (bl := true) (t_eq (n_eq (cons_eq q1 rfl) rfl q2))) (b_eq (bin_eq (call_eq rfl rfl (call1 q3)) rfl rfl rfl rfl))
  exact fn_rt ((seq_nx (ifs_f c1 rfl)).trans ((seq_nx a1).trans ((seq_nx (ifs_f c2 rfl)).trans ((seq_nx (ifs_f c3 rfl)).trans (ret_eq (bin_eq (call_eq (cons_eq (bin_eq rfl rfl rfl rfl rfl) rfl) rfl (call2 (measured_ok c h.e h.size))) rfl rfl rfl rfl)))))) rfl
end TT

namespace TT
open PySem L2
variable [TB]
/-! loops that may end early -/
def SR.isEnd : SR → Prop
  | .rt _ _ => True
  | .exc _ _ _ _ => True
  | _ => False
theorem for_scan {q : List D × Option Nat} {g : MG} {b : MS} {μ : List MO} (hq : q.2 = none) (Inv : En → Prop) (R : D → SR → Prop) : ∀ (xs : List D) (ρ : En), Inv ρ →
    (∀ x ρ, x ∈ xs → Inv ρ → ∃ ρ1, g (.d x) ρ = some ρ1 ∧ ((∃ r, r.isEnd ∧ b ρ1 μ = r ∧ R x r) ∨ ((∀ r, ¬ R x r) ∧ ∃ ρ2, b ρ1 μ = .nx ρ2 μ ∧ Inv ρ2))) →
    (∃ (pre post : List D) (x : D) (r : SR), xs = pre ++ x :: post ∧ (∀ y ∈ pre, ∀ r, ¬ R y r) ∧ R x r ∧ r.isEnd ∧ forD q g b xs ρ μ = r) ∨ (∃ ρ', Inv ρ' ∧ (∀ x ∈ xs, ∀ r, ¬ R x r) ∧ forD q g b xs ρ μ = .nx ρ' μ)
  | [], ρ, h, _ => .inr ⟨ρ, h, (fun x hx => by cases hx), by unfold forD chk; rw [hq]; rfl⟩
  | x :: xs, ρ, h, s => by
    obtain ⟨ρ1, h1, h2⟩ := s x ρ List.mem_cons_self h
    rcases h2 with ⟨r, he, h3, h4⟩ | ⟨hn, ρ2, h3, h4⟩
    · refine .inl ⟨[], xs, x, r, rfl, (fun y hy => by cases hy), h4, he, ?_⟩
      unfold forD chk
      rw [hq, h1]
      simp only [if_true, h3]
      cases r <;> first | rfl | exact he.elim
    · have step : forD q g b (x :: xs) ρ μ = forD q g b xs ρ2 μ := by
        rw [forD]
        unfold chk
        rw [hq, h1]
        simp only [if_true, h3]
      rcases for_scan hq Inv R xs ρ2 h4 fun y ρ hy => s y ρ (List.mem_cons_of_mem _ hy) with ⟨pre, post, y, r, e1, e2, e3, e4, e5⟩ | ⟨ρ', e1, e2, e3⟩
      · refine .inl ⟨x :: pre, post, y, r, by rw [e1]; rfl, fun z hz => ?_, e3, e4, step.trans e5⟩
        rcases List.mem_cons.mp hz with q | q
        · rw [q]; exact hn
        · exact e2 z q
      · refine .inr ⟨ρ', e1, fun z hz => ?_, step.trans e3⟩
        rcases List.mem_cons.mp hz with q | q
        · rw [q]; exact hn
        · exact e2 z q
theorem rng3_eq {μ : List MO} (j : Int) (h0 : -1 ≤ j) (h1 : j < 1000000) : rng3 [.d (.int j), .d (.int (-1)), .d (.int (-1))] μ = .ok (downD j (j + 1).toNat, none) μ := by
  have hb : (-1 : Int) = -1 ∧ -(2 ^ 62) ≤ j ∧ j < 2 ^ 62 ∧ -(2 ^ 62) ≤ (-1 : Int) ∧ (-1 : Int) < 2 ^ 62 := by
    refine ⟨rfl, ?_, ?_, ?_, ?_⟩ <;> omega
  unfold rng3
  show (if _ then _ else _) = _
  rw [if_pos hb, show j - -1 = j + 1 by omega]
/-- the place of a name in a scope; below nothing if it is not there -/
theorem level_ok (x : List Nat) (sc : List (List Nat)) (hl : sc.length ≤ 1000) : ∃ v : Int, F_level_of [.d (nm x), .d (.lst (sc.map nm))] [] = .ok (.d (.int v)) [] ∧ (v < 0 ↔ x ∉ sc) := by
  unfold F_level_of b_level_of
  have hi : mItA rng3 (mCons (mBin subD (mN (one lenD) (mCons (mVar 1) mNil)) (mC (.int 1))) (mCons (mUn negD (mC (.int 1))) (mCons (mUn negD (mC (.int 1))) mNil))) [some (.d (nm x)), some (.d (.lst (sc.map nm))), none] [] = .ok (downD (sc.length - 1) sc.length, none) [] := by
    unfold mItA
    rw [cons_eq (a := .d (.int (sc.length - 1))) (as := [.d (.int (-1)), .d (.int (-1))]) (μ1 := []) (μ2 := []) (bin_eq (n_eq (hn := one lenD) rfl rfl rfl) rfl rfl rfl (by simp)) (by simp)]
    have := rng3_eq (μ := []) ((sc.length : Int) - 1) (by omega) (by omega)
    rw [show ((sc.length : Int) - 1 + 1).toNat = sc.length by omega] at this
    exact this
  have scan := for_scan (q := (downD (sc.length - 1) sc.length, none)) (g := gN 2) (b := (mIfS (mB (mBin eqD (mBin ixD (mVar 1) (mVar 2)) (mVar 0))) (mRet (mVar 2)) mNext)) (μ := []) rfl
    (fun ρ => ∃ z, ρ = [some (.d (nm x)), some (.d (.lst (sc.map nm))), z]) (fun d r => ∃ k : Nat, d = .int k ∧ sc[k]? = some x ∧ r = .rt (.d (.int k)) []) (downD (sc.length - 1) sc.length) [some (.d (nm x)), some (.d (.lst (sc.map nm))), none] ⟨none, rfl⟩ (by
      rintro d ρ hd ⟨z, rfl⟩
      simp only [downD, List.mem_map, List.mem_range] at hd
      obtain ⟨i, hi, rfl⟩ := hd
      obtain ⟨k, hk⟩ : ∃ k : Nat, (sc.length : Int) - 1 + i * -1 = k := ⟨sc.length - 1 - i, by omega⟩
      have hk2 : k < sc.length := by omega
      rw [hk]
      refine ⟨[some (.d (nm x)), some (.d (.lst (sc.map nm))), some (.d (.int k))], rfl, ?_⟩
      have hix : ixD (.lst (sc.map nm)) (.int k) = some (nm sc[k]) := by simp [hk2]
      by_cases e : sc[k] = x
      · refine .inl ⟨.rt (.d (.int k)) [], True.intro, ?_, k, rfl, by rw [List.getElem?_eq_getElem hk2, e], rfl⟩
        rw [e] at hix
        exact ifs_t (b_eq (bin_eq (bin_eq rfl rfl rfl rfl hix) rfl rfl rfl (eq_t _))) rfl
      · refine .inr ⟨fun r ⟨k', h1, h2, _⟩ => ?_, [some (.d (nm x)), some (.d (.lst (sc.map nm))), some (.d (.int k))], ?_, _, rfl⟩
        · have : (k : Int) = k' := by injection h1
          have : k = k' := by omega
          subst this
          rw [List.getElem?_eq_getElem hk2] at h2
          exact e (Option.some.inj h2)
        · exact ifs_f (b_eq (bin_eq (bin_eq rfl rfl rfl rfl hix) rfl rfl rfl (eq_f fun q => e (tx_inj q)))) rfl)
  rcases scan with ⟨pre, post, y, r, e1, e2, ⟨k, rfl, h2, rfl⟩, e4, e5⟩ | ⟨ρ', ⟨z, rfl⟩, e2, e3⟩
  · refine ⟨k, fn_rt (μ1 := []) (seq_rt (for_eq hi e5)) rfl, ?_⟩
    have : x ∈ sc := List.mem_of_getElem? h2
    constructor
    · intro q; omega
    · intro q; exact (q this).elim
  · refine ⟨-1, fn_rt (μ1 := []) ((seq_nx (for_eq hi e3)).trans (ret_eq (by simp))) rfl, ?_⟩
    constructor
    · intro _ hx
      obtain ⟨k, hk, e⟩ := List.mem_iff_getElem.mp hx
      refine e2 (.int k) ?_ _ ⟨k, rfl, by rw [List.getElem?_eq_getElem hk, e], rfl⟩
      simp only [downD, List.mem_map, List.mem_range]
      exact ⟨sc.length - 1 - k, by omega, by congr 1; omega⟩
    · intro _; omega
end TT

namespace TT
open PySem L2
variable [TB]
def Ex.atoms : Ex → List At
  | .at a => [a]
  | .rais a => [a]
  | .ask _ as => as
  | .call _ as => as
  | .test _ as _ _ => as
  | _ => []
theorem tup1 {ρ : En} {μ : List MO} {i : Nat} {x : D} (h : ρ[i]? = some (some (.d x)) := by rfl) : mTup (mCons (mVar i) mNil) ρ μ = .ok (.d (.tup [x])) μ := by simp [h]
theorem tup2 {ρ : En} {μ : List MO} {i j : Nat} {x y : D} (h1 : ρ[i]? = some (some (.d x)) := by rfl) (h2 : ρ[j]? = some (some (.d y)) := by rfl) : mTup (mCons (mVar i) (mCons (mVar j) mNil)) ρ μ = .ok (.d (.tup [x, y])) μ := by simp [h1, h2]
theorem atoms_ok (e : Ex) : F_atoms_of [.d e.d] [] = .ok (.d (.tup (e.atoms.map At.d))) [] := by
  unfold F_atoms_of b_atoms_of
  cases e with
  | «at» a =>
    cases a with
    | num i =>
      refine fn_rt (μ1 := []) ?_ rfl
      rw [match_eq (x := .tup [.str "num", .int i]) (μ1 := []) rfl, cs_hit rfl]
      exact ret_eq tup1
    | var x =>
      refine fn_rt (μ1 := []) ?_ rfl
      rw [match_eq (x := .tup [.str "var", nm x]) (μ1 := []) rfl, cs_tag rfl (by decide), cs_hit rfl]
      exact ret_eq tup1
  | rais a =>
    refine fn_rt (μ1 := []) ?_ rfl
    rw [match_eq (x := .tup [.str "raise", a.d]) (μ1 := []) rfl, cs_tag rfl (by decide), cs_tag rfl (by decide), cs_hit rfl]
    exact ret_eq tup1
  | ask n as =>
    refine fn_rt (μ1 := []) ?_ rfl
    rw [match_eq (x := .tup [.str "ask", nm n, .tup (as.map At.d)]) (μ1 := []) rfl, cs_len (by simp), cs_len (by simp), cs_len (by simp), cs_hit rfl]
    exact ret_eq rfl
  | call n as =>
    refine fn_rt (μ1 := []) ?_ rfl
    rw [match_eq (x := .tup [.str "call", nm n, .tup (as.map At.d)]) (μ1 := []) rfl, cs_len (by simp), cs_len (by simp), cs_len (by simp), cs_tag rfl (by decide), cs_hit rfl]
    exact ret_eq rfl
  | test n as y z =>
    refine fn_rt (μ1 := []) ?_ rfl
    rw [match_eq (x := .tup [.str "test", nm n, .tup (as.map At.d), y.d, z.d]) (μ1 := []) rfl, cs_len (by simp), cs_len (by simp), cs_len (by simp), cs_len (by simp), cs_len (by simp), cs_hit rfl]
    exact ret_eq rfl
  | lt x a b =>
    refine fn_rt (μ1 := []) ?_ rfl
    rw [match_eq (x := .tup [.str "let", nm x, a.d, b.d]) (μ1 := []) rfl, cs_len (by simp), cs_len (by simp), cs_len (by simp), cs_len (by simp), cs_len (by simp), cs_len (by simp)]
    exact ret_eq (by simp [Ex.atoms])
  | tr a x b =>
    refine fn_rt (μ1 := []) ?_ rfl
    rw [match_eq (x := .tup [.str "try", a.d, nm x, b.d]) (μ1 := []) rfl, cs_len (by simp), cs_len (by simp), cs_len (by simp), cs_len (by simp), cs_len (by simp), cs_len (by simp)]
    exact ret_eq (by simp [Ex.atoms])
abbrev Scp := List (List Nat)
def Ex.parts (e : Ex) (sc : Scp) : List (Ex × Scp) := match e with
  | .test _ _ y z => [(y, sc), (z, sc)]
  | .lt x a b => [(a, sc), (b, sc ++ [x])]
  | .tr a x b => [(a, sc), (b, sc ++ [x])]
  | _ => []
def pD (p : Ex × Scp) : D := .tup [p.1.d, .lst (p.2.map nm)]
theorem lst2 {ρ : En} {μ : List MO} {ma mb : ME} {x y : D} (h1 : ma ρ μ = .ok (.d x) μ) (h2 : mb ρ μ = .ok (.d y) μ) : mFz (mLst (mCons ma (mCons mb mNil))) ρ μ = .ok (.d (.lst [x, y])) μ := by simp [h1, h2]
theorem tupA {ρ : En} {μ : List MO} {i : Nat} {mb : ME} {x y : D} (h2 : mb ρ μ = .ok (.d y) μ) (h1 : ρ[i]? = some (some (.d x)) := by rfl) : mTup (mCons (mVar i) (mCons mb mNil)) ρ μ = .ok (.d (.tup [x, y])) μ := by simp [h1, h2]
theorem sc_add {ρ : En} {μ : List MO} {i j : Nat} {sc : Scp} {x : List Nat} (hl : sc.length ≤ 10000) (h1 : ρ[i]? = some (some (.d (.lst (sc.map nm)))) := by rfl) (h2 : ρ[j]? = some (some (.d (nm x))) := by rfl) : mBin addD (mVar i) (mFz (mLst (mCons (mVar j) mNil))) ρ μ = .ok (.d (.lst ((sc ++ [x]).map nm))) μ := by
  have e : addD (.lst (sc.map nm)) (.lst [nm x]) = some (.lst ((sc ++ [x]).map nm)) := by
    have : (sc.map nm).length + [nm x].length ≤ sizeLine := by rw [List.length_map, sizeLine_eq]; simp; omega
    rw [addD_lst this, List.map_append]; rfl
  exact bin_eq (a := .d (.lst (sc.map nm))) (μ1 := μ) (by simp [h1]) (lst_eq (as := [.d (nm x)]) (xs := [nm x]) (μ1 := μ) (by simp [h2]) rfl (by simp [sizeLine_eq])) rfl rfl e
theorem parts_ok (e : Ex) (sc : Scp) (hl : sc.length ≤ 10000) : F_parts_in_scope [.d e.d, .d (.lst (sc.map nm))] [] = .ok (.d (.lst ((e.parts sc).map pD))) [] := by
  unfold F_parts_in_scope b_parts_in_scope
  cases e with
  | «at» a =>
    cases a with
    | num i =>
      refine fn_rt (μ1 := []) ?_ rfl
      rw [match_eq (x := .tup [.str "num", .int i]) (μ1 := []) rfl, cs_len (by simp), cs_len (by simp), cs_len (by simp)]
      exact ret_eq lst_nil
    | var x =>
      refine fn_rt (μ1 := []) ?_ rfl
      rw [match_eq (x := .tup [.str "var", nm x]) (μ1 := []) rfl, cs_len (by simp), cs_len (by simp), cs_len (by simp)]
      exact ret_eq lst_nil
  | rais a =>
    refine fn_rt (μ1 := []) ?_ rfl
    rw [match_eq (x := .tup [.str "raise", a.d]) (μ1 := []) rfl, cs_len (by simp), cs_len (by simp), cs_len (by simp)]
    exact ret_eq lst_nil
  | ask n as =>
    refine fn_rt (μ1 := []) ?_ rfl
    rw [match_eq (x := .tup [.str "ask", nm n, .tup (as.map At.d)]) (μ1 := []) rfl, cs_len (by simp), cs_len (by simp), cs_len (by simp)]
    exact ret_eq lst_nil
  | call n as =>
    refine fn_rt (μ1 := []) ?_ rfl
    rw [match_eq (x := .tup [.str "call", nm n, .tup (as.map At.d)]) (μ1 := []) rfl, cs_len (by simp), cs_len (by simp), cs_len (by simp)]
    exact ret_eq lst_nil
  | test n as y z =>
    refine fn_rt (μ1 := []) ?_ rfl
    rw [match_eq (x := .tup [.str "test", nm n, .tup (as.map At.d), y.d, z.d]) (μ1 := []) rfl, cs_hit rfl]
    exact ret_eq (lst2 tup2 tup2)
  | lt x a b =>
    refine fn_rt (μ1 := []) ?_ rfl
    rw [match_eq (x := .tup [.str "let", nm x, a.d, b.d]) (μ1 := []) rfl, cs_len (by simp), cs_hit rfl]
    exact ret_eq (lst2 tup2 (tupA (sc_add hl)))
  | tr a x b =>
    refine fn_rt (μ1 := []) ?_ rfl
    rw [match_eq (x := .tup [.str "try", a.d, nm x, b.d]) (μ1 := []) rfl, cs_len (by simp), cs_tag rfl (by decide), cs_hit rfl]
    exact ret_eq (lst2 tup2 (tupA (sc_add hl)))
end TT

namespace TT
open PySem L2
variable [TB]
/-! names and numbers of arguments -/
inductive Er where
  | unk (n : List Nat) | ar (n : List Nat) (g : Nat) | unb (x : List Nat)
def Er.at (c : Ad) : Er → Addr
  | .unk _ => c.unk
  | .ar _ _ => c.ar
  | .unb _ => c.unb
def Er.fs : Er → List (Str × D)
  | .unk n => [("name", nm n)]
  | .ar n g => [("given", .int g), ("name", nm n)]
  | .unb x => [("name", nm x)]
abbrev Ars := List (List Nat × Nat)
def arK (ars : Ars) : List (Key × D) := ars.map fun p => (.inr (tx p.1), .int p.2)
def findA (ars : Ars) (n : List Nat) : Option Nat := match ars with
  | [] => none
  | p :: r => if p.1 = n then some p.2 else findA r n
theorem val_ars (n : List Nat) : ∀ ars : Ars, valD (arK ars) (.inr (tx n)) = (findA ars n).map fun k => .int k
  | [] => rfl
  | p :: r => by
    show (if (Sum.inr (tx p.1) : Key) = Sum.inr (tx n) then some (D.int p.2) else valD (arK r) (.inr (tx n))) = _
    unfold findA
    by_cases h : p.1 = n
    · rw [if_pos (by rw [h]), if_pos h]; rfl
    · rw [if_neg (fun q => h (tx_inj (Sum.inr.inj q))), if_neg h, val_ars n r]
def unbA (sc : Scp) : List At → Option (List Nat)
  | [] => none
  | .num _ :: r => unbA sc r
  | .var x :: r => if x ∈ sc then unbA sc r else some x
def here (ars : Ars) (e : Ex) (sc : Scp) : Option Er := match e with
  | .call n as => match findA ars n with
    | none => some (.unk n)
    | some k => if k = as.length then (unbA sc as).map .unb else some (.ar n as.length)
  | e => (unbA sc e.atoms).map .unb
def Ex.tag : Ex → Str
  | .at (.num _) => "num"
  | .at (.var _) => "var"
  | .rais _ => "raise"
  | .ask _ _ => "ask"
  | .call _ _ => "call"
  | .test _ _ _ _ => "test"
  | .lt _ _ _ => "let"
  | .tr _ _ _ => "try"
theorem tag_ix (e : Ex) : ixD e.d (.int 0) = some (.str e.tag) := by
  cases e with
  | «at» a => cases a <;> rfl
  | _ => rfl
def Ex.isCall : Ex → Bool
  | .call _ _ => true
  | _ => false
theorem tag_call {e : Ex} (h : e.isCall = false) : e.tag ≠ ("call" : Str) := by
  cases e with
  | «at» a => cases a <;> (simp only [Ex.tag]; decide)
  | call n as => cases h
  | _ => simp only [Ex.tag]; decide
theorem here_not {ars : Ars} {e : Ex} {sc : Scp} (h : e.isCall = false) : here ars e sc = (unbA sc e.atoms).map .unb := by
  cases e <;> first | rfl | cases h
noncomputable abbrev atomBody (c : Ad) : MS := (mIfS (mAnd (mB (mBin eqD (mBin ixD (mVar 6) (mC (.int 0))) (mC (.str ("var" : Str))))) (mB (mBin ltI (mCall F_level_of 2 (mCons (mBin ixD (mVar 6) (mC (.int 1))) (mCons (mVar 5) mNil))) (mC (.int 0))))) (mRaise c.unb ["name"] (mCons (mBin ixD (mVar 6) (mC (.int 1))) mNil)) mNext)
theorem atom_scan (c : Ad) (sc : Scp) (hsc : sc.length ≤ 1000) (v0 v1 v2 v3 v4 : Option MV) (μ : List MO) (q : List D × Option Nat) (hq : q.2 = none) : ∀ (as : List At) (z : Option MV), ∃ y,
    forD q (gN 6) (atomBody c) (as.map At.d) [v0, v1, v2, v3, v4, some (.d (.lst (sc.map nm))), z] μ = match unbA sc as with
      | none => .nx [v0, v1, v2, v3, v4, some (.d (.lst (sc.map nm))), y] μ
      | some x => .exc c.unb [("name", nm x)] [v0, v1, v2, v3, v4, some (.d (.lst (sc.map nm))), y] μ
  | [], z => ⟨z, by show forD q _ _ [] _ _ = _; unfold forD chk; rw [hq]; rfl⟩
  | a :: as, z => by
    obtain ⟨y, ih⟩ := atom_scan c sc hsc v0 v1 v2 v3 v4 μ q hq as (some (.d a.d))
    have step : ∀ {r : SR}, atomBody c [v0, v1, v2, v3, v4, some (.d (.lst (sc.map nm))), some (.d a.d)] μ = r → forD q (gN 6) (atomBody c) ((a :: as).map At.d) [v0, v1, v2, v3, v4, some (.d (.lst (sc.map nm))), z] μ = (match r with
      | .nx ρ2 μ2 => forD q (gN 6) (atomBody c) (as.map At.d) ρ2 μ2
      | .ct ρ2 μ2 => forD q (gN 6) (atomBody c) (as.map At.d) ρ2 μ2
      | .bk ρ2 μ2 => .nx ρ2 μ2
      | r => r) := fun {r} h => by
      show forD q _ _ (a.d :: as.map At.d) _ _ = _
      rw [forD]
      unfold chk
      rw [hq]
      show (if true = true then (match atomBody c [v0, v1, v2, v3, v4, some (.d (.lst (sc.map nm))), some (.d a.d)] μ with
        | .nx ρ2 μ2 => _ | .ct ρ2 μ2 => _ | .bk ρ2 μ2 => _ | r => r) else _) = _
      rw [h]
      rfl
    cases a with
    | num i =>
      refine ⟨y, (step (ifs_f (and_f (b_eq (bin_eq (bin_eq rfl rfl rfl rfl rfl) rfl rfl rfl (eq_f (by decide))))) rfl)).trans ih⟩
    | var x =>
      obtain ⟨v, hv, hlt⟩ := level_ok x sc hsc
      have hc : (mB (mBin ltI (mCall F_level_of 2 (mCons (mBin ixD (mVar 6) (mC (.int 1))) (mCons (mVar 5) mNil))) (mC (.int 0)))) [v0, v1, v2, v3, v4, some (.d (.lst (sc.map nm))), some (.d (At.var x).d)] μ = .ok (decide (v < 0)) μ :=
        b_eq (bin_eq (call_eq (cons_eq (bin_eq rfl rfl rfl rfl rfl) rfl) rfl (call2 hv)) rfl rfl rfl rfl)
      by_cases hx : x ∈ sc
      · have : ¬ v < 0 := fun q => hlt.mp q hx
        rw [decide_eq_false this] at hc
        refine ⟨y, ?_⟩
        show _ = match (if x ∈ sc then unbA sc as else some x) with | none => _ | some x => _
        rw [if_pos hx]
        exact (step (ifs_f (and_t (b_eq (bin_eq (bin_eq rfl rfl rfl rfl rfl) rfl rfl rfl (eq_t _))) hc) rfl)).trans ih
      · have : v < 0 := hlt.mpr hx
        rw [decide_eq_true this] at hc
        refine ⟨some (.d (At.var x).d), ?_⟩
        show _ = match (if x ∈ sc then unbA sc as else some x) with | none => _ | some x => _
        rw [if_neg hx]
        have hr : mRaise c.unb ["name"] (mCons (mBin ixD (mVar 6) (mC (.int 1))) mNil) [v0, v1, v2, v3, v4, some (.d (.lst (sc.map nm))), some (.d (At.var x).d)] μ = .exc c.unb [("name", nm x)] [v0, v1, v2, v3, v4, some (.d (.lst (sc.map nm))), some (.d (At.var x).d)] μ := by
          simp [mRaise, mkX, At.d]
        exact (step (ifs_t (and_t (b_eq (bin_eq (bin_eq rfl rfl rfl rfl rfl) rfl rfl rfl (eq_t _))) hc) hr)).trans rfl
end TT

namespace TT
open PySem L2
variable [TB]
abbrev isC : MT := (mB (mBin eqD (mBin ixD (mVar 4) (mC (.int 0))) (mC (.str ("call" : Str)))))
abbrev lk1 (c : Ad) : MS := (mIfS (mAnd isC (mB (mBin (inK true) (mBin ixD (mVar 4) (mC (.int 1))) (mVar 2)))) (mRaise c.unk ["name"] (mCons (mBin ixD (mVar 4) (mC (.int 1))) mNil)) mNext)
abbrev lk2 (c : Ad) : MS := (mIfS (mAnd isC (mB (mBin neD (mBin getK (mVar 2) (mBin ixD (mVar 4) (mC (.int 1)))) (mN (one lenD) (mCons (mBin ixD (mVar 4) (mC (.int 2))) mNil))))) (mRaise c.ar ["name", "given"] (mCons (mBin ixD (mVar 4) (mC (.int 1))) (mCons (mN (one lenD) (mCons (mBin ixD (mVar 4) (mC (.int 2))) mNil)) mNil))) mNext)
noncomputable abbrev lkBody (c : Ad) : MS := (mSeq (mAsg (mMut popD (mVar 3) mNil) (gT 2 (gC (gN 4) (gC (gN 5) gE))))
  (mSeq (lk1 c) (mSeq (lk2 c) (mSeq (mFor (mIt (mCall F_atoms_of 1 (mCons (mVar 4) mNil))) (gN 6) (atomBody c))
  (mExpr (mMut extD (mVar 3) (mCons (mUn revD (mCall F_parts_in_scope 2 (mCons (mVar 4) (mCons (mVar 5) mNil)))) mNil)))))))
section
variable (c : Ad) (ars : Ars) (e : Ex) (sc : Scp) (v0 v1 z : Option MV) (μ : List MO)
abbrev rho (ars : Ars) (e : Ex) (sc : Scp) (v0 v1 z : Option MV) : En := [v0, v1, some (.d (.dK (arK ars))), some (.ref 0), some (.d e.d), some (.d (.lst (sc.map nm))), z]
theorem lk_no (h : e.isCall = false) : lk1 c (rho ars e sc v0 v1 z) μ = .nx (rho ars e sc v0 v1 z) μ ∧ lk2 c (rho ars e sc v0 v1 z) μ = .nx (rho ars e sc v0 v1 z) μ := by
  have hA : isC (rho ars e sc v0 v1 z) μ = .ok false μ := b_eq (bin_eq (bin_eq rfl rfl rfl rfl (tag_ix e)) rfl rfl rfl (eq_f (tag_call h)))
  exact ⟨ifs_f (and_f hA) rfl, ifs_f (and_f hA) rfl⟩
theorem lk1_call (n : List Nat) (as : List At) : lk1 c (rho ars (.call n as) sc v0 v1 z) μ = if (findA ars n).isSome then .nx (rho ars (.call n as) sc v0 v1 z) μ else .exc c.unk [("name", nm n)] (rho ars (.call n as) sc v0 v1 z) μ := by
  have hA : isC (rho ars (.call n as) sc v0 v1 z) μ = .ok true μ := b_eq (bin_eq (bin_eq rfl rfl rfl rfl rfl) rfl rfl rfl (eq_t _))
  have hk : inK true (nm n) (.dK (arK ars)) = some (.bl (!(findA ars n).isSome)) := by
    show some (D.bl (if true = true then !(valD (arK ars) (.inr (tx n))).isSome else _)) = _
    rw [val_ars, if_pos rfl, Option.isSome_map]
  have hb : (mB (mBin (inK true) (mBin ixD (mVar 4) (mC (.int 1))) (mVar 2))) (rho ars (.call n as) sc v0 v1 z) μ = .ok (!(findA ars n).isSome) μ := b_eq (bin_eq (bin_eq rfl rfl rfl rfl rfl) rfl rfl rfl hk)
  cases hf : (findA ars n).isSome with
  | true =>
    rw [hf] at hb
    exact ifs_f (and_t hA hb) rfl
  | false =>
    rw [hf] at hb
    rw [if_neg (by decide)]
    exact ifs_t (and_t hA hb) (by simp [mRaise, mkX, Ex.d, nm])
theorem lk2_call (n : List Nat) (as : List At) (k : Nat) (hk : findA ars n = some k) : lk2 c (rho ars (.call n as) sc v0 v1 z) μ = if k = as.length then .nx (rho ars (.call n as) sc v0 v1 z) μ else .exc c.ar [("given", .int as.length), ("name", nm n)] (rho ars (.call n as) sc v0 v1 z) μ := by
  have hA : isC (rho ars (.call n as) sc v0 v1 z) μ = .ok true μ := b_eq (bin_eq (bin_eq rfl rfl rfl rfl rfl) rfl rfl rfl (eq_t _))
  have hg : getK (.dK (arK ars)) (nm n) = some (.int k) := by
    show valD (arK ars) (.inr (tx n)) = _
    rw [val_ars, hk]; rfl
  have hn : one lenD [.tup (as.map At.d)] = some (.int as.length) := by simp [one, lenD]
  have hne : neD (.int (k : Int)) (.int (as.length : Nat)) = some (.bl (!decide (k = as.length))) := by
    have : decide ((k : Int) = ((as.length : Nat) : Int)) = decide (k = as.length) := by
      by_cases q : k = as.length
      · simp [q]
      · have : ¬ (k : Int) = ((as.length : Nat) : Int) := by omega
        rw [decide_eq_false this, decide_eq_false q]
    simp only [neD, eqB, Option.map_some, this]
  have hb : (mB (mBin neD (mBin getK (mVar 2) (mBin ixD (mVar 4) (mC (.int 1)))) (mN (one lenD) (mCons (mBin ixD (mVar 4) (mC (.int 2))) mNil)))) (rho ars (.call n as) sc v0 v1 z) μ = .ok (!decide (k = as.length)) μ :=
    b_eq (bin_eq (bin_eq rfl (bin_eq rfl rfl rfl rfl rfl) rfl rfl hg) (n_eq (cons_eq (bin_eq rfl rfl rfl rfl rfl) rfl) rfl hn) rfl rfl hne)
  by_cases q : k = as.length
  · rw [if_pos q]
    rw [decide_eq_true q] at hb
    exact ifs_f (and_t hA hb) rfl
  · rw [if_neg q]
    rw [decide_eq_false q] at hb
    refine ifs_t (and_t hA hb) ?_
    simp [mRaise, mkX, Ex.d, nm]
end
theorem look_one (c : Ad) (ars : Ars) (e : Ex) (sc : Scp) (hsc : sc.length ≤ 1000) (rest : List (Ex × Scp)) (hr : rest.length ≤ 5000) (v0 v1 x4 x5 x6 : Option MV) : ∃ y,
    lkBody c [v0, v1, some (.d (.dK (arK ars))), some (.ref 0), x4, x5, x6] [.lst (((e, sc) :: rest).reverse.map pD)] = match here ars e sc with
      | none => .nx (rho ars e sc v0 v1 y) [.lst ((e.parts sc ++ rest).reverse.map pD)]
      | some er => .exc (er.at c) er.fs (rho ars e sc v0 v1 y) [.lst (rest.reverse.map pD)] := by
  have p1 : popD (((e, sc) :: rest).reverse.map pD) [] = some (.tup [e.d, .lst (sc.map nm)], rest.reverse.map pD) := by
    simp [popD, pD]
  have s1 : mAsg (mMut popD (mVar 3) mNil) (gT 2 (gC (gN 4) (gC (gN 5) gE))) [v0, v1, some (.d (.dK (arK ars))), some (.ref 0), x4, x5, x6] [.lst (((e, sc) :: rest).reverse.map pD)] = .nx (rho ars e sc v0 v1 x6) [.lst (rest.reverse.map pD)] :=
    asg_eq (v := .d (.tup [e.d, .lst (sc.map nm)])) (mut_eq (p := 0) (μ2 := [.lst (((e, sc) :: rest).reverse.map pD)]) rfl rfl rfl rfl rfl p1) rfl
  -- the atoms, and what is put on the pile
  have last : ∃ y, (mSeq (mFor (mIt (mCall F_atoms_of 1 (mCons (mVar 4) mNil))) (gN 6) (atomBody c)) (mExpr (mMut extD (mVar 3) (mCons (mUn revD (mCall F_parts_in_scope 2 (mCons (mVar 4) (mCons (mVar 5) mNil)))) mNil)))) (rho ars e sc v0 v1 x6) [.lst (rest.reverse.map pD)] = match unbA sc e.atoms with
      | none => .nx (rho ars e sc v0 v1 y) [.lst ((e.parts sc ++ rest).reverse.map pD)]
      | some x => .exc c.unb [("name", nm x)] (rho ars e sc v0 v1 y) [.lst (rest.reverse.map pD)] := by
    obtain ⟨y, h⟩ := atom_scan c sc hsc v0 v1 (some (.d (.dK (arK ars)))) (some (.ref 0)) (some (.d e.d)) [.lst (rest.reverse.map pD)] (e.atoms.map At.d, none) rfl e.atoms x6
    have hi : mIt (mCall F_atoms_of 1 (mCons (mVar 4) mNil)) (rho ars e sc v0 v1 x6) [.lst (rest.reverse.map pD)] = .ok (e.atoms.map At.d, none) [.lst (rest.reverse.map pD)] := by
      have hcall : mCall F_atoms_of 1 (mCons (mVar 4) mNil) (rho ars e sc v0 v1 x6) [.lst (rest.reverse.map pD)] = .ok (.d (.tup (e.atoms.map At.d))) [.lst (rest.reverse.map pD)] := call_eq rfl rfl (call1 (atoms_ok e))
      unfold mIt
      rw [hcall]
      rfl
    refine ⟨y, ?_⟩
    cases hu : unbA sc e.atoms with
    | some x =>
      rw [hu] at h
      exact seq_exc (for_eq hi h)
    | none =>
      rw [hu] at h
      refine (seq_nx (for_eq hi h)).trans ?_
      have hk2 : (e.parts sc).length ≤ 2 := by cases e <;> simp [Ex.parts]
      have hp := call2 (μ := [.lst (rest.reverse.map pD)]) (parts_ok e sc (by omega))
      have hrev : revD (.lst ((e.parts sc).map pD)) = some (.lst ((e.parts sc).map pD).reverse) := by simp [revD]
      have hext : extD (rest.reverse.map pD) [.lst ((e.parts sc).map pD).reverse] = some (.non, (e.parts sc ++ rest).reverse.map pD) := by
        have hz : (rest.reverse.map pD).length + ((e.parts sc).map pD).reverse.length ≤ sizeLine := by simp [sizeLine_eq]; omega
        simp only [extD]
        rw [if_pos hz, List.reverse_append, List.map_append, List.map_reverse (f := pD) (l := e.parts sc)]
      exact expr_eq (a := .d .non) (mut_eq (p := 0) (μ1 := [.lst (rest.reverse.map pD)]) (μ2 := [.lst (rest.reverse.map pD)]) rfl rfl (cons_eq (un_eq (call_eq rfl rfl hp) rfl hrev) rfl) rfl rfl hext)
  obtain ⟨y, last⟩ := last
  unfold lkBody
  rw [seq_nx s1]
  cases hc : e.isCall with
  | false =>
    obtain ⟨h1, h2⟩ := lk_no c ars e sc v0 v1 x6 [.lst (rest.reverse.map pD)] hc
    refine ⟨y, ?_⟩
    rw [seq_nx h1, seq_nx h2, last, here_not hc]
    cases unbA sc e.atoms <;> rfl
  | true =>
    cases e with
    | call n as =>
      have h1 := lk1_call c ars sc v0 v1 x6 [.lst (rest.reverse.map pD)] n as
      cases hf : findA ars n with
      | none =>
        rw [hf] at h1
        refine ⟨x6, ?_⟩
        rw [seq_exc h1]
        simp only [here, hf]
        rfl
      | some k =>
        rw [hf] at h1
        have h2 := lk2_call c ars sc v0 v1 x6 [.lst (rest.reverse.map pD)] n as k hf
        by_cases q : k = as.length
        · rw [if_pos q] at h2
          refine ⟨y, ?_⟩
          rw [seq_nx h1, seq_nx h2, last]
          simp only [here, hf, if_pos q, Ex.atoms]
          cases unbA sc as <;> rfl
        · rw [if_neg q] at h2
          refine ⟨x6, ?_⟩
          rw [seq_nx h1, seq_exc h2]
          simp only [here, hf, if_neg q]
          rfl
    | _ => cases hc
end TT

namespace TT
open PySem L2
variable [TB]
def lookF (ars : Ars) : Nat → List (Ex × Scp) → Option Er
  | 0, _ => none
  | _ + 1, [] => none
  | n + 1, p :: r => match here ars p.1 p.2 with
    | some er => some er
    | none => lookF ars n (p.1.parts p.2 ++ r)
def totP (l : List (Ex × Scp)) : Nat := (l.map fun p => p.1.size).sum
theorem totP_app (a b : List (Ex × Scp)) : totP (a ++ b) = totP a + totP b := by simp [totP]
theorem size_parts (e : Ex) (sc : Scp) : e.size = 1 + totP (e.parts sc) := by cases e <;> simp [Ex.size, Ex.parts, totP] <;> omega
theorem len_totP : ∀ s : List (Ex × Scp), s.length ≤ totP s
  | [] => by simp [totP]
  | p :: s => by
    have := len_totP s
    have := size_pos p.1
    simp only [totP, List.length_cons, List.map_cons, List.sum_cons] at *
    omega
theorem parts_deep (e : Ex) (sc : Scp) (m : Nat) (h : sc.length + e.deep ≤ m) : ∀ p ∈ e.parts sc, p.2.length + p.1.deep ≤ m := by
  cases e <;> simp [Ex.parts, Ex.deep] at h ⊢ <;> omega
theorem cond_look (ars : Ars) (l : List (Ex × Scp)) (v0 v1 x4 x5 x6 : Option MV) : (mB (mBin neD (mVar 3) (mFz (mLst mNil)))) [v0, v1, some (.d (.dK (arK ars))), some (.ref 0), x4, x5, x6] [.lst (l.reverse.map pD)] = .ok (!l.isEmpty) [.lst (l.reverse.map pD)] := by
  cases l with
  | nil => exact b_eq (bin_eq rfl lst_nil rfl rfl ne_nil0)
  | cons p r => exact b_eq (bin_eq rfl lst_nil rfl rfl (ne_nil _ (by simp)))
theorem while_exc {n : Nat} {cd : MT} {b : MS} {ρ ρ2 : En} {μ μ1 μ2 : List MO} {C : Addr} {fs : List (Str × D)} (hc : cd ρ μ = .ok true μ1) (hb : b ρ μ1 = .exc C fs ρ2 μ2) : whileM (n + 1) cd b ρ μ = .exc C fs ρ2 μ2 := by simp only [whileM, hc, Res.stm_ok, if_true, hb]
theorem while_look (c : Ad) (ars : Ars) (v0 v1 : Option MV) : ∀ (n : Nat) (l : List (Ex × Scp)), totP l ≤ n → (∀ p ∈ l, p.2.length + p.1.deep ≤ 1000) → n ≤ 5000 → ∀ (fuel : Nat), n < fuel → ∀ (x4 x5 x6 : Option MV), ∃ y4 y5 y6 rows,
    whileM fuel (mB (mBin neD (mVar 3) (mFz (mLst mNil)))) (lkBody c) [v0, v1, some (.d (.dK (arK ars))), some (.ref 0), x4, x5, x6] [.lst (l.reverse.map pD)] = match lookF ars (n + 1) l with
      | none => .nx [v0, v1, some (.d (.dK (arK ars))), some (.ref 0), y4, y5, y6] [.lst rows]
      | some er => .exc (er.at c) er.fs [v0, v1, some (.d (.dK (arK ars))), some (.ref 0), y4, y5, y6] [.lst rows] := by
  intro n
  induction n with
  | zero =>
    intro l hl hd hn fuel hf x4 x5 x6
    have : l = [] := List.length_eq_zero_iff.mp (by have := len_totP l; omega)
    subst this
    obtain ⟨f, rfl⟩ : ∃ f, fuel = f + 1 := ⟨fuel - 1, by omega⟩
    exact ⟨x4, x5, x6, _, while_f (cond_look ars [] v0 v1 x4 x5 x6)⟩
  | succ n ih =>
    intro l hl hd hn fuel hf x4 x5 x6
    obtain ⟨f, rfl⟩ : ∃ f, fuel = f + 1 := ⟨fuel - 1, by omega⟩
    cases l with
    | nil => exact ⟨x4, x5, x6, _, while_f (cond_look ars [] v0 v1 x4 x5 x6)⟩
    | cons p r =>
      obtain ⟨e, sc⟩ := p
      have hp := hd (e, sc) List.mem_cons_self
      have hlen : r.length ≤ 5000 := by
        have := len_totP ((e, sc) :: r)
        simp at this
        omega
      have hds := deep_pos e
      obtain ⟨y, hb⟩ := look_one c ars e sc (by simp at hp; omega) r hlen v0 v1 x4 x5 x6
      have hc := cond_look ars ((e, sc) :: r) v0 v1 x4 x5 x6
      cases hh : here ars e sc with
      | some er =>
        rw [hh] at hb
        refine ⟨some (.d e.d), some (.d (.lst (sc.map nm))), y, r.reverse.map pD, ?_⟩
        have : lookF ars (n + 1 + 1) ((e, sc) :: r) = some er := by simp [lookF, hh]
        rw [this]
        exact while_exc hc hb
      | none =>
        rw [hh] at hb
        have ht : totP (e.parts sc ++ r) ≤ n := by
          have h1 := size_parts e sc
          rw [totP_app]
          simp only [totP, List.map_cons, List.sum_cons] at hl h1 ⊢
          omega
        obtain ⟨y4, y5, y6, rows, hw⟩ := ih (e.parts sc ++ r) ht (fun q hq => by
          rcases List.mem_append.mp hq with z | z
          · exact parts_deep e sc 1000 hp q z
          · exact hd q (List.mem_cons_of_mem _ z)) (by omega) f (by omega) (some (.d e.d)) (some (.d (.lst (sc.map nm)))) y
        refine ⟨y4, y5, y6, rows, ?_⟩
        have : lookF ars (n + 1 + 1) ((e, sc) :: r) = lookF ars (n + 1) (e.parts sc ++ r) := by simp [lookF, hh]
        rw [this]
        exact (while_t hc hb).trans hw
theorem look_ok (c : Ad) (ars : Ars) (e : Ex) (ps : Scp) (hs : e.size ≤ 5000) (hd : ps.length + e.deep ≤ 1000) : F_look_body c [.d e.d, .d (.tup (ps.map nm)), .d (.dK (arK ars))] [] = match lookF ars (e.size + 1) [(e, ps)] with
    | none => .ok (.d .non) []
    | some er => .exc (er.at c) er.fs [] := by
  unfold F_look_body b_look_body
  obtain ⟨y4, y5, y6, rows, hw⟩ := while_look c ars (some (.d e.d)) (some (.d (.tup (ps.map nm)))) e.size [(e, ps)] (by simp [totP]) (by simpa using hd) hs fuelW (by unfold fuelW; omega) none none none
  have hlist : listL [.tup (ps.map nm)] = some (ps.map nm) := by simp [listL]
  have s1 : mAsg (mOwn (mLst (mCons (mTup (mCons (mVar 0) (mCons (mFz (mNL listL (mCons (mVar 1) mNil))) mNil))) mNil))) (gN 3) [some (.d e.d), some (.d (.tup (ps.map nm))), some (.d (.dK (arK ars))), none, none, none, none] [] = .nx [some (.d e.d), some (.d (.tup (ps.map nm))), some (.d (.dK (arK ars))), some (.ref 0), none, none, none] [.lst ([(e, ps)].reverse.map pD)] := by
    simp [hlist, pD]
  cases hk : lookF ars (e.size + 1) [(e, ps)] with
  | none =>
    rw [hk] at hw
    show SR.finT true 0 (mSeq _ _ [some (.d e.d), some (.d (.tup (ps.map nm))), some (.d (.dK (arK ars))), none, none, none, none] []) = _
    rw [seq_nx s1]
    erw [hw]
    rfl
  | some er =>
    rw [hk] at hw
    show SR.finT true 0 (mSeq _ _ [some (.d e.d), some (.d (.tup (ps.map nm))), some (.d (.dK (arK ars))), none, none, none, none] []) = _
    rw [seq_nx s1]
    erw [hw]
    rfl
end TT

namespace TT
open PySem L2
variable [TB]
/-! what is no function -/
noncomputable abbrev fc1 : MT := (mOr (mNot (mT (mN isiD (mCons (mVar 0) (mCons (mC (.ty "tuple")) mNil))))) (mOr (mB (mBin neD (mN (one lenD) (mCons (mVar 0) mNil)) (mC (.int 3)))) (mNot (mT (mCall F_is_name 1 (mCons (mBin ixD (mVar 0) (mC (.int 0))) mNil))))))
theorem no_fun1 (c : Ad) {d : D} (h : fc1 [some (.d d), none, none] [] = .ok true []) : F_is_function c [.d d] [] = .ok (.d (.bl false)) [] := by
  unfold F_is_function b_is_function
  exact fn_rt (seq_rt (ifs_t h rfl)) rfl
theorem no_non (c : Ad) : F_is_function c [.d .non] [] = .ok (.d (.bl false)) [] := no_fun1 c (or_t (not_eq (bl := false) (t_eq (n_eq rfl rfl (isi_eq (t := "NoneType") rfl)))))
theorem no_str (c : Ad) (x : Str) : F_is_function c [.d (.str x)] [] = .ok (.d (.bl false)) [] := no_fun1 c (or_t (not_eq (bl := false) (t_eq (n_eq rfl rfl (isi_eq (t := "str") rfl)))))
theorem no_nil (c : Ad) : F_is_function c [.d (.tup [])] [] = .ok (.d (.bl false)) [] := no_fun1 c (or_f (not_eq (bl := true) (t_eq (n_eq rfl rfl (isi_eq (t := "tuple") rfl)))) (or_t (b_eq (bin_eq (n_eq (hn := one lenD) rfl rfl rfl) rfl rfl rfl rfl))))
theorem atom_lst (xs : List D) : F_is_atom [.d (.lst xs), .d (.str "var")] [] = .ok (.d (.bl false)) [] := by
  unfold F_is_atom b_is_atom
  exact fn_rt (seq_rt (ifs_t (or_t (not_eq (bl := false) (t_eq (n_eq rfl rfl (isi_eq (t := "list") rfl))))) rfl)) rfl
theorem ex_lst (xs : List D) : F_expressions_in [.d (.lst xs)] [] = .ok (.d .non) [] := by
  unfold F_expressions_in b_expressions_in
  exact fn_rt ((seq_nx (ifs_f (t_eq (call_eq rfl rfl (call2 (atom_lst xs)))) rfl)).trans (seq_rt (ifs_t (not_eq (bl := false) (t_eq (n_eq rfl rfl (isi_eq (t := "list") rfl)))) rfl))) rfl
theorem meas_lst (c : Ad) (xs : List D) : F_measured c [.d (.lst xs), .d (.gl c.fe)] [] = .ok (.d .non) [] := by
  unfold F_measured b_measured
  have p1 : mPar3 2 3 4 (mCons (mOwn (mLst (mCons (mTup (mCons (mVar 0) (mCons (mC (.int 1)) mNil))) mNil))) (mCons (mC (.int 0)) (mCons (mC (.int 0)) mNil))) [some (.d (.lst xs)), some (.d (.gl c.fe)), none, none, none, none, none, none, none] [] = .nx [some (.d (.lst xs)), some (.d (.gl c.fe)), some (.ref 0), some (.d (.int 0)), some (.d (.int 0)), none, none, none, none] [.lst [.tup [.lst xs, .int 1]]] := by
    simp
  have hc : mCond [some (.d (.lst xs)), some (.d (.gl c.fe)), some (.ref 0), some (.d (.int 0)), some (.d (.int 0)), none, none, none, none] [.lst [.tup [.lst xs, .int 1]]] = .ok true [.lst [.tup [.lst xs, .int 1]]] := b_eq (bin_eq rfl lst_nil rfl rfl (ne_nil _ (by simp)))
  have s1 : mAsg (mMut popD (mVar 2) mNil) (gT 2 (gC (gN 5) (gC (gN 6) gE))) [some (.d (.lst xs)), some (.d (.gl c.fe)), some (.ref 0), some (.d (.int 0)), some (.d (.int 0)), none, none, none, none] [.lst [.tup [.lst xs, .int 1]]] = .nx [some (.d (.lst xs)), some (.d (.gl c.fe)), some (.ref 0), some (.d (.int 0)), some (.d (.int 0)), some (.d (.lst xs)), some (.d (.int 1)), none, none] [.lst []] :=
    asg_eq (v := .d (.tup [.lst xs, .int 1])) (mut_eq (p := 0) (μ2 := [.lst [.tup [.lst xs, .int 1]]]) rfl rfl rfl rfl rfl rfl) rfl
  have t1 : tblAt [(c.fe, 1, F_expressions_in)] c.fe = some (1, F_expressions_in) := by simp [tblAt]
  have c1 : mCallV [( c.fe, 1, F_expressions_in)] 1 (mCons (mVar 5) mNil) [some (.d (.lst xs)), some (.d (.gl c.fe)), some (.ref 0), some (.d (.int 0)), some (.d (.int 0)), some (.d (.lst xs)), some (.d (.int 1)), none, none] [.lst []] = .ok (.d .non) [.lst []] := by
    have h1 := call1 (μ := [.lst []]) (ex_lst xs)
    show (match tblAt [(c.fe, 1, F_expressions_in)] c.fe with | some (n, F) => _ | none => _) = _
    rw [t1]
    exact h1
  have hb : mBody c [some (.d (.lst xs)), some (.d (.gl c.fe)), some (.ref 0), some (.d (.int 0)), some (.d (.int 0)), none, none, none, none] [.lst [.tup [.lst xs, .int 1]]] = .rt (.d .non) [.lst []] := by
    unfold mBody
    rw [seq_nx s1, seq_nx (asg_eq (ρ1 := [some (.d (.lst xs)), some (.d (.gl c.fe)), some (.ref 0), some (.d (.int 0)), some (.d (.int 0)), some (.d (.lst xs)), some (.d (.int 1)), some (.d .non), none]) c1 rfl)]
    exact seq_rt (ifs_t (b_eq (bin_eq rfl rfl rfl rfl rfl)) rfl)
  have hw : ∀ n, whileM (n + 1) mCond (mBody c) [some (.d (.lst xs)), some (.d (.gl c.fe)), some (.ref 0), some (.d (.int 0)), some (.d (.int 0)), none, none, none, none] [.lst [.tup [.lst xs, .int 1]]] = .rt (.d .non) [.lst []] := fun n => by
    simp only [whileM, hc, Res.stm_ok, if_true, hb]
  exact fn_rt ((seq_nx p1).trans (seq_rt (hw 999999))) rfl
theorem no_body (c : Ad) {n : List Nat} (hn : NameOk n) (xs : List D) : F_is_function c [.d (.tup [nm n, .tup [], .lst xs])] [] = .ok (.d (.bl false)) [] := by
  unfold F_is_function b_is_function
  have c1 : fc1 [some (.d (.tup [nm n, .tup [], .lst xs])), none, none] [] = .ok false [] :=
    or_f (not_eq (bl := true) (t_eq (n_eq rfl rfl (isi_eq (t := "tuple") rfl)))) (or_f (b_eq (bin_eq (n_eq (hn := one lenD) rfl rfl rfl) rfl rfl rfl rfl)) (not_eq (bl := true) (t_eq (call_eq (cons_eq (bin_eq rfl rfl rfl rfl rfl) rfl) rfl (call1 (is_name_ok hn))))))
  have a1 : mAsg (mBin ixD (mVar 0) (mC (.int 1))) (gN 1) [some (.d (.tup [nm n, .tup [], .lst xs])), none, none] [] = .nx [some (.d (.tup [nm n, .tup [], .lst xs])), some (.d (.tup [])), none] [] := asg_eq (v := .d (.tup [])) (bin_eq rfl rfl rfl rfl rfl) rfl
  have c2 : (mOr (mNot (mT (mN isiD (mCons (mVar 1) (mCons (mC (.ty "tuple")) mNil))))) (mB (mBin gtI (mN (one lenD) (mCons (mVar 1) mNil)) (mC (.int 4))))) [some (.d (.tup [nm n, .tup [], .lst xs])), some (.d (.tup [])), none] [] = .ok false [] :=
    or_f (not_eq (bl := true) (t_eq (n_eq rfl rfl (isi_eq (t := "tuple") rfl)))) (b_eq (bin_eq (n_eq (hn := one lenD) rfl rfl rfl) rfl rfl rfl rfl))
  have c3 : (mOr (mNot (mT (mN (one allD) (mCons (mFz (mLC (mIt (mVar 1)) (gN 2) mYes (mCall F_is_name 1 (mCons (mVar 2) mNil)) [2])) mNil)))) (mB (mBin notN (mCall F_first_twice 1 (mCons (mVar 1) mNil)) (mC .non)))) [some (.d (.tup [nm n, .tup [], .lst xs])), some (.d (.tup [])), none] [] = .ok false [] := by
    have q1 : mFz (mLC (mIt (mVar 1)) (gN 2) mYes (mCall F_is_name 1 (mCons (mVar 2) mNil)) [2]) [some (.d (.tup [nm n, .tup [], .lst xs])), some (.d (.tup [])), none] [] = .ok (.d (.lst [])) [] :=
      lc_eq (q := ([], none)) (fun _ => .bl true) rfl rfl (Nat.zero_le _) fun x hx => by cases hx
    have q3 := ft_tup (l := []) (by decide)
    exact or_f (not_eq (bl := true) (t_eq (n_eq (cons_eq q1 rfl) rfl rfl))) (b_eq (bin_eq (call_eq rfl rfl (call1 q3)) rfl rfl rfl rfl))
  exact fn_rt ((seq_nx (ifs_f c1 rfl)).trans ((seq_nx a1).trans ((seq_nx (ifs_f c2 rfl)).trans ((seq_nx (ifs_f c3 rfl)).trans (ret_eq (bin_eq (call_eq (cons_eq (bin_eq rfl rfl rfl rfl rfl) rfl) rfl (call2 (meas_lst c xs))) rfl rfl rfl rfl)))))) rfl
end TT

namespace TT
open PySem L2
variable [TB]
/-! Program.__init__, first part -/
theorem enum_get {xs : List D} {j : Nat} {x : D} (h : (enumD xs)[j]? = some x) : ∃ d, xs[j]? = some d ∧ x = .tup [.int j, d] := by
  simp only [enumD, List.getElem?_mapIdx, Option.map_eq_some_iff] at h
  obtain ⟨d, h1, h2⟩ := h
  exact ⟨d, h1, h2.symm⟩
noncomputable abbrev inLoop (c : Ad) : MS := (mIfS (mNot (mT (mCall (F_is_function c) 1 (mCons (mVar 3) mNil)))) (mRaise c.bad ["at"] (mCons (mVar 2) mNil)) mNext)
abbrev rh0 (xs : List D) (x2 x3 : Option MV) : En := [some (.ref 0), some (.d (.lst xs)), x2, x3, none, none, none, none, none, none, none, none, none, none]
theorem in_scan (c : Ad) (xs : List D) (p : D → Bool) (hp : ∀ d ∈ xs, F_is_function c [.d d] [] = .ok (.d (.bl (p d))) []) :
    (∃ (k : Nat) (d : D) (x2 x3 : Option MV), xs[k]? = some d ∧ p d = false ∧ (∀ j d', j < k → xs[j]? = some d' → p d' = true) ∧ forD (enumD xs, none) (gT 2 (gC (gN 2) (gC (gN 3) gE))) (inLoop c) (enumD xs) (rh0 xs none none) [.ins c.prog []] = .exc c.bad [("at", .int k)] (rh0 xs x2 x3) [.ins c.prog []]) ∨
    (∃ x2 x3, (∀ d ∈ xs, p d = true) ∧ forD (enumD xs, none) (gT 2 (gC (gN 2) (gC (gN 3) gE))) (inLoop c) (enumD xs) (rh0 xs none none) [.ins c.prog []] = .nx (rh0 xs x2 x3) [.ins c.prog []]) := by
  have scan := for_scan (q := (enumD xs, none)) (g := gT 2 (gC (gN 2) (gC (gN 3) gE))) (b := inLoop c) (μ := [.ins c.prog []]) rfl (fun ρ => ∃ x2 x3, ρ = rh0 xs x2 x3)
    (fun x r => ∃ (i : Int) (d : D) (x2 x3 : Option MV), x = .tup [.int i, d] ∧ p d = false ∧ r = .exc c.bad [("at", .int i)] (rh0 xs x2 x3) [.ins c.prog []]) (enumD xs) (rh0 xs none none) ⟨none, none, rfl⟩ (by
      rintro x ρ hx ⟨x2, x3, rfl⟩
      obtain ⟨j, hj⟩ := List.mem_iff_getElem?.mp hx
      obtain ⟨d, h1, rfl⟩ := enum_get hj
      have hf := hp d (List.mem_of_getElem? h1)
      refine ⟨rh0 xs (some (.d (.int j))) (some (.d d)), rfl, ?_⟩
      have hc : (mT (mCall (F_is_function c) 1 (mCons (mVar 3) mNil))) (rh0 xs (some (.d (.int j))) (some (.d d))) [.ins c.prog []] = .ok (p d) [.ins c.prog []] := t_eq (call_eq rfl rfl (call1 hf))
      cases hpd : p d with
      | false =>
        rw [hpd] at hc
        exact .inl ⟨.exc c.bad [("at", .int j)] (rh0 xs (some (.d (.int j))) (some (.d d))) [.ins c.prog []], True.intro, ifs_t (not_eq hc) (show mRaise c.bad ["at"] (mCons (mVar 2) mNil) _ _ = .exc c.bad [("at", .int j)] (rh0 xs (some (.d (.int j))) (some (.d d))) [.ins c.prog []] from rfl), j, d, _, _, rfl, hpd, rfl⟩
      | true =>
        rw [hpd] at hc
        refine .inr ⟨fun r ⟨i, d', _, _, e1, e2, _⟩ => ?_, _, ifs_f (not_eq hc) rfl, _, _, rfl⟩
        cases e1
        rw [hpd] at e2
        cases e2)
  rcases scan with ⟨pre, post, x, r, e1, e2, ⟨i, d, x2, x3, rfl, hd, rfl⟩, e4, e5⟩ | ⟨ρ', ⟨x2, x3, rfl⟩, e2, e3⟩
  · left
    have hx : (enumD xs)[pre.length]? = some (.tup [.int i, d]) := by rw [e1]; simp
    obtain ⟨d', h1, h2⟩ := enum_get hx
    injection h2 with h2
    injection h2 with h3 h4
    injection h4 with h4 _
    injection h3 with h3
    subst h3 h4
    refine ⟨pre.length, d, x2, x3, h1, hd, fun j d' hj hj2 => ?_, e5⟩
    cases q : p d' with
    | true => rfl
    | false =>
      have hm : (D.tup [.int (j : Int), d']) ∈ pre := by
        have : (enumD xs)[j]? = some (.tup [.int (j : Int), d']) := by
          simp only [enumD, List.getElem?_mapIdx, hj2, Option.map_some]
        rw [e1, List.getElem?_append_left hj] at this
        exact List.mem_of_getElem? this
      exact (e2 _ hm _ ⟨j, d', none, none, rfl, q, rfl⟩).elim
  · right
    refine ⟨x2, x3, fun d hd => ?_, e3⟩
    obtain ⟨j, hj⟩ := List.mem_iff_getElem?.mp hd
    cases q : p d with
    | true => rfl
    | false =>
      have : (enumD xs)[j]? = some (.tup [.int (j : Int), d]) := by simp only [enumD, List.getElem?_mapIdx, hj, Option.map_some]
      exact (e2 _ (List.mem_of_getElem? this) _ ⟨j, d, none, none, rfl, q, rfl⟩).elim
end TT

namespace TT
open PySem L2
variable [TB]
/-! Program.__init__, names and sizes -/
theorem lcr_ok {α : Type} {q : List D × Option Nat} {g : MG} {el : ME} {ρ : En} {μ : List MO} (hq : q.2 = none) (h : α → D) (f : α → D) : ∀ (rs : List α) (acc : List D), (∀ r ∈ rs, ∃ ρ1, g (.d (h r)) ρ = some ρ1 ∧ el ρ1 μ = .ok (.d (f r)) μ) → lcD q g mYes el ρ (rs.map h) acc μ = .ok (acc ++ rs.map f) μ
  | [], acc, _ => by show lcD q g mYes el ρ [] acc μ = _; unfold lcD chk; rw [hq]; simp
  | r :: rs, acc, hh => by
    obtain ⟨ρ1, h1, h2⟩ := hh r List.mem_cons_self
    show lcD q g mYes el ρ (h r :: rs.map h) acc μ = _
    rw [lcD]
    unfold chk
    rw [hq]
    simp only [if_true, h1, mYes, Res.calm_ok, Res.bind_ok, h2]
    have := lcr_ok hq h f rs (acc ++ [f r]) fun y hy => hh y (List.mem_cons_of_mem _ hy)
    rw [this]
    simp
theorem lcr_eq {α : Type} {mi : MI} {q : List D × Option Nat} {g : MG} {el : ME} {vs : List Nat} {ρ : En} {μ : List MO} (h : α → D) (f : α → D) (rs : List α) (hi : mi ρ μ = .ok q μ) (hq : q.2 = none) (hr : q.1 = rs.map h) (hl : rs.length ≤ 1000) (hh : ∀ r ∈ rs, ∃ ρ1, g (.d (h r)) (wipeM ρ vs) = some ρ1 ∧ el ρ1 μ = .ok (.d (f r)) μ) : mFz (mLC mi g mYes el vs) ρ μ = .ok (.d (.lst (rs.map f))) μ := by
  unfold mFz mLC
  rw [hi]
  have hl2 : q.1.length ≤ sizeLine := by rw [hr, List.length_map, sizeLine_eq]; omega
  simp only [Res.bind_ok, if_pos hl2]
  rw [hr, lcr_ok hq h f rs [] hh]
  rfl
abbrev g3 : MG := gT 3 (gC (gN 9) (gC (gN 10) (gC (gN 11) gE)))
abbrev rhN (xs : List D) (x2 x3 x4 x5 x6 x7 x8 : Option MV) : En := [some (.ref 0), some (.d (.lst xs)), x2, x3, x4, x5, x6, x7, x8, none, none, none, none, none]
section
variable (c : Ad) (rows : List Row) (x2 x3 x4 x5 x6 x7 x8 : Option MV) (μ : List MO)
theorem comp_names (hl : rows.length ≤ 1000) : mFz (mLC (mIt (mVar 1)) g3 mYes (mVar 9) [9, 10, 11]) (rhN (rows.map Row.d) x2 x3 x4 x5 x6 x7 x8) μ = .ok (.d (.lst (rows.map fun r => nm r.n))) μ :=
  lcr_eq (q := (rows.map Row.d, none)) Row.d (fun r => nm r.n) rows rfl rfl rfl hl fun r hr => ⟨_, rfl, rfl⟩
theorem comp_sizes (hl : rows.length ≤ 1000) (hok : ∀ r ∈ rows, r.Ok) : mFz (mLC (mIt (mVar 1)) g3 mYes (mCall (F_measured c) 2 (mCons (mVar 11) (mCons (mC (.gl c.fe)) mNil))) [9, 10, 11]) (rhN (rows.map Row.d) x2 x3 x4 x5 x6 x7 x8) μ = .ok (.d (.lst (rows.map fun r => .tup [.int r.e.size, .int r.e.deep]))) μ :=
  lcr_eq (q := (rows.map Row.d, none)) Row.d (fun r => .tup [.int r.e.size, .int r.e.deep]) rows rfl rfl rfl hl fun r hr => ⟨_, rfl, call_eq rfl rfl (call2 (measured_ok c (hok r hr).e (hok r hr).size))⟩
theorem comp_ix (hl : rows.length ≤ 1000) (j : Int) (w : Row → Int) (hw : ∀ r : Row, ixD (.tup [.int r.e.size, .int r.e.deep]) (.int j) = some (.int (w r))) :
    mFz (mLC (mIt (mVar 5)) (gN 12) mYes (mBin ixD (mVar 12) (mC (.int j))) [12]) (rhN (rows.map Row.d) x2 x3 x4 (some (.d (.lst (rows.map fun r => .tup [.int r.e.size, .int r.e.deep])))) x6 x7 x8) μ = .ok (.d (.lst (rows.map fun r => .int (w r)))) μ :=
  lcr_eq (q := (rows.map fun r => .tup [.int r.e.size, .int r.e.deep], none)) (fun r => .tup [.int r.e.size, .int r.e.deep]) (fun r => .int (w r)) rows rfl rfl rfl hl fun r hr => ⟨_, rfl, bin_eq rfl rfl rfl rfl (hw r)⟩
end
theorem nums_int {α : Type} (w : α → Int) : ∀ l : List α, nums (l.map fun r => D.int (w r)) = some (l.map w)
  | [] => rfl
  | a :: l => by
    show (nums (l.map fun r => D.int (w r))).map (w a :: ·) = _
    rw [nums_int w l]
    rfl
def nodesOf (rows : List Row) : Nat := (rows.map fun r => r.e.size).sum
def deepOf (rows : List Row) : Nat := (rows.map fun r => r.e.deep).foldl max 0
theorem sum_int (rows : List Row) : sumD (.lst (rows.map fun r => .int r.e.size)) = some (.int (nodesOf rows)) := by
  have e := nums_int (fun r : Row => (r.e.size : Int)) rows
  simp only [sumD, e, Option.map_some]
  congr 2
  unfold nodesOf
  induction rows with
  | nil => rfl
  | cons r rs ih =>
    simp only [List.map_cons, List.sum_cons, Int.natCast_add]
    rw [ih (nums_int _ rs)]
end TT

namespace TT
open PySem L2
variable [TB]
theorem max_fold : ∀ (l : List Nat) (x : Nat), (l.map fun (y : Nat) => (y : Int)).foldl (fun a y => if a < y then y else a) (x : Int) = ((l.foldl max x : Nat) : Int)
  | [], x => rfl
  | y :: l, x => by
    simp only [List.map_cons, List.foldl_cons]
    have : (if (x : Int) < (y : Int) then (y : Int) else (x : Int)) = ((max x y : Nat) : Int) := by
      split <;> omega
    rw [this, max_fold l]
theorem max_int (rows : List Row) : maxDf 0 (.lst (rows.map fun r => .int r.e.deep)) = some (.int (deepOf rows)) := by
  have e := nums_int (fun r : Row => (r.e.deep : Int)) rows
  simp only [maxDf, e, Option.map_some]
  congr 2
  cases rows with
  | nil => rfl
  | cons r rs =>
    have := max_fold (rs.map fun r => r.e.deep) r.e.deep
    simp only [maxI, List.map_cons, deepOf, List.foldl_cons]
    rw [List.map_map] at this
    rw [show max 0 r.e.deep = r.e.deep by omega]
    exact this
section
variable (c : Ad) (rows : List Row) (hok : ∀ r ∈ rows, r.Ok) (hl : rows.length ≤ 1000)
/-- all rows are functions -/
theorem in_good (hok : ∀ r ∈ rows, r.Ok) : ∃ x2 x3, mFor (mItA enumOf (mCons (mVar 1) mNil)) (gT 2 (gC (gN 2) (gC (gN 3) gE))) (inLoop c) (rh0 (rows.map Row.d) none none) [.ins c.prog []] = .nx (rh0 (rows.map Row.d) x2 x3) [.ins c.prog []] := by
  rcases in_scan c (rows.map Row.d) (fun _ => true) (fun d hd => by
    obtain ⟨r, hr, rfl⟩ := List.mem_map.mp hd
    exact is_function_ok c (hok r hr)) with ⟨k, d, x2, x3, _, h, _⟩ | ⟨x2, x3, _, h⟩
  · cases h
  · exact ⟨x2, x3, for_eq (q := (enumD (rows.map Row.d), none)) rfl h⟩
theorem ft_rows (hl : rows.length ≤ 1000) : F_first_twice [.d (.lst (rows.map fun r => nm r.n))] [] = .ok (.d (ftAt [] (rows.map fun r => tx r.n))) [] := by
  have := ft_lst (l := rows.map fun r => r.n) (by rw [List.length_map]; omega)
  rw [List.map_map, List.map_map] at this
  exact this
theorem again_eq (hl : rows.length ≤ 1000) (x2 x3 : Option MV) : mAsg (mCall F_first_twice 1 (mCons (mFz (mLC (mIt (mVar 1)) g3 mYes (mVar 9) [9, 10, 11])) mNil)) (gN 4) (rh0 (rows.map Row.d) x2 x3) [.ins c.prog []] = .nx (rhN (rows.map Row.d) x2 x3 (some (.d (ftAt [] (rows.map fun r => tx r.n)))) none none none none) [.ins c.prog []] :=
  asg_eq (call_eq (cons_eq (comp_names rows x2 x3 none none none none none [.ins c.prog []] hl) rfl) rfl (call1 (ft_rows rows hl))) rfl
theorem init_twice (hok : ∀ r ∈ rows, r.Ok) (hl : rows.length ≤ 1000) (t : Str) (ht : ftAt [] (rows.map fun r => tx r.n) = .str t) : F_Program___init__ c [.ref 0, .d (.lst (rows.map Row.d))] [.ins c.prog []] = .exc c.twice [("name", .str t)] [.ins c.prog []] := by
  unfold F_Program___init__ b_Program___init__
  obtain ⟨x2, x3, h1⟩ := in_good c rows hok
  have h2 := again_eq c rows hl x2 x3
  rw [ht] at h2
  have h3 : mIfS (mB (mBin notN (mVar 4) (mC .non))) (mRaise c.twice ["name"] (mCons (mVar 4) mNil)) mNext (rhN (rows.map Row.d) x2 x3 (some (.d (.str t))) none none none none) [.ins c.prog []] = .exc c.twice [("name", .str t)] (rhN (rows.map Row.d) x2 x3 (some (.d (.str t))) none none none none) [.ins c.prog []] :=
    ifs_t (b_eq (bin_eq rfl rfl rfl rfl rfl)) rfl
  show SR.finT true 1 (mSeq _ _ (rh0 (rows.map Row.d) none none) [.ins c.prog []]) = _
  rw [seq_nx h1, seq_nx h2, seq_exc h3]
  rfl
theorem sizes_eq (hok : ∀ r ∈ rows, r.Ok) (hl : rows.length ≤ 1000) (x2 x3 : Option MV) : (mSeq (mIfS (mB (mBin notN (mVar 4) (mC .non))) (mRaise c.twice ["name"] (mCons (mVar 4) mNil)) mNext)
    (mSeq (mAsg (mFz (mLC (mIt (mVar 1)) g3 mYes (mCall (F_measured c) 2 (mCons (mVar 11) (mCons (mC (.gl c.fe)) mNil))) [9, 10, 11])) (gN 5))
    (mPar2 6 7 (mCons (mN (one sumD) (mCons (mFz (mLC (mIt (mVar 5)) (gN 12) mYes (mBin ixD (mVar 12) (mC (.int 0))) [12])) mNil)) (mCons (mN (one (maxDf 0)) (mCons (mFz (mLC (mIt (mVar 5)) (gN 12) mYes (mBin ixD (mVar 12) (mC (.int 1))) [12])) mNil)) mNil))))) (rhN (rows.map Row.d) x2 x3 (some (.d .non)) none none none none) [.ins c.prog []] =
    .nx (rhN (rows.map Row.d) x2 x3 (some (.d .non)) (some (.d (.lst (rows.map fun r => .tup [.int r.e.size, .int r.e.deep])))) (some (.d (.int (nodesOf rows)))) (some (.d (.int (deepOf rows)))) none) [.ins c.prog []] := by
  have h3 : mIfS (mB (mBin notN (mVar 4) (mC .non))) (mRaise c.twice ["name"] (mCons (mVar 4) mNil)) mNext (rhN (rows.map Row.d) x2 x3 (some (.d .non)) none none none none) [.ins c.prog []] = .nx (rhN (rows.map Row.d) x2 x3 (some (.d .non)) none none none none) [.ins c.prog []] :=
    ifs_f (b_eq (bin_eq rfl rfl rfl rfl rfl)) rfl
  have h4 : mAsg (mFz (mLC (mIt (mVar 1)) g3 mYes (mCall (F_measured c) 2 (mCons (mVar 11) (mCons (mC (.gl c.fe)) mNil))) [9, 10, 11])) (gN 5) (rhN (rows.map Row.d) x2 x3 (some (.d .non)) none none none none) [.ins c.prog []] = .nx (rhN (rows.map Row.d) x2 x3 (some (.d .non)) (some (.d (.lst (rows.map fun r => .tup [.int r.e.size, .int r.e.deep])))) none none none) [.ins c.prog []] :=
    asg_eq (comp_sizes c rows x2 x3 (some (.d .non)) none none none none [.ins c.prog []] hl hok) rfl
  rw [seq_nx h3, seq_nx h4]
  have e1 := comp_ix rows x2 x3 (some (.d .non)) none none none [.ins c.prog []] hl 0 (fun r => r.e.size) (fun r => rfl)
  have e2 := comp_ix rows x2 x3 (some (.d .non)) none none none [.ins c.prog []] hl 1 (fun r => r.e.deep) (fun r => rfl)
  unfold mPar2
  rw [cons_eq (n_eq (hn := one sumD) (cons_eq e1 (ms := mNil) rfl) rfl (sum_int rows)) (cons_eq (ms := mNil) (n_eq (hn := one (maxDf 0)) (cons_eq e2 (ms := mNil) rfl) rfl (max_int rows)) rfl)]
  rfl
end
end TT

namespace TT
open PySem L2
variable [TB]
abbrev szD (rows : List Row) : Option MV := some (.d (.lst (rows.map fun r => .tup [.int r.e.size, .int r.e.deep])))
section
variable (c : Ad) (rows : List Row) (x2 x3 : Option MV)
theorem s3 : mIfS (mB (mBin notN (mVar 4) (mC .non))) (mRaise c.twice ["name"] (mCons (mVar 4) mNil)) mNext (rhN (rows.map Row.d) x2 x3 (some (.d .non)) none none none none) [.ins c.prog []] = .nx (rhN (rows.map Row.d) x2 x3 (some (.d .non)) none none none none) [.ins c.prog []] :=
  ifs_f (b_eq (bin_eq rfl rfl rfl rfl rfl)) rfl
theorem s4 (hok : ∀ r ∈ rows, r.Ok) (hl : rows.length ≤ 1000) : mAsg (mFz (mLC (mIt (mVar 1)) g3 mYes (mCall (F_measured c) 2 (mCons (mVar 11) (mCons (mC (.gl c.fe)) mNil))) [9, 10, 11])) (gN 5) (rhN (rows.map Row.d) x2 x3 (some (.d .non)) none none none none) [.ins c.prog []] = .nx (rhN (rows.map Row.d) x2 x3 (some (.d .non)) (szD rows) none none none) [.ins c.prog []] :=
  asg_eq (comp_sizes c rows x2 x3 (some (.d .non)) none none none none [.ins c.prog []] hl hok) rfl
theorem s5 (hl : rows.length ≤ 1000) : mPar2 6 7 (mCons (mN (one sumD) (mCons (mFz (mLC (mIt (mVar 5)) (gN 12) mYes (mBin ixD (mVar 12) (mC (.int 0))) [12])) mNil)) (mCons (mN (one (maxDf 0)) (mCons (mFz (mLC (mIt (mVar 5)) (gN 12) mYes (mBin ixD (mVar 12) (mC (.int 1))) [12])) mNil)) mNil)) (rhN (rows.map Row.d) x2 x3 (some (.d .non)) (szD rows) none none none) [.ins c.prog []] =
    .nx (rhN (rows.map Row.d) x2 x3 (some (.d .non)) (szD rows) (some (.d (.int (nodesOf rows)))) (some (.d (.int (deepOf rows)))) none) [.ins c.prog []] := by
  have e1 := comp_ix rows x2 x3 (some (.d .non)) none none none [.ins c.prog []] hl 0 (fun r => r.e.size) (fun r => rfl)
  have e2 := comp_ix rows x2 x3 (some (.d .non)) none none none [.ins c.prog []] hl 1 (fun r => r.e.deep) (fun r => rfl)
  unfold mPar2
  rw [cons_eq (n_eq (hn := one sumD) (cons_eq e1 (ms := mNil) rfl) rfl (sum_int rows)) (cons_eq (ms := mNil) (n_eq (hn := one (maxDf 0)) (cons_eq e2 (ms := mNil) rfl) rfl (max_int rows)) rfl)]
  rfl
theorem gt_nat (a b : Nat) : gtI (.int a) (.int b) = some (.bl (decide (b < a))) := by
  simp [gtI, intOp]
theorem cond6 : (mOr (mB (mBin gtI (mVar 6) (mC (.int 2000)))) (mB (mBin gtI (mVar 7) (mC (.int 100))))) (rhN (rows.map Row.d) x2 x3 (some (.d .non)) (szD rows) (some (.d (.int (nodesOf rows)))) (some (.d (.int (deepOf rows)))) none) [.ins c.prog []] = .ok (decide (2000 < nodesOf rows ∨ 100 < deepOf rows)) [.ins c.prog []] := by
  have a := gt_nat (nodesOf rows) 2000
  have b := gt_nat (deepOf rows) 100
  by_cases h : 2000 < nodesOf rows
  · rw [decide_eq_true h] at a
    rw [decide_eq_true (Or.inl h)]
    exact or_t (b_eq (bin_eq rfl rfl rfl rfl a))
  · rw [decide_eq_false h] at a
    refine or_f (b_eq (bin_eq rfl rfl rfl rfl a)) ?_
    by_cases h2 : 100 < deepOf rows
    · rw [decide_eq_true h2] at b
      rw [decide_eq_true (Or.inr h2)]
      exact b_eq (bin_eq rfl rfl rfl rfl b)
    · rw [decide_eq_false h2] at b
      rw [decide_eq_false (fun q => q.elim h h2)]
      exact b_eq (bin_eq rfl rfl rfl rfl b)
end
theorem init_large (c : Ad) (rows : List Row) (hok : ∀ r ∈ rows, r.Ok) (hl : rows.length ≤ 1000) (ht : ftAt [] (rows.map fun r => tx r.n) = .non) (hb : 2000 < nodesOf rows ∨ 100 < deepOf rows) :
    F_Program___init__ c [.ref 0, .d (.lst (rows.map Row.d))] [.ins c.prog []] = .exc c.large [("deepest", .int (deepOf rows)), ("nodes", .int (nodesOf rows))] [.ins c.prog []] := by
  unfold F_Program___init__ b_Program___init__
  obtain ⟨x2, x3, h1⟩ := in_good c rows hok
  have h2 := again_eq c rows hl x2 x3
  rw [ht] at h2
  have h6 := cond6 c rows x2 x3
  rw [decide_eq_true hb] at h6
  have s6 : mIfS (mOr (mB (mBin gtI (mVar 6) (mC (.int 2000)))) (mB (mBin gtI (mVar 7) (mC (.int 100))))) (mRaise c.large ["nodes", "deepest"] (mCons (mVar 6) (mCons (mVar 7) mNil))) mNext (rhN (rows.map Row.d) x2 x3 (some (.d .non)) (szD rows) (some (.d (.int (nodesOf rows)))) (some (.d (.int (deepOf rows)))) none) [.ins c.prog []] =
      .exc c.large [("deepest", .int (deepOf rows)), ("nodes", .int (nodesOf rows))] (rhN (rows.map Row.d) x2 x3 (some (.d .non)) (szD rows) (some (.d (.int (nodesOf rows)))) (some (.d (.int (deepOf rows)))) none) [.ins c.prog []] := ifs_t h6 rfl
  show SR.finT true 1 (mSeq _ _ (rh0 (rows.map Row.d) none none) [.ins c.prog []]) = _
  rw [seq_nx h1, seq_nx h2, seq_nx (s3 c rows x2 x3), seq_nx (s4 c rows x2 x3 hok hl), seq_nx (s5 c rows x2 x3 hl), seq_exc s6]
  rfl
theorem init_bad (c : Ad) (xs : List D) (p : D → Bool) (hp : ∀ d ∈ xs, F_is_function c [.d d] [] = .ok (.d (.bl (p d))) []) (k : Nat) (d0 : D) (h0 : xs[k]? = some d0) (h1 : p d0 = false) (h2 : ∀ j d, j < k → xs[j]? = some d → p d = true) :
    F_Program___init__ c [.ref 0, .d (.lst xs)] [.ins c.prog []] = .exc c.bad [("at", .int k)] [.ins c.prog []] := by
  unfold F_Program___init__ b_Program___init__
  rcases in_scan c xs p hp with ⟨k', d, x2, x3, e1, e2, e3, e4⟩ | ⟨x2, x3, e1, _⟩
  · have : k' = k := by
      rcases Nat.lt_trichotomy k' k with q | q | q
      · have := h2 k' d q e1
        rw [e2] at this; cases this
      · exact q
      · have := e3 k d0 q h0
        rw [h1] at this; cases this
    subst this
    have s1 := for_eq (mi := mItA enumOf (mCons (mVar 1) mNil)) (q := (enumD xs, none)) (ρ := rh0 xs none none) (μ := [.ins c.prog []]) (μ1 := [.ins c.prog []]) rfl e4
    show SR.finT true 1 (mSeq _ _ (rh0 xs none none) [.ins c.prog []]) = _
    rw [seq_exc s1]
    rfl
  · have := e1 d0 (List.mem_of_getElem? h0)
    rw [h1] at this; cases this
end TT

namespace TT
open PySem L2
variable [TB]
theorem perm_map {α β : Type} {f : α → β} {ys xs : List β} (h : ys.Perm xs) : ∀ {l : List α}, xs = l.map f → ∃ l' : List α, l'.Perm l ∧ ys = l'.map f := by
  induction h with
  | nil => intro l hl; exact ⟨l, .refl _, hl⟩
  | cons x p ih =>
    intro l hl
    cases l with
    | nil => cases hl
    | cons a l =>
      injection hl with h1 h2
      obtain ⟨l', q1, q2⟩ := ih h2
      exact ⟨a :: l', q1.cons a, by rw [List.map_cons, ← h1, q2]⟩
  | swap x y p =>
    intro l hl
    cases l with
    | nil => cases hl
    | cons a l => cases l with
      | nil => cases hl
      | cons b l =>
        injection hl with h1 h2
        injection h2 with h2 h3
        exact ⟨b :: a :: l, .swap _ _ _, by rw [h1, h2, h3]; rfl⟩
  | trans p q ih1 ih2 =>
    intro l hl
    obtain ⟨l1, a1, a2⟩ := ih2 hl
    obtain ⟨l2, b1, b2⟩ := ih1 a2
    exact ⟨l2, b1.trans a1, b2⟩
theorem sort_rows (rows : List Row) (hl : rows.length ≤ 1000) : ∃ S : List Row, S.Perm rows ∧ sortD (rows.map Row.d) = some (S.map Row.d) := by
  obtain ⟨S, h1, h2⟩ := perm_map (f := Row.d) (List.mergeSort_perm (rows.map Row.d) (PySem.W.dataLe false keyD)) rfl
  refine ⟨S, h1, ?_⟩
  have hc : (rows.map Row.d).all (fun d => (key0 d).isSome) = true ∧ (rows.map Row.d).length ≤ sizeLine := by
    refine ⟨?_, by rw [List.length_map, sizeLine_eq]; omega⟩
    rw [List.all_eq_true]
    intro d hd
    obtain ⟨r, _, rfl⟩ := List.mem_map.mp hd
    rfl
  simp only [sortD]
  rw [if_pos hc, h2]
abbrev fnsD (S : List Row) : List (Str × MV) := [("functions", .d (.tup (S.map Row.d)))]
abbrev fullD (S : List Row) : List (Str × MV) := [("functions", .d (.tup (S.map Row.d))), ("names", .d (.tup (S.map fun r => nm r.n)))]
section
variable (c : Ad) (rows S : List Row) (x2 x3 : Option MV)
abbrev rhS (rows : List Row) (x2 x3 x8 : Option MV) : En := rhN (rows.map Row.d) x2 x3 (some (.d .non)) (szD rows) (some (.d (.int (nodesOf rows)))) (some (.d (.int (deepOf rows)))) x8
theorem s7 (hl : S.length ≤ 1000) (hs : sortD (rows.map Row.d) = some (S.map Row.d)) : mSetF c.prog "functions" (mN (one tupD) (mCons (mFz (mSort (mCons (mVar 1) mNil))) mNil)) (mVar 0) (rhS rows x2 x3 none) [.ins c.prog []] = .nx (rhS rows x2 x3 none) [.ins c.prog (fnsD S)] := by
  have e1 : mFz (mSort (mCons (mVar 1) mNil)) (rhS rows x2 x3 none) [.ins c.prog []] = .ok (.d (.lst (S.map Row.d))) [.ins c.prog []] := by
    simp [mSort, sortV, hs]
  have e2 : one tupD [.lst (S.map Row.d)] = some (.tup (S.map Row.d)) := by
    simp [one, tupD]
  unfold mSetF
  rw [n_eq (hn := one tupD) (cons_eq (ms := mNil) e1 rfl) rfl e2]
  simp [putFld, putM]
theorem s8 (hl : S.length ≤ 1000) : mSetF c.prog "names" (mN (one tupD) (mCons (mFz (mLC (mIt (mFld c.prog "functions" (mVar 0))) (gN 13) mYes (mBin ixD (mVar 13) (mC (.int 0))) [13])) mNil)) (mVar 0) (rhS rows x2 x3 none) [.ins c.prog (fnsD S)] = .nx (rhS rows x2 x3 none) [.ins c.prog (fullD S)] := by
  have e0 : mIt (mFld c.prog "functions" (mVar 0)) (rhS rows x2 x3 none) [.ins c.prog (fnsD S)] = .ok (S.map Row.d, none) [.ins c.prog (fnsD S)] := by
    simp [mFld, fldOf, List.lookup]
  have e1 := lcr_eq (el := mBin ixD (mVar 13) (mC (.int 0))) (g := gN 13) (vs := [13]) (ρ := rhS rows x2 x3 none) (μ := [.ins c.prog (fnsD S)]) Row.d (fun r => nm r.n) S e0 rfl rfl hl fun r hr => ⟨_, rfl, bin_eq rfl rfl rfl rfl rfl⟩
  have e2 : one tupD [.lst (S.map fun r => nm r.n)] = some (.tup (S.map fun r => nm r.n)) := by
    simp [one, tupD]
  unfold mSetF
  rw [n_eq (hn := one tupD) (cons_eq (ms := mNil) e1 rfl) rfl e2]
  have hne : ("functions" : Str) ≠ "names" := by decide
  simp [putFld, putM, hne]
end
end TT

namespace TT
open PySem L2
variable [TB]
theorem dcr_ok {α : Type} {q : List D × Option Nat} {g : MG} {ek ev : ME} {ρ : En} {μ : List MO} (hq : q.2 = none) (h kd v : α → D) (k : α → Key) : ∀ (rs : List α) (acc : List (Key × D)),
    (∀ r ∈ rs, ∃ ρ1, g (.d (h r)) ρ = some ρ1 ∧ ek ρ1 μ = .ok (.d (kd r)) μ ∧ keyOf (kd r) = some (k r) ∧ ev ρ1 μ = .ok (.d (v r)) μ) → dcD q g mYes ek ev ρ (rs.map h) acc μ = .ok (rs.foldl (fun a r => putD a (k r) (v r)) acc) μ
  | [], acc, _ => by show dcD q g mYes ek ev ρ [] acc μ = _; unfold dcD chk; rw [hq]; simp
  | r :: rs, acc, hh => by
    obtain ⟨ρ1, h1, h2, h3, h4⟩ := hh r List.mem_cons_self
    show dcD q g mYes ek ev ρ (h r :: rs.map h) acc μ = _
    rw [dcD]
    unfold chk
    rw [hq]
    simp only [if_true, h1, mYes, Res.calm_ok, Res.bind_ok, h2, h3, h4]
    rw [dcr_ok hq h kd v k rs _ fun y hy => hh y (List.mem_cons_of_mem _ hy)]
    rfl
def arsOf (rows : List Row) : Ars := rows.map fun r => (r.n, r.ps.length)
theorem put_new {acc : Ars} {n : List Nat} {k : Nat} (h : ∀ p ∈ acc, p.1 ≠ n) : putD (arK acc) (.inr (tx n)) (.int k) = arK (acc ++ [(n, k)]) := by
  have : ((arK acc).any fun p => decide (p.1 = (Sum.inr (tx n) : Key))) = false := by
    rw [List.any_eq_false]
    intro p hp
    obtain ⟨q, h1, rfl⟩ := List.mem_map.mp hp
    simp only [decide_eq_true_eq]
    exact fun z => h q h1 (tx_inj (Sum.inr.inj z))
  unfold putD
  rw [this]
  simp [arK]
theorem fold_ars : ∀ (rows : List Row) (acc : Ars), (acc.map (·.1) ++ rows.map fun r => r.n).Nodup → rows.foldl (fun a r => putD a (.inr (tx r.n)) (.int r.ps.length)) (arK acc) = arK (acc ++ arsOf rows)
  | [], acc, _ => by simp [arsOf]
  | r :: rs, acc, h => by
    rw [List.foldl_cons, put_new (fun p hp q => ?_), fold_ars rs (acc ++ [(r.n, r.ps.length)]) (by simpa using h)]
    · simp [arsOf]
    · rw [List.nodup_append] at h
      exact h.2.2 p.1 (List.mem_map.mpr ⟨p, hp, rfl⟩) r.n (by simp) q
theorem s9 (c : Ad) (rows : List Row) (hl : rows.length ≤ 1000) (hn : (rows.map fun r => r.n).Nodup) (x2 x3 : Option MV) (μ : List MO) : mAsg (mFk (mDC (mIt (mVar 1)) g3 mYes (mVar 9) (mN (one lenD) (mCons (mVar 10) mNil)) [9, 10, 11])) (gN 8) (rhS rows x2 x3 none) μ = .nx (rhS rows x2 x3 (some (.d (.dK (arK (arsOf rows)))))) μ := by
  have hf := fold_ars rows [] (by simpa using hn)
  have e : mFk (mDC (mIt (mVar 1)) g3 mYes (mVar 9) (mN (one lenD) (mCons (mVar 10) mNil)) [9, 10, 11]) (rhS rows x2 x3 none) μ = .ok (.d (.dK (arK (arsOf rows)))) μ := by
    unfold mFk mDC
    have hi : mIt (mVar 1) (rhS rows x2 x3 none) μ = .ok (rows.map Row.d, none) μ := rfl
    rw [hi]
    have hz : (rows.map Row.d).length ≤ sizeLine := by rw [List.length_map, sizeLine_eq]; omega
    simp only [Res.bind_ok, if_pos hz]
    rw [dcr_ok (q := (rows.map Row.d, none)) rfl Row.d (fun r => nm r.n) (fun r => .int r.ps.length) (fun r => .inr (tx r.n)) rows [] fun r hr => ⟨_, rfl, rfl, rfl, n_eq (hn := one lenD) rfl rfl (by simp [one, lenD])⟩]
    have hf2 : rows.foldl (fun a r => putD a (.inr (tx r.n)) (.int r.ps.length)) [] = arK (arsOf rows) := by simpa [arK] using hf
    rw [hf2]
    rfl
  exact asg_eq e rfl
/-- the first error among the rows -/
def lookR (ars : Ars) : List Row → Option Er
  | [] => none
  | r :: rs => match lookF ars (r.e.size + 1) [(r.e, r.ps)] with
    | some er => some er
    | none => lookR ars rs
abbrev rhL (rows : List Row) (x2 x3 y9 y10 y11 : Option MV) : En := [some (.ref 0), some (.d (.lst (rows.map Row.d))), x2, x3, some (.d .non), szD rows, some (.d (.int (nodesOf rows))), some (.d (.int (deepOf rows))), some (.d (.dK (arK (arsOf rows)))), y9, y10, y11, none, none]
theorem s10 (c : Ad) (rows : List Row) (x2 x3 : Option MV) (μ : List MO) (q : List D × Option Nat) (hq : q.2 = none) : ∀ (S : List Row), (∀ r ∈ S, r.Ok ∧ r.e.deep ≤ 900) → ∀ (y9 y10 y11 : Option MV), ∃ z9 z10 z11,
    forD q g3 (mExpr (mCall (F_look_body c) 3 (mCons (mVar 11) (mCons (mVar 10) (mCons (mVar 8) mNil))))) (S.map Row.d) (rhL rows x2 x3 y9 y10 y11) μ = match lookR (arsOf rows) S with
      | none => .nx (rhL rows x2 x3 z9 z10 z11) μ
      | some er => .exc (er.at c) er.fs (rhL rows x2 x3 z9 z10 z11) μ
  | [], _, y9, y10, y11 => ⟨y9, y10, y11, by show forD q g3 _ [] _ μ = _; unfold forD chk; rw [hq]; rfl⟩
  | r :: S, hok, y9, y10, y11 => by
    have hr := hok r List.mem_cons_self
    have hl := look_ok c (arsOf rows) r.e r.ps hr.1.size (by have := hr.1.len; omega)
    cases hk : lookF (arsOf rows) (r.e.size + 1) [(r.e, r.ps)] with
    | none =>
      rw [hk] at hl
      obtain ⟨z9, z10, z11, ih⟩ := s10 c rows x2 x3 μ q hq S (fun x hx => hok x (List.mem_cons_of_mem _ hx)) (some (.d (nm r.n))) (some (.d (.tup (r.ps.map nm)))) (some (.d r.e.d))
      refine ⟨z9, z10, z11, ?_⟩
      have hb : mExpr (mCall (F_look_body c) 3 (mCons (mVar 11) (mCons (mVar 10) (mCons (mVar 8) mNil)))) (rhL rows x2 x3 (some (.d (nm r.n))) (some (.d (.tup (r.ps.map nm)))) (some (.d r.e.d))) μ = .nx (rhL rows x2 x3 (some (.d (nm r.n))) (some (.d (.tup (r.ps.map nm)))) (some (.d r.e.d))) μ := expr_eq (call_eq rfl rfl (call3 hl))
      have hR : lookR (arsOf rows) (r :: S) = lookR (arsOf rows) S := by simp [lookR, hk]
      rw [hR]
      refine Eq.trans ?_ ih
      show forD q g3 _ (r.d :: S.map Row.d) _ μ = _
      rw [forD]
      unfold chk
      rw [hq]
      show (if true = true then (match mExpr (mCall (F_look_body c) 3 (mCons (mVar 11) (mCons (mVar 10) (mCons (mVar 8) mNil)))) (rhL rows x2 x3 (some (.d (nm r.n))) (some (.d (.tup (r.ps.map nm)))) (some (.d r.e.d))) μ with
        | .nx ρ2 μ2 => _ | .ct ρ2 μ2 => _ | .bk ρ2 μ2 => _ | r => r) else _) = _
      rw [hb]
      rfl
    | some er =>
      rw [hk] at hl
      refine ⟨some (.d (nm r.n)), some (.d (.tup (r.ps.map nm))), some (.d r.e.d), ?_⟩
      have hc : mCall (F_look_body c) 3 (mCons (mVar 11) (mCons (mVar 10) (mCons (mVar 8) mNil))) (rhL rows x2 x3 (some (.d (nm r.n))) (some (.d (.tup (r.ps.map nm)))) (some (.d r.e.d))) μ = .exc (er.at c) er.fs μ := call_eq rfl rfl (callX3 hl)
      have hb : mExpr (mCall (F_look_body c) 3 (mCons (mVar 11) (mCons (mVar 10) (mCons (mVar 8) mNil)))) (rhL rows x2 x3 (some (.d (nm r.n))) (some (.d (.tup (r.ps.map nm)))) (some (.d r.e.d))) μ = .exc (er.at c) er.fs (rhL rows x2 x3 (some (.d (nm r.n))) (some (.d (.tup (r.ps.map nm)))) (some (.d r.e.d))) μ := by
        simp only [mExpr, hc, Res.stm_exc]
      have hR : lookR (arsOf rows) (r :: S) = some er := by simp [lookR, hk]
      rw [hR]
      show forD q g3 _ (r.d :: S.map Row.d) _ μ = _
      rw [forD]
      unfold chk
      rw [hq]
      show (if true = true then (match mExpr (mCall (F_look_body c) 3 (mCons (mVar 11) (mCons (mVar 10) (mCons (mVar 8) mNil)))) (rhL rows x2 x3 (some (.d (nm r.n))) (some (.d (.tup (r.ps.map nm)))) (some (.d r.e.d))) μ with
        | .nx ρ2 μ2 => _ | .ct ρ2 μ2 => _ | .bk ρ2 μ2 => _ | r => r) else _) = _
      rw [hb]
      rfl
end TT

namespace TT
open PySem L2
variable [TB]
theorem ft_nodup : ∀ (l : List (List Nat)) (seen : List Str), ftAt seen (l.map tx) = .non → l.Nodup ∧ ∀ x ∈ l, tx x ∉ seen
  | [], _, _ => ⟨List.nodup_nil, fun x h => by cases h⟩
  | a :: l, seen, h => by
    rw [List.map_cons, ft_cons] at h
    by_cases q : tx a ∈ seen
    · rw [if_pos q] at h; cases h
    · rw [if_neg q] at h
      obtain ⟨h1, h2⟩ := ft_nodup l (tx a :: seen) h
      refine ⟨List.nodup_cons.mpr ⟨fun z => h2 a z List.mem_cons_self, h1⟩, fun x hx => ?_⟩
      rcases List.mem_cons.mp hx with z | z
      · rw [z]; exact q
      · exact fun y => h2 x z (List.mem_cons_of_mem _ y)
theorem fold_ge : ∀ (l : List Nat) (x : Nat), x ≤ l.foldl max x ∧ ∀ y ∈ l, y ≤ l.foldl max x
  | [], x => ⟨Nat.le_refl _, fun y h => by cases h⟩
  | a :: l, x => by
    obtain ⟨h1, h2⟩ := fold_ge l (max x a)
    refine ⟨by rw [List.foldl_cons]; omega, fun y hy => ?_⟩
    rw [List.foldl_cons]
    rcases List.mem_cons.mp hy with z | z
    · omega
    · exact h2 y z
theorem deep_le {rows : List Row} {r : Row} (h : r ∈ rows) : r.e.deep ≤ deepOf rows := (fold_ge _ 0).2 _ (List.mem_map.mpr ⟨r, h, rfl⟩)
theorem init_look (c : Ad) (rows : List Row) (hok : ∀ r ∈ rows, r.Ok) (hl : rows.length ≤ 1000) (ht : ftAt [] (rows.map fun r => tx r.n) = .non) (hb : ¬ (2000 < nodesOf rows ∨ 100 < deepOf rows)) :
    ∃ S : List Row, S.Perm rows ∧ F_Program___init__ c [.ref 0, .d (.lst (rows.map Row.d))] [.ins c.prog []] = match lookR (arsOf rows) S with
      | none => .ok (.d .non) [.ins c.prog (fullD S)]
      | some er => .exc (er.at c) er.fs [.ins c.prog (fullD S)] := by
  obtain ⟨S, hS, hsort⟩ := sort_rows rows hl
  refine ⟨S, hS, ?_⟩
  have hlS : S.length ≤ 1000 := by rw [hS.length_eq]; exact hl
  have hnd : (rows.map fun r => r.n).Nodup := by
    have : ftAt [] ((rows.map fun r => r.n).map tx) = .non := by rw [List.map_map]; exact ht
    exact (ft_nodup _ _ this).1
  unfold F_Program___init__ b_Program___init__
  obtain ⟨x2, x3, h1⟩ := in_good c rows hok
  have h2 := again_eq c rows hl x2 x3
  rw [ht] at h2
  have h6 := cond6 c rows x2 x3
  rw [decide_eq_false hb] at h6
  have s6 : mIfS (mOr (mB (mBin gtI (mVar 6) (mC (.int 2000)))) (mB (mBin gtI (mVar 7) (mC (.int 100))))) (mRaise c.large ["nodes", "deepest"] (mCons (mVar 6) (mCons (mVar 7) mNil))) mNext (rhS rows x2 x3 none) [.ins c.prog []] = .nx (rhS rows x2 x3 none) [.ins c.prog []] := ifs_f h6 rfl
  obtain ⟨z9, z10, z11, h10⟩ := s10 c rows x2 x3 [.ins c.prog (fullD S)] (S.map Row.d, none) rfl S (fun r hr => ⟨hok r (hS.mem_iff.mp hr), by
    have := deep_le (hS.mem_iff.mp hr)
    omega⟩) none none none
  have hi : mIt (mFld c.prog "functions" (mVar 0)) (rhL rows x2 x3 none none none) [.ins c.prog (fullD S)] = .ok (S.map Row.d, none) [.ins c.prog (fullD S)] := by
    simp [mFld, fldOf, List.lookup]
  have hfor := for_eq (mi := mIt (mFld c.prog "functions" (mVar 0))) hi h10
  show SR.finT true 1 (mSeq _ _ (rh0 (rows.map Row.d) none none) [.ins c.prog []]) = _
  rw [seq_nx h1, seq_nx h2, seq_nx (s3 c rows x2 x3), seq_nx (s4 c rows x2 x3 hok hl), seq_nx (s5 c rows x2 x3 hl), seq_nx s6, seq_nx (s7 c rows S x2 x3 hlS hsort), seq_nx (s8 c rows S x2 x3 hlS), seq_nx (s9 c rows hl hnd x2 x3 _), hfor]
  cases lookR (arsOf rows) S <;> rfl
end TT

namespace TT
open PySem L2
variable [TB]
theorem sel_ins (C : Addr) (x : D) : selOf [.ins C []] [.ref 0, .d x] = [0] := by
  unfold selOf
  have e1 : argRefs [.ref 0, .d x] = [0] := rfl
  rw [e1]
  rfl
theorem mkd_exc {F : MF} {C C' : Addr} {x : D} {fs : List (Str × D)} {gs : List (Str × MV)} (h : F [.ref 0, .d x] [.ins C []] = .exc C' fs [.ins C gs]) : mkF C F 2 [.d x] [] = .exc C' fs [] := by
  have e : callF F [.ref 0, .d x] [.ins C []] = .exc C' fs [.ins C (backF [0] 1 gs)] := by
    unfold callF
    rw [sel_ins]
    have t : toCs [0] [.ref 0, .d x] = some [.ref 0, .d x] := rfl
    have p : pick [.ins C []] [0] [0] = some [.ins C []] := rfl
    simp only [t, p, h]
    rfl
  unfold mkF mkO
  simp [e]
theorem mkd_ok {F : MF} {C : Addr} {x : D} {S : List Row} (h : F [.ref 0, .d x] [.ins C []] = .ok (.d .non) [.ins C (fullD S)]) : mkF C F 2 [.d x] [] = .ok (.d (.obj C [("functions", .tup (S.map Row.d)), ("names", .tup (S.map fun r => nm r.n))])) [] := by
  have e : callF F [.ref 0, .d x] [.ins C []] = .ok (.d .non) [.ins C (fullD S)] := by
    unfold callF
    rw [sel_ins]
    have t : toCs [0] [.ref 0, .d x] = some [.ref 0, .d x] := rfl
    have p : pick [.ins C []] [0] [0] = some [.ins C []] := rfl
    simp only [t, p, h]
    rfl
  unfold mkF mkO
  simp [e, dataF, fieldRefs]
abbrev theAd : Ad := ⟨51, 70, 89, 108, 127, 146, 272, 31, 190⟩
theorem len_ok (S : List Row) : F_Program___len__ theAd [.d (.obj 272 [("functions", .tup (S.map Row.d)), ("names", .tup (S.map fun r => nm r.n))])] [] = .ok (.d (.int S.length)) [] := by
  unfold F_Program___len__ b_Program___len__
  have e : ("functions" : Str) ≠ "names" := by decide
  have e2 : (("names" : Str) == ("functions" : Str)) = false := by decide
  simp [mFld, fldOf, List.lookup, e2]
theorem mkf_eq {C : Addr} {F : MF} {n : Nat} {ms : MA} {ρ : En} {μ μ1 : List MO} {as : List MV} {r : Res MV} (hs : ms ρ μ = .ok as μ1) (h : mkF C F n as μ1 = r) : mMkF C F n ms ρ μ = r := by
  simp only [mMkF, hs, Res.bind_ok, h]
theorem olen_eq {C : Addr} {F : MF} {ms : MA} {ρ : En} {μ μ1 μ2 : List MO} {v : MV} {n : Int} (hs : ms ρ μ = .ok [v] μ1) (hi : isInsC C v μ1 = true) (hc : callF F [v] μ1 = .ok (.d (.int n)) μ2) (h0 : 0 ≤ n) (h1 : n < 1000000) : mOLen C F ms ρ μ = .ok (.d (.int n)) μ2 := by
  have hb : 0 ≤ n ∧ n < 2 ^ 63 := by constructor <;> omega
  simp only [mOLen, hs, Res.bind_ok, hi, if_true, hc, if_pos hb]
theorem try2_exc {x : D} {C : Addr} {fs : List (Str × D)} {gs : List (Str × MV)} (h : F_Program___init__ theAd [.ref 0, .d x] [.ins theAd.prog []] = .exc C fs [.ins theAd.prog gs]) (cs : List MC2) :
    mTry2 (mAsg (mMkF theAd.prog (F_Program___init__ theAd) 2 (mCons (mVar 0) mNil)) (gN 1)) cs [some (.d x), none, none] [] = tryI cs C fs [some (.d x), none, none] [] := by
  have hm := mkd_exc h
  have ha : mAsg (mMkF theAd.prog (F_Program___init__ theAd) 2 (mCons (mVar 0) mNil)) (gN 1) [some (.d x), none, none] [] = .exc C fs [some (.d x), none, none] [] := by
    have e := mkf_eq (ms := mCons (mVar 0) mNil) (ρ := [some (.d x), none, none]) (μ := []) (μ1 := []) (as := [.d x]) rfl hm
    simp [mAsg, e]
  unfold mTry2
  rw [ha]
theorem told_made (rows S : List Row) (hS : S.Perm rows) (hl : rows.length ≤ 1000) (h : F_Program___init__ theAd [.ref 0, .d (.lst (rows.map Row.d))] [.ins theAd.prog []] = .ok (.d .non) [.ins theAd.prog (fullD S)]) :
    F_told theAd [.d (.lst (rows.map Row.d))] [] = .ok (.d (.tup [.str "made", .int rows.length])) [] := by
  unfold F_told b_told
  have hm := mkd_ok h
  have hlen := len_ok S
  rw [hS.length_eq] at hlen
  have s1 : ∀ cs, mTry2 (mAsg (mMkF theAd.prog (F_Program___init__ theAd) 2 (mCons (mVar 0) mNil)) (gN 1)) cs [some (.d (.lst (rows.map Row.d))), none, none] [] = .nx [some (.d (.lst (rows.map Row.d))), some (.d (.obj 272 [("functions", .tup (S.map Row.d)), ("names", .tup (S.map fun r => nm r.n))])), none] [] := fun cs => by
    have ha : mAsg (mMkF theAd.prog (F_Program___init__ theAd) 2 (mCons (mVar 0) mNil)) (gN 1) [some (.d (.lst (rows.map Row.d))), none, none] [] = .nx [some (.d (.lst (rows.map Row.d))), some (.d (.obj 272 [("functions", .tup (S.map Row.d)), ("names", .tup (S.map fun r => nm r.n))])), none] [] :=
      asg_eq (v := .d (.obj 272 [("functions", .tup (S.map Row.d)), ("names", .tup (S.map fun r => nm r.n))])) (μ1 := []) (mkf_eq rfl hm) rfl
    unfold mTry2
    rw [ha]
  have s2 : mOLen theAd.prog (F_Program___len__ theAd) (mCons (mVar 1) mNil) [some (.d (.lst (rows.map Row.d))), some (.d (.obj 272 [("functions", .tup (S.map Row.d)), ("names", .tup (S.map fun r => nm r.n))])), none] [] = .ok (.d (.int rows.length)) [] := by
    exact olen_eq rfl rfl (call1 hlen) (by omega) (by omega)
  refine fn_rt (μ1 := []) ((seq_nx (s1 _)).trans (ret_eq (tup_eq (as := [.d (.str "made"), .d (.int rows.length)]) (xs := [.str "made", .int rows.length]) (cons_eq rfl (cons_eq s2 rfl)) rfl (by simp [sizeLine_eq])))) rfl
theorem xf_eq {a d : Addr} {f : Str} {x y : D} {C : Addr} {fs : List (Str × D)} (hf : fs.lookup f = some y) : mXf a d f (mVar 2) (onR (some 2) (.exn a d C fs) [some (.d x), none, none]) [] = .ok (.d y) [] := by
  simp [mXf, mVar, onR, hf]
theorem told_unk {x : D} {gs : List (Str × MV)} {y : D} (h : F_Program___init__ theAd [.ref 0, .d x] [.ins theAd.prog []] = .exc theAd.unk [("name", y)] [.ins theAd.prog gs]) :
    F_told theAd [.d x] [] = .ok (.d (.tup [.str "unknown", y, .bl true])) [] := by
  unfold F_told b_told
  refine fn_rt (μ1 := []) ((seq_rt ((try2_exc h _).trans ?_))) rfl
  rw [tryI, if_pos (by decide)]
  apply allAD_eq
  intro a d
  have e2 : mN (isEG a d theAd.tab true) (mCons (mVar 2) (mCons (mC (.gl theAd.tab)) mNil)) (onR (some 2) (.exn a d theAd.unk [("name", y)]) [some (.d x), none, none]) [] = .ok (.d (.bl true)) [] := n_eq (as := [.d (.exn a d theAd.unk [("name", y)]), .d (.gl theAd.tab)]) rfl rfl (if_pos ⟨rfl, rfl, rfl⟩)
  have r := ret_eq (tup_eq (as := [.d (.str "unknown"), .d y, .d (.bl true)]) (xs := [.str "unknown", y, .bl true]) (cons_eq (ma := mC (.str "unknown")) (a := .d (.str "unknown")) (μ := []) rfl (cons_eq (xf_eq (f := "name") rfl) (cons_eq e2 (ms := mNil) rfl))) rfl (by simp [sizeLine_eq]))
  exact (congrArg (SR.off (some 2)) r).trans rfl
theorem told_ar {x : D} {gs : List (Str × MV)} {y z : D} (h : F_Program___init__ theAd [.ref 0, .d x] [.ins theAd.prog []] = .exc theAd.ar [("given", z), ("name", y)] [.ins theAd.prog gs]) :
    F_told theAd [.d x] [] = .ok (.d (.tup [.str "arity", y, z, .bl false])) [] := by
  unfold F_told b_told
  refine fn_rt (μ1 := []) ((seq_rt ((try2_exc h _).trans ?_))) rfl
  rw [tryI, if_neg (by decide), if_pos (by decide)]
  rw [tryI, if_pos (by decide)]
  apply allAD_eq
  intro a d
  have e2 : mN (isEG a d theAd.unk (decide (theAd.ar = theAd.unk))) (mCons (mVar 2) (mCons (mC (.gl theAd.unk)) mNil)) (onR (some 2) (.exn a d theAd.ar [("given", z), ("name", y)]) [some (.d x), none, none]) [] = .ok (.d (.bl false)) [] := n_eq (as := [.d (.exn a d theAd.ar [("given", z), ("name", y)]), .d (.gl theAd.unk)]) rfl rfl (if_pos ⟨rfl, rfl, rfl⟩)
  have r := ret_eq (tup_eq (as := [.d (.str "arity"), .d y, .d z, .d (.bl false)]) (xs := [.str "arity", y, z, .bl false]) (cons_eq (ma := mC (.str "arity")) (a := .d (.str "arity")) (μ := []) rfl (cons_eq (xf_eq (f := "name") rfl) (cons_eq (xf_eq (f := "given") rfl) (cons_eq e2 (ms := mNil) rfl)))) rfl (by simp [sizeLine_eq]))
  exact (congrArg (SR.off (some 2)) r).trans rfl
theorem told_unb {x : D} {gs : List (Str × MV)} {y : D} (h : F_Program___init__ theAd [.ref 0, .d x] [.ins theAd.prog []] = .exc theAd.unb [("name", y)] [.ins theAd.prog gs]) :
    F_told theAd [.d x] [] = .ok (.d (.tup [.str "unbound", y, .bl true])) [] := by
  unfold F_told b_told
  refine fn_rt (μ1 := []) ((seq_rt ((try2_exc h _).trans ?_))) rfl
  rw [tryI, if_neg (by decide), if_pos (by decide)]
  rw [tryI, if_neg (by decide), if_pos (by decide)]
  rw [tryI, if_pos (by decide)]
  apply allAD_eq
  intro a d
  have e2 : mN (isET a d "ValueError" true) (mCons (mVar 2) (mCons (mC (.ty "ValueError")) mNil)) (onR (some 2) (.exn a d theAd.unb [("name", y)]) [some (.d x), none, none]) [] = .ok (.d (.bl true)) [] := n_eq (as := [.d (.exn a d theAd.unb [("name", y)]), .d (.ty "ValueError")]) rfl rfl (if_pos ⟨rfl, rfl, rfl⟩)
  have r := ret_eq (tup_eq (as := [.d (.str "unbound"), .d y, .d (.bl true)]) (xs := [.str "unbound", y, .bl true]) (cons_eq (ma := mC (.str "unbound")) (a := .d (.str "unbound")) (μ := []) rfl (cons_eq (xf_eq (f := "name") rfl) (cons_eq e2 (ms := mNil) rfl))) rfl (by simp [sizeLine_eq]))
  exact (congrArg (SR.off (some 2)) r).trans rfl
end TT

namespace TT
open PySem L2
variable [TB]
set_option maxHeartbeats 4000000 in
theorem number_ok {b : List D} (hb : Bag b) (L : Int) (hL : 3 ≤ L) (hL2 : L ≤ 10 ^ 40) : ∃ r b', F_number [.ref 0, .d (.int L)] [.lst b] = .ok (.d (.int r)) [.lst b'] ∧ Bag b' ∧ -L ≤ r ∧ r ≤ L := by
  have b40 : (10 : Int) ^ 40 < 2 ^ 200 := by decide
  obtain ⟨q, b1, e1, q0, q6, h1⟩ := call_take (μ := [.lst b]) 0 rfl hb 6 (by decide) (by decide)
  have e1' : callF F_take [.ref 0, .d (.int 6)] [.lst b] = .ok (.d (.int q)) [.lst b1] := e1
  have s1 : mAsg (mCall F_take 2 (mCons (mVar 0) (mCons (mC (.int 6)) mNil))) (gN 2) [some (.ref 0), some (.d (.int L)), none] [.lst b] = .nx [some (.ref 0), some (.d (.int L)), some (.d (.int q))] [.lst b1] := asg_eq (call_eq rfl rfl e1') rfl
  unfold F_number b_number
  by_cases c1 : q < 3
  · obtain ⟨r, b2, e2, r0, r7, h2⟩ := call_take (μ := [.lst b1]) 0 rfl h1 7 (by decide) (by decide)
    have e2' : callF F_take [.ref 0, .d (.int 7)] [.lst b1] = .ok (.d (.int r)) [.lst b2] := e2
    have g : ltI (.int q) (.int 3) = some (.bl true) := by simp [c1]
    exact ⟨r - 3, b2, fn_rt (μ1 := [.lst b2]) ((seq_nx s1).trans (seq_rt (ifs_t (b_eq (bin_eq rfl rfl rfl rfl g)) (ret_eq (bin_eq (call_eq rfl rfl e2') rfl rfl rfl rfl))))) rfl, h2, by omega, by omega⟩
  · have g : ltI (.int q) (.int 3) = some (.bl false) := by simp [c1]
    by_cases c2 : q = 3
    · obtain ⟨r, b2, e2, r0, r2, h2⟩ := call_take (μ := [.lst b1]) 0 rfl h1 2 (by decide) (by decide)
      have e2' : callF F_take [.ref 0, .d (.int 2)] [.lst b1] = .ok (.d (.int r)) [.lst b2] := e2
      have g2 : eqD (.int q) (.int 3) = some (.bl true) := by simp [c2]
      have m1 : mulD (.int 2) (.int L) = some (.int (2 * L)) := by simp [mulD, CMul]
      have m2 : mulD (.int (2 * L)) (.int r) = some (.int (2 * L * r)) := by
        exact if_pos (.inr ⟨by omega, by omega⟩)
      refine ⟨L - 2 * L * r, b2, fn_rt (μ1 := [.lst b2]) ((seq_nx s1).trans ((seq_nx (ifs_f (b_eq (bin_eq rfl rfl rfl rfl g)) rfl)).trans (seq_rt (ifs_t (b_eq (bin_eq rfl rfl rfl rfl g2)) (ret_eq (bin_eq rfl (bin_eq (bin_eq rfl rfl rfl rfl m1) (call_eq rfl rfl e2') rfl rfl m2) rfl rfl rfl)))))) rfl, h2, ?_⟩
      have : r = 0 ∨ r = 1 := by omega
      rcases this with rfl | rfl <;> omega
    · have g2 : eqD (.int q) (.int 3) = some (.bl false) := by simp [c2]
      have m1 : mulD (.int 2) (.int L) = some (.int (2 * L)) := by simp [mulD, CMul]
      obtain ⟨r, b2, e2, r0, r2, h2⟩ := call_take (μ := [.lst b1]) 0 rfl h1 (2 * L + 1) (by omega) (by omega)
      have e2' : callF F_take [.ref 0, .d (.int (2 * L + 1))] [.lst b1] = .ok (.d (.int r)) [.lst b2] := e2
      exact ⟨r - L, b2, fn_rt (μ1 := [.lst b2]) ((seq_nx s1).trans ((seq_nx (ifs_f (b_eq (bin_eq rfl rfl rfl rfl g)) rfl)).trans ((seq_nx (ifs_f (b_eq (bin_eq rfl rfl rfl rfl g2)) rfl)).trans (ret_eq (bin_eq (call_eq (as := [.ref 0, .d (.int (2 * L + 1))]) (cons_eq rfl (cons_eq (bin_eq (bin_eq rfl rfl rfl rfl m1) rfl rfl rfl rfl) rfl)) rfl e2') rfl rfl rfl rfl))))) rfl, h2, by omega, by omega⟩

section
variable {r : List MO} {b : List D} {K : MV → List MO → Prop} {E : Addr → List (Str × D) → List MO → Prop}
set_option maxHeartbeats 4000000 in
theorem p_take (h : Bag b) {m : Int} (hm : 0 < m) (hm2 : m < 2 ^ 300) (k : ∀ q b', 0 ≤ q → q < m → Bag b' → K (.d (.int q)) (.lst b' :: r)) : (callF F_take [.ref 0, .d (.int m)] (.lst b :: r)).to K E := by
  obtain ⟨q, b', e1, e2, e3, e4⟩ := call_take (μ := .lst b :: r) 0 rfl h m hm hm2
  exact to_ok e1 (k q b' e2 e3 e4)
set_option maxHeartbeats 4000000 in
theorem p_number (h : Bag b) {L : Int} (hL : 3 ≤ L) (hL2 : L ≤ 10 ^ 40) (k : ∀ q b', -L ≤ q → q ≤ L → Bag b' → K (.d (.int q)) (.lst b' :: r)) : (callF F_number [.ref 0, .d (.int L)] (.lst b :: r)).to K E := by
  obtain ⟨q, b', e1, e2, e3, e4⟩ := number_ok h L hL hL2
  exact to_ok (callB2 (μ := .lst b :: r) (n := 0) rfl e1) (k q b' e3 e4 e2)
end
/-- names in scope, as data -/
abbrev scD (sc : List (List Nat)) : D := .lst (sc.map nm)
set_option maxHeartbeats 4000000 in
theorem ne_scD (sc : List (List Nat)) : neD (scD sc) (.lst []) = some (.bl (!sc.isEmpty)) := by
  cases sc with
  | nil => exact ne_nil0
  | cons a l => exact ne_nil _ (by simp)
set_option maxHeartbeats 4000000 in
theorem eq_scD (sc : List (List Nat)) : eqD (scD sc) (.lst []) = some (.bl sc.isEmpty) := by
  cases sc with
  | nil => rfl
  | cons a l => simp [eqD, eqB, scD]
set_option maxHeartbeats 4000000 in
theorem ix_sc {sc : List (List Nat)} (hl : sc.length ≤ 1000) {q : Int} (h0 : 0 ≤ q) (h1 : q < sc.length) : ∃ x ∈ sc, ixD (scD sc) (.int q) = some (nm x) := by
  obtain ⟨n, rfl⟩ : ∃ n : Nat, q = n := ⟨q.toNat, by omega⟩
  have hn : n < sc.length := by omega
  refine ⟨sc[n], List.getElem_mem hn, ?_⟩
  simp [ixD, scD, sizeLine_eq, hn]
def AtIn (sc : List (List Nat)) (a : At) : Prop := a.Ok ∧ ∀ x, a = .var x → x ∈ sc
set_option maxHeartbeats 4000000 in
theorem atom_to {b : List D} (hb : Bag b) {sc : List (List Nat)} (hs : ∀ x ∈ sc, NameOk x) (hl : sc.length ≤ 1000) : (F_atom [.ref 0, .d (scD sc)] [.lst b]).to (fun v μ' => ∃ a b', v = .d (At.d a) ∧ AtIn sc a ∧ Bag b' ∧ μ' = [.lst b']) no3 := by
  unfold F_atom b_atom
  refine fn_to ?_
  have hz : one lenD [scD sc] = some (.int sc.length) := by simp [one, lenD]
  refine w_seq ?_
  wtm_at "wr"
  with_reducible refine e_op2 (by with_unfolding_all rfl) (by with_unfolding_all rfl) (ne_scD sc) ?_
  wtm_at "wr"
  refine br_ok (fun h => ?_) (fun h => ?_)
  · wtm_at "wr"
    refine p_take hb (by decide) (by decide) fun q b h0 h1 hb => ?_
    wtm_at "wr"
    refine br_ok (fun h2 => ?_) (fun h2 => ?_)
    · wtm_at "wr"
      have hne : 0 < sc.length := by
        cases sc with
        | nil => cases h
        | cons a l => simp
      refine p_take hb (by simp; omega) (by simp; omega) fun q b h0 h1 hb => ?_
      obtain ⟨x, hx, e⟩ := ix_sc hl h0 (by simpa using h1)
      with_reducible refine e_op2 (by with_unfolding_all rfl) (by with_unfolding_all rfl) e ?_
      wtm_at "wr"
      exact ⟨_, rfl, rfl, .var x, b, rfl, ⟨hs x hx, fun y h => by cases h; exact hx⟩, hb, rfl⟩
    · wtm_at "wr"
      refine p_number hb (by decide) (by decide) fun q b' h1 h2 hb' => ?_
      wtm_at "wr"
      exact ⟨_, rfl, rfl, .num q, b', rfl, ⟨⟨h1, h2⟩, fun x h => by cases h⟩, hb', rfl⟩
  · wtm_at "wr"
    refine p_number hb (by decide) (by decide) fun q b' h1 h2 hb' => ?_
    wtm_at "wr"
    exact ⟨_, rfl, rfl, .num q, b', rfl, ⟨⟨h1, h2⟩, fun x h => by cases h⟩, hb', rfl⟩
end TT

namespace TT
open PySem L2
variable [TB]
set_option maxHeartbeats 8000000 in
theorem atoms_to {b : List D} (hb : Bag b) {sc : List (List Nat)} (hs : ∀ x ∈ sc, NameOk x) (hl : sc.length ≤ 1000) {m : Int} (h0 : 0 ≤ m) (h1 : m ≤ 4) : (F_atoms [.ref 0, .d (scD sc), .d (.int m)] [.lst b]).to (fun v μ' => ∃ (as : List At) (b' : List D), v = .d (.tup (as.map At.d)) ∧ as.length = m.toNat ∧ (∀ a ∈ as, AtIn sc a) ∧ Bag b' ∧ μ' = [.lst b']) no3 := by
  unfold F_atoms b_atoms
  refine fn_to ?_
  wtm_at "wr"
  refine e_lc (fun xs acc μ => ∃ (as : List At) (b : List D), acc = as.map At.d ∧ as.length + xs.length = m.toNat ∧ (∀ a ∈ as, AtIn sc a) ∧ Bag b ∧ μ = [.lst b]) ?_
  wtm_at "wr"
  refine to_ok (rng1_eq m h0 (by omega)) ⟨rfl, by simp [intsD, sizeLine_eq]; omega, ⟨[], b, rfl, by simp [intsD], (fun a h => by cases h), hb, rfl⟩, ?_, ?_⟩
  · rintro x xs acc μ ⟨as, b, rfl, hn, ha, hb, rfl⟩
    refine ⟨_, rfl, ?_⟩
    wtm_at "wr"
    obtain ⟨v, μ', e, a, b', rfl, h2, h3, rfl⟩ := ok_to (atom_to hb hs hl)
    refine to_ok (callB2 (μ := [.lst b]) (n := 0) rfl e) ?_
    refine ⟨_, rfl, as ++ [a], b', by simp, by simp at hn ⊢; omega, fun c hc => ?_, h3, rfl⟩
    rcases List.mem_append.mp hc with h | h
    · exact ha c h
    · rw [List.mem_singleton.mp h]; exact h2
  · rintro acc μ ⟨as, b, rfl, hn, ha, hb, rfl⟩
    simp only [List.length_nil, Nat.add_zero] at hn
    wtm_at "wr"
    exact ⟨_, rfl, rfl, as, b, rfl, hn, ha, hb, rfl⟩
section
variable {r : List MO} {b : List D} {K : MV → List MO → Prop} {E : Addr → List (Str × D) → List MO → Prop} {sc : List (List Nat)}
set_option maxHeartbeats 8000000 in
theorem p_atom (hb : Bag b) (hs : ∀ x ∈ sc, NameOk x) (hl : sc.length ≤ 1000) (k : ∀ a b', AtIn sc a → Bag b' → K (.d (At.d a)) (.lst b' :: r)) : (callF F_atom [.ref 0, .d (scD sc)] (.lst b :: r)).to K E := by
  obtain ⟨v, μ', e, a, b', rfl, h2, h3, rfl⟩ := ok_to (atom_to hb hs hl)
  exact to_ok (callB2 (μ := .lst b :: r) (n := 0) rfl e) (k a b' h2 h3)
set_option maxHeartbeats 8000000 in
theorem p_atoms (hb : Bag b) (hs : ∀ x ∈ sc, NameOk x) (hl : sc.length ≤ 1000) {m : Int} (h0 : 0 ≤ m) (h1 : m ≤ 4) (k : ∀ (as : List At) (b' : List D), as.length = m.toNat → (∀ a ∈ as, AtIn sc a) → Bag b' → K (.d (.tup (as.map At.d))) (.lst b' :: r)) : (callF F_atoms [.ref 0, .d (scD sc), .d (.int m)] (.lst b :: r)).to K E := by
  obtain ⟨v, μ', e, as, b', rfl, h2, h3, h4, rfl⟩ := ok_to (atoms_to hb hs hl h0 h1)
  exact to_ok (callB3 (μ := .lst b :: r) (n := 0) rfl e) (k as b' h2 h3 h4)
end
/-! rows that may be called: data, or a list of the store -/
abbrev Rws := List (List Nat × Nat)
abbrev rwL (rows : Rws) : List D := rows.map fun p => .tup [nm p.1, .int p.2]
inductive RV (rows : Rws) : MV → List MO → Prop
  | d : RV rows (.d (.lst (rwL rows))) []
  | r : RV rows (.ref 1) [.lst (rwL rows)]
def RwsOk (rows : Rws) : Prop := (∀ p ∈ rows, NameOk p.1 ∧ p.2 ≤ 4) ∧ rows.length ≤ 1000
set_option maxHeartbeats 8000000 in
theorem eq_rows (rows : Rws) : eqD (.lst (rwL rows)) (.lst []) = some (.bl rows.isEmpty) := by
  cases rows with
  | nil => rfl
  | cons a l => simp [eqD, eqB]
set_option maxHeartbeats 8000000 in
theorem ix_rows {rows : Rws} (hl : rows.length ≤ 1000) {q : Int} (h0 : 0 ≤ q) (h1 : q < rows.length) : ∃ p ∈ rows, ixD (.lst (rwL rows)) (.int q) = some (.tup [nm p.1, .int p.2]) := by
  obtain ⟨n, rfl⟩ : ∃ n : Nat, q = n := ⟨q.toNat, by omega⟩
  have hn : n < rows.length := by omega
  refine ⟨rows[n], List.getElem_mem hn, ?_⟩
  simp [ixD, sizeLine_eq, hn]
def AtsIn (sc : List (List Nat)) (as : List At) : Prop := (∀ a ∈ as, AtIn sc a) ∧ as.length ≤ 4
def ExIn (rows : Rws) : List (List Nat) → Ex → Prop
  | sc, .at a => AtIn sc a
  | sc, .rais a => AtIn sc a
  | sc, .ask n as => NameOk n ∧ AtsIn sc as
  | sc, .call n as => (n, as.length) ∈ rows ∧ NameOk n ∧ AtsIn sc as
  | sc, .test n as y z => NameOk n ∧ AtsIn sc as ∧ ExIn rows sc y ∧ ExIn rows sc z
  | sc, .lt x a b => NameOk x ∧ ExIn rows sc a ∧ ExIn rows (sc ++ [x]) b
  | sc, .tr a x b => NameOk x ∧ ExIn rows sc a ∧ ExIn rows (sc ++ [x]) b
set_option maxHeartbeats 8000000 in
theorem ix3 {s : Str} {a b c : Nat} (e : s = tx [a, b, c]) (ha : a ∈ letters) (hb : b ∈ letters) (hc : c ∈ letters) {q : Int} (h0 : 0 ≤ q) (h1 : q < 3) : ∃ n, NameOk n ∧ ixD (.str s) (.int q) = some (nm n) := by
  subst e
  obtain ⟨x, hx, e⟩ := ix_tx [a, b, c] (by simp) q h0 (by simpa using h1)
  refine ⟨[x], ⟨by simp, by simp, fun y hy => ?_⟩, e⟩
  rw [List.mem_singleton.mp hy]
  simp only [List.mem_cons, List.not_mem_nil, or_false] at hx
  rcases hx with rfl | rfl | rfl <;> assumption
set_option maxHeartbeats 8000000 in
theorem e_pqa : ("pqa" : Str) = tx [112, 113, 97] := by decide +kernel
set_option maxHeartbeats 8000000 in
theorem e_xyz : ("xyz" : Str) = tx [120, 121, 122] := by decide +kernel
set_option maxHeartbeats 8000000 in
theorem e_tqa : ("tqa" : Str) = tx [116, 113, 97] := by decide +kernel
set_option maxHeartbeats 8000000 in
theorem leaf_to {rows : Rws} {rv : MV} {r : List MO} (hv : RV rows rv r) (hr : RwsOk rows) {b : List D} (hb : Bag b) {sc : List (List Nat)} (hs : ∀ x ∈ sc, NameOk x) (hl : sc.length ≤ 1000) : (F_leaf [.ref 0, .d (scD sc), rv] (.lst b :: r)).to (fun v μ' => ∃ e b', v = .d (Ex.d e) ∧ ExIn rows sc e ∧ e.size = 1 ∧ e.deep = 1 ∧ Bag b' ∧ μ' = .lst b' :: r) no3 := by
  unfold F_leaf b_leaf
  cases hv
  all_goals
    refine fn_to ?_
    with_reducible refine w_seqG fun rest hrest => ?_
    wtm_at "wr"
    refine p_take hb (by decide) (by decide) fun q b q0 q1 hb => ?_
    wtm_at "wr"
    subst hrest
    with_reducible refine w_seqG fun rest hrest => ?_
    wtm_at "wr"
    refine br_ok (fun h1 => ?_) (fun h1 => ?_)
    · wtm_at "wr"
      refine p_atom hb hs hl fun a b ha hb => ?_
      wtm_at "wr"
      exact ⟨_, rfl, rfl, .rais a, b, rfl, ha, rfl, rfl, hb, rfl⟩
    wtm_at "wr"
    subst hrest
    with_reducible refine w_seqG fun rest hrest => ?_
    wtm_at "wr"
    refine br_ok (fun h2 => ?_) (fun h2 => ?_)
    · wtm_at "wr"
      refine p_take hb (by decide) (by decide) fun q b q0 q1 hb => ?_
      obtain ⟨n, hn, e⟩ := ix3 e_pqa (by decide) (by decide) (by decide) q0 q1
      with_reducible refine e_op2 (by with_unfolding_all rfl) (by with_unfolding_all rfl) e ?_
      wtm_at "wr"
      refine p_take hb (by decide) (by decide) fun q b q0 q1 hb => ?_
      wtm_at "wr"
      refine p_atoms hb hs hl q0 (by omega) fun as b h3 h4 hb => ?_
      wtm_at "wr"
      exact ⟨_, rfl, rfl, .ask n as, b, rfl, ⟨hn, h4, by omega⟩, rfl, rfl, hb, rfl⟩
    wtm_at "wr"
    subst hrest
    with_reducible refine w_seqG fun rest hrest => ?_
    wtm_at "wr"
    have atm : ∀ (K : MV → List MO → Prop) (E : Addr → List (Str × D) → List MO → Prop), True := fun _ _ => trivial
    refine br_ok (fun h3 => ?_) (fun h3 => ?_)
    · wtm_at "wr"
      refine p_atom hb hs hl fun a b ha hb => ?_
      exact ⟨_, rfl, rfl, .at a, b, rfl, ha, rfl, rfl, hb, rfl⟩
    wtm_at "wr"
    with_reducible refine e_op2 (by with_unfolding_all rfl) (by with_unfolding_all rfl) (eq_rows rows) ?_
    wtm_at "wr"
    refine br_ok (fun h4 => ?_) (fun h4 => ?_)
    · wtm_at "wr"
      refine p_atom hb hs hl fun a b ha hb => ?_
      exact ⟨_, rfl, rfl, .at a, b, rfl, ha, rfl, rfl, hb, rfl⟩
    wtm_at "wr"
    subst hrest
    have hne : 0 < rows.length := by
      cases rows with
      | nil => cases h4
      | cons a l => simp
    with_reducible refine w_seqG fun rest hrest => ?_
    wtm_at "wr"
    refine p_take hb (by simp; omega) (by simp; have := hr.2; omega) fun q b q0 q1 hb => ?_
    obtain ⟨p, hp, e⟩ := ix_rows hr.2 q0 (by simpa using q1)
    with_reducible refine e_op2 (by with_unfolding_all rfl) (by with_unfolding_all rfl) e ?_
    wtm_at "wr"
    subst hrest
    wtm_at "wr"
    refine p_atoms hb hs hl (by omega) (by have := (hr.1 p hp).2; omega) fun as b h5 h6 hb => ?_
    wtm_at "wr"
    have h7 : as.length = p.2 := by omega
    exact ⟨_, rfl, rfl, .call p.1 as, b, rfl, ⟨by rw [h7]; exact hp, (hr.1 p hp).1, h6, by have := (hr.1 p hp).2; omega⟩, rfl, rfl, hb, rfl⟩
end TT

namespace TT
open PySem L2
variable [TB]
set_option maxHeartbeats 8000000 in
theorem callRV3 {F : MF} {rows : Rws} {rv : MV} {r : List MO} (hv : RV rows rv r) {b b' : List D} {a v : D} (h : F [.ref 0, .d a, rv] (.lst b :: r) = .ok (.d v) (.lst b' :: r)) : callF F [.ref 0, .d a, rv] (.lst b :: r) = .ok (.d v) (.lst b' :: r) := by
  cases hv with
  | d => exact callB3 (μ := [.lst b]) (n := 0) rfl h
  | r =>
    unfold callF
    have e1 : selOf [.lst b, .lst (rwL rows)] [.ref 0, .d a, .ref 1] = [0, 1] := rfl
    have e2 : toCs [0, 1] [.ref 0, .d a, .ref 1] = some [.ref 0, .d a, .ref 1] := rfl
    have e3 : pick [.lst b, .lst (rwL rows)] [0, 1] [0, 1] = some [.lst b, .lst (rwL rows)] := rfl
    simp only [e1, e2, e3, h]
    rfl
set_option maxHeartbeats 8000000 in
theorem callRV4 {F : MF} {rows : Rws} {rv : MV} {r : List MO} (hv : RV rows rv r) {b b' : List D} {a c v : D} (h : F [.ref 0, .d a, rv, .d c] (.lst b :: r) = .ok (.d v) (.lst b' :: r)) : callF F [.ref 0, .d a, rv, .d c] (.lst b :: r) = .ok (.d v) (.lst b' :: r) := by
  cases hv with
  | d => exact callB4 (μ := [.lst b]) (n := 0) rfl h
  | r =>
    unfold callF
    have e1 : selOf [.lst b, .lst (rwL rows)] [.ref 0, .d a, .ref 1, .d c] = [0, 1] := rfl
    have e2 : toCs [0, 1] [.ref 0, .d a, .ref 1, .d c] = some [.ref 0, .d a, .ref 1, .d c] := rfl
    have e3 : pick [.lst b, .lst (rwL rows)] [0, 1] [0, 1] = some [.lst b, .lst (rwL rows)] := rfl
    simp only [e1, e2, e3, h]
    rfl
section
variable {rows : Rws} {rv : MV} {r : List MO} {b : List D} {K : MV → List MO → Prop} {E : Addr → List (Str × D) → List MO → Prop} {sc : List (List Nat)}
set_option maxHeartbeats 8000000 in
theorem p_leaf (hv : RV rows rv r) (hr : RwsOk rows) (hb : Bag b) (hs : ∀ x ∈ sc, NameOk x) (hl : sc.length ≤ 1000) (k : ∀ (e : Ex) (b' : List D), ExIn rows sc e → e.size = 1 → e.deep = 1 → Bag b' → K (.d e.d) (.lst b' :: r)) : (callF F_leaf [.ref 0, .d (scD sc), rv] (.lst b :: r)).to K E := by
  obtain ⟨v, μ', h, e, b', rfl, h1, h2, h3, h4, rfl⟩ := ok_to (leaf_to hv hr hb hs hl)
  exact to_ok (callRV3 hv h) (k e b' h1 h2 h3 h4)
end
/-- what the generator gives -/
def GenS (F : MF) (rows : Rws) (rv : MV) (r : List MO) (j : Nat) : Prop := ∀ (b : List D) (sc : List (List Nat)) (room : Nat), Bag b → (∀ x ∈ sc, NameOk x) → sc.length + room ≤ 900 → 1 ≤ room → room ≤ j →
  (F [.ref 0, .d (scD sc), rv, .d (.int room)] (.lst b :: r)).to (fun v μ' => ∃ e b', v = .d (Ex.d e) ∧ ExIn rows sc e ∧ e.size ≤ room ∧ e.deep ≤ room ∧ Bag b' ∧ μ' = .lst b' :: r) no3
set_option maxHeartbeats 8000000 in
theorem p_exp {F : MF} {rows : Rws} {rv : MV} {r : List MO} {j : Nat} (hv : RV rows rv r) (hg : GenS F rows rv r j) {b : List D} (hb : Bag b) {sc : List (List Nat)} (hs : ∀ x ∈ sc, NameOk x) {z : Int} (h0 : 1 ≤ z) (h1 : z ≤ j) (h2 : (sc.length : Int) + z ≤ 900) {K : MV → List MO → Prop} {E : Addr → List (Str × D) → List MO → Prop}
    (k : ∀ (e : Ex) (b' : List D), ExIn rows sc e → (e.size : Int) ≤ z → (e.deep : Int) ≤ z → Bag b' → K (.d e.d) (.lst b' :: r)) : (callF F [.ref 0, .d (scD sc), rv, .d (.int z)] (.lst b :: r)).to K E := by
  obtain ⟨room, rfl⟩ : ∃ n : Nat, z = n := ⟨z.toNat, by omega⟩
  obtain ⟨v, μ', h, e, b', rfl, e1, e2, e3, e4, rfl⟩ := ok_to (hg b sc room hb hs (by omega) (by omega) (by omega))
  exact to_ok (callRV4 hv h) (k e b' e1 (by omega) (by omega) e4)
set_option maxHeartbeats 8000000 in
theorem add_sc {sc : List (List Nat)} {x : List Nat} (h : sc.length ≤ 1000) : addD (scD sc) (.lst [nm x]) = some (scD (sc ++ [x])) := by
  have := addD_lst (a := sc.map nm) (b := [nm x]) (by simp [sizeLine_eq]; omega)
  simpa [scD] using this
set_option maxHeartbeats 8000000 in
theorem trim_rv {rows : Rws} {rv : MV} {r : List MO} (hv : RV rows rv r) (b b' : List D) (d : D) : trimmable (MO.lst b :: r).length (.d d) (MO.lst b' :: r) = true ∧ (MO.lst b' :: r).take (MO.lst b :: r).length = MO.lst b' :: r := by
  cases hv <;> exact ⟨rfl, rfl⟩
set_option maxHeartbeats 8000000 in
theorem gen_step {F : MF} {rows : Rws} {rv : MV} {r : List MO} {j : Nat} (hv : RV rows rv r) (hr : RwsOk rows) (hg : GenS F rows rv r j) : GenS (G_expression F) rows rv r (j + 1) := by
  intro b0 sc room hb hs hsl hr1 hrj
  have hl : sc.length ≤ 1000 := by omega
  unfold G_expression b_expression
  refine fn_to ?_
  with_reducible refine w_seqG fun rest hrest => ?_
  wtm_at "wr"
  refine p_take hb (by decide) (by decide) fun kd b q0 q1 hb => ?_
  wtm_at "wr"
  subst hrest
  with_reducible refine w_seqG fun rest hrest => ?_
  wtm_at "wr"
  refine br_ok (fun h1 => ?_) (fun h1 => ?_)
  · wtm_at "wr"
    refine p_leaf hv hr hb hs hl fun e b h2 h3 h4 hb => ?_
    exact ⟨_, rfl, (trim_rv hv _ _ _).1, e, b, rfl, h2, by omega, by omega, hb, (trim_rv hv _ _ e.d).2⟩
  have h1 := of_decide_eq_false h1
  wtm_at "wr"
  refine br_ok (fun h2 => ?_) (fun h2 => ?_)
  · wtm_at "wr"
    refine p_leaf hv hr hb hs hl fun e b h2 h3 h4 hb => ?_
    exact ⟨_, rfl, (trim_rv hv _ _ _).1, e, b, rfl, h2, by omega, by omega, hb, (trim_rv hv _ _ e.d).2⟩
  wtm_at "wr"
  subst hrest
  with_reducible refine w_seqG fun rest hrest => ?_
  wtm_at "wr"
  refine p_take hb (by omega) (by omega) fun ah b a0 a1 hb => ?_
  wtm_at "wr"
  subst hrest
  with_reducible refine w_seqG fun rest hrest => ?_
  refine w_cut (fun ρ' m' => ∃ x b', NameOk x ∧ Bag b' ∧ ρ' = [some (.ref 0), some (.d (scD sc)), some rv, some (.d (.int room)), some (.d (.int kd)), some (.d (.int (1 + ah))), some (.d (nm x)), none, none, none] ∧ m' = .lst b' :: r) ?_ ?_
  · wtm_at "wr"
    refine p_take hb (by decide) (by decide) fun q b q0 q1 hb => ?_
    have xyz : ∀ b, Bag b → (mBin ixD (mC (.str ("xyz" : Str))) (mCall F_take 2 (mCons (mVar 0) (mCons (mC (.int 3)) mNil))) [some (.ref 0), some (.d (scD sc)), some rv, some (.d (.int room)), some (.d (.int kd)), some (.d (.int (1 + ah))), none, none, none, none] (.lst b :: r)).to (fun v m => ∃ x b', NameOk x ∧ Bag b' ∧ v = .d (nm x) ∧ m = .lst b' :: r) no3 := by
      intro b hb
      wtm_at "wr"
      refine p_take hb (by decide) (by decide) fun q b q0 q1 hb => ?_
      obtain ⟨n, hn, e⟩ := ix3 e_xyz (by decide) (by decide) (by decide) q0 q1
      with_reducible refine e_op2 (by with_unfolding_all rfl) (by with_unfolding_all rfl) e ?_
      exact ⟨n, b, hn, hb, rfl, rfl⟩
    wtm_at "wr"
    refine br_ok (fun h3 => ?_) (fun h3 => ?_)
    · first
        | refine e_cut _ (xyz b hb) ?_
        | (wtm_at "w1"; refine e_cut _ (xyz b hb) ?_)
      rintro v m ⟨x, b', hx, hb', rfl, rfl⟩
      exact ⟨x, b', hx, hb', rfl, rfl⟩
    wtm_at "wr"
    with_reducible refine e_op2 (by with_unfolding_all rfl) (by with_unfolding_all rfl) (eq_scD sc) ?_
    wtm_at "wr"
    refine br_ok (fun h4 => ?_) (fun h4 => ?_)
    · first
        | refine e_cut _ (xyz b hb) ?_
        | (wtm_at "w1"; refine e_cut _ (xyz b hb) ?_)
      rintro v m ⟨x, b', hx, hb', rfl, rfl⟩
      exact ⟨x, b', hx, hb', rfl, rfl⟩
    wtm_at "wr"
    have hne : 0 < sc.length := by
      cases sc with
      | nil => cases h4
      | cons a l => simp
    refine p_take hb (by simp; omega) (by simp; omega) fun q b q0 q1 hb => ?_
    obtain ⟨x, hx, e⟩ := ix_sc hl q0 (by simpa using q1)
    with_reducible refine e_op2 (by with_unfolding_all rfl) (by with_unfolding_all rfl) e ?_
    exact ⟨x, b, hs x hx, hb, rfl, rfl⟩
  · rintro ρ' m' ⟨x, b, hx, hb, rfl, rfl⟩
    subst hrest
    with_reducible refine w_seqG fun rest hrest => ?_
    refine w_cut (fun ρ' m' => ρ' = [some (.ref 0), some (.d (scD sc)), some rv, some (.d (.int room)), some (.d (.int kd)), some (.d (.int (1 + ah))), some (.d (nm x)), some (.d (scD (if kd < 3 then sc else sc ++ [x]))), none, none] ∧ m' = .lst b :: r) ?_ ?_
    · wtm_at "wr"
      refine br_ok (fun h3 => ?_) (fun h3 => ?_)
      · have h3 := of_decide_eq_true h3
        wtm_at "wr"
        rw [if_pos h3]
        exact ⟨rfl, rfl⟩
      · have h3 := of_decide_eq_false h3
        wtm_at "wr"
        with_reducible refine e_op2 (by with_unfolding_all rfl) (by with_unfolding_all rfl) (add_sc hl) ?_
        rw [if_neg h3]
        exact ⟨rfl, rfl⟩
    rintro ρ' m' ⟨rfl, rfl⟩
    subst hrest
    have hs2 : ∀ y ∈ (if kd < 3 then sc else sc ++ [x]), NameOk y := fun y hy => by
      split at hy
      · exact hs y hy
      · rcases List.mem_append.mp hy with h | h
        · exact hs y h
        · rw [List.mem_singleton.mp h]; exact hx
    have hl2 : (if kd < 3 then sc else sc ++ [x]).length ≤ sc.length + 1 := by split <;> simp
    with_reducible refine w_seqG fun rest hrest => ?_
    wtm_at "wr"
    refine p_exp hv hg hb hs (by omega) (by omega) (by omega) fun e1 b g1 g2 g3 hb => ?_
    wtm_at "wr"
    subst hrest
    with_reducible refine w_seqG fun rest hrest => ?_
    wtm_at "wr"
    refine p_exp hv hg hb hs2 (by omega) (by omega) (by omega) fun e2 b k1 k2 k3 hb => ?_
    wtm_at "wr"
    subst hrest
    with_reducible refine w_seqG fun rest hrest => ?_
    wtm_at "wr"
    refine br_ok (fun h3 => ?_) (fun h3 => ?_)
    · have h3 := of_decide_eq_true h3
      rw [if_pos h3] at k1
      wtm_at "wr"
      refine p_take hb (by decide) (by decide) fun q b q0 q1 hb => ?_
      obtain ⟨n, hn, e⟩ := ix3 e_tqa (by decide) (by decide) (by decide) q0 q1
      with_reducible refine e_op2 (by with_unfolding_all rfl) (by with_unfolding_all rfl) e ?_
      wtm_at "wr"
      refine p_take hb (by decide) (by decide) fun q b q0 q1 hb => ?_
      wtm_at "wr"
      refine p_atoms hb hs hl q0 (by omega) fun as b h5 h6 hb => ?_
      wtm_at "wr"
      refine ⟨_, rfl, (trim_rv hv _ _ _).1, .test n as e1 e2, b, rfl, ⟨hn, ⟨h6, by omega⟩, g1, k1⟩, ?_, ?_, hb, (trim_rv hv _ _ .non).2⟩
      · simp only [Ex.size]; omega
      · simp only [Ex.deep]; omega
    have h3 := of_decide_eq_false h3
    rw [if_neg h3] at k1
    wtm_at "wr"
    subst hrest
    with_reducible refine w_seqG fun rest hrest => ?_
    wtm_at "wr"
    refine br_ok (fun h4 => ?_) (fun h4 => ?_)
    · wtm_at "wr"
      refine ⟨_, rfl, (trim_rv hv _ _ _).1, .tr e1 x e2, b, rfl, ⟨hx, g1, k1⟩, ?_, ?_, hb, (trim_rv hv _ _ .non).2⟩
      · simp only [Ex.size]; omega
      · simp only [Ex.deep]; omega
    wtm_at "wr"
    subst hrest
    wtm_at "wr"
    refine ⟨_, rfl, (trim_rv hv _ _ _).1, .lt x e1 e2, b, rfl, ⟨hx, g1, k1⟩, ?_, ?_, hb, (trim_rv hv _ _ .non).2⟩
    · simp only [Ex.size]; omega
    · simp only [Ex.deep]; omega
set_option maxHeartbeats 8000000 in
theorem gen_all {rows : Rws} {rv : MV} {r : List MO} (hv : RV rows rv r) (hr : RwsOk rows) : ∀ j, GenS (iterF G_expression j) rows rv r j
  | 0 => fun b sc room _ _ _ h1 h2 => by omega
  | j + 1 => gen_step hv hr (gen_all hv hr j)
end TT

namespace TT
open PySem L2
variable [TB]
section
variable {r : List MO} {b : List D} {K : MV → List MO → Prop} {E : Addr → List (Str × D) → List MO → Prop} {sc : List (List Nat)}
set_option maxHeartbeats 8000000 in
theorem p_names (h : Bag b) {m : Int} (hm : 0 ≤ m) (hm2 : m ≤ 20) (k : ∀ (ls : List (List Nat)) (b' : List D), Bag b' → ls.length = m.toNat → ls.Nodup → (∀ l ∈ ls, NameOk l) → K (.d (.lst (ls.map nm))) (.lst b' :: r)) : (callF F_names [.ref 0, .d (.int m)] (.lst b :: r)).to K E := by
  obtain ⟨ls, b', e1, e2, e3, e4, e5⟩ := names_ok h m hm hm2
  exact to_ok (callB2 (μ := .lst b :: r) (n := 0) rfl e1) (k ls b' e2 e3 e4 e5)
set_option maxHeartbeats 8000000 in
theorem exp_d {rows : Rws} (hr : RwsOk rows) (hb : Bag b) (hs : ∀ x ∈ sc, NameOk x) {z : Int} (h0 : 1 ≤ z) (h1 : z ≤ 40) (h2 : (sc.length : Int) + z ≤ 900)
    (k : ∀ (e : Ex) (b' : List D), ExIn rows sc e → (e.size : Int) ≤ z → (e.deep : Int) ≤ z → Bag b' → K (.d e.d) (.lst b' :: r)) : (callF F_expression [.ref 0, .d (scD sc), .d (.lst (rwL rows)), .d (.int z)] (.lst b :: r)).to K E := by
  obtain ⟨room, rfl⟩ : ∃ n : Nat, z = n := ⟨z.toNat, by omega⟩
  obtain ⟨v, μ', h, e, b', rfl, e1, e2, e3, e4, rfl⟩ := ok_to (gen_all (RV.d (rows := rows)) hr 40 b sc room hb hs (by omega) (by omega) (by omega))
  refine to_ok (callB4 (μ := .lst b :: r) (n := 0) rfl (F := F_expression) (ys := b') (v := e.d) ?_) (k e b' e1 (by omega) (by omega) e4)
  unfold F_expression
  exact h
end
/-- rows as they are drawn -/
structure GoodR (rows : Rws) (q : Row) : Prop where
  n : NameOk q.n
  ps : ∀ p ∈ q.ps, NameOk p
  len : q.ps.length ≤ 4
  nd : q.ps.Nodup
  e : ExIn rows q.ps q.e
  size : q.e.size ≤ 40
  deep : q.e.deep ≤ 40
def rwOf (rs : List Row) : Rws := rs.map fun q => (q.n, q.ps.length)
set_option maxHeartbeats 8000000 in
theorem list_sc {ls : List (List Nat)} (h : ls.length ≤ 1000) : listL [scD ls] = some (ls.map nm) := by
  simp [listL, scD, sizeLine_eq]
set_option maxHeartbeats 8000000 in
theorem ap_ok {xs : List D} {d : D} (h : xs.length < 1000) : apD xs [d] = some (.non, xs ++ [d]) := by
  simp [apD, sizeLine_eq]; omega
set_option maxHeartbeats 8000000 in
theorem functions_to {b : List D} (hb : Bag b) {m : Int} (hm0 : 1 ≤ m) (hm1 : m ≤ 39) : (F_functions [.ref 0, .d (.int 5), .d (.int m)] [.lst b]).to (fun v μ' => ∃ (rs : List Row) (b' : List D), v = .d (.lst (rs.map Row.d)) ∧ 1 ≤ rs.length ∧ rs.length ≤ 5 ∧ (rs.map (·.n)).Nodup ∧ (∀ q ∈ rs, GoodR (rwOf rs) q) ∧ Bag b' ∧ μ' = [.lst b']) no3 := by
  unfold F_functions b_functions
  refine fn_toL ?_
  with_reducible refine w_seqG fun rest hrest => ?_
  wtm_at "wr"
  refine p_take hb (by decide) (by decide) fun q b q0 q1 hb => ?_
  wtm_at "wr"
  refine p_names hb (by omega) (by omega) fun ls b hb hlen hnd hok => ?_
  wtm_at "wr"
  subst hrest
  with_reducible refine w_seqG fun rest hrest => ?_
  refine w_cut (fun ρ' m' => ∃ (rows : Rws) (b' : List D), rows.map (·.1) = ls ∧ (∀ p ∈ rows, p.2 ≤ 4) ∧ Bag b' ∧ ρ' = [some (.ref 0), some (.d (.int 5)), some (.d (.int m)), some (.d (scD ls)), some (.ref 1), some (.d (.lst (rwL rows))), none, none, none] ∧ m' = [.lst b', .lst []]) ?_ ?_
  · wtm_at "wr"
    refine e_lc (fun xs acc μ => ∃ (rows : Rws) (ls' : List (List Nat)) (b' : List D), xs = ls'.map nm ∧ acc = rwL rows ∧ rows.map (·.1) ++ ls' = ls ∧ (∀ p ∈ rows, p.2 ≤ 4) ∧ Bag b' ∧ μ = [.lst b', .lst []]) ?_
    wtm_at "wr"
    refine ⟨rfl, by simp [sizeLine_eq]; omega, ⟨[], ls, b, rfl, rfl, rfl, (fun p h => by cases h), hb, rfl⟩, ?_, ?_⟩
    · rintro x xs acc μ ⟨rows, ls', b, e, rfl, h1, h2, hb, rfl⟩
      cases ls' with
      | nil => cases e
      | cons a ls' =>
        simp only [List.map_cons, List.cons.injEq] at e
        obtain ⟨rfl, rfl⟩ := e
        refine ⟨_, rfl, ?_⟩
        wtm_at "wr"
        refine p_take hb (by decide) (by decide) fun k b k0 k1 hb => ?_
        wtm_at "wr"
        obtain ⟨kn, rfl⟩ : ∃ n : Nat, k = n := ⟨k.toNat, by omega⟩
        refine ⟨_, rfl, rows ++ [(a, kn)], ls', b, rfl, by simp, by simpa using h1, fun p hp => ?_, hb, rfl⟩
        rcases List.mem_append.mp hp with h | h
        · exact h2 p h
        · rw [List.mem_singleton.mp h]; show kn ≤ 4; omega
    · rintro acc μ ⟨rows, ls', b, e, rfl, h1, h2, hb, rfl⟩
      cases ls' with
      | cons a l => cases e
      | nil => exact ⟨rows, b, by simpa using h1, h2, hb, rfl, rfl⟩
  rintro ρ' m' ⟨rows, b, hrn, hra, hb, rfl, rfl⟩
  subst hrest
  have hrl : rows.length = ls.length := by rw [← hrn]; simp
  have hR : RwsOk rows := ⟨fun p hp => ⟨hok p.1 (by rw [← hrn]; exact List.mem_map.mpr ⟨p, hp, rfl⟩), hra p hp⟩, by omega⟩
  with_reducible refine w_seqG fun rest hrest => ?_
  refine w_for (fun xs ρ μ => ∃ (rs : List Row) (rest' : Rws) (b' : List D) (x6 x7 x8 : Option MV), xs = rwL rest' ∧ rwOf rs ++ rest' = rows ∧ (∀ q ∈ rs, GoodR rows q) ∧ Bag b' ∧ ρ = [some (.ref 0), some (.d (.int 5)), some (.d (.int m)), some (.d (scD ls)), some (.ref 1), some (.d (.lst (rwL rows))), x6, x7, x8] ∧ μ = [.lst b', .lst (rs.map Row.d)]) ?_
  wtm_at "wr"
  refine ⟨rfl, ⟨[], rows, b, _, _, _, rfl, rfl, (fun q h => by cases h), hb, rfl, rfl⟩, ?_, ?_⟩
  · rintro x xs ρ μ ⟨rs, rest', b, x6, x7, x8, e, h1, h2, hb, rfl, rfl⟩
    cases rest' with
    | nil => cases e
    | cons p rest' =>
      simp only [rwL, List.map_cons, List.cons.injEq] at e
      obtain ⟨rfl, rfl⟩ := e
      have hp : p ∈ rows := by rw [← h1]; simp
      have hp4 := hra p hp
      have hrs : rs.length + rest'.length + 1 = rows.length := by rw [← h1]; simp [rwOf]; omega
      refine ⟨_, rfl, ?_⟩
      wtm_at "wr"
      refine p_names hb (by omega) (by omega) fun ps b hb hlen' hnd' hok' => ?_
      wtm_at "wr"
      refine p_take hb (by omega) (by omega) fun z b z0 z1 hb => ?_
      wtm_at "wr"
      have hps : ps.length = p.2 := by omega
      refine exp_d (sc := ps) hR hb hok' (by omega) (by omega) (by omega) fun e b g1 g2 g3 hb => ?_
      wtm_at "wr"
      refine k_mut2s (by rfl) (by rfl) (ap_ok (by simp; omega)) (by rfl) ?_
      refine ⟨rs ++ [⟨p.1, ps, e⟩], rest', b, _, _, _, rfl, by rw [← h1]; simp [rwOf, hps], fun q hq => ?_, hb, rfl, by simp [Row.d]⟩
      rcases List.mem_append.mp hq with h | h
      · exact h2 q h
      · rw [List.mem_singleton.mp h]
        exact ⟨(hR.1 p hp).1, hok', by show ps.length ≤ 4; omega, hnd', g1, by show e.size ≤ 40; omega, by show e.deep ≤ 40; omega⟩
  · rintro ρ μ ⟨rs, rest', b, x6, x7, x8, e, h1, h2, hb, rfl, rfl⟩
    cases rest' with
    | cons p l => cases e
    | nil =>
      rw [List.append_nil] at h1
      subst hrest
      wtm_at "wr"
      have hn : rs.map (·.n) = ls := by rw [← hrn, ← h1]; simp [rwOf]
      have hl2 : rs.length = ls.length := by rw [← hn]; simp
      refine ⟨1, rs.map Row.d, rfl, Nat.le_refl _, rfl, rfl, rs, b, rfl, by omega, by omega, by rw [hn]; exact hnd, by rw [h1]; exact h2, hb, rfl⟩
end TT

namespace TT
open PySem L2
variable [TB]
set_option maxHeartbeats 8000000 in
theorem AtsIn.ok {sc : List (List Nat)} {as : List At} (h : AtsIn sc as) : AtsOk as := ⟨fun a ha => (h.1 a ha).1, h.2⟩
set_option maxHeartbeats 8000000 in
theorem ExIn.ok {rows : Rws} : ∀ {e : Ex} {sc : List (List Nat)}, ExIn rows sc e → e.Ok
  | .at _, _, h => h.1
  | .rais _, _, h => h.1
  | .ask _ _, _, h => ⟨h.1, h.2.ok⟩
  | .call _ _, _, h => ⟨h.2.1, h.2.2.ok⟩
  | .test _ _ _ _, _, h => ⟨h.1, h.2.1.ok, h.2.2.1.ok, h.2.2.2.ok⟩
  | .lt _ _ _, _, h => ⟨h.1, h.2.1.ok, h.2.2.ok⟩
  | .tr _ _ _, _, h => ⟨h.1, h.2.1.ok, h.2.2.ok⟩
set_option maxHeartbeats 8000000 in
/-- two lists of the store are handed on; the first one changes -/
theorem callRR {F : MF} {μ : List MO} {m : Nat} {b b' rows : List D} {a c v : D} (h0 : μ[0]? = some (.lst b)) (hm : μ[m]? = some (.lst rows)) (ne : m ≠ 0) (h : F [.ref 0, .d a, .ref 1, .d c] [.lst b, .lst rows] = .ok (.d v) [.lst b', .lst rows]) :
    callF F [.ref 0, .d a, .ref m, .d c] μ = .ok (.d v) (μ.set 0 (.lst b')) := by
  have e0 : addAll [] [0, m] = [0, m] := by simp [addAll, ne]
  have e1 : leads μ [0, m] = [] := by simp [leads, h0, hm, MO.refs]
  have es : selOf μ [.ref 0, .d a, .ref m, .d c] = [0, m] := by
    unfold selOf
    have ea : argRefs [.ref 0, .d a, .ref m, .d c] = [0, m] := rfl
    have e2 : addAll [0, m] [] = [0, m] := rfl
    simp only [ea, e0, e1, e2]
  have e2 : toCs [0, m] [.ref 0, .d a, .ref m, .d c] = some [.ref 0, .d a, .ref 1, .d c] := by
    have hi : [0, m].idxOf m = 1 := by
      have : (0 == m) = false := by simpa using fun h => ne h.symm
      simp [List.idxOf_cons, this]
    simp [toCs, toC, hi]
  have e3 : pick μ [0, m] [0, m] = some [.lst b, .lst rows] := by simp [pick, h0, hm, toCO]
  unfold callF
  simp only [es, e2, e3, h]
  have hl : m < μ.length := (List.getElem?_eq_some_iff.mp hm).1
  have hg : μ[m]'hl = .lst rows := (List.getElem?_eq_some_iff.mp hm).2
  have : (μ.set 0 (.lst b')).set m (.lst rows) = μ.set 0 (.lst b') := by
    apply List.ext_getElem?
    intro i
    by_cases hi : i = m
    · subst hi
      rw [List.getElem?_set_self (by simpa using hl), List.getElem?_set_ne (Ne.symm ne), hm]
    · rw [List.getElem?_set_ne (Ne.symm hi)]
  simp [back, wb, putAll, backO, this]
set_option maxHeartbeats 8000000 in
theorem exp_r {rows : Rws} {r : List MO} {b : List D} {sc : List (List Nat)} {m : Nat} (hr : RwsOk rows) (hb : Bag b) (hs : ∀ x ∈ sc, NameOk x) (hm : (MO.lst b :: r)[m]? = some (.lst (rwL rows))) (ne : m ≠ 0) {z : Int} (h0 : 1 ≤ z) (h1 : z ≤ 40) (h2 : (sc.length : Int) + z ≤ 900) {K : MV → List MO → Prop} {E : Addr → List (Str × D) → List MO → Prop}
    (k : ∀ (e : Ex) (b' : List D), ExIn rows sc e → (e.size : Int) ≤ z → (e.deep : Int) ≤ z → Bag b' → K (.d e.d) (.lst b' :: r)) : (callF F_expression [.ref 0, .d (scD sc), .ref m, .d (.int z)] (.lst b :: r)).to K E := by
  obtain ⟨room, rfl⟩ : ∃ n : Nat, z = n := ⟨z.toNat, by omega⟩
  obtain ⟨v, μ', h, e, b', rfl, e1, e2, e3, e4, rfl⟩ := ok_to (gen_all (RV.r (rows := rows)) hr 40 b sc room hb hs (by omega) (by omega) (by omega))
  refine to_ok (callRR (F := F_expression) (b' := b') (v := e.d) rfl hm ne ?_) (k e b' e1 (by omega) (by omega) e4)
  unfold F_expression
  exact h
set_option maxHeartbeats 8000000 in
theorem atg {b f : List D} {g : List MO} {o : MO} : (MO.lst b :: .lst f :: (g ++ [o]))[g.length + 2]? = some o := by simp
set_option maxHeartbeats 8000000 in
theorem setg {b f : List D} {g : List MO} {o o' : MO} : (MO.lst b :: .lst f :: (g ++ [o])).set (g.length + 2) o' = MO.lst b :: .lst f :: (g ++ [o']) := by simp
/-- rows that are well made -/
structure RowG (q : Row) : Prop where
  n : NameOk q.n
  ps : ∀ p ∈ q.ps, NameOk p
  len : q.ps.length ≤ 4
  nd : q.ps.Nodup
  e : q.e.Ok
  size : q.e.size ≤ 40
  deep : q.e.deep ≤ 40
set_option maxHeartbeats 8000000 in
theorem GoodR.g {rows : Rws} {q : Row} (h : GoodR rows q) : RowG q := ⟨h.n, h.ps, h.len, h.nd, h.e.ok, h.size, h.deep⟩
set_option maxHeartbeats 8000000 in
theorem RowG.ok {q : Row} (h : RowG q) : q.Ok := ⟨h.n, h.ps, h.len, h.nd, h.e, by have := h.size; omega⟩
end TT

namespace TT
open PySem L2
variable [TB]
set_option maxHeartbeats 8000000 in
theorem six_nat (n d k : Nat) (hk : k ≤ n) : HT.sIx n d (some (k : Int)) = k := by
  unfold HT.sIx
  have h : ¬ ((k : Int) < 0) := by omega
  simp [h]
  omega
set_option maxHeartbeats 8000000 in
theorem cut_to (xs : List D) (k : Nat) (hk : k ≤ xs.length) : cutD xs none (some (k : Int)) = xs.take k := by
  unfold cutD
  rw [six_nat _ _ _ hk, show HT.sIx xs.length 0 none = 0 from rfl]
  simp
set_option maxHeartbeats 8000000 in
theorem x_nm : (.str ("x" : Str) : D) = nm [120] := by
  have : ("x" : Str) = tx [120] := by decide +kernel
  rw [this]; rfl
set_option maxHeartbeats 8000000 in
theorem w_nm : (.str ("w" : Str) : D) = nm [119] := by
  have : ("w" : Str) = tx [119] := by decide +kernel
  rw [this]; rfl
set_option maxHeartbeats 8000000 in
theorem q_nm : (.str ("q" : Str) : D) = nm [113] := by
  have : ("q" : Str) = tx [113] := by decide +kernel
  rw [this]; rfl
set_option maxHeartbeats 8000000 in
theorem nofun_nm : (.str ("nofun" : Str) : D) = nm [110, 111, 102, 117, 110] := by
  have : ("nofun" : Str) = tx [110, 111, 102, 117, 110] := by decide +kernel
  rw [this]; rfl
set_option maxHeartbeats 8000000 in
theorem one_ok {c : Nat} (h : c ∈ letters) : NameOk [c] := ⟨by simp, by simp, fun x hx => by rw [List.mem_singleton.mp hx]; exact h⟩
set_option maxHeartbeats 8000000 in
theorem nofun_ok : NameOk [110, 111, 102, 117, 110] := ⟨by decide, by decide, by decide⟩
set_option maxHeartbeats 8000000 in
theorem lenS {a : List Nat} (h : a.length ≤ 1000) : one lenD [nm a] = some (.int a.length) := by
  simp [one, lenD, nm, tx_len, sizeLine_eq]; omega
set_option maxHeartbeats 8000000 in
/-- ["x", "w"][:q] behind the parameters -/
theorem odd_sc {ps : List (List Nat)} (hp : ∀ p ∈ ps, NameOk p) (hl : ps.length ≤ 4) {q : Int} (h0 : 0 ≤ q) (h1 : q < 3) : ∃ sc : List (List Nat), (∀ x ∈ sc, NameOk x) ∧ sc.length ≤ 6 ∧ addD (.lst (ps.map nm)) (.lst (cutD [nm [120], nm [119]] none (some q))) = some (scD sc) := by
  obtain ⟨k, rfl⟩ : ∃ n : Nat, q = n := ⟨q.toNat, by omega⟩
  rw [cut_to _ _ (by simp; omega)]
  refine ⟨ps ++ [[120], [119]].take k, fun x hx => ?_, by simp; omega, ?_⟩
  · rcases List.mem_append.mp hx with h | h
    · exact hp x h
    · have := List.mem_of_mem_take h
      simp only [List.mem_cons, List.not_mem_nil, or_false] at this
      rcases this with rfl | rfl
      · exact one_ok (by decide)
      · exact one_ok (by decide)
  · rw [addD_lst (by simp [sizeLine_eq]; omega)]
    simp [scD, List.map_take]
set_option maxHeartbeats 8000000 in
theorem spoilt_to {b : List D} (hb : Bag b) {rs : List Row} (hr : ∀ q ∈ rs, RowG q) (hl : rs.length ≤ 5) : (F_spoilt [.ref 0, .d (.lst (rs.map Row.d))] [.lst b]).to (fun v μ' => ∃ (rs2 : List Row) (b' : List D), v = .d (.lst (rs2.map Row.d)) ∧ rwOf rs2 = rwOf rs ∧ (∀ q ∈ rs2, RowG q) ∧ Bag b' ∧ μ' = [.lst b']) no3 := by
  have hR0 : RwsOk (rwOf rs) := ⟨fun p hp => by
    obtain ⟨q, hq, rfl⟩ := List.mem_map.mp hp
    exact ⟨(hr q hq).n, (hr q hq).len⟩, by simp [rwOf]; omega⟩
  unfold F_spoilt b_spoilt
  refine fn_toL ?_
  with_reducible refine w_seqG fun rest hrest => ?_
  wtm_at "wr"
  subst hrest
  with_reducible refine w_seqG fun rest hrest => ?_
  refine w_for (fun xs ρ μ => ∃ (rs2 rs' : List Row) (b' : List D) (g : List MO) (x3 x4 x5 x6 x7 x8 : Option MV), xs = rs'.map Row.d ∧ rwOf rs2 ++ rwOf rs' = rwOf rs ∧ (∀ q ∈ rs', RowG q) ∧ (∀ q ∈ rs2, RowG q) ∧ Bag b' ∧ (∀ o ∈ g, o.refs = []) ∧ ρ = [some (.ref 0), some (.d (.lst (rs.map Row.d))), some (.ref 1), x3, x4, x5, x6, x7, x8, none] ∧ μ = .lst b' :: .lst (rs2.map Row.d) :: g) ?_
  wtm_at "wr"
  refine ⟨rfl, ⟨[], rs, b, [], _, _, _, _, _, _, rfl, rfl, hr, (fun q h => by cases h), hb, (fun o h => by cases h), rfl, rfl⟩, ?_, ?_⟩
  · rintro x xs ρ μ ⟨rs2, rs', b, g, x3, x4, x5, x6, x7, x8, e, h1, h2, h3, hb, hg, rfl, rfl⟩
    cases rs' with
    | nil => cases e
    | cons p rs' =>
      simp only [List.map_cons, List.cons.injEq] at e
      obtain ⟨rfl, rfl⟩ := e
      have hp := h2 p List.mem_cons_self
      have hlen : rs2.length + rs'.length + 1 = rs.length := by
        have := congrArg List.length h1
        simp [rwOf] at this
        omega
      refine ⟨_, rfl, ?_⟩
      with_reducible refine w_seqG fun rest hrest => ?_
      wtm_at "wr"
      refine p_take hb (by decide) (by decide) fun q b q0 q1 hb => ?_
      rw [x_nm, w_nm]
      wtm_at "wr"
      obtain ⟨sc, hsc, hscl, e⟩ := odd_sc hp.ps hp.len q0 q1
      with_reducible refine e_op2 (by with_unfolding_all rfl) (by with_unfolding_all rfl) e ?_
      wtm_at "wr"
      refine e_lcP (q := (rs.map Row.d, none)) (fun d => match d with | .tup [n, .tup ps, _] => .tup [n, .int ps.length] | d => d) (by rfl) (.inl rfl) (by simp [sizeLine_eq]; omega) (fun x hx => ?_) ?_
      · obtain ⟨r, _, rfl⟩ := List.mem_map.mp hx
        exact ⟨_, rfl, by rfl⟩
      have erw : (rs.map Row.d).map (fun d => match d with | .tup [n, .tup ps, _] => .tup [n, .int ps.length] | d => d) = rwL (rwOf rs) := by
        simp [Row.d, rwOf, rwL]
      rw [erw]
      wtm_at "wr"
      show (rest [some (.ref 0), some (.d (.lst (rs.map Row.d))), some (.ref 1), some (.d (nm p.n)), some (.d (.tup (p.ps.map nm))), some (.d p.e.d), some (.d (scD sc)), some (.ref (g.length + 2)), x8, none] (.lst b :: .lst (rs2.map Row.d) :: (g ++ [.lst (rwL (rwOf rs))]))).to _ _ _ _ _
      subst hrest
      with_reducible refine w_seqG fun rest hrest => ?_
      wtm_at "wr"
      refine p_take hb (by decide) (by decide) fun od b o0 o1 hb => ?_
      wtm_at "wr"
      subst hrest
      with_reducible refine w_seqG fun rest hrest => ?_
      refine w_cut (fun ρ' m' => ∃ (rows : Rws) (b' : List D), RwsOk rows ∧ rows.length ≤ 100 ∧ Bag b' ∧ ρ' = [some (.ref 0), some (.d (.lst (rs.map Row.d))), some (.ref 1), some (.d (nm p.n)), some (.d (.tup (p.ps.map nm))), some (.d p.e.d), some (.d (scD sc)), some (.ref (g.length + 2)), some (.d (.int od)), none] ∧ m' = .lst b' :: .lst (rs2.map Row.d) :: (g ++ [.lst (rwL rows)])) ?_ ?_
      · have hrl : (rwOf rs).length ≤ 5 := by simp [rwOf]; omega
        wtm_at "wr"
        refine br_ok (fun h => ?_) (fun h => ?_)
        · wtm_at "w1"; wtm_at "w1"; wtm_at "w1"
          with_reducible refine k_mut (isLst_of atg) ?_
          wtm_at "w1"; wtm_at "w1"; wtm_at "w1"
          refine e_cut (fun v m' => ∃ nn, NameOk nn ∧ v = .d (nm nn) ∧ m' = .lst b :: .lst (rs2.map Row.d) :: (g ++ [.lst (rwL (rwOf rs))])) ?_ ?_
          · wtm_at "wr"
            refine e_opN (by rfl) (lenS (by have := hp.n.2.1; omega)) ?_
            wtm_at "wr"
            refine br_ok (fun h5 => ?_) (fun h5 => ?_)
            · have h5 := of_decide_eq_true h5
              rw [q_nm]
              wtm_at "wr"
              with_reducible refine e_op2 (by with_unfolding_all rfl) (by with_unfolding_all rfl) (add_tx p.n [113] (by simp; omega)) ?_
              refine ⟨p.n ++ [113], ⟨by simp, by simp; omega, fun c hc => ?_⟩, rfl, rfl⟩
              rcases List.mem_append.mp hc with h | h
              · exact hp.n.2.2 c h
              · rw [List.mem_singleton.mp h]; decide
            · rw [nofun_nm]
              wtm_at "wr"
              exact ⟨_, nofun_ok, rfl, rfl⟩
          · rintro v m' ⟨nn, hnn, rfl, rfl⟩
            wtm_at "wr"
            refine p_take hb (by decide) (by decide) fun z b z0 z1 hb => ?_
            obtain ⟨zn, rfl⟩ : ∃ n : Nat, z = n := ⟨z.toNat, by omega⟩
            wtm_at "wr"
            refine k_mut2s (by rfl) atg (ap_ok (by simp [rwL]; omega)) setg ?_
            refine ⟨rwOf rs ++ [(nn, zn)], b, ⟨fun w hw => ?_, by simp; omega⟩, by simp; omega, hb, rfl, by simp [rwL]⟩
            rcases List.mem_append.mp hw with h | h
            · exact hR0.1 w h
            · rw [List.mem_singleton.mp h]; exact ⟨hnn, by show zn ≤ 4; omega⟩
        · wtm_at "wr"
          exact ⟨rwOf rs, b, hR0, by omega, hb, rfl, rfl⟩
      rintro ρ' m' ⟨rows, b, hR, hRl, hb, rfl, rfl⟩
      subst hrest
      with_reducible refine w_seqG fun rest hrest => ?_
      refine w_cut (fun ρ' m' => ∃ (rows : Rws) (b' : List D), RwsOk rows ∧ Bag b' ∧ ρ' = [some (.ref 0), some (.d (.lst (rs.map Row.d))), some (.ref 1), some (.d (nm p.n)), some (.d (.tup (p.ps.map nm))), some (.d p.e.d), some (.d (scD sc)), some (.ref (g.length + 2)), some (.d (.int od)), none] ∧ m' = .lst b' :: .lst (rs2.map Row.d) :: (g ++ [.lst (rwL rows)])) ?_ ?_
      · wtm_at "wr"
        refine br_ok (fun h => ?_) (fun h => ?_)
        · wtm_at "w1"; wtm_at "w1"; wtm_at "w1"
          with_reducible refine k_mut (isLst_of atg) ?_
          wtm_at "wr"
          refine p_take hb (by decide) (by decide) fun z b z0 z1 hb => ?_
          wtm_at "wr"
          have hz := Int.emod_nonneg (((p.ps.map nm).length : Int) + 1 + z) (show (5 : Int) ≠ 0 by decide)
          have hz2 := Int.emod_lt_of_pos (((p.ps.map nm).length : Int) + 1 + z) (show (0 : Int) < 5 by decide)
          obtain ⟨zn, hzn⟩ : ∃ n : Nat, (((p.ps.map nm).length : Int) + 1 + z) % 5 = n := ⟨(((((p.ps.map nm).length : Int) + 1 + z) % 5)).toNat, by omega⟩
          refine k_mut2s (by rfl) atg (ap_ok (by simp [rwL]; omega)) setg ?_
          refine ⟨rows ++ [(p.n, zn)], b, ⟨fun w hw => ?_, by simp; omega⟩, hb, rfl, ?_⟩
          · rcases List.mem_append.mp hw with h | h
            · exact hR.1 w h
            · rw [List.mem_singleton.mp h]; exact ⟨hp.n, by show zn ≤ 4; omega⟩
          · simp only [rwL, List.map_append, List.map_cons, List.map_nil, ← hzn]
        · wtm_at "wr"
          exact ⟨rows, b, hR, hb, rfl, rfl⟩
      rintro ρ' m' ⟨rows, b, hR, hb, rfl, rfl⟩
      subst hrest
      wtm_at "wr"
      refine p_take hb (by decide) (by decide) fun z b z0 z1 hb => ?_
      wtm_at "wr"
      refine exp_r (rows := rows) hR hb hsc atg (by omega) (by omega) (by omega) (by omega) fun e b g1 g2 g3 hb => ?_
      wtm_at "wr"
      refine k_mut2s (by rfl) (by rfl) (ap_ok (by simp; omega)) (by rfl) ?_
      refine ⟨rs2 ++ [⟨p.n, p.ps, e⟩], rs', b, g ++ [.lst (rwL rows)], _, _, _, _, _, _, rfl, by rw [← h1]; simp [rwOf], (fun q hq => h2 q (List.mem_cons_of_mem _ hq)), fun q hq => ?_, hb, fun o ho => ?_, rfl, by simp [Row.d]⟩
      · rcases List.mem_append.mp hq with h | h
        · exact h3 q h
        · rw [List.mem_singleton.mp h]
          exact ⟨hp.n, hp.ps, hp.len, hp.nd, g1.ok, by show e.size ≤ 40; omega, by show e.deep ≤ 40; omega⟩
      · rcases List.mem_append.mp ho with h | h
        · exact hg o h
        · rw [List.mem_singleton.mp h]; rfl
  · rintro ρ μ ⟨rs2, rs', b, g, x3, x4, x5, x6, x7, x8, e, h1, h2, h3, hb, hg, rfl, rfl⟩
    cases rs' with
    | cons p l => cases e
    | nil =>
      subst hrest
      wtm_at "wr"
      refine ⟨1, rs2.map Row.d, rfl, Nat.le_refl _, rfl, rfl, rs2, b, rfl, by simpa [rwOf] using h1, h3, hb, rfl⟩
end TT

namespace TT
open PySem L2
variable [TB]
/-! the first wrong thing, by the tree -/
def orE : Option Er → Option Er → Option Er
  | some e, _ => some e
  | none, r => r
set_option maxHeartbeats 8000000 in
theorem orE_none (a : Option Er) : orE a none = a := by cases a <;> rfl
set_option maxHeartbeats 8000000 in
theorem orE_assoc (a b c : Option Er) : orE (orE a b) c = orE a (orE b c) := by cases a <;> rfl
def fsE (ars : Ars) : Ex → Scp → Option Er
  | .test n as y z, sc => orE (here ars (.test n as y z) sc) (orE (fsE ars y sc) (fsE ars z sc))
  | .lt x a b, sc => orE (here ars (.lt x a b) sc) (orE (fsE ars a sc) (fsE ars b (sc ++ [x])))
  | .tr a x b, sc => orE (here ars (.tr a x b) sc) (orE (fsE ars a sc) (fsE ars b (sc ++ [x])))
  | .at a, sc => here ars (.at a) sc
  | .rais a, sc => here ars (.rais a) sc
  | .ask n as, sc => here ars (.ask n as) sc
  | .call n as, sc => here ars (.call n as) sc
def fsL (ars : Ars) : List (Ex × Scp) → Option Er
  | [] => none
  | p :: r => orE (fsE ars p.1 p.2) (fsL ars r)
set_option maxHeartbeats 8000000 in
theorem fsL_app (ars : Ars) : ∀ a b : List (Ex × Scp), fsL ars (a ++ b) = orE (fsL ars a) (fsL ars b)
  | [], _ => rfl
  | p :: a, b => by
    show orE _ (fsL ars (a ++ b)) = orE (orE _ _) _
    rw [fsL_app ars a b, orE_assoc]
set_option maxHeartbeats 8000000 in
theorem fsE_parts (ars : Ars) (e : Ex) (sc : Scp) : fsE ars e sc = orE (here ars e sc) (fsL ars (e.parts sc)) := by
  cases e <;> simp [fsE, Ex.parts, fsL, orE_none]
set_option maxHeartbeats 8000000 in
theorem lookF_fs (ars : Ars) : ∀ (n : Nat) (l : List (Ex × Scp)), totP l < n → lookF ars n l = fsL ars l
  | 0, l, h => by omega
  | n + 1, [], h => rfl
  | n + 1, (e, sc) :: r, h => by
    have ih := lookF_fs ars n (e.parts sc ++ r) (by
      have h1 := size_parts e sc
      rw [totP_app]
      simp only [totP, List.map_cons, List.sum_cons] at h h1 ⊢
      omega)
    show (match here ars e sc with | some er => some er | none => lookF ars n (e.parts sc ++ r)) = orE (fsE ars e sc) (fsL ars r)
    rw [fsE_parts, ih, fsL_app, orE_assoc]
    cases here ars e sc <;> rfl
set_option maxHeartbeats 8000000 in
theorem lookF_one (ars : Ars) (e : Ex) (sc : Scp) : lookF ars (e.size + 1) [(e, sc)] = fsE ars e sc := by
  rw [lookF_fs _ _ _ (by simp [totP])]
  exact orE_none _
set_option maxHeartbeats 8000000 in
/-- nothing is wrong in what is drawn over the right rows -/
theorem unb_in {sc : Scp} : ∀ {as : List At}, (∀ a ∈ as, AtIn sc a) → unbA sc as = none
  | [], _ => rfl
  | .num i :: r, h => unb_in (as := r) fun a ha => h a (List.mem_cons_of_mem _ ha)
  | .var x :: r, h => by
    have hx : x ∈ sc := (h (.var x) List.mem_cons_self).2 x rfl
    show (if x ∈ sc then unbA sc r else some x) = none
    rw [if_pos hx]
    exact unb_in fun a ha => h a (List.mem_cons_of_mem _ ha)
set_option maxHeartbeats 8000000 in
theorem find_in {n : List Nat} {k : Nat} : ∀ {ars : Ars}, (ars.map (·.1)).Nodup → (n, k) ∈ ars → findA ars n = some k
  | p :: r, hd, h => by
    show (if p.1 = n then some p.2 else findA r n) = some k
    rcases List.mem_cons.mp h with e | e
    · rw [← e, if_pos rfl]
    · have h2 := List.nodup_cons.mp hd
      have : p.1 ≠ n := fun q => h2.1 (List.mem_map.mpr ⟨_, e, q.symm⟩)
      rw [if_neg this]
      exact find_in h2.2 e
set_option maxHeartbeats 8000000 in
theorem fs_clean {rows : Rws} (hd : (rows.map (·.1)).Nodup) : ∀ {e : Ex} {sc : Scp}, ExIn rows sc e → fsE rows e sc = none
  | .at a, sc, h => by
    show (unbA sc [a]).map Er.unb = none
    rw [unb_in (fun b hb => by rw [List.mem_singleton.mp hb]; exact h)]; rfl
  | .rais a, sc, h => by
    show (unbA sc [a]).map Er.unb = none
    rw [unb_in (fun b hb => by rw [List.mem_singleton.mp hb]; exact h)]; rfl
  | .ask n as, sc, h => by
    show (unbA sc as).map Er.unb = none
    rw [unb_in h.2.1]; rfl
  | .call n as, sc, h => by
    have hf := find_in hd h.1
    simp only [fsE, here, hf, if_pos rfl, unb_in h.2.2.1]
    rfl
  | .test n as y z, sc, h => by
    have h0 : here rows (.test n as y z) sc = none := by
      show (unbA sc as).map Er.unb = none
      rw [unb_in h.2.1.1]; rfl
    rw [fsE, h0, fs_clean hd h.2.2.1, fs_clean hd h.2.2.2]; rfl
  | .lt x a b, sc, h => by
    have h0 : here rows (.lt x a b) sc = none := rfl
    rw [fsE, h0, fs_clean hd h.2.1, fs_clean hd h.2.2]; rfl
  | .tr a x b, sc, h => by
    have h0 : here rows (.tr a x b) sc = none := rfl
    rw [fsE, h0, fs_clean hd h.2.1, fs_clean hd h.2.2]; rfl
end TT

namespace TT
open PySem L2
variable [TB]
set_option maxHeartbeats 8000000 in
theorem toPys_nm : ∀ l : List (List Nat), toPys (l.map nm) = some (l.map fun a => .str (tx a))
  | [] => rfl
  | a :: l => by simp [toPys, toPy, nm, toPys_nm l]
set_option maxHeartbeats 8000000 in
theorem lt_ok : ∀ c ∈ letters, c < 0x110000 := by decide
set_option maxHeartbeats 8000000 in
theorem str_ok {a : List Nat} (h : NameOk a) : PyData.strOk (tx a) = true := by
  unfold PyData.strOk tx
  rw [Array.all_eq_true_iff_forall_mem]
  intro c hc
  exact decide_eq_true (lt_ok c (h.2.2 c (by simpa using hc)))
set_option maxHeartbeats 8000000 in
theorem lay_strs : ∀ l : List (List Nat), (∀ a ∈ l, NameOk a) → PyData.canLayAll0 (l.map fun a => .str (tx a)) = true
  | [], _ => rfl
  | a :: l, h => by simp [PyData.canLayAll0, PyData.canLay0, lay_strs l fun b hb => h b (List.mem_cons_of_mem _ hb), str_ok (h a List.mem_cons_self)]
set_option maxHeartbeats 8000000 in
theorem shaped_nm {a : List Nat} (h : NameOk a) : SeqAt.shaped (.str (tx a)) = true := by
  simp [SeqAt.shaped, PyData.canLay0, str_ok h, PyData.depth]
set_option maxHeartbeats 8000000 in
theorem notin_names {a : List Nat} (ha : NameOk a) {l : List (List Nat)} (hl : ∀ a ∈ l, NameOk a) : inD true (nm a) (.lst (l.map nm)) = some (.bl (!decide (a ∈ l))) := by
  have he : ((l.map fun a => PyData.str (tx a)).any fun z => PyData.eqv z (.str (tx a))) = decide (a ∈ l) := by
    rw [Bool.eq_iff_iff, List.any_eq_true, decide_eq_true_eq]
    constructor
    · rintro ⟨z, hz, e⟩
      obtain ⟨c, hc, rfl⟩ := List.mem_map.mp hz
      have : tx c = tx a := by simpa [PyData.eqv] using e
      rw [← tx_inj this]; exact hc
    · intro h
      exact ⟨_, List.mem_map.mpr ⟨a, h, rfl⟩, by simp [PyData.eqv]⟩
  have e1 : inTx (nm a) (.lst (l.map nm)) = none := rfl
  unfold inD inB
  rw [e1]
  unfold inSq itemsD
  simp only [Option.bind_some, toPys_nm, nm, toPy]
  rw [if_pos ⟨shaped_nm ha, lay_strs l hl⟩, he]
  rfl
def Er.d : Er → D
  | .unk n => .tup [.str "unknown", nm n, .bl true]
  | .ar n g => .tup [.str "arity", nm n, .int g, .bl false]
  | .unb x => .tup [.str "unbound", nm x, .bl true]
def erD : Option Er → D
  | none => .non
  | some e => e.d
abbrev f1 : MS := (mIfS (mAnd (mB (mBin eqD (mBin ixD (mVar 0) (mC (.int 0))) (mC (.str ("call" : Str))))) (mB (mBin (inK true) (mBin ixD (mVar 0) (mC (.int 1))) (mVar 2)))) (mRet (mTup (mCons (mC (.str ("unknown" : Str))) (mCons (mBin ixD (mVar 0) (mC (.int 1))) (mCons (mC (.bl true)) mNil))))) mNext)
abbrev f2 : MS := (mIfS (mAnd (mB (mBin eqD (mBin ixD (mVar 0) (mC (.int 0))) (mC (.str ("call" : Str))))) (mB (mBin neD (mBin getK (mVar 2) (mBin ixD (mVar 0) (mC (.int 1)))) (mN (one lenD) (mCons (mBin ixD (mVar 0) (mC (.int 2))) mNil))))) (mRet (mTup (mCons (mC (.str ("arity" : Str))) (mCons (mBin ixD (mVar 0) (mC (.int 1))) (mCons (mN (one lenD) (mCons (mBin ixD (mVar 0) (mC (.int 2))) mNil)) (mCons (mC (.bl false)) mNil)))))) mNext)
abbrev f3 : MS := (mAsg (mIf (mB (mBin (inD false) (mBin ixD (mVar 0) (mC (.int 0))) (mTup (mCons (mC (.str ("num" : Str))) (mCons (mC (.str ("var" : Str))) mNil))))) (mFz (mLst (mCons (mVar 0) mNil))) (mIf (mB (mBin eqD (mBin ixD (mVar 0) (mC (.int 0))) (mC (.str ("raise" : Str))))) (mFz (mLst (mCons (mBin ixD (mVar 0) (mC (.int 1))) mNil))) (mFz (mLst mNil)))) (gN 3))
abbrev f4 : MS := (mIfS (mB (mBin (inD false) (mBin ixD (mVar 0) (mC (.int 0))) (mTup (mCons (mC (.str ("ask" : Str))) (mCons (mC (.str ("test" : Str))) (mCons (mC (.str ("call" : Str))) mNil)))))) (mAsg (mFz (mNL listL (mCons (mBin ixD (mVar 0) (mC (.int 2))) mNil))) (gN 3)) mNext)
abbrev f5b : MS := (mIfS (mAnd (mB (mBin eqD (mBin ixD (mVar 4) (mC (.int 0))) (mC (.str ("var" : Str))))) (mB (mBin (inD true) (mBin ixD (mVar 4) (mC (.int 1))) (mVar 1)))) (mRet (mTup (mCons (mC (.str ("unbound" : Str))) (mCons (mBin ixD (mVar 4) (mC (.int 1))) (mCons (mC (.bl true)) mNil))))) mNext)
abbrev rF (ars : Ars) (e : Ex) (sc : Scp) (x3 x4 x5 x6 x7 x8 : Option MV) : En := [some (.d e.d), some (.d (.lst (sc.map nm))), some (.d (.dK (arK ars))), x3, x4, x5, x6, x7, x8]
section
variable (ars : Ars) (e : Ex) (sc : Scp) (x3 x4 x5 x6 x7 x8 : Option MV) (μ : List MO)
set_option maxHeartbeats 8000000 in
theorem f_no (h : e.isCall = false) : f1 (rF ars e sc x3 x4 x5 x6 x7 x8) μ = .nx (rF ars e sc x3 x4 x5 x6 x7 x8) μ ∧ f2 (rF ars e sc x3 x4 x5 x6 x7 x8) μ = .nx (rF ars e sc x3 x4 x5 x6 x7 x8) μ := by
  have hA : (mB (mBin eqD (mBin ixD (mVar 0) (mC (.int 0))) (mC (.str ("call" : Str))))) (rF ars e sc x3 x4 x5 x6 x7 x8) μ = .ok false μ := b_eq (bin_eq (bin_eq rfl rfl rfl rfl (tag_ix e)) rfl rfl rfl (eq_f (tag_call h)))
  exact ⟨ifs_f (and_f hA) rfl, ifs_f (and_f hA) rfl⟩
set_option maxHeartbeats 8000000 in
theorem f1_call (n : List Nat) (as : List At) : f1 (rF ars (.call n as) sc x3 x4 x5 x6 x7 x8) μ = if (findA ars n).isSome then .nx (rF ars (.call n as) sc x3 x4 x5 x6 x7 x8) μ else .rt (.d (Er.unk n).d) μ := by
  have hA : (mB (mBin eqD (mBin ixD (mVar 0) (mC (.int 0))) (mC (.str ("call" : Str))))) (rF ars (.call n as) sc x3 x4 x5 x6 x7 x8) μ = .ok true μ := b_eq (bin_eq (bin_eq rfl rfl rfl rfl rfl) rfl rfl rfl (eq_t _))
  have hk : inK true (nm n) (.dK (arK ars)) = some (.bl (!(findA ars n).isSome)) := by
    show some (D.bl (if true = true then !(valD (arK ars) (.inr (tx n))).isSome else _)) = _
    rw [val_ars, if_pos rfl, Option.isSome_map]
  have hb : (mB (mBin (inK true) (mBin ixD (mVar 0) (mC (.int 1))) (mVar 2))) (rF ars (.call n as) sc x3 x4 x5 x6 x7 x8) μ = .ok (!(findA ars n).isSome) μ := b_eq (bin_eq (bin_eq rfl rfl rfl rfl rfl) rfl rfl rfl hk)
  cases hf : (findA ars n).isSome with
  | true =>
    rw [hf] at hb
    exact ifs_f (and_t hA hb) rfl
  | false =>
    rw [hf] at hb
    rw [if_neg (by decide)]
    exact ifs_t (and_t hA hb) (ret_eq (tup_eq (as := [.d (.str "unknown"), .d (nm n), .d (.bl true)]) (xs := [.str "unknown", nm n, .bl true]) rfl rfl (by simp [sizeLine_eq])))
set_option maxHeartbeats 8000000 in
theorem f2_call (n : List Nat) (as : List At) (k : Nat) (hk : findA ars n = some k) : f2 (rF ars (.call n as) sc x3 x4 x5 x6 x7 x8) μ = if k = as.length then .nx (rF ars (.call n as) sc x3 x4 x5 x6 x7 x8) μ else .rt (.d (Er.ar n as.length).d) μ := by
  have hA : (mB (mBin eqD (mBin ixD (mVar 0) (mC (.int 0))) (mC (.str ("call" : Str))))) (rF ars (.call n as) sc x3 x4 x5 x6 x7 x8) μ = .ok true μ := b_eq (bin_eq (bin_eq rfl rfl rfl rfl rfl) rfl rfl rfl (eq_t _))
  have hg : getK (.dK (arK ars)) (nm n) = some (.int k) := by
    show valD (arK ars) (.inr (tx n)) = _
    rw [val_ars, hk]; rfl
  have hn : one lenD [.tup (as.map At.d)] = some (.int as.length) := by simp [one, lenD]
  have hne : neD (.int (k : Int)) (.int (as.length : Nat)) = some (.bl (!decide (k = as.length))) := by
    have : decide ((k : Int) = ((as.length : Nat) : Int)) = decide (k = as.length) := by
      by_cases q : k = as.length
      · simp [q]
      · have : ¬ (k : Int) = ((as.length : Nat) : Int) := by omega
        rw [decide_eq_false this, decide_eq_false q]
    simp only [neD, eqB, Option.map_some, this]
  have hlen : (mN (one lenD) (mCons (mBin ixD (mVar 0) (mC (.int 2))) mNil)) (rF ars (.call n as) sc x3 x4 x5 x6 x7 x8) μ = .ok (.d (.int as.length)) μ := n_eq (cons_eq (bin_eq rfl rfl rfl rfl rfl) rfl) rfl hn
  have hb : (mB (mBin neD (mBin getK (mVar 2) (mBin ixD (mVar 0) (mC (.int 1)))) (mN (one lenD) (mCons (mBin ixD (mVar 0) (mC (.int 2))) mNil)))) (rF ars (.call n as) sc x3 x4 x5 x6 x7 x8) μ = .ok (!decide (k = as.length)) μ :=
    b_eq (bin_eq (bin_eq rfl (bin_eq rfl rfl rfl rfl rfl) rfl rfl hg) hlen rfl rfl hne)
  by_cases q : k = as.length
  · rw [if_pos q]
    rw [decide_eq_true q] at hb
    exact ifs_f (and_t hA hb) rfl
  · rw [if_neg q]
    rw [decide_eq_false q] at hb
    exact ifs_t (and_t hA hb) (ret_eq (tup_eq (as := [.d (.str "arity"), .d (nm n), .d (.int as.length), .d (.bl false)]) (xs := [.str "arity", nm n, .int as.length, .bl false]) (cons_eq rfl (cons_eq (bin_eq rfl rfl rfl rfl rfl) (cons_eq hlen rfl))) rfl (by simp [sizeLine_eq])))
end
end TT

namespace TT
open PySem L2
variable [TB]
abbrev f6 : MS := (mAsg (mIf (mB (mBin eqD (mBin ixD (mVar 0) (mC (.int 0))) (mC (.str ("test" : Str))))) (mFz (mLst (mCons (mTup (mCons (mBin ixD (mVar 0) (mC (.int 3))) (mCons (mVar 1) mNil))) (mCons (mTup (mCons (mBin ixD (mVar 0) (mC (.int 4))) (mCons (mVar 1) mNil))) mNil)))) (mFz (mLst mNil))) (gN 5))
abbrev f7 : MS := (mIfS (mB (mBin eqD (mBin ixD (mVar 0) (mC (.int 0))) (mC (.str ("let" : Str))))) (mAsg (mFz (mLst (mCons (mTup (mCons (mBin ixD (mVar 0) (mC (.int 2))) (mCons (mVar 1) mNil))) (mCons (mTup (mCons (mBin ixD (mVar 0) (mC (.int 3))) (mCons (mBin addD (mVar 1) (mFz (mLst (mCons (mBin ixD (mVar 0) (mC (.int 1))) mNil)))) mNil))) mNil)))) (gN 5)) mNext)
abbrev f8 : MS := (mIfS (mB (mBin eqD (mBin ixD (mVar 0) (mC (.int 0))) (mC (.str ("try" : Str))))) (mAsg (mFz (mLst (mCons (mTup (mCons (mBin ixD (mVar 0) (mC (.int 1))) (mCons (mVar 1) mNil))) (mCons (mTup (mCons (mBin ixD (mVar 0) (mC (.int 3))) (mCons (mBin addD (mVar 1) (mFz (mLst (mCons (mBin ixD (mVar 0) (mC (.int 2))) mNil)))) mNil))) mNil)))) (gN 5)) mNext)
def Ex.k : Ex → Nat
  | .at _ => 0
  | .rais _ => 1
  | .ask _ _ => 2
  | .call _ _ => 2
  | .test _ _ _ _ => 2
  | _ => 3
section
variable (ars : Ars) (e : Ex) (sc : Scp) (x3 x4 x5 x6 x7 x8 : Option MV) (μ : List MO)
set_option maxHeartbeats 8000000 in
theorem tagB (t : Str) : (mB (mBin eqD (mBin ixD (mVar 0) (mC (.int 0))) (mC (.str t)))) (rF ars e sc x3 x4 x5 x6 x7 x8) μ = .ok (decide (e.tag = t)) μ := by
  refine b_eq (bin_eq (bin_eq rfl rfl rfl rfl (tag_ix e)) rfl rfl rfl ?_)
  by_cases h : e.tag = t
  · rw [h, decide_eq_true rfl]; exact eq_t _
  · rw [decide_eq_false h]; exact eq_f h
set_option maxHeartbeats 8000000 in
theorem t_num : (.str ("num" : Str) : D) = nm [110, 117, 109] := congrArg D.str (by decide +kernel : ("num" : Str) = tx [110, 117, 109])
set_option maxHeartbeats 8000000 in
theorem t_var : (.str ("var" : Str) : D) = nm [118, 97, 114] := congrArg D.str (by decide +kernel : ("var" : Str) = tx [118, 97, 114])
set_option maxHeartbeats 8000000 in
theorem t_raise : (.str ("raise" : Str) : D) = nm [114, 97, 105, 115, 101] := congrArg D.str (by decide +kernel : ("raise" : Str) = tx [114, 97, 105, 115, 101])
set_option maxHeartbeats 8000000 in
theorem t_ask : (.str ("ask" : Str) : D) = nm [97, 115, 107] := congrArg D.str (by decide +kernel : ("ask" : Str) = tx [97, 115, 107])
set_option maxHeartbeats 8000000 in
theorem t_call : (.str ("call" : Str) : D) = nm [99, 97, 108, 108] := congrArg D.str (by decide +kernel : ("call" : Str) = tx [99, 97, 108, 108])
set_option maxHeartbeats 8000000 in
theorem t_test : (.str ("test" : Str) : D) = nm [116, 101, 115, 116] := congrArg D.str (by decide +kernel : ("test" : Str) = tx [116, 101, 115, 116])
set_option maxHeartbeats 8000000 in
theorem t_let : (.str ("let" : Str) : D) = nm [108, 101, 116] := congrArg D.str (by decide +kernel : ("let" : Str) = tx [108, 101, 116])
set_option maxHeartbeats 8000000 in
theorem t_try : (.str ("try" : Str) : D) = nm [116, 114, 121] := congrArg D.str (by decide +kernel : ("try" : Str) = tx [116, 114, 121])
def Ex.tn : Ex → List Nat
  | .at (.num _) => [110, 117, 109]
  | .at (.var _) => [118, 97, 114]
  | .rais _ => [114, 97, 105, 115, 101]
  | .ask _ _ => [97, 115, 107]
  | .call _ _ => [99, 97, 108, 108]
  | .test _ _ _ _ => [116, 101, 115, 116]
  | .lt _ _ _ => [108, 101, 116]
  | .tr _ _ _ => [116, 114, 121]
set_option maxHeartbeats 8000000 in
theorem tag_nm (e : Ex) : (.str e.tag : D) = nm e.tn := by
  cases e with
  | «at» a => cases a <;> first | exact t_num | exact t_var
  | rais a => exact t_raise
  | ask n as => exact t_ask
  | call n as => exact t_call
  | test n as y z => exact t_test
  | lt x a b => exact t_let
  | tr a x b => exact t_try
set_option maxHeartbeats 8000000 in
theorem tn_ok (e : Ex) : NameOk e.tn := by
  cases e with
  | «at» a => cases a <;> (simp only [Ex.tn]; exact ⟨by decide, by decide, by decide⟩)
  | _ => simp only [Ex.tn]; exact ⟨by decide, by decide, by decide⟩
set_option maxHeartbeats 8000000 in
theorem in_tup {a : List Nat} (ha : NameOk a) {l : List (List Nat)} (hl : ∀ a ∈ l, NameOk a) : inD false (nm a) (.tup (l.map nm)) = some (.bl (decide (a ∈ l))) := by
  have he : ((l.map fun a => PyData.str (tx a)).any fun z => PyData.eqv z (.str (tx a))) = decide (a ∈ l) := by
    rw [Bool.eq_iff_iff, List.any_eq_true, decide_eq_true_eq]
    constructor
    · rintro ⟨z, hz, e⟩
      obtain ⟨c, hc, rfl⟩ := List.mem_map.mp hz
      have : tx c = tx a := by simpa [PyData.eqv] using e
      rw [← tx_inj this]; exact hc
    · intro h
      exact ⟨_, List.mem_map.mpr ⟨a, h, rfl⟩, by simp [PyData.eqv]⟩
  have e1 : inTx (nm a) (.tup (l.map nm)) = none := rfl
  unfold inD inB
  rw [e1]
  unfold inSq itemsD
  simp only [Option.bind_some, toPys_nm, nm, toPy]
  rw [if_pos ⟨shaped_nm ha, lay_strs l hl⟩, he]
  rfl
set_option maxHeartbeats 8000000 in
theorem tin1 : inD false (.str e.tag) (.tup [.str "num", .str "var"]) = some (.bl (decide (e.k = 0))) := by
  rw [tag_nm, t_num, t_var]
  refine (in_tup (tn_ok e) (l := [[110, 117, 109], [118, 97, 114]]) (fun a ha => ?_)).trans ?_
  · simp only [List.mem_cons, List.not_mem_nil, or_false] at ha
    rcases ha with rfl | rfl <;> exact ⟨by decide, by decide, by decide⟩
  · cases e with
    | «at» a => cases a <;> rfl
    | _ => rfl
set_option maxHeartbeats 8000000 in
theorem tin2 : inD false (.str e.tag) (.tup [.str "ask", .str "test", .str "call"]) = some (.bl (decide (e.k = 2))) := by
  rw [tag_nm, t_ask, t_test, t_call]
  refine (in_tup (tn_ok e) (l := [[97, 115, 107], [116, 101, 115, 116], [99, 97, 108, 108]]) (fun a ha => ?_)).trans ?_
  · simp only [List.mem_cons, List.not_mem_nil, or_false] at ha
    rcases ha with rfl | rfl | rfl <;> exact ⟨by decide, by decide, by decide⟩
  · cases e with
    | «at» a => cases a <;> rfl
    | _ => rfl
set_option maxHeartbeats 8000000 in
theorem f34 (hok : e.Ok) : ∃ y, f3 (rF ars e sc x3 x4 x5 x6 x7 x8) μ = .nx (rF ars e sc y x4 x5 x6 x7 x8) μ ∧ f4 (rF ars e sc y x4 x5 x6 x7 x8) μ = .nx (rF ars e sc (some (.d (.lst (e.atoms.map At.d)))) x4 x5 x6 x7 x8) μ := by
  have h1 : (mB (mBin (inD false) (mBin ixD (mVar 0) (mC (.int 0))) (mTup (mCons (mC (.str ("num" : Str))) (mCons (mC (.str ("var" : Str))) mNil))))) (rF ars e sc x3 x4 x5 x6 x7 x8) μ = .ok (decide (e.k = 0)) μ :=
    b_eq (bin_eq (bin_eq rfl rfl rfl rfl (tag_ix e)) (tup_eq (as := [.d (.str "num"), .d (.str "var")]) (xs := [.str "num", .str "var"]) rfl rfl (by simp [sizeLine_eq])) rfl rfl (tin1 e))
  have h2 : ∀ y, (mB (mBin (inD false) (mBin ixD (mVar 0) (mC (.int 0))) (mTup (mCons (mC (.str ("ask" : Str))) (mCons (mC (.str ("test" : Str))) (mCons (mC (.str ("call" : Str))) mNil)))))) (rF ars e sc y x4 x5 x6 x7 x8) μ = .ok (decide (e.k = 2)) μ := fun y =>
    b_eq (bin_eq (bin_eq rfl rfl rfl rfl (tag_ix e)) (tup_eq (as := [.d (.str "ask"), .d (.str "test"), .d (.str "call")]) (xs := [.str "ask", .str "test", .str "call"]) rfl rfl (by simp [sizeLine_eq])) rfl rfl (tin2 e))
  have h3 := tagB ars e sc x3 x4 x5 x6 x7 x8 μ "raise"
  have hl : ∀ as : List At, AtsOk as → listL [.tup (as.map At.d)] = some (as.map At.d) := fun as h => by
    have := h.2
    simp [listL]
  cases e with
  | «at» a =>
    refine ⟨some (.d (.lst [a.d])), asg_eq (if_t h1 (lst_eq (as := [.d a.d]) (xs := [a.d]) (μ1 := μ) rfl rfl (by simp [sizeLine_eq]))) rfl, ifs_f (h2 _) rfl⟩
  | rais a =>
    refine ⟨some (.d (.lst [a.d])), asg_eq (if_f h1 (if_t h3 (lst_eq (as := [.d a.d]) (xs := [a.d]) (μ1 := μ) (cons_eq (bin_eq rfl rfl rfl rfl rfl) rfl) rfl (by simp [sizeLine_eq])))) rfl, ifs_f (h2 _) rfl⟩
  | lt x a b => exact ⟨some (.d (.lst [])), asg_eq (if_f h1 (if_f h3 lst_nil)) rfl, ifs_f (h2 _) rfl⟩
  | tr a x b => exact ⟨some (.d (.lst [])), asg_eq (if_f h1 (if_f h3 lst_nil)) rfl, ifs_f (h2 _) rfl⟩
  | ask n as =>
    refine ⟨some (.d (.lst [])), asg_eq (if_f h1 (if_f h3 lst_nil)) rfl, ifs_t (h2 _) ?_⟩
    have e1 := hl as hok.2
    simp [e1, Ex.d, Ex.atoms, ixD]
  | call n as =>
    refine ⟨some (.d (.lst [])), asg_eq (if_f h1 (if_f h3 lst_nil)) rfl, ifs_t (h2 _) ?_⟩
    have e1 := hl as hok.2
    simp [e1, Ex.d, Ex.atoms, ixD]
  | test n as y z =>
    refine ⟨some (.d (.lst [])), asg_eq (if_f h1 (if_f h3 lst_nil)) rfl, ifs_t (h2 _) ?_⟩
    have e1 := hl as hok.2.1
    simp [e1, Ex.d, Ex.atoms, ixD]
end
end TT

namespace TT
open PySem L2
variable [TB]
section
variable (ars : Ars) (e : Ex) (sc : Scp) (x3 x4 x5 x6 x7 x8 : Option MV) (μ : List MO)
set_option maxHeartbeats 8000000 in
theorem f5_scan (hs : ∀ x ∈ sc, NameOk x) (q : List D × Option Nat) (hq : q.2 = none) : ∀ (as : List At) (hok : ∀ a ∈ as, a.Ok) (z : Option MV), match unbA sc as with
      | none => ∃ y, forD q (gN 4) f5b (as.map At.d) (rF ars e sc x3 z x5 x6 x7 x8) μ = .nx (rF ars e sc x3 y x5 x6 x7 x8) μ
      | some x => forD q (gN 4) f5b (as.map At.d) (rF ars e sc x3 z x5 x6 x7 x8) μ = .rt (.d (Er.unb x).d) μ
  | [], _, z => ⟨z, by show forD q _ _ [] _ _ = _; unfold forD chk; rw [hq]; rfl⟩
  | a :: as, hok, z => by
    have ih := f5_scan hs q hq as (fun b hb => hok b (List.mem_cons_of_mem _ hb)) (some (.d a.d))
    have step : ∀ {r : SR}, f5b (rF ars e sc x3 (some (.d a.d)) x5 x6 x7 x8) μ = r → forD q (gN 4) f5b ((a :: as).map At.d) (rF ars e sc x3 z x5 x6 x7 x8) μ = (match r with
      | .nx ρ2 μ2 => forD q (gN 4) f5b (as.map At.d) ρ2 μ2
      | .ct ρ2 μ2 => forD q (gN 4) f5b (as.map At.d) ρ2 μ2
      | .bk ρ2 μ2 => .nx ρ2 μ2
      | r => r) := fun {r} h => by
      show forD q _ _ (a.d :: as.map At.d) _ _ = _
      rw [forD]
      unfold chk
      rw [hq]
      show (if true = true then (match f5b (rF ars e sc x3 (some (.d a.d)) x5 x6 x7 x8) μ with
        | .nx ρ2 μ2 => _ | .ct ρ2 μ2 => _ | .bk ρ2 μ2 => _ | r => r) else _) = _
      rw [h]
      rfl
    cases a with
    | num i =>
      have h := step (ifs_f (and_f (b_eq (bin_eq (bin_eq rfl rfl rfl rfl rfl) rfl rfl rfl (eq_f (by decide))))) rfl)
      show match unbA sc as with | none => _ | some x => _
      revert ih
      cases unbA sc as with
      | none => exact fun ⟨y, k⟩ => ⟨y, h.trans k⟩
      | some x => exact fun k => h.trans k
    | var x =>
      have hx := notin_names (hok (.var x) List.mem_cons_self) hs
      have hc : (mB (mBin (inD true) (mBin ixD (mVar 4) (mC (.int 1))) (mVar 1))) (rF ars e sc x3 (some (.d (At.var x).d)) x5 x6 x7 x8) μ = .ok (!decide (x ∈ sc)) μ :=
        b_eq (bin_eq (bin_eq rfl rfl rfl rfl rfl) rfl rfl rfl hx)
      have hv : (mB (mBin eqD (mBin ixD (mVar 4) (mC (.int 0))) (mC (.str ("var" : Str))))) (rF ars e sc x3 (some (.d (At.var x).d)) x5 x6 x7 x8) μ = .ok true μ := b_eq (bin_eq (bin_eq rfl rfl rfl rfl rfl) rfl rfl rfl (eq_t _))
      by_cases hm : x ∈ sc
      · rw [decide_eq_true hm] at hc
        have h := step (ifs_f (and_t hv hc) rfl)
        have hu : unbA sc (.var x :: as) = unbA sc as := by show (if x ∈ sc then _ else _) = _; rw [if_pos hm]
        rw [hu]
        revert ih
        cases unbA sc as with
        | none => exact fun ⟨y, k⟩ => ⟨y, h.trans k⟩
        | some x => exact fun k => h.trans k
      · rw [decide_eq_false hm] at hc
        have hu : unbA sc (.var x :: as) = some x := by show (if x ∈ sc then _ else _) = _; rw [if_neg hm]
        rw [hu]
        exact step (ifs_t (and_t hv hc) (ret_eq (tup_eq (as := [.d (.str "unbound"), .d (nm x), .d (.bl true)]) (xs := [.str "unbound", nm x, .bl true]) rfl rfl (by simp [sizeLine_eq]))))
set_option maxHeartbeats 8000000 in
theorem f678 (hl : sc.length ≤ 1000) : ∃ y1 y2, f6 (rF ars e sc x3 x4 x5 x6 x7 x8) μ = .nx (rF ars e sc x3 x4 y1 x6 x7 x8) μ ∧ f7 (rF ars e sc x3 x4 y1 x6 x7 x8) μ = .nx (rF ars e sc x3 x4 y2 x6 x7 x8) μ ∧ f8 (rF ars e sc x3 x4 y2 x6 x7 x8) μ = .nx (rF ars e sc x3 x4 (some (.d (.lst ((e.parts sc).map pD)))) x6 x7 x8) μ := by
  have h1 := tagB ars e sc x3 x4 x5 x6 x7 x8 μ "test"
  have h2 := fun y => tagB ars e sc x3 x4 y x6 x7 x8 μ "let"
  have h3 := fun y => tagB ars e sc x3 x4 y x6 x7 x8 μ "try"
  have no : e.parts sc = [] → e.tag ≠ ("test" : Str) → e.tag ≠ ("let" : Str) → e.tag ≠ ("try" : Str) → ∃ y1 y2, f6 (rF ars e sc x3 x4 x5 x6 x7 x8) μ = .nx (rF ars e sc x3 x4 y1 x6 x7 x8) μ ∧ f7 (rF ars e sc x3 x4 y1 x6 x7 x8) μ = .nx (rF ars e sc x3 x4 y2 x6 x7 x8) μ ∧ f8 (rF ars e sc x3 x4 y2 x6 x7 x8) μ = .nx (rF ars e sc x3 x4 (some (.d (.lst ((e.parts sc).map pD)))) x6 x7 x8) μ := fun hp a b c => by
    rw [decide_eq_false a] at h1
    have h2 := h2 (some (.d (.lst [])))
    have h3 := h3 (some (.d (.lst [])))
    rw [decide_eq_false b] at h2
    rw [decide_eq_false c] at h3
    rw [hp]
    exact ⟨_, _, asg_eq (if_f h1 lst_nil) rfl, ifs_f h2 rfl, ifs_f h3 rfl⟩
  have ha : ∀ x, addD (.lst (sc.map nm)) (.lst [nm x]) = some (.lst ((sc ++ [x]).map nm)) := fun x => add_sc hl
  cases e with
  | «at» a => cases a <;> exact no rfl (by simp only [Ex.tag]; decide) (by simp only [Ex.tag]; decide) (by simp only [Ex.tag]; decide)
  | rais a => exact no rfl (by simp only [Ex.tag]; decide) (by simp only [Ex.tag]; decide) (by simp only [Ex.tag]; decide)
  | ask n as => exact no rfl (by simp only [Ex.tag]; decide) (by simp only [Ex.tag]; decide) (by simp only [Ex.tag]; decide)
  | call n as => exact no rfl (by simp only [Ex.tag]; decide) (by simp only [Ex.tag]; decide) (by simp only [Ex.tag]; decide)
  | test n as y z =>
    have h2 := h2 (some (.d (.lst [pD (y, sc), pD (z, sc)])))
    have h3 := h3 (some (.d (.lst [pD (y, sc), pD (z, sc)])))
    have h1 := h1.trans (congrArg (fun b => Res.ok b μ) (decide_eq_true (rfl : (Ex.test n as y z).tag = ("test" : Str))))
    have h2 := h2.trans (congrArg (fun b => Res.ok b μ) (decide_eq_false (by simp only [Ex.tag]; decide)))
    have h3 := h3.trans (congrArg (fun b => Res.ok b μ) (decide_eq_false (by simp only [Ex.tag]; decide)))
    exact ⟨_, _, asg_eq (if_t h1 (lst2 (x := pD (y, sc)) (y := pD (z, sc)) (tup_eq (as := [.d y.d, .d (.lst (sc.map nm))]) (xs := [y.d, .lst (sc.map nm)]) rfl rfl (by simp [sizeLine_eq])) (tup_eq (as := [.d z.d, .d (.lst (sc.map nm))]) (xs := [z.d, .lst (sc.map nm)]) rfl rfl (by simp [sizeLine_eq])))) rfl, ifs_f h2 rfl, ifs_f h3 rfl⟩
  | lt x a b =>
    have h2 := h2 (some (.d (.lst [])))
    have h3 := h3 (some (.d (.lst [pD (a, sc), pD (b, sc ++ [x])])))
    have h2 := h2.trans (congrArg (fun b => Res.ok b μ) (decide_eq_true (rfl : (Ex.lt x a b).tag = ("let" : Str))))
    have h1 := h1.trans (congrArg (fun b => Res.ok b μ) (decide_eq_false (by simp only [Ex.tag]; decide)))
    have h3 := h3.trans (congrArg (fun b => Res.ok b μ) (decide_eq_false (by simp only [Ex.tag]; decide)))
    refine ⟨_, _, asg_eq (if_f h1 lst_nil) rfl, ifs_t h2 (asg_eq (lst2 (x := pD (a, sc)) (y := pD (b, sc ++ [x])) (tup_eq (as := [.d a.d, .d (.lst (sc.map nm))]) (xs := [a.d, .lst (sc.map nm)]) rfl rfl (by simp [sizeLine_eq])) (tup_eq (as := [.d b.d, .d (.lst ((sc ++ [x]).map nm))]) (xs := [b.d, .lst ((sc ++ [x]).map nm)]) (cons_eq rfl (cons_eq (bin_eq rfl (lst_eq (as := [.d (nm x)]) (xs := [nm x]) (μ1 := μ) rfl rfl (by simp [sizeLine_eq])) rfl rfl (ha x)) rfl)) rfl (by simp [sizeLine_eq]))) rfl), ifs_f h3 rfl⟩
  | tr a x b =>
    have h2 := h2 (some (.d (.lst [])))
    have h3 := h3 (some (.d (.lst [])))
    have h3 := h3.trans (congrArg (fun b => Res.ok b μ) (decide_eq_true (rfl : (Ex.tr a x b).tag = ("try" : Str))))
    have h1 := h1.trans (congrArg (fun b => Res.ok b μ) (decide_eq_false (by simp only [Ex.tag]; decide)))
    have h2 := h2.trans (congrArg (fun b => Res.ok b μ) (decide_eq_false (by simp only [Ex.tag]; decide)))
    refine ⟨_, _, asg_eq (if_f h1 lst_nil) rfl, ifs_f h2 rfl, ifs_t h3 (asg_eq (lst2 (x := pD (a, sc)) (y := pD (b, sc ++ [x])) (tup_eq (as := [.d a.d, .d (.lst (sc.map nm))]) (xs := [a.d, .lst (sc.map nm)]) rfl rfl (by simp [sizeLine_eq])) (tup_eq (as := [.d b.d, .d (.lst ((sc ++ [x]).map nm))]) (xs := [b.d, .lst ((sc ++ [x]).map nm)]) (cons_eq rfl (cons_eq (bin_eq rfl (lst_eq (as := [.d (nm x)]) (xs := [nm x]) (μ1 := μ) rfl rfl (by simp [sizeLine_eq])) rfl rfl (ha x)) rfl)) rfl (by simp [sizeLine_eq]))) rfl)⟩
end
end TT

namespace TT
open PySem L2
variable [TB]
abbrev f9b (F : MF) : MS := (mSeq (mAsg (mCall F 3 (mCons (mVar 6) (mCons (mVar 7) (mCons (mVar 2) mNil)))) (gN 8))
  (mIfS (mB (mBin notN (mVar 8) (mC .non))) (mRet (mVar 8)) mNext))
def FirS (ars : Ars) (F : MF) (j : Nat) : Prop := ∀ (e : Ex) (sc : Scp), e.Ok → (∀ x ∈ sc, NameOk x) → e.deep ≤ j → sc.length + e.deep ≤ 900 → F [.d e.d, .d (.lst (sc.map nm)), .d (.dK (arK ars))] [] = .ok (.d (erD (fsE ars e sc))) []
set_option maxHeartbeats 8000000 in
theorem pair_mem {α : Type} {p a b : α} (h : p ∈ [a, b]) : p = a ∨ p = b := by simpa using h
section
variable (ars : Ars) (F : MF) (e : Ex) (sc : Scp) (x3 x4 x5 : Option MV) (μ : List MO)
set_option maxHeartbeats 8000000 in
theorem f9_scan (q : List D × Option Nat) (hq : q.2 = none) : ∀ (ps : List (Ex × Scp)) (hF : ∀ p ∈ ps, F [.d p.1.d, .d (.lst (p.2.map nm)), .d (.dK (arK ars))] [] = .ok (.d (erD (fsE ars p.1 p.2))) []) (z6 z7 z8 : Option MV), match fsL ars ps with
      | none => ∃ y6 y7 y8, forD q (gT 2 (gC (gN 6) (gC (gN 7) gE))) (f9b F) (ps.map pD) (rF ars e sc x3 x4 x5 z6 z7 z8) μ = .nx (rF ars e sc x3 x4 x5 y6 y7 y8) μ
      | some er => forD q (gT 2 (gC (gN 6) (gC (gN 7) gE))) (f9b F) (ps.map pD) (rF ars e sc x3 x4 x5 z6 z7 z8) μ = .rt (.d er.d) μ
  | [], _, z6, z7, z8 => ⟨z6, z7, z8, by show forD q _ _ [] _ _ = _; unfold forD chk; rw [hq]; rfl⟩
  | (a, s) :: ps, hF, z6, z7, z8 => by
    have h := hF (a, s) List.mem_cons_self
    have ih := f9_scan q hq ps (fun b hb => hF b (List.mem_cons_of_mem _ hb)) (some (.d a.d)) (some (.d (.lst (s.map nm)))) (some (.d (erD (fsE ars a s))))
    have step : ∀ {r : SR}, f9b F (rF ars e sc x3 x4 x5 (some (.d a.d)) (some (.d (.lst (s.map nm)))) z8) μ = r → forD q (gT 2 (gC (gN 6) (gC (gN 7) gE))) (f9b F) (((a, s) :: ps).map pD) (rF ars e sc x3 x4 x5 z6 z7 z8) μ = (match r with
      | .nx ρ2 μ2 => forD q (gT 2 (gC (gN 6) (gC (gN 7) gE))) (f9b F) (ps.map pD) ρ2 μ2
      | .ct ρ2 μ2 => forD q (gT 2 (gC (gN 6) (gC (gN 7) gE))) (f9b F) (ps.map pD) ρ2 μ2
      | .bk ρ2 μ2 => .nx ρ2 μ2
      | r => r) := fun {r} h => by
      show forD q _ _ (pD (a, s) :: ps.map pD) _ _ = _
      rw [forD]
      unfold chk
      rw [hq]
      show (if true = true then (match f9b F (rF ars e sc x3 x4 x5 (some (.d a.d)) (some (.d (.lst (s.map nm)))) z8) μ with
        | .nx ρ2 μ2 => _ | .ct ρ2 μ2 => _ | .bk ρ2 μ2 => _ | r => r) else _) = _
      rw [h]
      rfl
    have s1 : mAsg (mCall F 3 (mCons (mVar 6) (mCons (mVar 7) (mCons (mVar 2) mNil)))) (gN 8) (rF ars e sc x3 x4 x5 (some (.d a.d)) (some (.d (.lst (s.map nm)))) z8) μ = .nx (rF ars e sc x3 x4 x5 (some (.d a.d)) (some (.d (.lst (s.map nm)))) (some (.d (erD (fsE ars a s))))) μ := asg_eq (call_eq rfl rfl (call3 h)) rfl
    have hL : fsL ars ((a, s) :: ps) = orE (fsE ars a s) (fsL ars ps) := rfl
    rw [hL]
    cases hf : fsE ars a s with
    | none =>
      rw [hf] at s1 ih
      have h2 := step ((seq_nx s1).trans (ifs_f (b_eq (bin_eq (g := notN) rfl rfl rfl rfl rfl)) rfl))
      show match fsL ars ps with | none => _ | some er => _
      revert ih
      cases fsL ars ps with
      | none => exact fun ⟨y6, y7, y8, k⟩ => ⟨y6, y7, y8, h2.trans k⟩
      | some er => exact fun k => h2.trans k
    | some er =>
      rw [hf] at s1
      refine step ((seq_nx s1).trans (ifs_t (μ1 := μ) (b_eq (bin_eq (g := notN) rfl rfl rfl rfl ?_)) rfl))
      cases er <;> rfl
end
set_option maxHeartbeats 8000000 in
theorem fir_step {ars : Ars} {F : MF} {j : Nat} (hF : FirS ars F j) : FirS ars (G_first F) (j + 1) := by
  intro e sc hok hs hj hl
  have hdp := deep_pos e
  have hl1 : sc.length ≤ 1000 := by omega
  have hat : ∀ a ∈ e.atoms, a.Ok := by
    cases e with
    | «at» a => intro b hb; rw [List.mem_singleton.mp hb]; exact hok
    | rais a => intro b hb; rw [List.mem_singleton.mp hb]; exact hok
    | ask n as => exact hok.2.1
    | call n as => exact hok.2.1
    | test n as y z => exact hok.2.1.1
    | lt x a b => intro b hb; cases hb
    | tr a x b => intro b hb; cases hb
  have hpt : ∀ p ∈ e.parts sc, p.1.Ok ∧ (∀ x ∈ p.2, NameOk x) ∧ p.1.deep ≤ j ∧ p.2.length + p.1.deep ≤ 900 := by
    have hd := parts_deep e sc 900 hl
    intro p hp
    refine ⟨?_, ?_, ?_, hd p hp⟩
    · cases e with
      | test n as y z => rcases pair_mem hp with rfl | rfl <;> first | exact hok.2.2.1 | exact hok.2.2.2
      | lt x a b => rcases pair_mem hp with rfl | rfl <;> first | exact hok.2.1 | exact hok.2.2
      | tr a x b => rcases pair_mem hp with rfl | rfl <;> first | exact hok.2.1 | exact hok.2.2
      | _ => cases hp
    · have app : ∀ x, NameOk x → ∀ y ∈ sc ++ [x], NameOk y := fun x hx y hy => by
        rcases List.mem_append.mp hy with h | h
        · exact hs y h
        · rw [List.mem_singleton.mp h]; exact hx
      cases e with
      | test n as y z => rcases pair_mem hp with rfl | rfl <;> exact hs
      | lt x a b => rcases pair_mem hp with rfl | rfl <;> first | exact hs | exact app x hok.1
      | tr a x b => rcases pair_mem hp with rfl | rfl <;> first | exact hs | exact app x hok.1
      | _ => cases hp
    · cases e with
      | test n as y z => rcases pair_mem hp with rfl | rfl <;> simp only [Ex.deep] at hj ⊢ <;> omega
      | lt x a b => rcases pair_mem hp with rfl | rfl <;> simp only [Ex.deep] at hj ⊢ <;> omega
      | tr a x b => rcases pair_mem hp with rfl | rfl <;> simp only [Ex.deep] at hj ⊢ <;> omega
      | _ => cases hp
  have rest : (mSeq f3 (mSeq f4 (mSeq (mFor (mIt (mVar 3)) (gN 4) f5b) (mSeq f6 (mSeq f7 (mSeq f8 (mSeq (mFor (mIt (mVar 5)) (gT 2 (gC (gN 6) (gC (gN 7) gE))) (f9b F)) (mRet (mC .non))))))))) (rF ars e sc none none none none none none) [] = .rt (.d (erD (orE ((unbA sc e.atoms).map .unb) (fsL ars (e.parts sc))))) [] := by
    obtain ⟨y, h3, h4⟩ := f34 ars e sc none none none none none none [] hok
    rw [seq_nx h3, seq_nx h4]
    have h5 := f5_scan ars e sc (some (.d (.lst (e.atoms.map At.d)))) none none none none [] hs (e.atoms.map At.d, none) rfl e.atoms hat none
    cases hu : unbA sc e.atoms with
    | some x =>
      rw [hu] at h5
      exact seq_rt (for_eq (mi := mIt (mVar 3)) (q := (e.atoms.map At.d, none)) (μ1 := []) rfl h5)
    | none =>
      rw [hu] at h5
      obtain ⟨y, h5⟩ := h5
      rw [seq_nx (for_eq (mi := mIt (mVar 3)) (q := (e.atoms.map At.d, none)) (μ1 := []) rfl h5)]
      obtain ⟨y1, y2, h6, h7, h8⟩ := f678 ars e sc (some (.d (.lst (e.atoms.map At.d)))) y none none none none [] hl1
      rw [seq_nx h6, seq_nx h7, seq_nx h8]
      have h9 := f9_scan ars F e sc (some (.d (.lst (e.atoms.map At.d)))) y (some (.d (.lst ((e.parts sc).map pD)))) [] ((e.parts sc).map pD, none) rfl (e.parts sc) (fun p hp => hF p.1 p.2 (hpt p hp).1 (hpt p hp).2.1 (hpt p hp).2.2.1 (hpt p hp).2.2.2) none none none
      show _ = SR.rt (.d (erD (fsL ars (e.parts sc)))) []
      cases hL : fsL ars (e.parts sc) with
      | none =>
        rw [hL] at h9
        obtain ⟨y6, y7, y8, h9⟩ := h9
        rw [seq_nx (for_eq (mi := mIt (mVar 5)) (q := ((e.parts sc).map pD, none)) (μ1 := []) rfl h9)]
        rfl
      | some er =>
        rw [hL] at h9
        exact seq_rt (for_eq (mi := mIt (mVar 5)) (q := ((e.parts sc).map pD, none)) (μ1 := []) rfl h9)
  unfold G_first b_first
  refine fn_rt (μ1 := []) ?_ rfl
  show mSeq f1 (mSeq f2 _) (rF ars e sc none none none none none none) [] = _
  cases hc : e.isCall with
  | false =>
    obtain ⟨h1, h2⟩ := f_no ars e sc none none none none none none [] hc
    rw [seq_nx h1, seq_nx h2, fsE_parts, here_not hc]
    exact rest
  | true =>
    cases e with
    | call n as =>
      have h1 := f1_call ars sc none none none none none none [] n as
      cases hf : findA ars n with
      | none =>
        rw [hf] at h1
        rw [seq_rt h1]
        simp only [fsE, here, hf]
        rfl
      | some k =>
        rw [hf] at h1
        have h2 := f2_call ars sc none none none none none none [] n as k hf
        by_cases q : k = as.length
        · rw [if_pos q] at h2
          rw [seq_nx h1, seq_nx h2, fsE_parts]
          simp only [here, hf, if_pos q]
          exact rest
        · rw [if_neg q] at h2
          rw [seq_nx h1, seq_rt h2]
          simp only [fsE, here, hf, if_neg q]
          rfl
    | _ => cases hc
set_option maxHeartbeats 8000000 in
theorem fir_all (ars : Ars) : ∀ j, FirS ars (iterF G_first j) j
  | 0 => fun e sc _ _ h _ => by have := deep_pos e; omega
  | j + 1 => fir_step (fir_all ars j)
set_option maxHeartbeats 8000000 in
theorem first_ok (ars : Ars) : FirS ars F_first 40 := by
  unfold F_first
  exact fir_all ars 40
end TT

namespace TT
open PySem L2
variable [TB]
set_option maxHeartbeats 8000000 in
theorem init_srt (c : Ad) (rows : List Row) (hok : ∀ r ∈ rows, r.Ok) (hl : rows.length ≤ 1000) (ht : ftAt [] (rows.map fun r => tx r.n) = .non) (hb : ¬ (2000 < nodesOf rows ∨ 100 < deepOf rows)) :
    ∃ S : List Row, S.Perm rows ∧ sortD (rows.map Row.d) = some (S.map Row.d) ∧ F_Program___init__ c [.ref 0, .d (.lst (rows.map Row.d))] [.ins c.prog []] = match lookR (arsOf rows) S with
      | none => .ok (.d .non) [.ins c.prog (fullD S)]
      | some er => .exc (er.at c) er.fs [.ins c.prog (fullD S)] := by
  obtain ⟨S, hS, hsort⟩ := sort_rows rows hl
  refine ⟨S, hS, hsort, ?_⟩
  have hlS : S.length ≤ 1000 := by rw [hS.length_eq]; exact hl
  have hnd : (rows.map fun r => r.n).Nodup := by
    have : ftAt [] ((rows.map fun r => r.n).map tx) = .non := by rw [List.map_map]; exact ht
    exact (ft_nodup _ _ this).1
  unfold F_Program___init__ b_Program___init__
  obtain ⟨x2, x3, h1⟩ := in_good c rows hok
  have h2 := again_eq c rows hl x2 x3
  rw [ht] at h2
  have h6 := cond6 c rows x2 x3
  rw [decide_eq_false hb] at h6
  have s6 : mIfS (mOr (mB (mBin gtI (mVar 6) (mC (.int 2000)))) (mB (mBin gtI (mVar 7) (mC (.int 100))))) (mRaise c.large ["nodes", "deepest"] (mCons (mVar 6) (mCons (mVar 7) mNil))) mNext (rhS rows x2 x3 none) [.ins c.prog []] = .nx (rhS rows x2 x3 none) [.ins c.prog []] := ifs_f h6 rfl
  obtain ⟨z9, z10, z11, h10⟩ := s10 c rows x2 x3 [.ins c.prog (fullD S)] (S.map Row.d, none) rfl S (fun r hr => ⟨hok r (hS.mem_iff.mp hr), by
    have := deep_le (hS.mem_iff.mp hr)
    omega⟩) none none none
  have hi : mIt (mFld c.prog "functions" (mVar 0)) (rhL rows x2 x3 none none none) [.ins c.prog (fullD S)] = .ok (S.map Row.d, none) [.ins c.prog (fullD S)] := by
    simp [mFld, fldOf, List.lookup]
  have hfor := for_eq (mi := mIt (mFld c.prog "functions" (mVar 0))) hi h10
  show SR.finT true 1 (mSeq _ _ (rh0 (rows.map Row.d) none none) [.ins c.prog []]) = _
  rw [seq_nx h1, seq_nx h2, seq_nx (s3 c rows x2 x3), seq_nx (s4 c rows x2 x3 hok hl), seq_nx (s5 c rows x2 x3 hl), seq_nx s6, seq_nx (s7 c rows S x2 x3 hlS hsort), seq_nx (s8 c rows S x2 x3 hlS), seq_nx (s9 c rows hl hnd x2 x3 _), hfor]
  cases lookR (arsOf rows) S <;> rfl
set_option maxHeartbeats 8000000 in
theorem lookR_cons (ars : Ars) (r : Row) (rs : List Row) : lookR ars (r :: rs) = orE (fsE ars r.e r.ps) (lookR ars rs) := by
  show (match lookF ars (r.e.size + 1) [(r.e, r.ps)] with | some er => some er | none => lookR ars rs) = _
  rw [lookF_one]
  cases fsE ars r.e r.ps <;> rfl
set_option maxHeartbeats 8000000 in
theorem ft_of_nodup : ∀ (l : List (List Nat)) (seen : List Str), l.Nodup → (∀ x ∈ l, tx x ∉ seen) → ftAt seen (l.map tx) = .non
  | [], _, _, _ => rfl
  | a :: l, seen, hd, h => by
    have h2 := List.nodup_cons.mp hd
    show ftAt seen (tx a :: l.map tx) = .non
    unfold ftAt
    rw [if_neg (h a List.mem_cons_self)]
    refine ft_of_nodup l _ h2.2 fun x hx hm => ?_
    have hx2 := h x (List.mem_cons_of_mem _ hx)
    have : tx x ≠ tx a := fun q => h2.1 (tx_inj q ▸ hx)
    simp_all
set_option maxHeartbeats 8000000 in
theorem nodes_le : ∀ (rows : List Row), (∀ q ∈ rows, RowG q) → nodesOf rows ≤ 40 * rows.length
  | [], _ => by simp [nodesOf]
  | r :: l, h => by
    have h1 := nodes_le l fun q hq => h q (List.mem_cons_of_mem _ hq)
    have h2 := (h r List.mem_cons_self).size
    simp only [nodesOf, List.map_cons, List.sum_cons, List.length_cons] at *
    omega
set_option maxHeartbeats 8000000 in
theorem fold_le : ∀ (l : List Nat) (x m : Nat), x ≤ m → (∀ y ∈ l, y ≤ m) → l.foldl max x ≤ m
  | [], _, _, h, _ => h
  | y :: l, x, m, h, h2 => fold_le l (max x y) m (Nat.max_le.mpr ⟨h, h2 y List.mem_cons_self⟩) fun z hz => h2 z (List.mem_cons_of_mem _ hz)
set_option maxHeartbeats 8000000 in
theorem deep_le40 (rows : List Row) (h : ∀ q ∈ rows, RowG q) : deepOf rows ≤ 40 := fold_le _ 0 40 (by omega) fun y hy => by
  obtain ⟨r, hr, rfl⟩ := List.mem_map.mp hy
  exact (h r hr).deep
def dueD (n : Nat) : Option Er → D
  | none => .tup [.str "made", .int n]
  | some er => er.d
set_option maxHeartbeats 8000000 in
theorem told_ok {rows : List Row} (hr : ∀ q ∈ rows, RowG q) (hl : rows.length ≤ 5) (hd : (rows.map (·.n)).Nodup) : ∃ S : List Row, S.Perm rows ∧ sortD (rows.map Row.d) = some (S.map Row.d) ∧ F_told theAd [.d (.lst (rows.map Row.d))] [] = .ok (.d (dueD rows.length (lookR (arsOf rows) S))) [] := by
  have hft : ftAt [] (rows.map fun r => tx r.n) = .non := by
    have := ft_of_nodup (rows.map (·.n)) [] hd (by simp)
    rwa [List.map_map] at this
  obtain ⟨S, h1, h2, h3⟩ := init_srt theAd rows (fun r h => (hr r h).ok) (by omega) hft (by
    have := nodes_le rows hr
    have := deep_le40 rows hr
    omega)
  refine ⟨S, h1, h2, ?_⟩
  cases hk : lookR (arsOf rows) S with
  | none =>
    rw [hk] at h3
    exact told_made rows S h1 (by omega) h3
  | some er =>
    rw [hk] at h3
    cases er with
    | unk n => exact told_unk h3
    | ar n g => exact told_ar h3
    | unb x => exact told_unb h3
set_option maxHeartbeats 8000000 in
theorem lookR_clean {rows : Rws} (hd : (rows.map (·.1)).Nodup) : ∀ (S : List Row), (∀ q ∈ S, GoodR rows q) → lookR rows S = none
  | [], _ => rfl
  | r :: S, h => by
    rw [lookR_cons, fs_clean hd (h r List.mem_cons_self).e, lookR_clean hd S fun q hq => h q (List.mem_cons_of_mem _ hq)]
    rfl
set_option maxHeartbeats 8000000 in
theorem told_clean {rs : List Row} (hr : ∀ q ∈ rs, GoodR (rwOf rs) q) (hl : rs.length ≤ 5) (hd : (rs.map (·.n)).Nodup) : F_told theAd [.d (.lst (rs.map Row.d))] [] = .ok (.d (.tup [.str "made", .int rs.length])) [] := by
  obtain ⟨S, h1, h2, h3⟩ := told_ok (fun q hq => (hr q hq).g) hl hd
  have hd2 : ((arsOf rs).map (·.1)).Nodup := by
    have : (arsOf rs).map (·.1) = rs.map (·.n) := by simp [arsOf]
    rw [this]; exact hd
  have := lookR_clean (rows := arsOf rs) hd2 S fun q hq => hr q (h1.mem_iff.mp hq)
  rw [this] at h3
  exact h3
end TT

namespace TT
open PySem L2
variable [TB]
def Small (d : D) : Prop := ∃ p, toPy d = some p ∧ Sh p 100 0
set_option maxHeartbeats 8000000 in
theorem small_int {i : Int} (h : i.natAbs < 10 ^ 60) : Small (.int i) := ⟨_, rfl, (Sh.int h).mono (by decide) (Nat.le_refl _)⟩
set_option maxHeartbeats 8000000 in
theorem small_bl (b : Bool) : Small (.bl b) := ⟨_, rfl, (Sh.bool b).mono (by decide) (Nat.le_refl _)⟩
set_option maxHeartbeats 8000000 in
theorem letters_small : ∀ c ∈ letters, c < 16 ^ 8 := by decide
set_option maxHeartbeats 8000000 in
theorem small_nm {l : List Nat} (h : NameOk l) : Small (nm l) := by
  refine ⟨_, rfl, (Sh.str (x := tx l) (fun c hc => ?_)).mono ?_ (Nat.le_refl _)⟩
  · exact letters_small c (h.2.2 c (by simpa [tx] using hc))
  · rw [tx_len]; have := h.2.1; omega
set_option maxHeartbeats 8000000 in
theorem toPys_small : ∀ xs : List D, (∀ x ∈ xs, Small x) → ∃ ps, toPys xs = some ps ∧ ps.length = xs.length ∧ ∀ p ∈ ps, Sh p 100 0
  | [], _ => ⟨[], rfl, rfl, fun _ h => by cases h⟩
  | x :: xs, h => by
    obtain ⟨p, h1, h2⟩ := h x List.mem_cons_self
    obtain ⟨ps, h3, h4, h5⟩ := toPys_small xs fun y hy => h y (List.mem_cons_of_mem _ hy)
    refine ⟨p :: ps, by simp only [toPys, h1, h3], by simp [h4], fun q hq => ?_⟩
    rcases List.mem_cons.mp hq with rfl | hq
    · exact h2
    · exact h5 q hq
set_option maxHeartbeats 8000000 in
theorem repr_small (xs : List D) (h : ∀ x ∈ xs, Small x) (hl : xs.length ≤ 10) : ∃ t, reprD (.tup xs) = some (.str t) := by
  obtain ⟨ps, h3, h4, h5⟩ := toPys_small xs h
  have s := Sh.tuple (ShAll.of ps h5)
  have hp : toPy (.tup xs) = some (.tuple ps) := by simp [toPy, h3]
  have hc : (PyData.tuple ps).showable = true ∧ (PyData.tuple ps).shown.length ≤ sizeLine ∧ (PyData.tuple ps).depth ≤ 180 := by
    refine ⟨s.so, Nat.le_trans s.le ?_, Nat.le_trans s.dp (by decide)⟩
    rw [h4, sizeLine_eq]
    omega
  exact ⟨(PyData.tuple ps).shown, by unfold reprD; rw [hp]; exact if_pos hc⟩
set_option maxHeartbeats 8000000 in
theorem small_s {s : Str} (h : s.length ≤ 9) (h2 : ∀ c ∈ s.cps.toList, c < 16 ^ 8) : Small (.str s) := ⟨_, rfl, (Sh.str h2).mono (by omega) (Nat.le_refl _)⟩
set_option maxHeartbeats 8000000 in
theorem small_nat {z : Nat} (h : z ≤ 1000000) : Small (.int z) := small_int (by
  have : ((z : Int)).natAbs = z := by omega
  rw [this]
  exact Nat.lt_of_le_of_lt h (by decide))
def Er.Ok : Er → Prop
  | .unk n => NameOk n
  | .ar n g => NameOk n ∧ g ≤ 4
  | .unb x => NameOk x
set_option maxHeartbeats 8000000 in
theorem unb_ok {sc : Scp} {x : List Nat} : ∀ {as : List At}, (∀ a ∈ as, a.Ok) → unbA sc as = some x → NameOk x
  | .num i :: r, h, e => unb_ok (as := r) (fun a ha => h a (List.mem_cons_of_mem _ ha)) e
  | .var y :: r, h, e => by
    have e : (if y ∈ sc then unbA sc r else some y) = some x := e
    split at e
    · exact unb_ok (fun a ha => h a (List.mem_cons_of_mem _ ha)) e
    · cases e; exact h (.var x) List.mem_cons_self
set_option maxHeartbeats 8000000 in
theorem unbm_ok {sc : Scp} {er : Er} {as : List At} (h : ∀ a ∈ as, a.Ok) (e : (unbA sc as).map Er.unb = some er) : er.Ok := by
  obtain ⟨x, hx, rfl⟩ := Option.map_eq_some_iff.mp e
  exact unb_ok h hx
set_option maxHeartbeats 8000000 in
theorem orE_some {a b : Option Er} {er : Er} (h : orE a b = some er) : a = some er ∨ b = some er := by
  cases a with
  | none => exact .inr h
  | some x => exact .inl h
set_option maxHeartbeats 8000000 in
theorem fs_ok {ars : Ars} {er : Er} : ∀ {e : Ex} {sc : Scp}, e.Ok → fsE ars e sc = some er → er.Ok
  | .at a, sc, h, k => unbm_ok (as := [a]) (fun b hb => by rw [List.mem_singleton.mp hb]; exact h) k
  | .rais a, sc, h, k => unbm_ok (as := [a]) (fun b hb => by rw [List.mem_singleton.mp hb]; exact h) k
  | .ask n as, sc, h, k => unbm_ok (as := as) h.2.1 k
  | .call n as, sc, h, k => by
    simp only [fsE, here] at k
    split at k
    · cases k; exact h.1
    · split at k
      · exact unbm_ok h.2.1 k
      · cases k; exact ⟨h.1, h.2.2⟩
  | .test n as y z, sc, h, k => by
    rcases orE_some k with k | k
    · exact unbm_ok (as := as) h.2.1.1 k
    · rcases orE_some k with k | k
      · exact fs_ok h.2.2.1 k
      · exact fs_ok h.2.2.2 k
  | .lt x a b, sc, h, k => by
    rcases orE_some k with k | k
    · cases k
    · rcases orE_some k with k | k
      · exact fs_ok h.2.1 k
      · exact fs_ok h.2.2 k
  | .tr a x b, sc, h, k => by
    rcases orE_some k with k | k
    · cases k
    · rcases orE_some k with k | k
      · exact fs_ok h.2.1 k
      · exact fs_ok h.2.2 k
set_option maxHeartbeats 8000000 in
theorem lookR_ok {ars : Ars} {er : Er} : ∀ {S : List Row}, (∀ q ∈ S, RowG q) → lookR ars S = some er → er.Ok
  | r :: S, h, k => by
    rw [lookR_cons] at k
    rcases orE_some k with k | k
    · exact fs_ok (h r List.mem_cons_self).e k
    · exact lookR_ok (fun q hq => h q (List.mem_cons_of_mem _ hq)) k
set_option maxHeartbeats 8000000 in
theorem repr_due {n : Nat} (hn : n ≤ 1000) {o : Option Er} (ho : ∀ er, o = some er → er.Ok) : ∃ t, reprD (dueD n o) = some (.str t) := by
  have q1 : Small (.str "made") := small_s (by decide +kernel) (by decide +kernel)
  have q2 : Small (.str "unknown") := small_s (by decide +kernel) (by decide +kernel)
  have q3 : Small (.str "arity") := small_s (by decide +kernel) (by decide +kernel)
  have q4 : Small (.str "unbound") := small_s (by decide +kernel) (by decide +kernel)
  cases o with
  | none =>
    refine repr_small _ (fun x hx => ?_) (by simp)
    simp only [List.mem_cons, List.not_mem_nil, or_false] at hx
    rcases hx with rfl | rfl
    · exact q1
    · exact small_nat (by omega)
  | some er =>
    have hok := ho er rfl
    cases er with
    | unk n =>
      refine repr_small _ (fun x hx => ?_) (by simp)
      simp only [List.mem_cons, List.not_mem_nil, or_false] at hx
      rcases hx with rfl | rfl | rfl
      · exact q2
      · exact small_nm hok
      · exact small_bl _
    | ar n g =>
      refine repr_small _ (fun x hx => ?_) (by simp)
      simp only [List.mem_cons, List.not_mem_nil, or_false] at hx
      rcases hx with rfl | rfl | rfl | rfl
      · exact q3
      · exact small_nm hok.1
      · exact small_nat (by have := hok.2; omega)
      · exact small_bl _
    | unb n =>
      refine repr_small _ (fun x hx => ?_) (by simp)
      simp only [List.mem_cons, List.not_mem_nil, or_false] at hx
      rcases hx with rfl | rfl | rfl
      · exact q4
      · exact small_nm hok
      · exact small_bl _
set_option maxHeartbeats 8000000 in
/-- the arities as the law builds them -/
theorem pairs_rw : ∀ rows : Rws, pairsK (rwL rows) = some (rows.map fun p => (.inr (tx p.1), .int p.2))
  | [] => rfl
  | p :: r => by
    have ih := pairs_rw r
    show (match keyOf (nm p.1), pairsK (rwL r) with | some kk, some rs => some ((kk, D.int p.2) :: rs) | _, _ => none) = _
    rw [ih]
    rfl
set_option maxHeartbeats 8000000 in
theorem merge_rw : ∀ (rows : Rws) (acc : Ars), (acc.map (·.1) ++ rows.map (·.1)).Nodup → mergeD (arK acc) (rows.map fun p => (.inr (tx p.1), .int p.2)) = arK (acc ++ rows)
  | [], acc, _ => by simp [mergeD]
  | p :: r, acc, h => by
    have hn : ∀ q ∈ acc, q.1 ≠ p.1 := fun q hq e => by
      have := (List.nodup_append.mp h).2.2 q.1 (List.mem_map.mpr ⟨q, hq, rfl⟩) p.1 (by simp)
      exact this e
    show mergeD (putD (arK acc) (.inr (tx p.1)) (.int p.2)) _ = _
    rw [put_new hn, merge_rw r (acc ++ [(p.1, p.2)]) (by simpa using h)]
    simp
set_option maxHeartbeats 8000000 in
theorem dict_rw {rows : Rws} (h : (rows.map (·.1)).Nodup) : dictD (.lst (rwL rows)) = some (.dK (arK rows)) := by
  have := merge_rw rows [] (by simpa using h)
  simp only [dictD, pairs_rw]
  rw [show mergeD [] _ = _ from this]
  simp
end TT

namespace TT
open PySem L2
variable [TB]
section
variable {μ r : List MO} {b : List D} {K : MV → List MO → Prop} {E : Addr → List (Str × D) → List MO → Prop}
set_option maxHeartbeats 1000000 in
theorem a_bag (ns : List Int) (hl : ns.length ≤ 63) {a : Int} (ha : 0 ≤ a) (ha2 : a < 100) (k : ∀ b, Bag b → K (.ref μ.length) (μ ++ [.lst b])) : (callF F_bag [.d (.fl (ns.map D.int)), .d (.int a)] μ).to K E := by
  obtain ⟨b, e, hb⟩ := bag_ok ns hl a ha ha2
  exact to_ok (callNew (ds := [.fl (ns.map D.int), .int a]) e) (k b hb)
set_option maxHeartbeats 1000000 in
theorem a_fun (hb : Bag b) (k : ∀ (rs : List Row) (b' : List D), 1 ≤ rs.length → rs.length ≤ 5 → (rs.map (·.n)).Nodup → (∀ q ∈ rs, GoodR (rwOf rs) q) → Bag b' → K (.d (.lst (rs.map Row.d))) (μ ++ .lst b' :: r)) : (callF F_functions [.ref μ.length, .d (.int 5), .d (.int 30)] (μ ++ .lst b :: r)).to K E := by
  obtain ⟨v, μ', e1, rs, b', rfl, h1, h2, h3, h4, h5, rfl⟩ := ok_to (functions_to hb (m := 30) (by decide) (by decide))
  refine to_ok (callB3 at0 e1) ?_
  rw [set0]
  exact k rs b' h1 h2 h3 h4 h5
set_option maxHeartbeats 1000000 in
theorem a_spo (hb : Bag b) {rs : List Row} (hr : ∀ q ∈ rs, RowG q) (hl : rs.length ≤ 5) (k : ∀ (rs2 : List Row) (b' : List D), rwOf rs2 = rwOf rs → (∀ q ∈ rs2, RowG q) → Bag b' → K (.d (.lst (rs2.map Row.d))) (μ ++ .lst b' :: r)) : (callF F_spoilt [.ref μ.length, .d (.lst (rs.map Row.d))] (μ ++ .lst b :: r)).to K E := by
  obtain ⟨v, μ', e1, rs2, b', rfl, h1, h2, h3, rfl⟩ := ok_to (spoilt_to hb hr hl)
  refine to_ok (callB2 at0 e1) ?_
  rw [set0]
  exact k rs2 b' h1 h2 h3
end
set_option maxHeartbeats 1000000 in
theorem lookR_app (ars : Ars) : ∀ a b : List Row, lookR ars (a ++ b) = orE (lookR ars a) (lookR ars b)
  | [], _ => rfl
  | p :: a, b => by
    rw [List.cons_append, lookR_cons, lookR_cons, lookR_app ars a b, orE_assoc]
set_option maxHeartbeats 1000000 in
theorem lookR_snoc (ars : Ars) (a : List Row) (q : Row) : lookR ars (a ++ [q]) = orE (lookR ars a) (fsE ars q.e q.ps) := by
  rw [lookR_app, lookR_cons]
  exact congrArg _ (orE_none _)
set_option maxHeartbeats 1000000 in
theorem law_plain0 (ns : List Int) (hl : ns.length ≤ 63) : (F_law theAd [.d (.fl (ns.map D.int))] []).to (fun v _ => v = .d (.bl true)) no3 := by
  unfold F_law b_law
  refine fn_to ?_
  with_reducible refine w_seqG fun rest hrest => ?_
  refine w_range (fun k ρ μ => ∃ x1 x2 x3 x4 x5 x6 x7 x8 x9 x10, ρ = [some (.d (.fl (ns.map D.int))), x1, x2, x3, x4, x5, x6, x7, x8, x9, x10, none]) ?_
  wtm_at "wr"
  refine to_ok (rng1_eq _ (by split <;> split <;> omega) (by split <;> split <;> omega)) ⟨_, rfl, ⟨_, _, _, _, _, _, _, _, _, _, rfl⟩, ?_, ?_⟩
  · rintro k ρ μ hk ⟨x1, x2, x3, x4, x5, x6, x7, x8, x9, x10, rfl⟩
    with_reducible refine w_seqG fun rest2 hrest2 => ?_
    wtm_at "wr"
    refine a_bag ns hl (by omega) (by revert hk; split <;> split <;> omega) fun b hb => ?_
    wtm_at "wr"
    subst hrest2
    with_reducible refine w_seqG fun rest2 hrest2 => ?_
    wtm_at "wr"
    refine a_fun hb fun rs b l1 l2 hd hr hb => ?_
    wtm_at "wr"
    subst hrest2
    with_reducible refine w_seqG fun rest2 hrest2 => ?_
    wtm_at "wr"
    refine to_ok (call1 (told_clean hr l2 hd)) ?_
    obtain ⟨t, ht⟩ := repr_due (n := rs.length) (by omega) (o := none) (fun er h => by cases h)
    wtm_at "wr"
    refine e_opN (by rfl) (show one reprD [D.tup [.str "made", .int rs.length]] = some (.str t) from ht) ?_
    wtm_at "wr"
    refine e_opN (by rfl) (show one reprD [D.tup [.str "made", .int ((rs.map Row.d).length : Nat)]] = some (.str t) from by rw [List.length_map]; exact ht) ?_
    wtm_at "wr"
    refine br_ok (fun h => ?_) (fun h => ?_)
    · simp at h
    wtm_at "wr"
    subst hrest2
    refine w_range (fun j ρ m' => ∃ b y4 y5 y6 y7 y8 y9 y10, Bag b ∧ ρ = [some (.d (.fl (ns.map D.int))), some (.d (.int k)), some (.ref μ.length), some (.d (.lst (rs.map Row.d))), y4, y5, y6, y7, y8, y9, y10, none] ∧ m' = μ ++ [.lst b]) ?_
    wtm_at "wr"
    refine to_ok (rng1_eq _ (by decide) (by decide)) ⟨_, rfl, ⟨b, _, _, _, _, _, _, _, hb, rfl, rfl⟩, ?_, ?_⟩
    · rintro j ρ m' hj ⟨b, y4, y5, y6, y7, y8, y9, y10, hb, rfl, rfl⟩
      with_reducible refine w_seqG fun rest2 hrest2 => ?_
      wtm_at "wr"
      refine a_spo hb (fun q hq => (hr q hq).g) l2 fun rs2 b hrw hr2 hb => ?_
      wtm_at "wr"
      subst hrest2
      have len2 : rs2.length = rs.length := by
        have := congrArg List.length hrw
        simpa [rwOf] using this
      have hn2 : (rs2.map (·.n)).Nodup := by
        have : rs2.map (·.n) = rs.map (·.n) := by
          have := congrArg (List.map (·.1)) hrw
          simpa [rwOf, List.map_map, Function.comp_def] using this
        rw [this]; exact hd
      have hnr : ((rwOf rs2).map (·.1)).Nodup := by
        have : (rwOf rs2).map (·.1) = rs2.map (·.n) := by simp [rwOf]
        rw [this]; exact hn2
      obtain ⟨S, hS, hsort, htold⟩ := told_ok hr2 (by omega) hn2
      have hrS : ∀ q ∈ S, RowG q := fun q hq => hr2 q (hS.mem_iff.mp hq)
      with_reducible refine w_seqG fun rest2 hrest2 => ?_
      wtm_at "wr"
      refine e_lcP (q := (rs2.map Row.d, none)) (fun d => match d with | .tup [n, .tup ps, _] => .tup [n, .int ps.length] | d => d) (by rfl) (.inl rfl) (by simp [sizeLine_eq]; omega) (fun x hx => ?_) ?_
      · obtain ⟨q, hq, rfl⟩ := List.mem_map.mp hx
        exact ⟨_, rfl, by rfl⟩
      have hrl : (rs2.map Row.d).map (fun d => match d with | .tup [n, .tup ps, _] => .tup [n, .int ps.length] | d => d) = rwL (rwOf rs2) := by
        simp [rwL, rwOf, Row.d, Function.comp_def]
      rw [hrl]
      wtm_at "wr"
      refine e_opN (by rfl) (show one dictD [.lst (rwL (rwOf rs2))] = some (.dK (arK (rwOf rs2))) from dict_rw hnr) ?_
      wtm_at "wr"
      subst hrest2
      with_reducible refine w_seqG fun rest2 hrest2 => ?_
      refine w_for (fun xs ρ m' => ∃ S1 S2 y8 y9 y10, xs = S2.map Row.d ∧ S1 ++ S2 = S ∧ ρ = [some (.d (.fl (ns.map D.int))), some (.d (.int k)), some (.ref μ.length), some (.d (.lst (rs.map Row.d))), some (.d (.int j)), some (.d (.lst (rs2.map Row.d))), some (.d (erD (lookR (arsOf rs2) S1))), some (.d (.dK (arK (rwOf rs2)))), y8, y9, y10, none] ∧ m' = μ ++ [.lst b]) ?_
      have hso : mIt (mFz (mSort (mCons (mVar 5) mNil))) [some (.d (.fl (ns.map D.int))), some (.d (.int k)), some (.ref μ.length), some (.d (.lst (rs.map Row.d))), some (.d (.int j)), some (.d (.lst (rs2.map Row.d))), some (.d .non), some (.d (.dK (arK (rwOf rs2)))), y8, y9, y10, none] (μ ++ [.lst b]) = .ok (S.map Row.d, none) (μ ++ [.lst b]) := by
        simp [mSort, sortV, hsort]
      refine to_ok hso ⟨rfl, ⟨[], S, y8, y9, y10, rfl, rfl, rfl, rfl⟩, ?_, ?_⟩
      · rintro x xs ρ m' ⟨S1, S2, y8, y9, y10, e, hSS, rfl, rfl⟩
        cases S2 with
        | nil => cases e
        | cons q S2 =>
          simp only [List.map_cons, List.cons.injEq] at e
          obtain ⟨rfl, rfl⟩ := e
          refine ⟨_, rfl, ?_⟩
          have hq := hrS q (by rw [← hSS]; simp)
          cases hk : lookR (arsOf rs2) S1 with
          | none =>
            wtm_at "wr"
            refine to_ok (call3 (first_ok (rwOf rs2) q.e q.ps hq.e hq.ps hq.deep (by have := hq.len; have := hq.deep; omega))) ?_
            exact ⟨S1 ++ [q], S2, _, _, _, rfl, by simpa using hSS, by rw [lookR_snoc, hk]; rfl, rfl⟩
          | some er =>
            cases er <;> (wtm_at "wr"; exact ⟨S1 ++ [q], S2, _, _, _, rfl, by simpa using hSS, by rw [lookR_snoc, hk]; rfl, rfl⟩)
      · rintro ρ m' ⟨S1, S2, y8, y9, y10, e, hSS, rfl, rfl⟩
        cases S2 with
        | cons q S2 => cases e
        | nil =>
          rw [List.append_nil] at hSS
          subst hSS
          subst hrest2
          obtain ⟨t2, ht2⟩ := repr_due (n := rs2.length) (by omega) (o := lookR (arsOf rs2) S1) (fun er h => lookR_ok hrS h)
          wtm_at "wr"
          refine to_ok (call1 htold) ?_
          wtm_at "wr"
          refine e_opN (by rfl) (show one reprD [dueD rs2.length (lookR (arsOf rs2) S1)] = some (.str t2) from ht2) ?_
          wtm_at "wr"
          cases hk : lookR (arsOf rs2) S1 with
          | none =>
            rw [hk] at ht2
            wtm_at "wr"
            refine e_opN (by rfl) (show one reprD [D.tup [.str "made", .int ((rs2.map Row.d).length : Nat)]] = some (.str t2) from by rw [List.length_map]; exact ht2) ?_
            wtm_at "wr"
            refine br_ok (fun h => ?_) (fun h => ?_)
            · simp at h
            wtm_at "wr"
            exact ⟨b, _, _, _, _, _, _, _, hb, rfl, rfl⟩
          | some er =>
            rw [hk] at ht2
            have hN : isN er.d .non = some (.bl false) := by cases er <;> rfl
            have ht3 : one reprD [er.d] = some (.str t2) := ht2
            obtain ⟨d, hd⟩ : ∃ d, d = er.d := ⟨_, rfl⟩
            rw [← hd] at hN ht3
            have he : erD (some er) = d := hd.symm
            rw [he]
            with_reducible refine e_op2 (by with_unfolding_all rfl) (by with_unfolding_all rfl) hN ?_
            wtm_at "wr"
            with_reducible refine e_opN (by with_unfolding_all rfl) ht3 ?_
            wtm_at "wr"
            refine br_ok (fun h => ?_) (fun h => ?_)
            · simp at h
            wtm_at "wr"
            exact ⟨b, _, _, _, _, _, _, _, hb, rfl, rfl⟩
    · rintro ρ m' ⟨b, y4, y5, y6, y7, y8, y9, y10, hb, rfl, rfl⟩
      exact ⟨_, _, _, _, _, _, _, _, _, _, rfl⟩
  · rintro ρ μ ⟨x1, x2, x3, x4, x5, x6, x7, x8, x9, x10, rfl⟩
    subst hrest
    wtm_at "wr"
    exact ⟨_, rfl, rfl, rfl⟩
end TT

namespace TT
open PySem L2
instance theTB : TB := ⟨[(228, (("Program.__init__" : Str) ++ ".<locals>.") ++ "<lambda>"), (356, (("law" : Str) ++ ".<locals>.") ++ "<lambda>")]⟩
theorem law_plain (ns : List Int) (hl : ns.length ≤ 63) (hb : ∀ z ∈ ns, Builtin.Int.intBits z ≤ 1048576) : ∃ μ', F_law theAd [.d (.fl (ns.map D.int))] [] = .ok (.d (.bl true)) μ' := by
  obtain ⟨v, μ', e, rfl⟩ := ok_to (law_plain0 ns hl)
  exact ⟨μ', e⟩
end TT

open PySem PySem.W PyProof.Rows in
set_option maxRecDepth 100000 in
set_option maxHeartbeats 0 in
theorem PySem.Challenge.cw_tailtables_k05_names_refused_holds : PySem.Challenge.rw_tailtables_k05_names_refused.Holds := by
  w_on; o_law; k_head; (case hw => w_witness2)
  k_fill
  refine @TT.walkM TT.theTB PySem.Challenge.rw_tailtables_k05_names_refused 63 47 _ _ _ _ _ _ (TT.F_law TT.theAd) [(230, 228), (358, 356)] rfl (by decide) rfl ⟨rfl, by decide, by decide⟩ (fun w h Y => PySem.W.km_in_of Y) (fun w h Y p hp => ?gT) (fun w p hp => ?gN) (fun w p hp => ?gC) (by decide) ?gF TT.law_plain
  case gT => rcases List.mem_cons.mp hp with e | hp; (· rw [e]; exact PySem.W.km_tabs_of Y _ (by decide)); (rw [List.mem_singleton.mp hp]; exact PySem.W.km_tabs_of Y _ (by decide))
  case gN => rcases List.mem_cons.mp hp with e | hp; (· rw [e]; rfl); (rw [List.mem_singleton.mp hp]; rfl)
  case gC => rcases List.mem_cons.mp hp with e | hp; (· rw [e]; first | rfl | kernel_rfl); (rw [List.mem_singleton.mp hp]; first | rfl | kernel_rfl)
  case gF =>
    intro w mg fa h KX G hmg
    refine' TT.all_mk (PP := 228) (PP2 := 356) KX G hmg ?aC_TablesError ?aC_BadFunction ?xL_BadFunction ?sa_BadFunction ?ec_BadFunction ?tc_BadFunction ?kc_BadFunction ?xf_BadFunction ?xn_BadFunction_at ?a_iBadFunction ?t_iBadFunction ?l_iBadFunction ?hc_iBadFunction ?k_iBadFunction ?aC_Twice ?xL_Twice ?sa_Twice ?ec_Twice ?tc_Twice ?kc_Twice ?xf_Twice ?xn_Twice_name ?a_iTwice ?t_iTwice ?l_iTwice ?hc_iTwice ?k_iTwice ?aC_TooLarge ?xL_TooLarge ?sa_TooLarge ?ec_TooLarge ?tc_TooLarge ?kc_TooLarge ?xf_TooLarge ?xn_TooLarge_nodes ?xn_TooLarge_deepest ?a_iTooLarge ?t_iTooLarge ?l_iTooLarge ?hc_iTooLarge ?k_iTooLarge ?aC_Unknown ?xL_Unknown ?sa_Unknown ?ec_Unknown ?tc_Unknown ?kc_Unknown ?xf_Unknown ?xn_Unknown_name ?a_iUnknown ?t_iUnknown ?l_iUnknown ?hc_iUnknown ?k_iUnknown ?aC_Arity ?xL_Arity ?sa_Arity ?ec_Arity ?tc_Arity ?kc_Arity ?xf_Arity ?xn_Arity_name ?xn_Arity_given ?a_iArity ?t_iArity ?l_iArity ?hc_iArity ?k_iArity ?aC_Unbound ?xL_Unbound ?sa_Unbound ?ec_Unbound ?tc_Unbound ?kc_Unbound ?xf_Unbound ?xn_Unbound_name ?a_iUnbound ?t_iUnbound ?l_iUnbound ?hc_iUnbound ?k_iUnbound ?e_BadFunction_BadFunction ?e_BadFunction_Twice ?e_BadFunction_TooLarge ?e_BadFunction_Unknown ?e_BadFunction_Arity ?e_BadFunction_Unbound ?e_Twice_BadFunction ?e_Twice_Twice ?e_Twice_TooLarge ?e_Twice_Unknown ?e_Twice_Arity ?e_Twice_Unbound ?e_TooLarge_BadFunction ?e_TooLarge_Twice ?e_TooLarge_TooLarge ?e_TooLarge_Unknown ?e_TooLarge_Arity ?e_TooLarge_Unbound ?e_Unknown_BadFunction ?e_Unknown_Twice ?e_Unknown_TooLarge ?e_Unknown_Unknown ?e_Unknown_Arity ?e_Unknown_Unbound ?e_Arity_BadFunction ?e_Arity_Twice ?e_Arity_TooLarge ?e_Arity_Unknown ?e_Arity_Arity ?e_Arity_Unbound ?e_Unbound_BadFunction ?e_Unbound_Twice ?e_Unbound_TooLarge ?e_Unbound_Unknown ?e_Unbound_Arity ?e_Unbound_Unbound ?eb_Unknown ?eb_Arity ?eb_Unbound ?kt_Unknown_TablesError ?kt_Arity_Unknown ?kt_Unbound_ValueError ?aC_Program ?pg_Program ?hd_Program ?po_Program ?sa_Program ?mk_Program ?kc_Program ?no_Program_functions ?no_Program_names ?rd_Program ?ga_Program ?cv_Program_MOST_NODES ?rv_Program_MOST_NODES ?cv_Program_MOST_DEPTH ?rv_Program_MOST_DEPTH ?a_is_integer ?l_is_integer ?hc_is_integer ?k_is_integer ?a_is_name ?l_is_name ?hc_is_name ?k_is_name ?a_is_atom ?l_is_atom ?hc_is_atom ?k_is_atom ?a_are_atoms ?l_are_atoms ?hc_are_atoms ?k_are_atoms ?lt_are_atoms ?a_first_twice ?l_first_twice ?hc_first_twice ?k_first_twice ?a_expressions_in ?l_expressions_in ?hc_expressions_in ?k_expressions_in ?a_measured ?l_measured ?hc_measured ?k_measured ?a_is_function ?l_is_function ?hc_is_function ?k_is_function ?a_atoms_of ?l_atoms_of ?hc_atoms_of ?k_atoms_of ?a_level_of ?l_level_of ?hc_level_of ?k_level_of ?a_parts_in_scope ?l_parts_in_scope ?hc_parts_in_scope ?k_parts_in_scope ?a_look_body ?l_look_body ?hc_look_body ?k_look_body ?a_Program___init__ ?l_Program___init__ ?hc_Program___init__ ?i_Program___init__ ?a_Program___len__ ?l_Program___len__ ?hc_Program___len__ ?k_Program___len__ ?i_Program___len__ ?n_Program___len__ ?a_bag ?l_bag ?hc_bag ?k_bag ?a_take ?l_take ?hc_take ?k_take ?a_number ?l_number ?hc_number ?k_number ?a_names ?l_names ?hc_names ?k_names ?a_atom ?l_atom ?hc_atom ?k_atom ?a_atoms ?l_atoms ?hc_atoms ?k_atoms ?a_leaf ?l_leaf ?hc_leaf ?k_leaf ?a_expression ?l_expression ?hc_expression ?k_expression ?a_functions ?l_functions ?hc_functions ?k_functions ?a_told ?l_told ?hc_told ?k_told ?a_first ?l_first ?hc_first ?k_first ?a_spoilt ?l_spoilt ?hc_spoilt ?k_spoilt ?a_law ?l_law ?hc_law ?k_law ?gv_MOST_LETTERS ?gv_MOST_ARGS ?gv_MOST_CONSTANT ?gv_LETTERS ?z_len ?z_int ?z_abs ?z_bool ?z_str ?z_enumerate ?z_list ?z_tuple ?z_range ?z_min ?z_max ?z_all ?z_sum ?z_set ?z_sorted ?z_isinstance ?z_repr ?z_dict ?z_ValueError ?hmT ?huT ?hmT2 ?huT2
    (case aC_TablesError => first | k_is | exact ⟨_, rfl⟩ | rfl)
    (case aC_BadFunction => first | k_is | exact ⟨_, rfl⟩ | rfl)
    (case xL_BadFunction => first | k_is | exact ⟨_, rfl⟩ | rfl)
    (case sa_BadFunction => first | k_is | exact ⟨_, rfl⟩ | rfl)
    (case ec_BadFunction => first | k_is | exact ⟨_, rfl⟩ | rfl)
    (case tc_BadFunction => first | k_is | exact ⟨_, rfl⟩ | rfl)
    (case kc_BadFunction => first | k_is | exact ⟨_, rfl⟩ | rfl)
    (case xf_BadFunction => first | k_is | exact ⟨_, rfl⟩ | rfl)
    (case xn_BadFunction_at => first | k_is | exact ⟨_, rfl⟩ | rfl)
    (case a_iBadFunction => first | k_is | exact ⟨_, rfl⟩ | rfl)
    (case t_iBadFunction => first | k_is | exact ⟨_, rfl⟩ | rfl)
    (case l_iBadFunction => first | k_is | exact ⟨_, rfl⟩ | rfl)
    (case hc_iBadFunction => first | k_is | exact ⟨_, rfl⟩ | rfl)
    (case k_iBadFunction => first | k_is | exact ⟨_, rfl⟩ | rfl)
    (case aC_Twice => first | k_is | exact ⟨_, rfl⟩ | rfl)
    (case xL_Twice => first | k_is | exact ⟨_, rfl⟩ | rfl)
    (case sa_Twice => first | k_is | exact ⟨_, rfl⟩ | rfl)
    (case ec_Twice => first | k_is | exact ⟨_, rfl⟩ | rfl)
    (case tc_Twice => first | k_is | exact ⟨_, rfl⟩ | rfl)
    (case kc_Twice => first | k_is | exact ⟨_, rfl⟩ | rfl)
    (case xf_Twice => first | k_is | exact ⟨_, rfl⟩ | rfl)
    (case xn_Twice_name => first | k_is | exact ⟨_, rfl⟩ | rfl)
    (case a_iTwice => first | k_is | exact ⟨_, rfl⟩ | rfl)
    (case t_iTwice => first | k_is | exact ⟨_, rfl⟩ | rfl)
    (case l_iTwice => first | k_is | exact ⟨_, rfl⟩ | rfl)
    (case hc_iTwice => first | k_is | exact ⟨_, rfl⟩ | rfl)
    (case k_iTwice => first | k_is | exact ⟨_, rfl⟩ | rfl)
    (case aC_TooLarge => first | k_is | exact ⟨_, rfl⟩ | rfl)
    (case xL_TooLarge => first | k_is | exact ⟨_, rfl⟩ | rfl)
    (case sa_TooLarge => first | k_is | exact ⟨_, rfl⟩ | rfl)
    (case ec_TooLarge => first | k_is | exact ⟨_, rfl⟩ | rfl)
    (case tc_TooLarge => first | k_is | exact ⟨_, rfl⟩ | rfl)
    (case kc_TooLarge => first | k_is | exact ⟨_, rfl⟩ | rfl)
    (case xf_TooLarge => first | k_is | exact ⟨_, rfl⟩ | rfl)
    (case xn_TooLarge_nodes => first | k_is | exact ⟨_, rfl⟩ | rfl)
    (case xn_TooLarge_deepest => first | k_is | exact ⟨_, rfl⟩ | rfl)
    (case a_iTooLarge => first | k_is | exact ⟨_, rfl⟩ | rfl)
    (case t_iTooLarge => first | k_is | exact ⟨_, rfl⟩ | rfl)
    (case l_iTooLarge => first | k_is | exact ⟨_, rfl⟩ | rfl)
    (case hc_iTooLarge => first | k_is | exact ⟨_, rfl⟩ | rfl)
    (case k_iTooLarge => first | k_is | exact ⟨_, rfl⟩ | rfl)
    (case aC_Unknown => first | k_is | exact ⟨_, rfl⟩ | rfl)
    (case xL_Unknown => first | k_is | exact ⟨_, rfl⟩ | rfl)
    (case sa_Unknown => first | k_is | exact ⟨_, rfl⟩ | rfl)
    (case ec_Unknown => first | k_is | exact ⟨_, rfl⟩ | rfl)
    (case tc_Unknown => first | k_is | exact ⟨_, rfl⟩ | rfl)
    (case kc_Unknown => first | k_is | exact ⟨_, rfl⟩ | rfl)
    (case xf_Unknown => first | k_is | exact ⟨_, rfl⟩ | rfl)
    (case xn_Unknown_name => first | k_is | exact ⟨_, rfl⟩ | rfl)
    (case a_iUnknown => first | k_is | exact ⟨_, rfl⟩ | rfl)
    (case t_iUnknown => first | k_is | exact ⟨_, rfl⟩ | rfl)
    (case l_iUnknown => first | k_is | exact ⟨_, rfl⟩ | rfl)
    (case hc_iUnknown => first | k_is | exact ⟨_, rfl⟩ | rfl)
    (case k_iUnknown => first | k_is | exact ⟨_, rfl⟩ | rfl)
    (case aC_Arity => first | k_is | exact ⟨_, rfl⟩ | rfl)
    (case xL_Arity => first | k_is | exact ⟨_, rfl⟩ | rfl)
    (case sa_Arity => first | k_is | exact ⟨_, rfl⟩ | rfl)
    (case ec_Arity => first | k_is | exact ⟨_, rfl⟩ | rfl)
    (case tc_Arity => first | k_is | exact ⟨_, rfl⟩ | rfl)
    (case kc_Arity => first | k_is | exact ⟨_, rfl⟩ | rfl)
    (case xf_Arity => first | k_is | exact ⟨_, rfl⟩ | rfl)
    (case xn_Arity_name => first | k_is | exact ⟨_, rfl⟩ | rfl)
    (case xn_Arity_given => first | k_is | exact ⟨_, rfl⟩ | rfl)
    (case a_iArity => first | k_is | exact ⟨_, rfl⟩ | rfl)
    (case t_iArity => first | k_is | exact ⟨_, rfl⟩ | rfl)
    (case l_iArity => first | k_is | exact ⟨_, rfl⟩ | rfl)
    (case hc_iArity => first | k_is | exact ⟨_, rfl⟩ | rfl)
    (case k_iArity => first | k_is | exact ⟨_, rfl⟩ | rfl)
    (case aC_Unbound => first | k_is | exact ⟨_, rfl⟩ | rfl)
    (case xL_Unbound => first | k_is | exact ⟨_, rfl⟩ | rfl)
    (case sa_Unbound => first | k_is | exact ⟨_, rfl⟩ | rfl)
    (case ec_Unbound => first | k_is | exact ⟨_, rfl⟩ | rfl)
    (case tc_Unbound => first | k_is | exact ⟨_, rfl⟩ | rfl)
    (case kc_Unbound => first | k_is | exact ⟨_, rfl⟩ | rfl)
    (case xf_Unbound => first | k_is | exact ⟨_, rfl⟩ | rfl)
    (case xn_Unbound_name => first | k_is | exact ⟨_, rfl⟩ | rfl)
    (case a_iUnbound => first | k_is | exact ⟨_, rfl⟩ | rfl)
    (case t_iUnbound => first | k_is | exact ⟨_, rfl⟩ | rfl)
    (case l_iUnbound => first | k_is | exact ⟨_, rfl⟩ | rfl)
    (case hc_iUnbound => first | k_is | exact ⟨_, rfl⟩ | rfl)
    (case k_iUnbound => first | k_is | exact ⟨_, rfl⟩ | rfl)
    (case e_BadFunction_BadFunction => first | k_is | exact ⟨_, rfl⟩ | rfl)
    (case e_BadFunction_Twice => first | k_is | exact ⟨_, rfl⟩ | rfl)
    (case e_BadFunction_TooLarge => first | k_is | exact ⟨_, rfl⟩ | rfl)
    (case e_BadFunction_Unknown => first | k_is | exact ⟨_, rfl⟩ | rfl)
    (case e_BadFunction_Arity => first | k_is | exact ⟨_, rfl⟩ | rfl)
    (case e_BadFunction_Unbound => first | k_is | exact ⟨_, rfl⟩ | rfl)
    (case e_Twice_BadFunction => first | k_is | exact ⟨_, rfl⟩ | rfl)
    (case e_Twice_Twice => first | k_is | exact ⟨_, rfl⟩ | rfl)
    (case e_Twice_TooLarge => first | k_is | exact ⟨_, rfl⟩ | rfl)
    (case e_Twice_Unknown => first | k_is | exact ⟨_, rfl⟩ | rfl)
    (case e_Twice_Arity => first | k_is | exact ⟨_, rfl⟩ | rfl)
    (case e_Twice_Unbound => first | k_is | exact ⟨_, rfl⟩ | rfl)
    (case e_TooLarge_BadFunction => first | k_is | exact ⟨_, rfl⟩ | rfl)
    (case e_TooLarge_Twice => first | k_is | exact ⟨_, rfl⟩ | rfl)
    (case e_TooLarge_TooLarge => first | k_is | exact ⟨_, rfl⟩ | rfl)
    (case e_TooLarge_Unknown => first | k_is | exact ⟨_, rfl⟩ | rfl)
    (case e_TooLarge_Arity => first | k_is | exact ⟨_, rfl⟩ | rfl)
    (case e_TooLarge_Unbound => first | k_is | exact ⟨_, rfl⟩ | rfl)
    (case e_Unknown_BadFunction => first | k_is | exact ⟨_, rfl⟩ | rfl)
    (case e_Unknown_Twice => first | k_is | exact ⟨_, rfl⟩ | rfl)
    (case e_Unknown_TooLarge => first | k_is | exact ⟨_, rfl⟩ | rfl)
    (case e_Unknown_Unknown => first | k_is | exact ⟨_, rfl⟩ | rfl)
    (case e_Unknown_Arity => first | k_is | exact ⟨_, rfl⟩ | rfl)
    (case e_Unknown_Unbound => first | k_is | exact ⟨_, rfl⟩ | rfl)
    (case e_Arity_BadFunction => first | k_is | exact ⟨_, rfl⟩ | rfl)
    (case e_Arity_Twice => first | k_is | exact ⟨_, rfl⟩ | rfl)
    (case e_Arity_TooLarge => first | k_is | exact ⟨_, rfl⟩ | rfl)
    (case e_Arity_Unknown => first | k_is | exact ⟨_, rfl⟩ | rfl)
    (case e_Arity_Arity => first | k_is | exact ⟨_, rfl⟩ | rfl)
    (case e_Arity_Unbound => first | k_is | exact ⟨_, rfl⟩ | rfl)
    (case e_Unbound_BadFunction => first | k_is | exact ⟨_, rfl⟩ | rfl)
    (case e_Unbound_Twice => first | k_is | exact ⟨_, rfl⟩ | rfl)
    (case e_Unbound_TooLarge => first | k_is | exact ⟨_, rfl⟩ | rfl)
    (case e_Unbound_Unknown => first | k_is | exact ⟨_, rfl⟩ | rfl)
    (case e_Unbound_Arity => first | k_is | exact ⟨_, rfl⟩ | rfl)
    (case e_Unbound_Unbound => first | k_is | exact ⟨_, rfl⟩ | rfl)
    (case eb_Unknown => first | k_is | exact ⟨_, rfl⟩ | rfl)
    (case eb_Arity => first | k_is | exact ⟨_, rfl⟩ | rfl)
    (case eb_Unbound => first | k_is | exact ⟨_, rfl⟩ | rfl)
    (case kt_Unknown_TablesError => first | k_is | exact ⟨_, rfl⟩ | rfl)
    (case kt_Arity_Unknown => first | k_is | exact ⟨_, rfl⟩ | rfl)
    (case kt_Unbound_ValueError => first | k_is | exact ⟨_, rfl⟩ | rfl)
    (case aC_Program => first | k_is | exact ⟨_, rfl⟩ | rfl)
    (case pg_Program => first | k_is | exact ⟨_, rfl⟩ | rfl)
    (case hd_Program => first | k_is | exact ⟨_, rfl⟩ | rfl)
    (case po_Program => first | k_is | exact ⟨_, rfl⟩ | rfl)
    (case sa_Program => first | k_is | exact ⟨_, rfl⟩ | rfl)
    (case mk_Program => first | k_is | exact ⟨_, rfl⟩ | rfl)
    (case kc_Program => first | k_is | exact ⟨_, rfl⟩ | rfl)
    (case no_Program_functions => first | k_is | exact ⟨_, rfl⟩ | rfl)
    (case no_Program_names => first | k_is | exact ⟨_, rfl⟩ | rfl)
    (case rd_Program => first | k_is | exact ⟨_, rfl⟩ | rfl)
    (case ga_Program => first | k_is | exact ⟨_, rfl⟩ | rfl)
    (case cv_Program_MOST_NODES => first | k_is | exact ⟨_, rfl⟩ | rfl)
    (case rv_Program_MOST_NODES => first | k_is | exact ⟨_, rfl⟩ | rfl)
    (case cv_Program_MOST_DEPTH => first | k_is | exact ⟨_, rfl⟩ | rfl)
    (case rv_Program_MOST_DEPTH => first | k_is | exact ⟨_, rfl⟩ | rfl)
    (case a_is_integer => first | k_is | exact ⟨_, rfl⟩ | rfl)
    (case l_is_integer => first | k_is | exact ⟨_, rfl⟩ | rfl)
    (case hc_is_integer => first | k_is | exact ⟨_, rfl⟩ | rfl)
    (case k_is_integer => first | k_is | exact ⟨_, rfl⟩ | rfl)
    (case a_is_name => first | k_is | exact ⟨_, rfl⟩ | rfl)
    (case l_is_name => first | k_is | exact ⟨_, rfl⟩ | rfl)
    (case hc_is_name => first | k_is | exact ⟨_, rfl⟩ | rfl)
    (case k_is_name => first | k_is | exact ⟨_, rfl⟩ | rfl)
    (case a_is_atom => first | k_is | exact ⟨_, rfl⟩ | rfl)
    (case l_is_atom => first | k_is | exact ⟨_, rfl⟩ | rfl)
    (case hc_is_atom => first | k_is | exact ⟨_, rfl⟩ | rfl)
    (case k_is_atom => first | k_is | exact ⟨_, rfl⟩ | rfl)
    (case a_are_atoms => first | k_is | exact ⟨_, rfl⟩ | rfl)
    (case l_are_atoms => first | k_is | exact ⟨_, rfl⟩ | rfl)
    (case hc_are_atoms => first | k_is | exact ⟨_, rfl⟩ | rfl)
    (case k_are_atoms => first | k_is | exact ⟨_, rfl⟩ | rfl)
    (case lt_are_atoms => first | k_is | exact ⟨_, rfl⟩ | rfl)
    (case a_first_twice => first | k_is | exact ⟨_, rfl⟩ | rfl)
    (case l_first_twice => first | k_is | exact ⟨_, rfl⟩ | rfl)
    (case hc_first_twice => first | k_is | exact ⟨_, rfl⟩ | rfl)
    (case k_first_twice => first | k_is | exact ⟨_, rfl⟩ | rfl)
    (case a_expressions_in => first | k_is | exact ⟨_, rfl⟩ | rfl)
    (case l_expressions_in => first | k_is | exact ⟨_, rfl⟩ | rfl)
    (case hc_expressions_in => first | k_is | exact ⟨_, rfl⟩ | rfl)
    (case k_expressions_in => first | k_is | exact ⟨_, rfl⟩ | rfl)
    (case a_measured => first | k_is | exact ⟨_, rfl⟩ | rfl)
    (case l_measured => first | k_is | exact ⟨_, rfl⟩ | rfl)
    (case hc_measured => first | k_is | exact ⟨_, rfl⟩ | rfl)
    (case k_measured => first | k_is | exact ⟨_, rfl⟩ | rfl)
    (case a_is_function => first | k_is | exact ⟨_, rfl⟩ | rfl)
    (case l_is_function => first | k_is | exact ⟨_, rfl⟩ | rfl)
    (case hc_is_function => first | k_is | exact ⟨_, rfl⟩ | rfl)
    (case k_is_function => first | k_is | exact ⟨_, rfl⟩ | rfl)
    (case a_atoms_of => first | k_is | exact ⟨_, rfl⟩ | rfl)
    (case l_atoms_of => first | k_is | exact ⟨_, rfl⟩ | rfl)
    (case hc_atoms_of => first | k_is | exact ⟨_, rfl⟩ | rfl)
    (case k_atoms_of => first | k_is | exact ⟨_, rfl⟩ | rfl)
    (case a_level_of => first | k_is | exact ⟨_, rfl⟩ | rfl)
    (case l_level_of => first | k_is | exact ⟨_, rfl⟩ | rfl)
    (case hc_level_of => first | k_is | exact ⟨_, rfl⟩ | rfl)
    (case k_level_of => first | k_is | exact ⟨_, rfl⟩ | rfl)
    (case a_parts_in_scope => first | k_is | exact ⟨_, rfl⟩ | rfl)
    (case l_parts_in_scope => first | k_is | exact ⟨_, rfl⟩ | rfl)
    (case hc_parts_in_scope => first | k_is | exact ⟨_, rfl⟩ | rfl)
    (case k_parts_in_scope => first | k_is | exact ⟨_, rfl⟩ | rfl)
    (case a_look_body => first | k_is | exact ⟨_, rfl⟩ | rfl)
    (case l_look_body => first | k_is | exact ⟨_, rfl⟩ | rfl)
    (case hc_look_body => first | k_is | exact ⟨_, rfl⟩ | rfl)
    (case k_look_body => first | k_is | exact ⟨_, rfl⟩ | rfl)
    (case a_Program___init__ => first | k_is | exact ⟨_, rfl⟩ | rfl)
    (case l_Program___init__ => first | k_is | exact ⟨_, rfl⟩ | rfl)
    (case hc_Program___init__ => first | k_is | exact ⟨_, rfl⟩ | rfl)
    (case i_Program___init__ => first | k_is | exact ⟨_, rfl⟩ | rfl)
    (case a_Program___len__ => first | k_is | exact ⟨_, rfl⟩ | rfl)
    (case l_Program___len__ => first | k_is | exact ⟨_, rfl⟩ | rfl)
    (case hc_Program___len__ => first | k_is | exact ⟨_, rfl⟩ | rfl)
    (case k_Program___len__ => first | k_is | exact ⟨_, rfl⟩ | rfl)
    (case i_Program___len__ => first | k_is | exact ⟨_, rfl⟩ | rfl)
    (case n_Program___len__ => first | k_is | exact ⟨_, rfl⟩ | rfl)
    (case a_bag => first | k_is | exact ⟨_, rfl⟩ | rfl)
    (case l_bag => first | k_is | exact ⟨_, rfl⟩ | rfl)
    (case hc_bag => first | k_is | exact ⟨_, rfl⟩ | rfl)
    (case k_bag => first | k_is | exact ⟨_, rfl⟩ | rfl)
    (case a_take => first | k_is | exact ⟨_, rfl⟩ | rfl)
    (case l_take => first | k_is | exact ⟨_, rfl⟩ | rfl)
    (case hc_take => first | k_is | exact ⟨_, rfl⟩ | rfl)
    (case k_take => first | k_is | exact ⟨_, rfl⟩ | rfl)
    (case a_number => first | k_is | exact ⟨_, rfl⟩ | rfl)
    (case l_number => first | k_is | exact ⟨_, rfl⟩ | rfl)
    (case hc_number => first | k_is | exact ⟨_, rfl⟩ | rfl)
    (case k_number => first | k_is | exact ⟨_, rfl⟩ | rfl)
    (case a_names => first | k_is | exact ⟨_, rfl⟩ | rfl)
    (case l_names => first | k_is | exact ⟨_, rfl⟩ | rfl)
    (case hc_names => first | k_is | exact ⟨_, rfl⟩ | rfl)
    (case k_names => first | k_is | exact ⟨_, rfl⟩ | rfl)
    (case a_atom => first | k_is | exact ⟨_, rfl⟩ | rfl)
    (case l_atom => first | k_is | exact ⟨_, rfl⟩ | rfl)
    (case hc_atom => first | k_is | exact ⟨_, rfl⟩ | rfl)
    (case k_atom => first | k_is | exact ⟨_, rfl⟩ | rfl)
    (case a_atoms => first | k_is | exact ⟨_, rfl⟩ | rfl)
    (case l_atoms => first | k_is | exact ⟨_, rfl⟩ | rfl)
    (case hc_atoms => first | k_is | exact ⟨_, rfl⟩ | rfl)
    (case k_atoms => first | k_is | exact ⟨_, rfl⟩ | rfl)
    (case a_leaf => first | k_is | exact ⟨_, rfl⟩ | rfl)
    (case l_leaf => first | k_is | exact ⟨_, rfl⟩ | rfl)
    (case hc_leaf => first | k_is | exact ⟨_, rfl⟩ | rfl)
    (case k_leaf => first | k_is | exact ⟨_, rfl⟩ | rfl)
    (case a_expression => first | k_is | exact ⟨_, rfl⟩ | rfl)
    (case l_expression => first | k_is | exact ⟨_, rfl⟩ | rfl)
    (case hc_expression => first | k_is | exact ⟨_, rfl⟩ | rfl)
    (case k_expression => first | k_is | exact ⟨_, rfl⟩ | rfl)
    (case a_functions => first | k_is | exact ⟨_, rfl⟩ | rfl)
    (case l_functions => first | k_is | exact ⟨_, rfl⟩ | rfl)
    (case hc_functions => first | k_is | exact ⟨_, rfl⟩ | rfl)
    (case k_functions => first | k_is | exact ⟨_, rfl⟩ | rfl)
    (case a_told => first | k_is | exact ⟨_, rfl⟩ | rfl)
    (case l_told => first | k_is | exact ⟨_, rfl⟩ | rfl)
    (case hc_told => first | k_is | exact ⟨_, rfl⟩ | rfl)
    (case k_told => first | k_is | exact ⟨_, rfl⟩ | rfl)
    (case a_first => first | k_is | exact ⟨_, rfl⟩ | rfl)
    (case l_first => first | k_is | exact ⟨_, rfl⟩ | rfl)
    (case hc_first => first | k_is | exact ⟨_, rfl⟩ | rfl)
    (case k_first => first | k_is | exact ⟨_, rfl⟩ | rfl)
    (case a_spoilt => first | k_is | exact ⟨_, rfl⟩ | rfl)
    (case l_spoilt => first | k_is | exact ⟨_, rfl⟩ | rfl)
    (case hc_spoilt => first | k_is | exact ⟨_, rfl⟩ | rfl)
    (case k_spoilt => first | k_is | exact ⟨_, rfl⟩ | rfl)
    (case a_law => first | k_is | exact ⟨_, rfl⟩ | rfl)
    (case l_law => first | k_is | exact ⟨_, rfl⟩ | rfl)
    (case hc_law => first | k_is | exact ⟨_, rfl⟩ | rfl)
    (case k_law => first | k_is | exact ⟨_, rfl⟩ | rfl)
    (case gv_MOST_LETTERS => first | k_is | exact ⟨_, rfl⟩ | rfl)
    (case gv_MOST_ARGS => first | k_is | exact ⟨_, rfl⟩ | rfl)
    (case gv_MOST_CONSTANT => first | k_is | exact ⟨_, rfl⟩ | rfl)
    (case gv_LETTERS => first | k_is | exact ⟨_, rfl⟩ | rfl)
    (case z_len => first | k_is | exact ⟨_, rfl⟩ | rfl)
    (case z_int => first | k_is | exact ⟨_, rfl⟩ | rfl)
    (case z_abs => first | k_is | exact ⟨_, rfl⟩ | rfl)
    (case z_bool => first | k_is | exact ⟨_, rfl⟩ | rfl)
    (case z_str => first | k_is | exact ⟨_, rfl⟩ | rfl)
    (case z_enumerate => first | k_is | exact ⟨_, rfl⟩ | rfl)
    (case z_list => first | k_is | exact ⟨_, rfl⟩ | rfl)
    (case z_tuple => first | k_is | exact ⟨_, rfl⟩ | rfl)
    (case z_range => first | k_is | exact ⟨_, rfl⟩ | rfl)
    (case z_min => first | k_is | exact ⟨_, rfl⟩ | rfl)
    (case z_max => first | k_is | exact ⟨_, rfl⟩ | rfl)
    (case z_all => first | k_is | exact ⟨_, rfl⟩ | rfl)
    (case z_sum => first | k_is | exact ⟨_, rfl⟩ | rfl)
    (case z_set => first | k_is | exact ⟨_, rfl⟩ | rfl)
    (case z_sorted => first | k_is | exact ⟨_, rfl⟩ | rfl)
    (case z_isinstance => first | k_is | exact ⟨_, rfl⟩ | rfl)
    (case z_repr => first | k_is | exact ⟨_, rfl⟩ | rfl)
    (case z_dict => first | k_is | exact ⟨_, rfl⟩ | rfl)
    (case z_ValueError => first | k_is | exact ⟨_, rfl⟩ | rfl)
    (case hmT => decide)
    (case huT => decide)
    (case hmT2 => decide)
    (case huT2 => decide)
