import PyProof.Rows.All
import Wide.All
import OpenK.AllK
import Wide.FinOn
import HandS.ForMost
import HandS.Wide
import HandS.EndBits
import HandS.Star
import HandS.ClsMeth
import HandS.Property
import HandS.RaiseMore
import HandS.Style
import HandS.TupAny
import HandS.Walk
import HandS.Codes
import HandS.IsInst
import HandS.TupLe
import KE.LtData
import PyProof.ListStr
import PyProof.ReprRoads
import PyProof.ReprLen
import PyProof.InstEq
import KE.KExcStr
import HandS.SlotsOwn
import KE.KEqDeep
import KE.KOpsOwn
import HandS.TupMul
import PyProof.ListMulRight
import HandS.NoneIn
import PySem.Challenge.RW_tailtables_k36_scripts_joined
set_option Elab.async false
set_option linter.all false
set_option maxRecDepth 100000
namespace TT
open PySem L2
/-! the heap but for some places; tuples stay as they are -/
structure Kp (S : List Addr) (H H' : Hp) : Prop where
  at_ : ∀ a o, a ∉ S → H a = some o → H' a = some o
  tup : ∀ a xs, H a = some (.tup xs) → H' a = some (.tup xs)
theorem Kp.refl (S : List Addr) (H : Hp) : Kp S H H := ⟨fun _ _ _ e => e, fun _ _ e => e⟩
theorem Kp.trans {S : List Addr} {H H1 H2 : Hp} (x : Kp S H H1) (y : Kp S H1 H2) : Kp S H H2 := ⟨fun a o n e => y.at_ a o n (x.at_ a o n e), fun a xs e => y.tup a xs (x.tup a xs e)⟩
theorem Kp.last {S : List Addr} {H H1 H2 : Hp} (y : Kp S H1 H2) (x : Kp S H H1) : Kp S H H2 := x.trans y
theorem Kp.get {S : List Addr} {H H' : Hp} {a : Addr} {o : HO} (x : Kp S H H') (n : a ∉ S) (e : H a = some o) : H' a = some o := x.at_ a o n e
theorem Kp.new {S : List Addr} {H H' : Hp} {p : Addr} {o : HO} (x : Kp S H H') (n : H' p = none) : Kp S H (upd H' p o) :=
  ⟨fun a u h e => (upd_ne (fun q => by have z := x.at_ a u h e; rw [q, n] at z; cases z)).trans (x.at_ a u h e),
   fun a xs e => (upd_ne (fun q => by have z := x.tup a xs e; rw [q, n] at z; cases z)).trans (x.tup a xs e)⟩
/-- what is not a tuple -/
def NoTup : HO → Prop
  | .tup _ => False
  | _ => True
theorem Kp.put {S : List Addr} {H H' : Hp} {p : Addr} {o u : HO} (x : Kp S H H') (n : p ∈ S) (e : H' p = some u) (t : NoTup u) : Kp S H (upd H' p o) :=
  ⟨fun a v h q => (upd_ne (fun z => h (by rw [z]; exact n))).trans (x.at_ a v h q),
   fun a xs q => (upd_ne (fun z => by have y := x.tup a xs q; rw [z, e] at y; cases y; exact t)).trans (x.tup a xs q)⟩
/-- a place that was free before -/
theorem Kp.old {S : List Addr} {H H' : Hp} {p : Addr} {o : HO} (x : Kp S H H') (n : H p = none) : Kp S H (upd H' p o) :=
  ⟨fun a u h e => (upd_ne (fun q => by rw [q, n] at e; cases e)).trans (x.at_ a u h e), fun a xs e => (upd_ne (fun q => by rw [q, n] at e; cases e)).trans (x.tup a xs e)⟩
theorem Kp.mono {S S' : List Addr} {H H' : Hp} (x : Kp S H H') (h : ∀ a ∈ S, a ∈ S') : Kp S' H H' := ⟨fun a o n e => x.at_ a o (fun z => n (h a z)) e, x.tup⟩
theorem Kp.drop {S : List Addr} {H H' : Hp} {b : Addr} (x : Kp (b :: S) H H') (n : H b = none) : Kp S H H' := ⟨fun a o h e => x.at_ a o (fun z => by
  rcases List.mem_cons.mp z with q | q
  · rw [q, n] at e; cases e
  · exact h q) e, x.tup⟩
theorem Kp.side {S : List Addr} {G Z W : Hp} {t : Addr} (x : Kp S G Z) (n : G t = none) (y : Kp [t] Z W) : Kp S G W := ⟨fun a o h e =>
  y.at_ a o (fun z => by rw [List.mem_singleton.mp z, n] at e; cases e) (x.at_ a o h e), fun a xs e => y.tup a xs (x.tup a xs e)⟩
theorem Kp.more {H H' : Hp} (S : List Addr) (x : Kp [] H H') : Kp S H H' := x.mono fun _ z => absurd z List.not_mem_nil
theorem Kp.same {H H' : Hp} (x : Kp [] H H') : Same H H' := fun a o e => x.at_ a o (fun z => nomatch z) e
theorem Kp.free {S : List Addr} {H H' : Hp} {p : Addr} (x : Kp S H H') (n : p ∉ S) (e : H' p = none) : H p = none := by
  cases q : H p with
  | none => rfl
  | some o => rw [x.at_ p o n q] at e; cases e
theorem Kp.of_same {H H' : Hp} (S : List Addr) (x : Same H H') : Kp S H H' := ⟨fun a o _ e => x a o e, fun a xs e => x a _ e⟩
theorem ne_new {H : Hp} {a b : Addr} {o : HO} (x : H b = none) (y : H a = some o) : a ≠ b := ne_of_none y x
theorem nin1 {a b : Addr} (h : a ≠ b) : a ∉ [b] := fun z => h (List.mem_singleton.mp z)
theorem nin2 {a b c : Addr} (h : a ≠ b) (h' : a ≠ c) : a ∉ [b, c] := fun z => by
  rcases List.mem_cons.mp z with q | q
  · exact h q
  · exact nin1 h' q
theorem nin0 {a : Addr} : a ∉ ([] : List Addr) := fun z => nomatch z
theorem in1 {a : Addr} {l : List Addr} : a ∈ a :: l := List.mem_cons_self
theorem in2 {a b : Addr} {l : List Addr} : a ∈ b :: a :: l := List.mem_cons_of_mem _ List.mem_cons_self
/-- a place where the stepping stops -/
inductive Stop (p : Prop) : Prop
  | a (h : p) : Stop p
  | b (h : p) : Stop p
theorem Stop.get {p : Prop} : Stop p → p
  | .a h => h
  | .b h => h
/-! fields by name -/
theorem lk_hit {f : Str} {v : V} {r : List (Str × V)} : List.lookup f ((f, v) :: r) = some v := by simp [List.lookup]
theorem lk_skip {f g : Str} {v : V} {r : List (Str × V)} (h : ¬ f = g) : List.lookup f ((g, v) :: r) = List.lookup f r := by
  have e : (f == g) = false := by simpa using h
  simp [List.lookup, e]
theorem put_nil {f : Str} {v : V} : putF f v [] = [(f, v)] := rfl
theorem put_hit {f : Str} {v x : V} {r : List (Str × V)} : putF f v ((f, x) :: r) = (f, v) :: r := if_pos rfl
theorem put_skip {f g : Str} {v x : V} {r r' : List (Str × V)} (h : ¬ g = f) (e : putF f v r = r') : putF f v ((g, x) :: r) = (g, x) :: r' := by
  rw [← e]
  exact if_neg h
/-! classes: made, their methods, their instances called -/
structure Mak (CX : CXT) (P : Program) (w : World) (K : PySem.W.Frag) (mg : Str → Option Value) (base : Heap) (k : Nat) (x : Str) (C : Addr) (sp : Sp) : Prop where
  ex : ∃ (f : Addr) (fd : FuncData) (ps : List Str), Mk K C f ∧ FnOk P w K mg base CX k f fd ps sp ∧ mg x = some (.ref C) ∧ Binds K fd ps []
section
variable {CX : CXT} {X : Cx} {E : XK} {k j : Nat} {x : Str} {C : Addr} {sp : Sp} {p pos : Pos} {e : Expr} {es : List Expr} {t : TA}
theorem pe_mkc (c : Mak CX X.prog X.w X.K X.mg X.base k x C sp) (hr : Room j X.A) (hx : Passes CX X E) (ha : PA X (e :: es) t) (hk : k + 1 ≤ j := by decide) (hg : Gl X x := by rfl)
    (hdb : (x == ("__debug__" : Str)) = false := by decide) (he : starEach (e :: es) X.env = (false, eval e X.env) :: starEach es X.env := by rfl) (hpl : (backTo pos (starEach es X.env)).any (·.1) = false := by rfl) :
    PE X (.Call (.Name x p) (e :: es) [] pos) (tMake C sp [] E t) := by
  obtain ⟨f, fd, ps, M, F, hm, b⟩ := c.ex
  exact pe_make M F (hr.mono hk) hg hm b .nil hx ha hdb he hpl
end
/-- a method (or any def of a class's text) at f -/
structure Mdef (K : PySem.W.Frag) (x qual : Str) (st : Stmt) (ps : List Str) (f : Addr) : Prop where
  ex : ∃ fd : FuncData, Fun K x qual st f fd ∧ Binds K fd ps []
/-! a def under its name -/
structure Cal (CX : CXT) (P : Program) (w : World) (K : PySem.W.Frag) (mg : Str → Option Value) (base : Heap) (k : Nat) (x : Str) (sp : Sp) : Prop where
  ex : ∃ (f : Addr) (fd : FuncData) (ps : List Str), FnOk P w K mg base CX k f fd ps sp ∧ mg x = some (.ref f) ∧ PySem.W.keepIn K (.ref f) = true ∧ Binds K fd ps []
/-- the def of the text, under its name -/
structure Def (K : PySem.W.Frag) (mg : Str → Option Value) (x : Str) (st : Stmt) (ps : List Str) : Prop where
  ex : ∃ (f : Addr) (fd : FuncData), Fun K x x st f fd ∧ mg x = some (.ref f) ∧ Binds K fd ps []
section
variable {P : Program} {w : World} {K : PySem.W.Frag} {mg : Str → Option Value} {base : Heap}
theorem Def.ok {x : Str} {st : Stmt} {N ps : List Str} {k : Nat} {sp : Sp} (D : Def K mg x st ps) (S : FnScope N ps (defScope st)) (len : ∀ vs H Q E, sp vs H Q E → vs.length = ps.length)
    (body : ∀ (f : Addr) (cdv : Value) (A : Around) (outer : List Env) (s : Shared) (H : Hp) (vs : List V) (Q : VK) (E : XK), Room k (A.deeper (PyProof.Rows.envOfC x (defScope st) s.heap.objs.size f cdv)) → sp vs H Q E →
      ∃ t, PSs (cxOf CX0 P w K mg base N x (defScope st) f cdv A outer s H E).nox (defBody st) t ∧ t { nx := fun _ H' => Q .non H', rt := Q } (start N vs) H) : Cal CX0 P w K mg base (k + 1) x sp := by
  obtain ⟨f, fd, F, hm, b⟩ := D.ex
  exact ⟨f, fd, ps, F.ok S len (fun cdv => body f cdv), hm, F.kp, b⟩
end
section
variable {CX : CXT} {X : Cx} {E : XK} {k j : Nat} {x : Str} {sp : Sp} {p pos : Pos} {e : Expr} {es : List Expr} {t : TA}
theorem pe_cl (c : Cal CX X.prog X.w X.K X.mg X.base k x sp) (hr : Room j X.A) (hx : Passes CX X E) (ha : PA X (e :: es) t) (hk : k ≤ j := by decide) (hg : Gl X x := by rfl)
    (hdb : (x == ("__debug__" : Str)) = false := by decide) (he : starEach (e :: es) X.env = (false, eval e X.env) :: starEach es X.env := by rfl) (hpl : (backTo pos (starEach es X.env)).any (·.1) = false := by rfl) :
    PE X (.Call (.Name x p) (e :: es) [] pos) (tCall sp [] E t) := by
  obtain ⟨f, fd, ps, F, hm, kp, b⟩ := c.ex
  exact pe_call F (hr.mono hk) hg hm kp b .nil hx ha hdb he hpl
end
/-! defs that may call repr: nothing is being shown around them -/
def FnG (P : Program) (w : World) (K : PySem.W.Frag) (mg : Str → Option Value) (base : Heap) (CX : CXT) (k : Nat) (f : Addr) (sp : Sp) : Prop :=
  ∀ (A : Around) (outer : List Env) (s : Shared) (H : Hp) (us : List Value) (vs : List V) (Q : VK) (E : XK), Room k A → A.guards = some [] →
    Env0 P w K mg base A outer s H → Vals vs us → sp vs H Q E → codeAny (model P w) A (.call (.ref f) ⟨us, []⟩) (CR CX outer P w H s Q E) s
section
variable {P : Program} {w : World} {K : PySem.W.Frag} {mg : Str → Option Value} {base : Heap} {CX : CXT} {k : Nat} {f : Addr} {sp : Sp}
theorem fn_g {x qual : Str} {st : Stmt} {fd : FuncData} {N ps : List Str} (F : Fun K x qual st f fd) (hb : Binds K fd ps []) (S : FnScope N ps (defScope st))
    (len : ∀ vs H Q E, sp vs H Q E → vs.length = ps.length)
    (body : ∀ (cdv : Value) (A : Around) (outer : List Env) (s : Shared) (H : Hp) (vs : List V) (Q : VK) (E : XK), (A.deeper (PyProof.Rows.envOfC qual (defScope st) s.heap.objs.size f cdv)).guards = some [] →
      Room k (A.deeper (PyProof.Rows.envOfC qual (defScope st) s.heap.objs.size f cdv)) → sp vs H Q E →
      ∃ t, PSs (cxOf CX P w K mg base N qual (defScope st) f cdv A outer s H E) (defBody st) t ∧ t { nx := fun _ H' => Q .non H', rt := Q } (start N vs) H) : FnG P w K mg base CX (k + 1) f sp := by
  obtain ⟨oc, od, kV, doc, pm, an, cdv, ct, osl, rfl, lk, hcd⟩ := F.ex
  intro A outer s H us vs Q E hr hg e0 r hsp
  have hl : vs.length = ps.length := len _ _ _ _ hsp
  have KX : K.In s.heap := e0.mod.kin.keeps fun b o e => (e0.bs b o e).1
  refine StX.run_bnd lk hcd S hr e0 (G := fun xs H2 => xs = vs ∧ H2 = H) (fun A' Ex Q' h => ?_) fun s2 H2 xs g hr' => ?_
  · have q := hb s us KX (by rw [List.append_nil, ← r.length]; exact hl)
    rw [List.append_nil] at q
    exact q _ _ _ _ (h s H vs us e0 Un.refl rfl (fun _ _ z => z) r hl ⟨rfl, rfl⟩)
  · obtain ⟨rfl, rfl⟩ := g
    exact body cdv A outer s2 _ _ Q E hg hr' hsp
end
structure CalG (CX : CXT) (P : Program) (w : World) (K : PySem.W.Frag) (mg : Str → Option Value) (base : Heap) (k : Nat) (x : Str) (sp : Sp) : Prop where
  ex : ∃ (f : Addr), FnG P w K mg base CX k f sp ∧ mg x = some (.ref f) ∧ PySem.W.keepIn K (.ref f) = true
section
variable {P : Program} {w : World} {K : PySem.W.Frag} {mg : Str → Option Value} {base : Heap} {CX : CXT}
theorem Def.okG {x : Str} {st : Stmt} {N ps : List Str} {k : Nat} {sp : Sp} (D : Def K mg x st ps) (S : FnScope N ps (defScope st)) (len : ∀ vs H Q E, sp vs H Q E → vs.length = ps.length)
    (body : ∀ (f : Addr) (cdv : Value) (A : Around) (outer : List Env) (s : Shared) (H : Hp) (vs : List V) (Q : VK) (E : XK), (A.deeper (PyProof.Rows.envOfC x (defScope st) s.heap.objs.size f cdv)).guards = some [] →
      Room k (A.deeper (PyProof.Rows.envOfC x (defScope st) s.heap.objs.size f cdv)) → sp vs H Q E →
      ∃ t, PSs (cxOf CX P w K mg base N x (defScope st) f cdv A outer s H E) (defBody st) t ∧ t { nx := fun _ H' => Q .non H', rt := Q } (start N vs) H) : CalG CX P w K mg base (k + 1) x sp := by
  obtain ⟨f, fd, F, hm, b⟩ := D.ex
  exact ⟨f, fn_g F b S len (fun cdv => body f cdv), hm, F.kp⟩
theorem Def.okG0 {x : Str} {st : Stmt} {N ps : List Str} {k : Nat} {sp : Sp} (D : Def K mg x st ps) (S : FnScope N ps (defScope st)) (len : ∀ vs H Q E, sp vs H Q E → vs.length = ps.length)
    (body : ∀ (f : Addr) (cdv : Value) (A : Around) (outer : List Env) (s : Shared) (H : Hp) (vs : List V) (Q : VK) (E : XK), (A.deeper (PyProof.Rows.envOfC x (defScope st) s.heap.objs.size f cdv)).guards = some [] →
      Room k (A.deeper (PyProof.Rows.envOfC x (defScope st) s.heap.objs.size f cdv)) → sp vs H Q E →
      ∃ t, PSs (cxOf CX0 P w K mg base N x (defScope st) f cdv A outer s H E).nox (defBody st) t ∧ t { nx := fun _ H' => Q .non H', rt := Q } (start N vs) H) : CalG CX0 P w K mg base (k + 1) x sp := by
  refine D.okG S len fun f cdv A outer s H vs Q E hg hr h => ?_
  obtain ⟨t, a, b⟩ := body f cdv A outer s H vs Q E hg hr h
  exact ⟨t, a.nox, b⟩
end
section
variable {CX : CXT} {X : Cx} {E : XK} {k j : Nat} {x : Str} {sp : Sp} {p pos : Pos} {e : Expr} {es : List Expr} {t : TA}
theorem pe_clG (c : CalG CX X.prog X.w X.K X.mg X.base k x sp) (hg : X.A.guards = some []) (hr : Room j X.A) (hx : Passes CX X E) (ha : PA X (e :: es) t) (hk : k ≤ j := by decide) (hgl : Gl X x := by rfl)
    (hdb : (x == ("__debug__" : Str)) = false := by decide) (he : starEach (e :: es) X.env = (false, eval e X.env) :: starEach es X.env := by rfl) (hpl : (backTo pos (starEach es X.env)).any (·.1) = false := by rfl) :
    PE X (.Call (.Name x p) (e :: es) [] pos) (tCall sp [] E t) := by
  obtain ⟨f, F, hm, kp⟩ := c.ex
  constructor
  intro pins s σ H Q I h
  refine PySem.wpAny_Call_Name_kw (ld_glob I hgl hm ?_ hdb)
  refine PySem.W.callWith_K (h₀ := X.base) I.ok.mod.kin kp (thn (ha.run pos pins s σ H _ I h) fun us s1 hh => ?_) he hpl
  obtain ⟨vs, H1, I1, r, q⟩ := hh
  rw [List.append_nil] at q
  refine ⟨I1.kIn, wpAny_call (codeAny_mono (F X.A X.stack s1 H1 us vs Q E (hr.mono hk) hg I1.env0 r q) fun z s' hq => ?_)⟩
  cases z with
  | error u => exact hx pins σ H1 s1 u s' I1 hq
  | ok fl => cases fl with
    | ret u => exact I1.after hq
    | _ => exact hq.elim
end
/-! data of this kind hold no dicts -/
mutual
theorem dp_noDict {K : PySem.W.Frag} {H : Hp} : ∀ (d : PyData) (v : V), Dp K H v d → d.hasDict = false
  | .none, _, _ => by simp only [PyData.hasDict]
  | .bool _, _, _ => by simp only [PyData.hasDict]
  | .int _, _, _ => by simp only [PyData.hasDict]
  | .str _, _, _ => by simp only [PyData.hasDict]
  | .list ds, _, h => by
    cases h with
    | lst _ h2 => simp only [PyData.hasDict]; exact dp_noDictAll ds _ h2
  | .tuple ds, _, h => by
    cases h with
    | tup _ h2 => simp only [PyData.hasDict]; exact dp_noDictAll ds _ h2
  | .dict _, _, h => by cases h
theorem dp_noDictAll {K : PySem.W.Frag} {H : Hp} : ∀ (ds : List PyData) (vs : List V), DpAll K H vs ds → PyData.hasDictAll ds = false
  | [], _, _ => by simp only [PyData.hasDictAll]
  | d :: ds, _, h => by
    cases h with
    | cons h1 h2 => simp only [PyData.hasDictAll, dp_noDict d _ h1, dp_noDictAll ds _ h2, Bool.or_self]
end
/-! repr of data -/
section
variable {X : Cx}
def rRepr (K : PySem.W.Frag) : List V → Hp → VK → Prop := fun xs H Q => ∃ (x : V) (d : PyData), xs = [x] ∧ Dp K H x d ∧ d.showable = true ∧ d.shown.length ≤ sizeLine ∧ d.depth ≤ 180 ∧ Q (.str d.shown) H
theorem call_repr (hg : X.A.guards = some []) (hu : X.A.units + 200 < cLine) : CallR X (.builtin "repr") (rRepr X.K) := by
  intro pins s σ H xs us Q I r h
  obtain ⟨x, d, rfl, hd, hs, hz, hp, q⟩ := h
  obtain ⟨u, rfl, ru⟩ := vals1 r
  cases hd with
  | non => cases ru; exact PySem.P.repr_of_none ⟨.str _, H, I.tok _, ⟨_, rfl⟩, q⟩
  | bl b => cases ru; exact PySem.P.repr_of_bool ⟨.str _, H, I.tok _, ⟨_, rfl⟩, by cases b <;> exact q⟩
  | int i =>
    obtain ⟨t, rfl⟩ := ru
    exact PySem.P.repr_of_int (of_decide_eq_true hs) ⟨.str _, H, I.tok _, ⟨_, rfl⟩, q⟩
  | str z =>
    obtain ⟨t, rfl⟩ := ru
    exact PySem.P.repr_of_str ⟨.str _, H, I.tok _, ⟨_, rfl⟩, q⟩ hz
  | lst h1 h2 =>
    obtain ⟨as, rd⟩ := Dp.reads I _ _ _ (Dp.lst h1 h2) ru
    cases ru
    refine PySem.repr_of_reads' rd hs ?_ hg (by omega) (fun _ _ e => e) (fun h' t tk hk => ⟨.str _, H, I.kept hk, ⟨_, rfl⟩, q⟩) hz
    exact PyData.noDict_hsm (dp_noDict _ _ (Dp.lst h1 h2))
  | tup h1 h2 =>
    obtain ⟨as, rd⟩ := Dp.reads I _ _ _ (Dp.tup h1 h2) ru
    cases ru
    refine PySem.repr_of_reads' rd hs ?_ hg (by omega) (fun _ _ e => e) (fun h' t tk hk => ⟨.str _, H, I.kept hk, ⟨_, rfl⟩, q⟩) hz
    exact PyData.noDict_hsm (dp_noDict _ _ (Dp.tup h1 h2))
end
/-! loops over range(n) -/
theorem for_rng {n : Nat} {g : TG} {tb : TS} {D : Ends} {σ : St} {H : Hp} (Pv : Nat → St → Hp → Prop) (h0 : Pv 0 σ H)
    (hs : ∀ (i : Nat) σ H, i < n → Pv i σ H → g (.int (i : Int)) σ H fun σ2 H2 => tb { D with nx := Pv (i + 1), ct := Pv (i + 1), bk := D.nx } σ2 H2) (hd : ∀ σ H, Pv n σ H → D.nx σ H) :
    ∃ W : Nat → Nat → St → Hp → Prop, (∃ m, W 0 m σ H) ∧ ∀ i m σ H, W i m σ H →
      ((Itr 0 n).stop i H ∧ D.nx σ H) ∨ ((Itr 0 n).go i H ∧ ∃ N : St → Hp → Prop, (∀ σ' H', N σ' H' → ∃ m', m' < m ∧ W (i + 1) m' σ' H') ∧ ∀ x H', (Itr 0 n).yld i H x H' → g x σ H' fun σ2 H2 => tb { D with nx := N, ct := N, bk := D.nx } σ2 H2) :=
  for_range Pv h0 (fun i σ H hi p => by rw [Int.zero_add]; exact hs i σ H hi p) hd
theorem lc_rng {n : Nat} {g : TG} {tt : TT} {te : TE} {vs : List Nat} {σ : St} {H1 : Hp} {D : Addr} {Qd : Hp → Prop} (Pv : Nat → Hp → Prop) (h0 : Pv 0 (upd H1 D (.lst [])))
    (hs : ∀ (i : Nat) H, i < n → Pv i H → g (.int (i : Int)) (wipe σ vs) H fun σ2 H2 => wipe σ2 vs = wipe σ vs ∧ tt σ2 H2 fun b H3 =>
      if b = true then te σ2 H3 fun y H4 => ∃ acc, H4 D = some (.lst acc) ∧ acc.length < sizeLine ∧ Pv (i + 1) (upd H4 D (.lst (acc ++ [y]))) else Pv (i + 1) H3) (hd : ∀ H, Pv n H → Qd H) :
    ∃ W : Nat → Nat → Hp → Prop, (∃ m, W 0 m (upd H1 D (.lst []))) ∧ ∀ i m H, W i m H →
      ((Itr 0 n).stop i H ∧ Qd H) ∨ ((Itr 0 n).go i H ∧ ∃ Nx : Hp → Prop, (∀ H', Nx H' → ∃ m', m' < m ∧ W (i + 1) m' H') ∧ ∀ x H', (Itr 0 n).yld i H x H' → g x (wipe σ vs) H' fun σ2 H2 => wipe σ2 vs = wipe σ vs ∧ tt σ2 H2 fun b H3 =>
        if b = true then te σ2 H3 fun y H4 => ∃ acc, H4 D = some (.lst acc) ∧ acc.length < sizeLine ∧ Nx (upd H4 D (.lst (acc ++ [y]))) else Nx H3) :=
  lc_range Pv h0 (fun i H hi p => by rw [Int.zero_add]; exact hs i H hi p) hd
/-! data of tuples, numbers, texts, truths and None: they stay what they are -/
mutual
inductive Pd (H : Hp) : V → PyData → Prop
  | non : Pd H .non .none
  | bl (b : Bool) : Pd H (.bl b) (.bool b)
  | int (i : Int) : Pd H (.int i) (.int i)
  | str (x : Str) : Pd H (.str x) (.str x)
  | tup {a : Addr} {xs : List V} {ds : List PyData} : H a = some (.tup xs) → PdAll H xs ds → Pd H (.ref a) (.tuple ds)
inductive PdAll (H : Hp) : List V → List PyData → Prop
  | nil : PdAll H [] []
  | cons {v : V} {vs : List V} {d : PyData} {ds : List PyData} : Pd H v d → PdAll H vs ds → PdAll H (v :: vs) (d :: ds)
end
mutual
theorem Pd.keep {H H' : Hp} (k : ∀ a xs, H a = some (.tup xs) → H' a = some (.tup xs)) : ∀ (d : PyData) (v : V), Pd H v d → Pd H' v d
  | .none, _, h => by cases h; exact .non
  | .bool b, _, h => by cases h; exact .bl b
  | .int i, _, h => by cases h; exact .int i
  | .str x, _, h => by cases h; exact .str x
  | .tuple ds, _, h => by
    cases h with
    | tup e r => exact .tup (k _ _ e) (PdAll.keep k ds _ r)
  | .list _, _, h => by cases h
  | .dict _, _, h => by cases h
theorem PdAll.keep {H H' : Hp} (k : ∀ a xs, H a = some (.tup xs) → H' a = some (.tup xs)) : ∀ (ds : List PyData) (vs : List V), PdAll H vs ds → PdAll H' vs ds
  | [], _, h => by cases h; exact .nil
  | d :: ds, _, h => by
    cases h with
    | cons a b => exact .cons (Pd.keep k d _ a) (PdAll.keep k ds _ b)
end
mutual
theorem Pd.dp {K : PySem.W.Frag} {H : Hp} : ∀ (d : PyData) (v : V), Pd H v d → Dp K H v d
  | .none, _, h => by cases h; exact .non
  | .bool b, _, h => by cases h; exact .bl b
  | .int i, _, h => by cases h; exact .int i
  | .str x, _, h => by cases h; exact .str x
  | .tuple ds, _, h => by
    cases h with
    | tup e r => exact .tup (SqT.of e) (PdAll.dp ds _ r)
  | .list _, _, h => by cases h
  | .dict _, _, h => by cases h
theorem PdAll.dp {K : PySem.W.Frag} {H : Hp} : ∀ (ds : List PyData) (vs : List V), PdAll H vs ds → DpAll K H vs ds
  | [], _, h => by cases h; exact .nil
  | d :: ds, _, h => by
    cases h with
    | cons a b => exact .cons (Pd.dp d _ a) (PdAll.dp ds _ b)
end
theorem Kp.pd {S : List Addr} {H H' : Hp} {v : V} {d : PyData} (k : Kp S H H') (h : Pd H v d) : Pd H' v d := Pd.keep k.tup d v h
theorem Kp.pds {S : List Addr} {H H' : Hp} {v : List V} {d : List PyData} (k : Kp S H H') (h : PdAll H v d) : PdAll H' v d := PdAll.keep k.tup d v h
theorem PdAll.ints {H : Hp} : ∀ ns : List Int, PdAll H (ns.map V.int) (ns.map PyData.int)
  | [] => .nil
  | n :: ns => .cons (.int n) (PdAll.ints ns)
theorem PdAll.snoc {H : Hp} {v : V} {d : PyData} : ∀ {vs : List V} {ds : List PyData}, PdAll H vs ds → Pd H v d → PdAll H (vs ++ [v]) (ds ++ [d])
  | _, _, .nil, h => .cons h .nil
  | _, _, .cons a b, h => .cons a (PdAll.snoc b h)
theorem PdAll.len {H : Hp} : ∀ {vs : List V} {ds : List PyData}, PdAll H vs ds → vs.length = ds.length
  | _, _, .nil => rfl
  | _, _, .cons _ b => congrArg (· + 1) (PdAll.len b)
/-! how long a text repr gives -/
structure Sh (d : PyData) (n k : Nat) : Prop where
  so : d.showable = true
  le : d.shown.length ≤ n
  dp : d.depth ≤ k
structure ShAll (ds : List PyData) (n k : Nat) : Prop where
  so : PyData.showableAll ds = true
  le : ((PyData.shownAll ds).map (·.length)).sum + 2 * ds.length ≤ n
  dp : PyData.depthAll ds ≤ k
theorem Sh.mono {d : PyData} {n k n' k' : Nat} (h : Sh d n k) (hn : n ≤ n') (hk : k ≤ k') : Sh d n' k' := ⟨h.so, Nat.le_trans h.le hn, Nat.le_trans h.dp hk⟩
theorem ShAll.mono {d : List PyData} {n k n' k' : Nat} (h : ShAll d n k) (hn : n ≤ n') (hk : k ≤ k') : ShAll d n' k' := ⟨h.so, Nat.le_trans h.le hn, Nat.le_trans h.dp hk⟩
theorem Sh.none : Sh .none 4 0 := ⟨rfl, by decide, Nat.le_refl _⟩
theorem Sh.bool (b : Bool) : Sh (.bool b) 5 0 := ⟨rfl, by cases b <;> decide, Nat.le_refl _⟩
theorem Sh.int {i : Int} (h : i.natAbs < 10 ^ 60) : Sh (.int i) 61 0 := by
  refine ⟨?_, ?_, Nat.le_refl _⟩
  · have h2 : i.natAbs < 2 ^ 200 := Nat.lt_of_lt_of_le h (by decide)
    have h3 := PySem.Flt.log2_lt_of (show 0 < 200 by decide) h2
    simp only [PyData.showable]
    exact decide_eq_true (by omega)
  · have e := int_text_length_le10 (k := 60) (by decide) h
    show (Str.ofString (toString i)).length ≤ 61
    rw [ofString_length]
    exact e
theorem Sh.str {x : Str} (h : ∀ c ∈ x.cps.toList, c < 16 ^ 8) : Sh (.str x) (10 * x.length + 2) 0 := by
  refine ⟨rfl, ?_, Nat.le_refl _⟩
  simp only [PyData.shown]
  exact StrLaws.reprText_len x h
theorem shownAll_len : ∀ ds : List PyData, (PyData.shownAll ds).length = ds.length
  | [] => by simp only [PyData.shownAll, List.length_nil]
  | d :: ds => by simp only [PyData.shownAll, List.length_cons, shownAll_len ds]
theorem ShAll.nil {k : Nat} : ShAll [] 0 k := ⟨by simp only [PyData.showableAll], by simp only [PyData.shownAll, List.map_nil, List.sum_nil, List.length_nil]; omega, by simp only [PyData.depthAll]; omega⟩
theorem ShAll.cons {d : PyData} {ds : List PyData} {n m k : Nat} (a : Sh d n k) (b : ShAll ds m k) : ShAll (d :: ds) (n + 2 + m) k := by
  refine ⟨by simp only [PyData.showableAll, a.so, b.so, Bool.and_self], ?_, ?_⟩
  · have h1 := a.le
    have h2 := b.le
    simp only [PyData.shownAll, List.map_cons, List.sum_cons, List.length_cons]
    omega
  · have h1 := a.dp
    have h2 := b.dp
    simp only [PyData.depthAll]
    omega
theorem ShAll.of {n k : Nat} : ∀ ds : List PyData, (∀ d ∈ ds, Sh d n k) → ShAll ds (ds.length * (n + 2)) k
  | [], _ => ShAll.nil.mono (Nat.zero_le _) (Nat.le_refl _)
  | d :: ds, h => (ShAll.cons (h d List.mem_cons_self) (ShAll.of ds fun e he => h e (List.mem_cons_of_mem _ he))).mono (by rw [List.length_cons, Nat.succ_mul]; omega) (Nat.le_refl _)
theorem Sh.list {ds : List PyData} {n k : Nat} (h : ShAll ds n k) : Sh (.list ds) (n + 3) (k + 1) := by
  refine ⟨by simp only [PyData.showable, h.so], ?_, by simp only [PyData.depth]; have := h.dp; omega⟩
  have h1 := listText_len_le (PyData.shownAll ds)
  have h2 := h.le
  rw [shownAll_len] at h1
  simp only [PyData.shown]
  omega
theorem Sh.tuple {ds : List PyData} {n k : Nat} (h : ShAll ds n k) : Sh (.tuple ds) (n + 3) (k + 1) := by
  refine ⟨by simp only [PyData.showable, h.so], ?_, by simp only [PyData.depth]; have := h.dp; omega⟩
  have h1 := tupleText_len_le (PyData.shownAll ds)
  have h2 := h.le
  rw [shownAll_len] at h1
  simp only [PyData.shown]
  omega
def rRepr2 (K : PySem.W.Frag) : List V → Hp → VK → Prop := fun xs H Q => ∃ (x : V) (d : PyData) (n k : Nat), xs = [x] ∧ Dp K H x d ∧ Sh d n k ∧ n ≤ sizeLine ∧ k ≤ 180 ∧ Q (.str d.shown) H
theorem call_reprD {X : Cx} (hg : X.A.guards = some []) (hu : X.A.units + 200 < cLine) : CallR X (.builtin "repr") (rRepr2 X.K) := fun pins s σ H xs us Q I r h => by
  obtain ⟨x, d, n, k, e, hd, hs, hn, hk, q⟩ := h
  exact call_repr hg hu pins s σ H xs us Q I r ⟨x, d, e, hd, hs.so, Nat.le_trans hs.le hn, Nat.le_trans hs.dp hk, q⟩
/-! list(text) -/
theorem paired_get {α β : Type} {R : α → β → Prop} : ∀ (xs : List α) (ys : List β), xs.length = ys.length → (∀ (j : Nat) a b, xs[j]? = some a → ys[j]? = some b → R a b) → Paired R xs ys
  | [], [], _, _ => .nil
  | [], _ :: _, h, _ => by cases h
  | _ :: _, [], h, _ => by cases h
  | x :: xs, y :: ys, h, k => .cons (k 0 x y rfl rfl) (paired_get xs ys (Nat.succ.inj h) fun j a b p q => k (j + 1) a b p q)
abbrev sgn (c : Nat) : V := .str ⟨#[c]⟩
theorem call_list_txt {X : Cx} (hc : X.calm = true) : CallR X (.type "list") (fun xs H Q => ∃ x : Str, xs = [.str x] ∧ x.length ≤ sizeLine ∧ ∀ l, H l = none → Q (.ref l) (upd H l (.lst (x.cps.toList.map sgn)))) := by
  intro pins s σ H xs us Q I r h
  obtain ⟨x, rfl, hz, q⟩ := h
  obtain ⟨u, rfl, t, rfl⟩ := vals1 r
  refine PySem.call_list_str (I.ok.hd hc) x t (hn := hz) fun h' tk acc c hk hS hacc => ?_
  have rel : Vals (x.cps.toList.map sgn) acc.toList := paired_get _ _ (by simp [hacc.1]) fun j a b p p' => by
    obtain ⟨cc, uu, e1, rfl⟩ := hacc.2 j b (by simpa using p')
    have p2 : (x.cps[j]?).map sgn = some a := by simpa using p
    rw [e1] at p2
    obtain rfl : sgn cc = a := Option.some.inj p2
    exact ⟨uu, rfl⟩
  refine ⟨.ref s.heap.objs.size, _, I.laid (t' := tk) hk (Nat.le_refl _) (show ObjOk X.prog X.w _ h' _ (.lst (x.cps.toList.map sgn)) from ⟨?_, acc.toList, c, rel, ?_⟩), rfl, q _ (I.hok.fresh (Nat.le_refl _))⟩
  · rw [List.length_map]; exact hz
  · simpa using hS
theorem _root_.L2.Room.units2 {k : Nat} {A : Around} (r : Room k A) : A.units + 200 < cLine := by have := r.un; omega
/-! the end of a law whose promise is told of a def that may call repr -/
section
open PySem.W PyProof.Rows
variable {P : Program} {w : World} {K : PySem.W.Frag} {mg mb : Str → Option Value} {CX : CXT} {k : Nat} {fa a : Addr} {sp : Sp} {s₁ : Shared} {vs : List Value} {ns : List Int}
theorem lawG (KX : K.In s₁.heap) (hns : s₁.heap.Ns mainGlobals mg) (hb : s₁.heap.Ns builtinsNs mb) (hbb : ∀ x : Str, x ≠ "__name__" → mb x = bootBuiltins x) (hlim : s₁.heap.NoLimit) (hg : s₁.gens = #[])
    (ha : s₁.heap.get? a = some { cls := .type "list", data := .seq vs.toArray }) (hi : IntsAre vs ns) (hl : ns.length ≤ sizeLine) (hr : Room k callerA)
    (F : ∀ base : Heap, K.In base → base.Ns mainGlobals mg → FnG P w K mg base CX k fa sp)
    (hsp : ∀ H : Hp, Only H → SqL K H a (ns.map V.int) → sp [.ref a] H (fun v _ => v = .bl true) fun _ _ _ => False)
    (hCX : ∀ H e s', CX [] H s₁ (fun _ _ _ => False) e s' → False) :
    codeAny (model P w) callerA (.call (.ref fa) ⟨[.ref a], []⟩) (fun r s' => r = .ok (.ret (.bool true)) ∧ OldK s₁.heap s'.heap ∧ s'.os = s₁.os ∧ AllBare s'.gens) s₁ := by
  -- one abstract heap that tracks at most the script
  suffices core : ∀ H : Hp, Only H → SqL K H a (ns.map V.int) → HOk P w H s₁.heap → (∀ b u, H b = some u → b = a ∧ K.lookup a = none) → _ by
    cases hk : K.lookup a with
    | some o =>
      obtain rfl : o = { cls := .type "list", data := .seq vs.toArray } := by have e := KX a o hk; rw [ha] at e; cases e; rfl
      refine core (fun _ => none) (fun _ => .inl rfl) (.inr ⟨_, vs.toArray, _, hk, rfl, rfl, rfl, ?_, ?_⟩) (fun b u z => ?_) fun b u z => ?_
      · rw [List.size_toArray, hi.length]; exact hl
      · simpa using vals_ints hi
      · cases (show (none : Option HO) = some u from z)
      · cases (show (none : Option HO) = some u from z)
    | none =>
      let G : Hp := fun b => if b = a then some (.frz { cls := .type "list", data := .seq vs.toArray } (.lst (ns.map V.int))) else none
      have gy : G a = some (.frz { cls := .type "list", data := .seq vs.toArray } (.lst (ns.map V.int))) := if_pos rfl
      have gn : ∀ b, b ≠ a → G b = none := fun b n => if_neg n
      refine core G (fun b => ?_) (.inl (.inr ⟨_, gy⟩)) (fun b u z => ?_) fun b u z => ?_
      · rcases Nat.decEq b a with n | n
        · exact .inl (gn b n)
        · subst n; exact .inr ⟨_, _, gy⟩
      · rcases Nat.decEq b a with n | n
        · rw [gn b n] at z; cases z
        · subst n; rw [gy] at z; cases z
          exact ⟨ha, by rw [List.length_map]; exact hl, vs, _, vals_ints hi, ha⟩
      · rcases Nat.decEq b a with n | n
        · rw [gn b n] at z; cases z
        · exact ⟨n, hk⟩
  intro H hO hS hok hA
  have off : ∀ {b : Addr} {o : Obj}, s₁.heap.get? b = some o → (b = a → K.lookup a = none → False) → H b = none := fun {b o} e n => by
    cases q : H b with
    | none => rfl
    | some u => exact (n (hA b u q).1 (hA b u q).2).elim
  have nsK : ∀ {b : Addr} {m : Str → Option Value}, s₁.heap.Ns b m → (hidT s₁.heap H).Ns b m := fun {b m} z => by
    obtain ⟨o, es, ep, e, d, r⟩ := z
    refine ⟨o, es, ep, hidT_get e (off e fun q _ => ?_), d, r⟩
    subst q
    rw [ha] at e; cases e
    cases (show Data.seq vs.toArray _ = Data.dict es ep from d)
  have kin : K.In (hidT s₁.heap H) := fun b o e => hidT_get (KX b o e) (off (KX b o e) fun q n => by
    subst q; rw [n] at e; cases e)
  have md : Mod K mg (hidT s₁.heap H) := by
    obtain ⟨mc, h1, h2⟩ := hlim
    exact ⟨kin, nsK hns, ⟨mb, nsK hb, hbb⟩, mc, nsK h1, h2⟩
  have e0 : Env0 P w K mg (hidT s₁.heap H) callerA [] s₁ H :=
    { frames := rfl, mod := md, bs := fun b o e => of_hidT e, bsz := Nat.le_of_eq (hidT_size _ _), funs := trivial
      frf := fun b z => absurd (show b ∈ ([] : List Addr) from z) List.not_mem_nil
      hok := hok
      bare := .of_eq hg }
  have run := F _ kin (nsK hns) callerA [] s₁ H [.ref a] [.ref a] _ _ hr rfl e0 (.cons rfl .nil) (hsp H hO hS)
  refine codeAny_mono run fun z s' h => ?_
  cases z with
  | error e => exact (hCX H e s' h).elim
  | ok fl => cases fl with
    | ret u =>
      obtain ⟨v, H', os, bare, un, hok', r', q⟩ := h
      obtain rfl : v = V.bl true := q
      obtain rfl : u = Value.bool true := r'
      refine ⟨rfl, OldK.of_keep fun b o e => ?_, os, bare⟩
      cases q : H b with
      | none => exact un.keep b o e q (fun z => absurd (show b ∈ ([] : List Addr) from z) List.not_mem_nil) List.not_mem_nil
      | some u =>
        rcases hO b with z | ⟨ob, xs, z⟩
        · rw [q] at z; cases z
        · have e1 := (hok b _ z).1
          have e2 := (hok' b _ (un.frzs b ob _ z)).1
          rw [e] at e1; cases e1
          exact e2
    | _ => exact h.elim
theorem walkG {l : OpenLaw} {n k : Nat} {q : Program} {loose : List Str} {XP : (Str → Option Value) → Heap → Prop} {YP : World → Heap → Prop} {d : DefRec} {K : Params → Frag} {CX : World → CXT} {sp : World → Sp}
    (hn : l.most = some n) (hn2 : n ≤ sizeLine) (hdf : d.params.defaults = []) (hr : Room k callerA) (hY : ∀ (w : World) (h : Heap), YP w h → (K w.params).In h)
    (F : ∀ (w : World) (mg : Str → Option Value) (fa : Addr) (h : Heap), (K w.params).In h → h.Ns mainGlobals mg → mg d.name = some (.ref fa) →
      ∀ base : Heap, (K w.params).In base → base.Ns mainGlobals mg → FnG l.prog w (K w.params) mg base (CX w) k fa (sp w))
    (hsp : ∀ (w : World) (H : Hp) (a : Addr) (ns : List Int), ns.length ≤ n → (∀ z ∈ ns, Builtin.Int.intBits z ≤ 1048576) → Only H → SqL (K w.params) H a (ns.map V.int) → sp w [.ref a] H (fun v _ => v = .bl true) fun _ _ _ => False)
    (hCX : ∀ (w : World) (H : Hp) (s : Shared) (e : Value) (s' : Shared), CX w [] H s (fun _ _ _ => False) e s' → False) : WalkO q loose XP YP l.row.toRowW d [] (fun f vs => PySem.call f vs) := by
  refine Att.attach_callB hn hdf fun w s₀ s₁ mg mb fa o pm cd doc a vs ns G Y ho hd hcd hmg hobj hints hlen hbits hg => ?_
  have kx := hY w _ Y
  exact lawG kx G.T.g G.T.b G.T.builtins G.T.nolimit hg hobj hints (Nat.le_trans hlen hn2) hr (F w mg fa _ kx G.T.g hmg) (fun H z => hsp w H a ns hlen hbits z) fun H => hCX w H s₁
end
end TT

namespace TT
open PySem PySem.W PyProof.Rows
section
variable {prog : Program} {w : World} {A : Around} {E : Value → Shared → Prop} {s : Shared} {K : Frag} {h₀ : Heap} {L : Addr} {m : Str → Option Value} {x C f : Addr} {ox : Obj} {od : Option Obj} {b tb : Value}
theorem objNe_own {Q : PySem.Fin → Shared → Prop} (hu : A.units < cLine) (X : K.In s.heap) (I : InstAt s.heap x ox C od) (hs : findIn K (.ref C) "__eq__" = some (some (.ref f))) (hf : isFn K (.ref f) = true)
    (h : wpAny (model prog w) A (call (.ref f) [.ref x, b]) (fun v s' => ∃ c, v = .bool c ∧ Q (.done (.ret (.bool (!c)))) s') E s) :
    wpAny (model prog w) A (Builtin.«object.__ne__» ⟨[.ref x, b], []⟩) Q E s := by
  unfold Builtin.«object.__ne__»
  repeat (first | with_reducible refine wpAny_cRoomFor hu ?_ | with_reducible refine ifBound_K X I hs hf (wpAny_mono h (fun v s' z => ?_) (fun _ _ e => e)) | wp_step)
  obtain ⟨c, rfl, q⟩ := z
  show wpAny _ _ (truthy (.bool c) >>= fun t => ret (.bool (!t))) _ _ _
  repeat wp_step
  exact q
/-- __ne__ of object, found in the class of an instance -/
theorem tryNe_own {Q : Option Value → Shared → Prop} (hu : A.units + 1 < cLine) (X : K.In s.heap) (I : InstAt s.heap x ox C od) (hn : findIn K (.ref C) "__ne__" = some (some (.builtin "object.__ne__")))
    (ho : subIn K (.ref C) (.type "object") = some true) (hs : findIn K (.ref C) "__eq__" = some (some (.ref f))) (hf : isFn K (.ref f) = true)
    (h : wpAny (model prog w) A.in1 (call (.ref f) [.ref x, b]) (fun v s' => ∃ c, v = .bool c ∧ Q (some (.bool (!c))) s') E s) :
    wpAny (model prog w) A (tryCompare (.ref x) "__ne__" b) Q E s := by
  unfold tryCompare
  refine wpAny_bind ?_
  simp only [callSpecialIfBound?, bindSpecialIfBound?]
  refine wpAny_holding (wpAny_bind (wpAny_bind (wpAny_bind (I.type.here ((looks_findIn X hn).here ?_)))))
  refine wpAny_bind (wpAny_askSetting (wpAny_ite ?_))
  have hb : bindSpecial (.builtin "object.__ne__") (.ref x) = pure (.builtin "object.__ne__", [.ref x]) := F.cmp_object.ne.bind _
  have li : Looks (model prog w) s.heap (isInstance (.ref x) (.type "object")) true := I.type.andThen (looks_subIn X ho)
  have fin : wpAny (model prog w) A (call (.builtin "object.__ne__") [.ref x, b]) (fun v s' => ∃ c, v = .bool c ∧ Q (some (.bool c)) s') E s := by
    refine wpAny_call (codeAny_call_builtin F.cmp_object.ne.plain F.cmpEntry_ne (@PySem.W.check_slot (model prog w) _ _ s "object.__ne__" "object" "__ne__" (.ref x) [b] [] _ (by decide +kernel) (by decide +kernel) li (F.cmpArgs_ne _ _) ?_))
    refine objNe_own (A := A.in1) hu X I hs hf (wpAny_mono h (fun v s' z => ?_) fun _ _ e => e)
    obtain ⟨c, rfl, q⟩ := z
    exact ⟨c, rfl, ⟨!c, rfl, q⟩⟩
  have go : wpAny (model prog w) A (call (.builtin "object.__ne__") ([.ref x] ++ [b]) >>= fun v => pure (some v)) (fun a s' => wpAny (model prog w) A (match a with
      | some .notImplemented => pure none
      | none => pure none
      | some v => pure (some v)) Q E s') E s := by
    refine wpAny_bind (wpAny_mono fin (fun v s' z => ?_) fun _ _ e => e)
    obtain ⟨c, rfl, q⟩ := z
    exact wpAny_pure (wpAny_pure q)
  rw [hb]
  split
  · exact wpAny_bind (wpAny_pure (wpAny_pure (by exact go)))
  · exact wpAny_tryCatch (wpAny_bind (wpAny_pure (wpAny_pure (by exact go))))
theorem cmpNe_own {Q : Value → Shared → Prop} (hu : A.units + 1 < cLine) (X : K.In s.heap) (I : InstAt s.heap x ox C od) (hb : Looks (model prog w) s.heap (typeOf b) tb) (hnf : notFirst K C tb = true) (hn : findIn K (.ref C) "__ne__" = some (some (.builtin "object.__ne__")))
    (ho : subIn K (.ref C) (.type "object") = some true) (hs : findIn K (.ref C) "__eq__" = some (some (.ref f))) (hf : isFn K (.ref f) = true)
    (h : wpAny (model prog w) A.in1 (call (.ref f) [.ref x, b]) (fun v s' => ∃ c, v = .bool c ∧ Q (.bool (!c)) s') E s) :
    wpAny (model prog w) A (richCompare .NotEq (.ref x) b) Q E s := by
  have one : wpAny (model prog w) A (tryCompare (.ref x) "__ne__" b) (fun r s' => ∃ v, r = some v ∧ Q v s') E s :=
    tryNe_own hu X I hn ho hs hf (wpAny_mono h (fun v s' z => by obtain ⟨c, rfl, q⟩ := z; exact ⟨c, rfl, _, rfl, q⟩) fun _ _ e => e)
  have last : ∀ r s', (∃ v, r = some v ∧ Q v s') → wpAny (model prog w) A (match r with | some v => pure v | none => pure .none : Sem Value) Q E s' := fun r s' z => by
    obtain ⟨v, rfl, q⟩ := z
    exact wpAny_pure q
  unfold richCompare
  simp only [oneThing_ref]
  refine wpAny_holding (wpAny_bind (wpAny_cRoomFor (by omega) ?_))
  refine wpAny_bind (I.type.here (wpAny_bind (hb.here ?_)))
  have tail : ∀ rf : Bool, rf = false → wpAny (model prog w) A (pure rf) (fun a s' => a = false ∧ s' = s) E s := fun rf e => wpAny_pure ⟨e, rfl⟩
  split
  · rename_i q
    have e : subIn K tb (.ref C) = some false := by
      rcases Bool.or_eq_true_iff.mp hnf with e | e
      · rw [beq_iff_eq.mp e] at q; simp at q
      · exact beq_iff_eq.mp e
    refine wpAny_bind ((looks_subIn X e).here ?_)
    simp only [Bool.false_eq_true, if_false]
    refine wpAny_bind (wpAny_mono one ?_ fun _ _ e => e)
    rintro r s' ⟨v, rfl, hq⟩
    exact wpAny_pure hq
  · refine wpAny_bind (wpAny_pure ?_)
    simp only [Bool.false_eq_true, if_false]
    refine wpAny_bind (wpAny_mono one ?_ fun _ _ e => e)
    rintro r s' ⟨v, rfl, hq⟩
    exact wpAny_pure hq
end
/-! comparisons by a class's own defs, over the layer -/
section
open L2
variable {X : Cx} {CX : CXT} {C g : Addr} {n : Nat} {sp : Sp} {E : XK}
/-- x op y: x an instance whose class has the def at g for op; y of the type t, none of a class below -/
def rOwnD (K : PySem.W.Frag) (C : Addr) (sp : Sp) (E : XK) : R2 := fun x y H Q => ∃ (a dx : Addr) (fs : List (Str × V)) (t : Value), x = .ref a ∧ H a = some (.ins C dx fs) ∧ TyX K H y t ∧ notFirst K C t = true ∧
  sp [x, y] H (fun v H' => ∃ c, v = .bl c ∧ Q v H') E
theorem op_ownD {op : CmpOp} (hop : ∀ a b, compareOp op a b = richCompare op a b) (hs : findIn X.K (.ref C) (cmpInfo op).2.1 = some (some (.ref g))) (hf : isFn X.K (.ref g) = true) (F : FnR X.prog X.w X.K X.mg X.base CX n g sp)
    (hr : Room n X.A) (hx : Passes CX X E) : OpR X (compareOp op) (rOwnD X.K C sp E) := by
  intro pins s σ H x y v u Q I rx ry h
  obtain ⟨a, dx, fs, t, rfl, ha, ty, hn, q⟩ := h
  cases (show v = Value.ref a from rx)
  obtain ⟨mA, O, _⟩ := ins_get I.hok ha
  obtain ⟨od, J, _⟩ := O.look
  obtain ⟨P, Z, hp, _⟩ := kit_of I ry ty
  obtain ⟨m, hF⟩ := I.fr
  rw [hop]
  refine cmp_K (op := op) (tb := t) hr.units0 hF I.ok.mod.kin J (Z.ty _ _ I.kIn hp) hn hs hf ?_
  refine wpAny_mono (wpAny_call (run_fnR (us := [.ref a, u]) (vs := [.ref a, y]) F hr hx I (.cons rfl (.cons ry .nil)) q)) (fun w s' z => ?_) fun _ _ x => x
  obtain ⟨z', H', I', rz, c, ec, qz⟩ := z
  subst ec
  cases (show w = Value.bool c from rz)
  exact ⟨.bl c, H', I', rfl, qz⟩
/-- x != y by an own __eq__ -/
def rNeOwn (K : PySem.W.Frag) (C : Addr) (sp : Sp) (E : XK) : R2 := fun x y H Q => ∃ (a dx : Addr) (fs : List (Str × V)) (t : Value), x = .ref a ∧ H a = some (.ins C dx fs) ∧ TyX K H y t ∧ notFirst K C t = true ∧
  sp [x, y] H (fun v H' => ∃ c, v = .bl c ∧ Q (.bl (!c)) H') E
theorem op_neOwn (hn0 : findIn X.K (.ref C) "__ne__" = some (some (.builtin "object.__ne__"))) (ho : subIn X.K (.ref C) (.type "object") = some true) (hs : findIn X.K (.ref C) "__eq__" = some (some (.ref g))) (hf : isFn X.K (.ref g) = true)
    (F : FnR X.prog X.w X.K X.mg X.base CX n g sp) (hr : Room (n + 1) X.A) (hx : Passes CX X E) : OpR X (compareOp .NotEq) (rNeOwn X.K C sp E) := by
  intro pins s σ H x y v u Q I rx ry h
  obtain ⟨a, dx, fs, t, rfl, ha, ty, hn, q⟩ := h
  cases (show v = Value.ref a from rx)
  obtain ⟨mA, O, _⟩ := ins_get I.hok ha
  obtain ⟨od, J, _⟩ := O.look
  obtain ⟨P, Z, hp, _⟩ := kit_of I ry ty
  show wpAny _ _ (richCompare .NotEq _ _) _ _ _
  refine cmpNe_own (tb := t) (by have := hr.un; omega) I.kIn J (Z.ty _ _ I.kIn hp) hn hn0 ho hs hf ?_
  refine wpAny_mono (wpAny_call (SlX.run_at (us := [.ref a, u]) (ws := [.ref a, y]) F (show Room n X.A.in1 from Room.in1 hr) I.env0.in1 hx I (.cons rfl (.cons ry .nil)) q)) (fun w s' z => ?_) fun _ _ x => x
  obtain ⟨z', H', I', rz, c, ec, qz⟩ := z
  subst ec
  cases (show w = Value.bool c from rz)
  exact ⟨c, rfl, .bl (!c), H', I', rfl, qz⟩
end
end TT

namespace TT
open PySem PySem.W PyProof.Rows L2
/-! (number, tuple of numbers) < and <= the same -/
def ltI (ns ms : List Int) : Bool := Ob.lexAt (fun j => decide (ns.getD j 0 = ms.getD j 0)) (fun j => decide (ns.getD j 0 < ms.getD j 0)) (decide (ns.length < ms.length)) 0 (min ns.length ms.length)
def leI (ns ms : List Int) : Bool := Ob.lexAt (fun j => decide (ns.getD j 0 = ms.getD j 0)) (fun j => decide (ns.getD j 0 ≤ ms.getD j 0)) (decide (ns.length ≤ ms.length)) 0 (min ns.length ms.length)
def lt2 (i : Int) (ns : List Int) (j : Int) (ms : List Int) : Bool := if i = j then (if ns = ms then false else ltI ns ms) else decide (i < j)
def le2 (i : Int) (ns : List Int) (j : Int) (ms : List Int) : Bool := if i = j then (if ns = ms then true else leI ns ms) else decide (i ≤ j)
section
variable {X : Cx} {pins : List (Addr × Obj)} {σ : L2.St} {H : Hp} {s : Shared} {A : Around}
theorem beq_dec (a b : Int) : (a == b) = decide (a = b) := by
  by_cases q : a = b
  · rw [decide_eq_true q]; exact beq_iff_eq.mpr q
  · rw [decide_eq_false q]; exact beq_eq_false_iff_ne.mpr q
theorem eqAt_int (i j : Int) (t u : Tok) : SeqAt.EqAt A s (.int i t) (.int j u) (decide (i = j)) := by rw [← beq_dec]; exact SeqAt.EqAt.int_int _ _ _ _
theorem ints_at {its : List Value} {ns : List Int} (i1 : IntsAre its ns) (j : Nat) (h1 : j < its.toArray.size) : ∃ t, its.toArray[j] = .int (ns.getD j 0) t := IntsAre.int_at i1 _ _ (by simp at h1; simp [h1])
theorem rc_ltI {a b : Addr} {its its2 : List Value} {ns ms : List Int} (hu : A.units < cLine) (p1 : s.heap.IsTuple a its.toArray) (p2 : s.heap.IsTuple b its2.toArray) (i1 : IntsAre its ns) (i2 : IntsAre its2 ms) : Ob.RcOp .Lt A s (.ref a) (.ref b) (ltI ns ms) := by
  have e1 : its.toArray.size = ns.length := by rw [List.size_toArray]; exact i1.length
  have e2 : its2.toArray.size = ms.length := by rw [List.size_toArray]; exact i2.length
  have R := Ob.RcOp.tuples_lt (A := A) (s := s) (e := fun j => decide (ns.getD j 0 = ms.getD j 0)) (r := fun j => decide (ns.getD j 0 < ms.getD j 0)) p1 p2 hu
    (fun j h1 h2 => by
      obtain ⟨t, et⟩ := ints_at i1 j h1
      obtain ⟨t', et'⟩ := ints_at i2 j h2
      rw [et, et']
      exact eqAt_int _ _ _ _)
    (fun j h1 h2 _ => by
      obtain ⟨t, et⟩ := ints_at i1 j h1
      obtain ⟨t', et'⟩ := ints_at i2 j h2
      rw [et, et']
      exact Ob.RcOp.lt_int _ _ _ _)
  rw [e1, e2] at R
  exact R
theorem rc_leI {a b : Addr} {its its2 : List Value} {ns ms : List Int} (hu : A.units < cLine) (p1 : s.heap.IsTuple a its.toArray) (p2 : s.heap.IsTuple b its2.toArray) (i1 : IntsAre its ns) (i2 : IntsAre its2 ms) : Ob.RcOp .LtE A s (.ref a) (.ref b) (leI ns ms) := by
  have e1 : its.toArray.size = ns.length := by rw [List.size_toArray]; exact i1.length
  have e2 : its2.toArray.size = ms.length := by rw [List.size_toArray]; exact i2.length
  have R := Ob.RcOp.tuples_le (A := A) (s := s) (e := fun j => decide (ns.getD j 0 = ms.getD j 0)) (r := fun j => decide (ns.getD j 0 ≤ ms.getD j 0)) p1 p2 hu
    (fun j h1 h2 => by
      obtain ⟨t, et⟩ := ints_at i1 j h1
      obtain ⟨t', et'⟩ := ints_at i2 j h2
      rw [et, et']
      exact eqAt_int _ _ _ _)
    (fun j h1 h2 _ => by
      obtain ⟨t, et⟩ := ints_at i1 j h1
      obtain ⟨t', et'⟩ := ints_at i2 j h2
      rw [et, et']
      exact Ob.RcOp.le_int _ _ _ _)
  rw [e1, e2] at R
  exact R
theorem shaped_ints (ns : List Int) : SeqAt.shaped (.tuple (ns.map PyData.int)) = true := by
  have c : ∀ l : List Int, PyData.canLayAll0 (l.map PyData.int) = true := fun l => by
    induction l with
    | nil => simp [PyData.canLayAll0]
    | cons n l ih => simp [PyData.canLayAll0, PyData.canLay0, ih]
  have d : ∀ l : List Int, PyData.depthAll (l.map PyData.int) = 0 := fun l => by
    induction l with
    | nil => simp only [List.map_nil, PyData.depthAll]
    | cons n l ih => simp only [List.map_cons, PyData.depthAll, PyData.depth, ih, Nat.max_self]
  unfold SeqAt.shaped
  simp only [PyData.canLay0, PyData.depth, c, d, Bool.true_and]
  decide
theorem eqAt_tup {p q : Addr} {ns ms : List Int} (I : Inv X pins σ H s) (hu : A.units + 64 < cLine) (hp : SqT X.K H p (ns.map V.int)) (hq : SqT X.K H q (ms.map V.int)) : SeqAt.EqAt A s (.ref p) (.ref q) (decide (ns = ms)) := by
  have dp : ∀ {r : Addr} {l : List Int}, SqT X.K H r (l.map V.int) → ∃ as, Reads s.heap (.ref r) (.tuple (l.map PyData.int)) as := fun {r l} h =>
    Dp.reads I _ (.ref r) _ (.tup h (PdAll.dp _ _ (PdAll.ints l))) rfl
  obtain ⟨as, r1⟩ := dp hp
  obtain ⟨bs, r2⟩ := dp hq
  by_cases e : p = q
  · subst e
    have z := (PyProof.Rows.reads_det (fun _ _ e _ => e) r1 r2).1
    have inj : ∀ l l' : List Int, l.map PyData.int = l'.map PyData.int → l = l' := fun l l' h => by
      have := congrArg (List.map fun d => match d with | PyData.int i => i | _ => 0) h
      simpa [List.map_map, Function.comp_def] using this
    have e2 : ns = ms := inj _ _ (PyData.tuple.inj z.symm)
    rw [decide_eq_true e2]
    exact SeqAt.EqAt.same _
  · refine SeqAt.EqAt.of_refs e fun prog w E Q h => ?_
    refine SeqAt.compareEq_shaped r1 r2 (shaped_ints ns) (shaped_ints ms) hu ?_
    have k : PyData.eqv (.tuple (ns.map PyData.int)) (.tuple (ms.map PyData.int)) = decide (ns = ms) := by
      rw [PyData.eqv]; exact ked_eqvAll ns ms
    rw [k]
    exact h
/-- a pair of a number and a tuple of numbers -/
def Pr (H : Hp) (v : V) (i : Int) (ns : List Int) : Prop := ∃ a p : Addr, v = .ref a ∧ H a = some (.tup [.int i, .ref p]) ∧ H p = some (.tup (ns.map V.int))
def rLt2 : R2 := fun x y H Q => ∃ i ns j ms, Pr H x i ns ∧ Pr H y j ms ∧ Q (.bl (lt2 i ns j ms)) H
def rLe2 : R2 := fun x y H Q => ∃ i ns j ms, Pr H x i ns ∧ Pr H y j ms ∧ Q (.bl (le2 i ns j ms)) H
theorem two_items {its : List Value} {i : Int} {p : Addr} (r : Vals [V.int i, .ref p] its) : ∃ t, its = [.int i t, .ref p] := by
  cases r with
  | cons a b =>
    cases b with
    | cons c d =>
      cases d
      obtain ⟨t, rfl⟩ := a
      cases (show _ = Value.ref p from c)
      exact ⟨t, rfl⟩
theorem op_lt2 (hu : X.A.units + 100 < cLine) : OpR X (compareOp .Lt) rLt2 := by
  intro pins s σ H x y v u Q I rx ry h
  obtain ⟨i, ns, j, ms, ⟨a, p, rfl, ha, hp⟩, ⟨b, q, rfl, hb, hq⟩, k⟩ := h
  cases (show v = Value.ref a from rx)
  cases (show u = Value.ref b from ry)
  obtain ⟨ia, ra, ta, _⟩ := I.tuple (SqT.of ha)
  obtain ⟨ib, rb, tb, _⟩ := I.tuple (SqT.of hb)
  obtain ⟨t, rfl⟩ := two_items ra
  obtain ⟨t', rfl⟩ := two_items rb
  obtain ⟨ip, rp, tp, _⟩ := I.tuple (SqT.of hp)
  obtain ⟨iq, rq, tq, _⟩ := I.tuple (SqT.of hq)
  have R := Ob.RcOp.tuples_lt (A := X.A) (s := s) (e := fun k => if k = 0 then decide (i = j) else decide (ns = ms)) (r := fun k => if k = 0 then decide (i < j) else ltI ns ms) ta tb (by omega)
    (fun k h1 h2 => by
      match k, h1 with
      | 0, _ => exact eqAt_int _ _ _ _
      | 1, _ => exact eqAt_tup I (by show X.A.units + 1 + 64 < cLine; omega) (SqT.of hp) (SqT.of hq))
    (fun k h1 h2 _ => by
      match k, h1 with
      | 0, _ => exact Ob.RcOp.lt_int _ _ _ _
      | 1, _ => exact rc_ltI (by show X.A.units + 1 < cLine; omega) tp tq rp.ints rq.ints)
  have e : Ob.lexAt (fun k => if k = 0 then decide (i = j) else decide (ns = ms)) (fun k => if k = 0 then decide (i < j) else ltI ns ms) (decide (2 < 2)) 0 2 = lt2 i ns j ms := by
    unfold lt2
    simp only [Ob.lexAt_succ, Ob.lexAt_zero]
    by_cases e1 : i = j <;> by_cases e2 : ns = ms <;> simp [e1, e2]
  have z := R X.prog X.w X.xe (EP X pins σ Q) (by
    show EP X pins σ Q (.bool (Ob.lexAt _ _ (decide (2 < 2)) 0 2)) s
    rw [e]
    exact ⟨.bl _, H, I, rfl, k⟩)
  exact z
theorem op_le2 (hu : X.A.units + 100 < cLine) : OpR X (compareOp .LtE) rLe2 := by
  intro pins s σ H x y v u Q I rx ry h
  obtain ⟨i, ns, j, ms, ⟨a, p, rfl, ha, hp⟩, ⟨b, q, rfl, hb, hq⟩, k⟩ := h
  cases (show v = Value.ref a from rx)
  cases (show u = Value.ref b from ry)
  obtain ⟨ia, ra, ta, _⟩ := I.tuple (SqT.of ha)
  obtain ⟨ib, rb, tb, _⟩ := I.tuple (SqT.of hb)
  obtain ⟨t, rfl⟩ := two_items ra
  obtain ⟨t', rfl⟩ := two_items rb
  obtain ⟨ip, rp, tp, _⟩ := I.tuple (SqT.of hp)
  obtain ⟨iq, rq, tq, _⟩ := I.tuple (SqT.of hq)
  have R := Ob.RcOp.tuples_le (A := X.A) (s := s) (e := fun k => if k = 0 then decide (i = j) else decide (ns = ms)) (r := fun k => if k = 0 then decide (i ≤ j) else leI ns ms) ta tb (by omega)
    (fun k h1 h2 => by
      match k, h1 with
      | 0, _ => exact eqAt_int _ _ _ _
      | 1, _ => exact eqAt_tup I (by show X.A.units + 1 + 64 < cLine; omega) (SqT.of hp) (SqT.of hq))
    (fun k h1 h2 _ => by
      match k, h1 with
      | 0, _ => exact Ob.RcOp.le_int _ _ _ _
      | 1, _ => exact rc_leI (by show X.A.units + 1 < cLine; omega) tp tq rp.ints rq.ints)
  have e : Ob.lexAt (fun k => if k = 0 then decide (i = j) else decide (ns = ms)) (fun k => if k = 0 then decide (i ≤ j) else leI ns ms) (decide (2 ≤ 2)) 0 2 = le2 i ns j ms := by
    unfold le2
    simp only [Ob.lexAt_succ, Ob.lexAt_zero]
    by_cases e1 : i = j <;> by_cases e2 : ns = ms <;> simp [e1, e2]
  have z := R X.prog X.w X.xe (EP X pins σ Q) (by
    show EP X pins σ Q (.bool (Ob.lexAt _ _ (decide (2 ≤ 2)) 0 2)) s
    rw [e]
    exact ⟨.bl _, H, I, rfl, k⟩)
  exact z
end
theorem _root_.L2.Room.units3 {k : Nat} {A : Around} (r : L2.Room k A) : A.units + 100 < cLine := by have := r.un; omega
end TT

namespace TT
open PySem PySem.W PyProof.Rows
/-! operators by a class's own defs -/
set_option maxHeartbeats 2000000 in
theorem int_mul_inst (a : Int) (t : Tok) (l C dx : Addr) :
    Meets (Builtin.«int.__mul__» ⟨[.int a t, .ref l], []⟩) (fun _ R s => s.heap.get? l = some (PySem.W.instObj C dx) ∧ R (.ok (.ret Value.notImplemented)) s) :=
  .of_wp fun prog w A R s h => by obtain ⟨hp, g, d, tk, os⟩ := s; obtain ⟨hl, h⟩ := h; wp_walk using wpAny_loadPart' hl; exact ⟨_, rfl, h⟩
section
variable {prog : Program} {w : World} {A : Around} {E : Value → Shared → Prop} {s : Shared} {K : Frag} {x C L f : Addr} {h₀ : Heap} {m : Str → Option Value} {ox : Obj} {od : Option Obj}
set_option maxHeartbeats 2000000 in
/-- int * instance by __rmul__ -/
theorem rmul_own {i : Int} {t : Tok} {g dx : Addr} {Q : Value → Shared → Prop} (X : K.In s.heap) (I : PySem.W.InstAt s.heap x ox C od) (ho : s.heap.get? x = some (PySem.W.instObj C dx)) (hc : selfFirst K C = true)
    (hs : findIn K (.ref C) "__mul__" = some (some (.ref g))) (hr : findIn K (.ref C) "__rmul__" = some (some (.ref f))) (hf : isFn K (.ref f) = true) (hsub : subIn K (.ref C) (.type "int") = some false)
    (h : wpAny (model prog w) A (call (.ref f) [.ref x, .int i t]) (PySem.W.CmpBack Q) E s) : wpAny (model prog w) A (binaryOp .Mult (.int i t) (.ref x)) Q E s := by
  obtain ⟨cd, rest, hcd, hm⟩ := ksp_first hc
  have one := ksp_try X I hr hf h
  have L1 : Looks (model prog w) s.heap (typeOf (.ref x)) (.ref C) := I.type
  have L3 : Looks (model prog w) s.heap (fillsNumberSlot (.ref C) "mul") true := fills_K X hcd hm hs
  have L5 : Looks (model prog w) s.heap (isSubtype (.ref C) (.type "int")) false := looks_subIn X hsub
  unfold binaryOp
  refine wpAny_holding (wpAny_bind ?_)
  simp only [binaryOp1]
  refine wpAny_bind (wpAny_typeOf (typeIs_int s i t) (wpAny_bind (L1.here (wpAny_bind (wpAny_of_eq F.fills_int_mul ?_)))))
  have hne : (Value.type "int" == Value.ref C) = false := Bool.eq_false_iff.mpr fun q => by cases beq_iff_eq.mp q
  simp only [hne, Bool.false_eq_true, if_false]
  refine wpAny_bind (L3.here ?_)
  simp only [Bool.and_self, if_true]
  refine wpAny_bind (L5.here ?_)
  simp only [Bool.false_eq_true, if_false, Bool.not_false, Bool.and_self, if_true]
  refine wpAny_bind (wpAny_of_eq (show numberSlotInPython (.type "int") "mul" = pure false from rfl) ?_)
  simp only [Bool.false_eq_true, if_false]
  refine wpAny_bind (wpAny_tryMethod_declines (typeIs_int s i t) F.slot_int_mul (call_meets F.slot_int_mul (typeIs_int s i t) F.entry_int_mul (F.args_int_mul_2 _ _) (int_mul_inst i t x C dx) ⟨ho, rfl, ?_⟩))
  refine wpAny_bind (wpAny_mono one (fun r s' hr' => ?_) fun _ _ e => e)
  obtain ⟨v, rfl, hq⟩ := hr'
  exact wpAny_bind (wpAny_rule (wpAny_pure (wpAny_pure hq)))
set_option maxHeartbeats 2000000 in
theorem bin1_own {nm : String} {b : Value} {Q : Value → Shared → Prop} (X : K.In s.heap) (I : PySem.W.InstAt s.heap x ox C od) (hb : Looks (model prog w) s.heap (typeOf b) (.ref C)) (hc : selfFirst K C = true)
    (hs : findIn K (.ref C) (PySem.dunder nm) = some (some (.ref f))) (hf : isFn K (.ref f) = true)
    (h : wpAny (model prog w) A (call (.ref f) [.ref x, b]) (PySem.W.CmpBack Q) E s) : wpAny (model prog w) A (binaryOp1 nm (.ref x) b) (fun r s' => ∃ v, r = some v ∧ Q v s') E s := by
  obtain ⟨cd, rest, hcd, hm⟩ := ksp_first hc
  have one := ksp_try X I hs hf h
  unfold binaryOp1
  refine wpAny_bind (I.type.here (wpAny_bind (hb.here (wpAny_bind ((fills_K X hcd hm hs).here ?_)))))
  simp only [beq_self_eq_true, if_true]
  refine wpAny_bind (wpAny_pure ?_)
  simp only [Bool.and_false, Bool.false_eq_true, if_false, Bool.false_and]
  refine wpAny_bind (wpAny_pure ?_)
  simp only [Bool.false_eq_true, if_false]
  refine wpAny_bind (wpAny_mono one (fun r s' hr' => ?_) fun _ _ e => e)
  obtain ⟨v, rfl, hq⟩ := hr'
  exact wpAny_pure ⟨v, rfl, hq⟩
set_option maxHeartbeats 2000000 in
/-- instance += instance where the class has no in-place def -/
theorem iadd_own {b : Value} {cd : ClassData} {Q : Value → Shared → Prop} (X : K.In s.heap) (I : PySem.W.InstAt s.heap x ox C od) (hb : Looks (model prog w) s.heap (typeOf b) (.ref C)) (hc : selfFirst K C = true) (hcd : clsIn K C = some cd) (hm : cd.mro = [.ref C, .type "object"])
    (hs : findIn K (.ref C) "__add__" = some (some (.ref f))) (hf : isFn K (.ref f) = true) (hi : findIn K (.ref C) "__iadd__" = some none)
    (h : wpAny (model prog w) A (call (.ref f) [.ref x, b]) (PySem.W.CmpBack Q) E s) : wpAny (model prog w) A (inplaceOp .Add (.ref x) b) Q E s := by
  have L1 : Looks (model prog w) s.heap (typeLookup (.ref C) "__iadd__") none := looks_findIn X hi
  have L2 : Looks (model prog w) s.heap (typeLookup (.type "object") "__iadd__") none := looks_findIn X (K := K) (show findIn K (.type "object") "__iadd__" = some none from rfl)
  have L3 : Looks (model prog w) s.heap (mroOf (.ref C)) cd.mro := (looks_clsIn X hcd).andThen (f := fun cd => pure cd.mro) .now
  unfold inplaceOp
  refine wpAny_holding (wpAny_bind (I.type.here (wpAny_bind ?_)))
  unfold fillsInplaceSlot
  refine wpAny_bind (L3.here ?_)
  rw [hm, List.anyM_cons]
  refine wpAny_bind (wpAny_bind (L1.here (wpAny_pure ?_)))
  rw [if_neg Bool.false_ne_true, List.anyM_cons]
  refine wpAny_bind (wpAny_bind (L2.here (wpAny_pure ?_)))
  rw [if_neg Bool.false_ne_true]
  refine wpAny_pure ?_
  simp only [Bool.false_eq_true, if_false]
  refine wpAny_bind (wpAny_mono (bin1_own (nm := "add") X I hb hc hs hf h) (fun r s' hr' => ?_) fun _ _ e => e)
  obtain ⟨v, rfl, hq⟩ := hr'
  exact wpAny_pure hq
end
end TT

namespace TT
open PySem PySem.W PyProof.Rows L2
section
variable {X : Cx} {CX : CXT} {C g : Addr} {n : Nat} {sp : Sp} {E : XK}
/-- x op y, both instances of C -/
def rBinS (C : Addr) (sp : Sp) (E : XK) : R2 := fun x y H Q => ∃ (a dx : Addr) (fs : List (Str × V)) (b dy : Addr) (fs' : List (Str × V)), x = .ref a ∧ H a = some (.ins C dx fs) ∧ y = .ref b ∧ H b = some (.ins C dy fs') ∧
  sp [x, y] H (fun v H' => ∃ c, v = .ref c ∧ Q v H') E
theorem op_binS {op : Operator} (hc : selfFirst X.K C = true) (hs : findIn X.K (.ref C) (PySem.dunder op.info.2) = some (some (.ref g))) (hf : isFn X.K (.ref g) = true) (F : FnR X.prog X.w X.K X.mg X.base CX n g sp)
    (hr : Room n X.A) (hx : Passes CX X E) : OpR X (binaryOp op) (rBinS C sp E) := by
  intro pins s σ H x y v u Q I rx ry h
  obtain ⟨a, dx, fs, b, dy, fs', rfl, ha, rfl, hb, q⟩ := h
  cases (show v = Value.ref a from rx)
  cases (show u = Value.ref b from ry)
  obtain ⟨mA, O, _⟩ := ins_get I.hok ha
  obtain ⟨od, J, _⟩ := O.look
  obtain ⟨mB, O2, _⟩ := ins_get I.hok hb
  obtain ⟨od2, J2, _⟩ := O2.look
  obtain ⟨m, hF⟩ := I.fr
  refine binop_K (op := op) hF I.ok.mod.kin J J2.type hc hs hf ?_
  refine wpAny_mono (wpAny_call (run_fnR (us := [.ref a, .ref b]) (vs := [.ref a, .ref b]) F hr hx I (.cons rfl (.cons rfl .nil)) q)) (fun w s' z => ?_) fun _ _ x => x
  obtain ⟨z', H', I', rz, c, ec, qz⟩ := z
  subst ec
  cases (show w = Value.ref c from rz)
  exact ⟨.ref c, H', I', rfl, qz⟩
theorem iop_binS {cd : ClassData} (hc : selfFirst X.K C = true) (hcd : clsIn X.K C = some cd) (hm : cd.mro = [.ref C, .type "object"]) (hs : findIn X.K (.ref C) "__add__" = some (some (.ref g))) (hi : findIn X.K (.ref C) "__iadd__" = some none)
    (hf : isFn X.K (.ref g) = true) (F : FnR X.prog X.w X.K X.mg X.base CX n g sp) (hr : Room n X.A) (hx : Passes CX X E) : OpR X (inplaceOp .Add) (rBinS C sp E) := by
  intro pins s σ H x y v u Q I rx ry h
  obtain ⟨a, dx, fs, b, dy, fs', rfl, ha, rfl, hb, q⟩ := h
  cases (show v = Value.ref a from rx)
  cases (show u = Value.ref b from ry)
  obtain ⟨mA, O, _⟩ := ins_get I.hok ha
  obtain ⟨od, J, _⟩ := O.look
  obtain ⟨mB, O2, _⟩ := ins_get I.hok hb
  obtain ⟨od2, J2, _⟩ := O2.look
  refine iadd_own I.kIn J J2.type hc hcd hm hs hf hi ?_
  refine wpAny_mono (wpAny_call (run_fnR (us := [.ref a, .ref b]) (vs := [.ref a, .ref b]) F hr hx I (.cons rfl (.cons rfl .nil)) q)) (fun w s' z => ?_) fun _ _ x => x
  obtain ⟨z', H', I', rz, c, ec, qz⟩ := z
  subst ec
  cases (show w = Value.ref c from rz)
  exact ⟨.ref c, H', I', rfl, qz⟩
/-- x * k, x an instance, k a number -/
def rBinI (C : Addr) (sp : Sp) (E : XK) : R2 := fun x y H Q => ∃ (a dx : Addr) (fs : List (Str × V)) (k : Int), x = .ref a ∧ H a = some (.ins C dx fs) ∧ y = .int k ∧ sp [x, y] H (fun v H' => ∃ c, v = .ref c ∧ Q v H') E
theorem op_mulI {g' : Addr} (hc : selfFirst X.K C = true) (hs : findIn X.K (.ref C) "__mul__" = some (some (.ref g))) (hs2 : findIn X.K (.ref C) "__rmul__" = some (some (.ref g'))) (hsub : subIn X.K (.type "int") (.ref C) = some false)
    (hf : isFn X.K (.ref g) = true) (F : FnR X.prog X.w X.K X.mg X.base CX n g sp) (hr : Room n X.A) (hx : Passes CX X E) : OpR X (binaryOp .Mult) (rBinI C sp E) := by
  intro pins s σ H x y v u Q I rx ry h
  obtain ⟨a, dx, fs, k, rfl, ha, rfl, q⟩ := h
  cases (show v = Value.ref a from rx)
  obtain ⟨t, rfl⟩ := (show ∃ t, u = Value.int k t from ry)
  obtain ⟨mA, O, _⟩ := ins_get I.hok ha
  obtain ⟨od, J, _⟩ := O.look
  obtain ⟨m, hF⟩ := I.fr
  refine ksp_binT (op := .Mult) (T := "int") hF I.ok.mod.kin J rfl hc hs hf hs2 (.inr ⟨g', rfl⟩) (show findIn X.K (.type "int") "__mul__" = some (some (.builtin "int.__mul__")) from rfl) (show findIn X.K (.type "int") "__rmul__" = some (some (.builtin "int.__rmul__")) from rfl) hsub ?_
  refine wpAny_mono (wpAny_call (run_fnR (us := [.ref a, .int k t]) (vs := [.ref a, .int k]) F hr hx I (.cons rfl (.cons ⟨t, rfl⟩ .nil)) q)) (fun w s' z => ?_) fun _ _ x => x
  obtain ⟨z', H', I', rz, c, ec, qz⟩ := z
  subst ec
  cases (show w = Value.ref c from rz)
  exact ⟨.ref c, H', I', rfl, qz⟩
/-- k * x -/
def rBinR (C : Addr) (sp : Sp) (E : XK) : R2 := fun x y H Q => ∃ (a dx : Addr) (fs : List (Str × V)) (k : Int), y = .ref a ∧ H a = some (.ins C dx fs) ∧ x = .int k ∧ sp [y, x] H (fun v H' => ∃ c, v = .ref c ∧ Q v H') E
theorem op_mulR {g' : Addr} (hc : selfFirst X.K C = true) (hs : findIn X.K (.ref C) "__mul__" = some (some (.ref g'))) (hs2 : findIn X.K (.ref C) "__rmul__" = some (some (.ref g))) (hsub : subIn X.K (.ref C) (.type "int") = some false)
    (hf : isFn X.K (.ref g) = true) (F : FnR X.prog X.w X.K X.mg X.base CX n g sp) (hr : Room n X.A) (hx : Passes CX X E) : OpR X (binaryOp .Mult) (rBinR C sp E) := by
  intro pins s σ H x y v u Q I rx ry h
  obtain ⟨a, dx, fs, k, rfl, ha, rfl, q⟩ := h
  cases (show u = Value.ref a from ry)
  obtain ⟨t, rfl⟩ := (show ∃ t, v = Value.int k t from rx)
  obtain ⟨mA, O, _⟩ := ins_get I.hok ha
  obtain ⟨od, J, _⟩ := O.look
  have ho : s.heap.get? a = some (PySem.W.instObj C dx) := by
    obtain ⟨_, _, _, ob, _⟩ := (show ObjOk X.prog X.w H s.heap a (.ins C dx fs) from I.hok a _ ha)
    exact ob
  refine rmul_own I.kIn J ho hc hs hs2 hf hsub ?_
  refine wpAny_mono (wpAny_call (run_fnR (us := [.ref a, .int k t]) (vs := [.ref a, .int k]) F hr hx I (.cons rfl (.cons ⟨t, rfl⟩ .nil)) q)) (fun w s' z => ?_) fun _ _ x => x
  obtain ⟨z', H', I', rz, c, ec, qz⟩ := z
  subst ec
  cases (show w = Value.ref c from rz)
  exact ⟨.ref c, H', I', rfl, qz⟩
end
end TT

namespace TT
open PySem PySem.W PyProof.Rows L2
/-! tuple * number, number * tuple -/
set_option maxHeartbeats 2000000 in
theorem tuple_mul_same (l : Addr) (items : Array Value) (n : Nat) (dd : Option Addr) (sl : Array (Option Value)) (x : Int) (u : Tok) (c0 : (decide (x < -(2 ^ 63)) || decide (x ≥ 2 ^ 63)) = false) (c1 : (items.isEmpty || x == 1) = true) :
    Meets (Builtin.«tuple.__mul__» ⟨[.ref l, .int x u], []⟩) (fun _ R s => s.heap.get? l = some { cls := .type "tuple", dict := dd, data := .seq items n, slots := sl } ∧ R (.ok (.ret (Value.ref l))) s) :=
  .of_wp fun prog w A R s h => by
    obtain ⟨hp, g, d, tk, os⟩ := s
    obtain ⟨hl, h⟩ := h
    have f1 := AutoSeq1.idx_int
    wp_walk using wpAny_loadPart' hl
    repeat (first
      | (refine wpAny_ite_false (decide_eq_false (by rw [c0]; exact Bool.false_ne_true)) ?_; wp_walk using wpAny_loadPart' hl)
      | (refine wpAny_ite_true (decide_eq_true (by rw [c1])) ?_; wp_walk using wpAny_loadPart' hl))
    exact ⟨_, rfl, h⟩
set_option maxHeartbeats 2000000 in
theorem tuple_mul_zero (l : Addr) (items : Array Value) (n : Nat) (dd : Option Addr) (sl : Array (Option Value)) (x : Int) (u : Tok) (c0 : (decide (x < -(2 ^ 63)) || decide (x ≥ 2 ^ 63)) = false) (c1 : (items.isEmpty || x == 1) = false) (c2 : (decide (x ≤ 0) || items.isEmpty) = true) :
    Meets (Builtin.«tuple.__mul__» ⟨[.ref l, .int x u], []⟩) (fun _ R s => s.heap.get? l = some { cls := .type "tuple", dict := dd, data := .seq items n, slots := sl } ∧
      R (.ok (.ret (Value.ref s.heap.objs.size))) { s with heap := s.heap.push { cls := Value.type "tuple", data := Data.seq #[] }, toks := s.toks }) :=
  .of_wp fun prog w A R s h => by
    obtain ⟨hp, g, d, tk, os⟩ := s
    obtain ⟨hl, h⟩ := h
    have f1 := AutoSeq1.idx_int
    wp_walk using wpAny_loadPart' hl
    repeat (first
      | (refine wpAny_ite_false (decide_eq_false (by rw [c0]; exact Bool.false_ne_true)) ?_; wp_walk using wpAny_loadPart' hl)
      | (refine wpAny_ite_false (decide_eq_false (by rw [c1]; exact Bool.false_ne_true)) ?_; wp_walk using wpAny_loadPart' hl)
      | (refine wpAny_ite_true (decide_eq_true (by rw [c2])) ?_; wp_walk using wpAny_loadPart' hl))
    exact ⟨_, rfl, h⟩
set_option maxHeartbeats 2000000 in
theorem int_mul_tuple (a : Int) (t : Tok) (l : Addr) (items : Array Value) (n : Nat) (dd : Option Addr) (sl : Array (Option Value)) :
    Meets (Builtin.«int.__mul__» ⟨[.int a t, .ref l], []⟩) (fun _ R s => s.heap.get? l = some { cls := .type "tuple", dict := dd, data := .seq items n, slots := sl } ∧ R (.ok (.ret Value.notImplemented)) s) :=
  .of_wp fun prog w A R s h => by obtain ⟨hp, g, d, tk, os⟩ := s; obtain ⟨hl, h⟩ := h; wp_walk using wpAny_loadPart' hl; exact ⟨_, rfl, h⟩
section
variable {X : Cx}
/-- what repeating a tuple at l gives -/
def RepA (H : Hp) (l : Addr) (k : Int) (xs : List V) (Q : VK) : Prop := (xs = [] ∨ k = 1 → Q (.ref l) H) ∧ (¬ (xs = [] ∨ k = 1) → ∀ p, H p = none → Q (.ref p) (upd H p (.tup (List.replicate k.toNat xs).flatten)))
set_option maxHeartbeats 2000000 in
theorem run_rep {pins : List (Addr × Obj)} {s : Shared} {σ : L2.St} {H : Hp} {l : Addr} {k : Int} {xs : List V} {Q : VK} {t : Tok} {its : List Value} {n : Nat} {dd : Option Addr} {sl : Array (Option Value)} (I : Inv X pins σ H s)
    (ho : s.heap.get? l = some { cls := .type "tuple", dict := dd, data := .seq its.toArray n, slots := sl }) (r : Vals xs its) (k0 : 0 ≤ k) (k1 : k ≤ 1000) (hz : xs.length ≤ 1000) (q : RepA H l k xs Q) :
    wpAny (model X.prog X.w) X.A (call (.builtin "tuple.__mul__") [.ref l, .int k t]) (EP X pins σ Q) X.xe s := by
  have hle : its.length = xs.length := r.length.symm
  have c0 : (decide (k < -(2 ^ 63)) || decide (k ≥ 2 ^ 63)) = false := by
    rw [decide_eq_false (by omega), decide_eq_false (by omega)] <;> rfl
  by_cases c : xs = [] ∨ k = 1
  · have c1 : (its.toArray.isEmpty || k == 1) = true := by
      rcases c with c | c
      · have : its = [] := List.eq_nil_of_length_eq_zero (by rw [hle, c]; rfl)
        rw [this]; rfl
      · rw [c]; simp
    exact call_meets F.slot_tuple_mul ⟨_, ho, rfl⟩ F.entry_tuple_mul (F.args_tuple_mul_2 _ _) (tuple_mul_same l its.toArray n dd sl k t c0 c1) ⟨ho, .ref l, H, I, rfl, q.1 c⟩
  · have hne : xs ≠ [] := fun e => c (.inl e)
    have hk1 : k ≠ 1 := fun e => c (.inr e)
    have hn : its ≠ [] := fun e => hne (List.eq_nil_of_length_eq_zero (by rw [← hle, e]; rfl))
    have hi : its.toArray.isEmpty = false := by
      cases its with
      | nil => exact absurd rfl hn
      | cons a b => rfl
    have c1 : (its.toArray.isEmpty || k == 1) = false := by
      rw [hi, Bool.false_or]
      exact beq_eq_false_iff_ne.mpr hk1
    by_cases hk0 : k = 0
    · have c2 : (decide (k ≤ 0) || its.toArray.isEmpty) = true := by rw [decide_eq_true (by omega)]; rfl
      refine call_meets F.slot_tuple_mul ⟨_, ho, rfl⟩ F.entry_tuple_mul (F.args_tuple_mul_2 _ _) (tuple_mul_zero l its.toArray n dd sl k t c0 c1 c2) ⟨ho, ?_⟩
      have q2 := q.2 c _ (I.hok.fresh (Nat.le_refl _))
      rw [show (List.replicate k.toNat xs).flatten = [] by rw [hk0]; rfl] at q2
      refine ⟨.ref s.heap.objs.size, _, I.laid (t' := s.toks) (o := .tup []) (fun b ob q => Heap.get?_push_of_some _ q) (Nat.le_refl _) ?_, rfl, q2⟩
      exact ⟨Nat.zero_le _, _, .nil, IsTup.new _ _⟩
    · have h1 : 2 ≤ k := by omega
      have hsz0 : its.toArray.size = xs.length := by rw [List.size_toArray, hle]
      have hm : ((its.toArray.size : Nat) : Int) * k ≤ 1000000 := by
        rw [hsz0]
        have a1 : ((xs.length : Nat) : Int) * k ≤ 1000 * k := Int.mul_le_mul_of_nonneg_right (by omega) (by omega)
        omega
      have flen : (List.replicate k.toNat its).flatten.length ≤ sizeLine := by
        rw [PyProof.Rows.lm_len_rep_flat, hle, sizeLine_eq]
        have a1 : k.toNat * xs.length ≤ 1000 * 1000 := Nat.mul_le_mul (by omega) hz
        omega
      have c2 : (decide (k ≤ 0) || its.toArray.isEmpty) = false := by
        rw [hi, Bool.or_false]
        exact decide_eq_false (by omega)
      have c4 : Builtin.Tuple.tupleTooMany (((its.toArray.size : Nat) : Int) * k) = false := by
        unfold Builtin.Tuple.tupleTooMany
        rw [sizeLine_eq]
        exact decide_eq_false (by omega)
      refine call_meets F.slot_tuple_mul ⟨_, ho, rfl⟩ F.entry_tuple_mul (F.args_tuple_mul_2 _ _) (tuple_mulW l its.toArray n dd sl k t c0 c1 c2 (by omega) c4 (by rw [size_rep, List.size_toArray]; exact flen)) ⟨ho, ?_⟩
      rw [size_rep]
      refine ⟨.ref s.heap.objs.size, _, I.laid (t' := s.toks) (o := .tup (List.replicate k.toNat xs).flatten) (fun b ob q => Heap.get?_push_of_some _ q) (Nat.le_refl _) ?_, rfl, q.2 c _ (I.hok.fresh (Nat.le_refl _))⟩
      exact ⟨by rw [PyProof.Rows.lm_len_rep_flat, sizeLine_eq]; have a1 : k.toNat * xs.length ≤ 1000 * 1000 := Nat.mul_le_mul (by omega) hz; omega, _, r.rep k.toNat, IsTup.new _ _⟩
def rRepA (K : PySem.W.Frag) : R2 := fun x y H Q => ∃ l k xs, x = .ref l ∧ y = .int k ∧ SqT K H l xs ∧ 0 ≤ k ∧ k ≤ 1000 ∧ xs.length ≤ 1000 ∧ RepA H l k xs Q
def rRepAR (K : PySem.W.Frag) : R2 := fun x y H Q => ∃ l k xs, y = .ref l ∧ x = .int k ∧ SqT K H l xs ∧ 0 ≤ k ∧ k ≤ 1000 ∧ xs.length ≤ 1000 ∧ RepA H l k xs Q
set_option maxHeartbeats 2000000 in
theorem op_repA : OpR X (binaryOp .Mult) (rRepA X.K) := by
  intro pins s σ H x y v u Q I rx ry h
  obtain ⟨l, k, xs, rfl, rfl, hT, k0, k1, hz, q⟩ := h
  cases rx
  obtain ⟨t, rfl⟩ := ry
  obtain ⟨its, r, ⟨⟨cls, dd, data, sl⟩, ho, hc, n, hd⟩, hs⟩ := I.tuple hT
  simp only at hc hd
  subst hc hd
  exact wpAny_binaryOp_repeat_ref (T := "tuple") (U := "int") (by decide) ⟨_, ho, rfl⟩ (fun s' => typeIs_int s' k t) noFill_tuple_mul F.fills_int_mul F.slot_int_rmul repeat_tuple F.slot_int_index.lookup
    (call_meets F.slot_int_rmul (typeIs_int s k t) F.entry_int_rmul (F.args_int_rmul_2 _ _) (int_rmul_tuple k t l its.toArray n dd sl) ⟨ho, rfl, ⟨_, ho, rfl⟩, run_rep I ho r k0 k1 hz q⟩)
set_option maxHeartbeats 2000000 in
theorem op_repAR : OpR X (binaryOp .Mult) (rRepAR X.K) := by
  intro pins s σ H x y v u Q I rx ry h
  obtain ⟨l, k, xs, rfl, rfl, hT, k0, k1, hz, q⟩ := h
  cases ry
  obtain ⟨t, rfl⟩ := rx
  obtain ⟨its, r, ⟨⟨cls, dd, data, sl⟩, ho, hc, n, hd⟩, hs⟩ := I.tuple hT
  simp only at hc hd
  subst hc hd
  exact lm_binaryOp_repeat_right (T := "tuple") (U := "int") (by decide) (fun s' => typeIs_int s' k t) ⟨_, ho, rfl⟩ F.fills_int_mul noFill_tuple_mul F.slot_int_mul lm_noRepeat_int repeat_tuple F.slot_int_index.lookup
    (call_meets F.slot_int_mul (typeIs_int s k t) F.entry_int_mul (F.args_int_mul_2 _ _) (int_mul_tuple k t l its.toArray n dd sl) ⟨ho, rfl, ⟨_, ho, rfl⟩, run_rep I ho r k0 k1 hz q⟩)
end
end TT

namespace TT
open PySem L2
section
variable {X : Cx} {CX : CXT} {k j : Nat} {C p g : Addr} {mc : Value} {sp : Sp} {E : XK} {o e fe : Expr} {es : List Expr} {f m x : Str} {pos apos : Pos} {ta tf : TE} {t : TA} {pl : Sem Bool}
/-- C.m() where m is a classmethod -/
theorem pe_cmeth0 (he : PE X o ta) (r : ClX.CRead X.K C mc) (c : ClX.CMet X.K C mc m p g) (F : FnR X.prog X.w X.K X.mg X.base CX k g sp) (hr : Room k X.A) (hx : Passes CX X E)
    (ht : eval (.Call (.Attribute o m apos) [] [] pos) X.env = (do
      let ov ← eval o X.env
      standAt apos.atName
      let (f, first) ← holding [ov] (getMethod ov m pl)
      callWith pos f first (backTo pos (starEach [] X.env)) (backToKw pos (keywordEach [] X.env))) := by rfl) :
    PE X (.Call (.Attribute o m apos) [] [] pos) (ClX.tCMeth C sp E ta tNil) := by
  refine ⟨fun pins s σ H Q I h => ?_⟩
  refine PySem.W.methodCall_KW (pl := pl) (thn (he.run pins s σ H _ I h) fun u s1 ⟨x, H1, I1, rx, ex, q⟩ => ?_) ht
  subst ex
  obtain rfl : u = Value.ref C := rx
  refine ClX.getmethcm_ok I1 r c fun s2 I2 => ?_
  exact PySem.W.callWith_M0 (first := []) ⟨ClX.pin_at I2, I2.kIn⟩ c.fi (ClX.run_cm F hr hx I2 .nil q)
/-- f(e, ..), f an expression that gives the class at C -/
def tMakeV (C : Addr) (sp : Sp) (E : XK) (tf : TE) (t : TA) : TE := fun σ H Q => tf σ H fun y H1 => y = V.ref C ∧ t σ H1 fun vs H2 => ∀ x dx, H2 x = none → H2 dx = none → dx ≠ x →
  sp (V.ref x :: vs) (upd (upd H2 dx (.own x)) x (.ins C dx [])) (fun v H3 => v = .non ∧ Q (.ref x) H3) E
theorem pe_makeV (hf : PE X fe tf) (c : Mak CX X.prog X.w X.K X.mg X.base k x C sp) (hr : Room j X.A) (hx : Passes CX X E) (ha : PA X (e :: es) t) (hk : k + 1 ≤ j := by decide)
    (ht : eval (.Call fe (e :: es) [] pos) X.env = (do callWith pos (← eval fe X.env) [] (backTo pos (starEach (e :: es) X.env)) (backToKw pos (keywordEach [] X.env))) := by rfl)
    (he : starEach (e :: es) X.env = (false, eval e X.env) :: starEach es X.env := by rfl) (hpl : (backTo pos (starEach es X.env)).any (·.1) = false := by rfl) : PE X (.Call fe (e :: es) [] pos) (tMakeV C sp E tf t) := by
  obtain ⟨f, fd, ps, M, F, hm, b⟩ := c.ex
  have F2 : FnR X.prog X.w X.K X.mg X.base CX k f sp := (F.raw b .nil).imp fun vs H Q E h => by rw [List.append_nil]; exact h
  refine ⟨fun pins s σ H Q I h => ?_⟩
  refine PyProof.Rows.Call_ (thn (hf.run pins s σ H _ I h) fun u s1 ⟨y, H1, I1, ry, ey, q⟩ => ?_) ht
  subst ey
  obtain rfl : u = Value.ref C := ry
  refine PySem.W.callWith_K (h₀ := X.base) I1.ok.mod.kin M.kp (thn (ha.run pos pins s1 σ H1 _ I1 q) fun us s2 ⟨vs, H2, I2, r, q2⟩ => ⟨I2.kIn, ?_⟩) he hpl
  exact StX.run_makeR M F2 (hr.mono hk) hx I2 r q2
end
end TT

namespace TT
open PySem L2
local macro_rules | `(tactic| wtm_at "as") => `(tactic| with_reducible assumption)
local macro_rules | `(tactic| wtm_at "ne0") => `(tactic| first
  | wtm_at "as"
  | (apply Ne.symm; wtm_at "as"))
local macro_rules | `(tactic| wtm_at "nin0") => `(tactic| first
  | (with_reducible exact nin0)
  | ((with_reducible apply nin1); wtm_at "ne0")
  | ((with_reducible apply nin2); (case h => wtm_at "ne0"); (case h' => wtm_at "ne0")))
local macro_rules | `(tactic| wtm_at "hp0") => `(tactic| first
  | wtm_at "as"
  | (with_reducible exact upd_same)
  | (with_reducible refine (upd_ne ?h1).trans ?h2; (case h1 => wtm_at "ne0"); (case h2 => wtm_at "hp0"))
  | ((with_reducible apply Kp.get); (case x => wtm_at "as"); (case n => wtm_at "nin0"); (case e => wtm_at "hp0")))
local macro_rules | `(tactic| wtm_at "ne1") => `(tactic| first
  | wtm_at "ne0"
  | ((with_reducible apply ne_new); (case x => wtm_at "as"); (case y => wtm_at "hp0"))
  | (apply Ne.symm; (with_reducible apply ne_new); (case x => wtm_at "as"); (case y => wtm_at "hp0")))
local macro_rules | `(tactic| wtm_at "hp1") => `(tactic| first
  | wtm_at "as"
  | (with_reducible exact upd_same)
  | (with_reducible refine (upd_ne ?h1).trans ?h2; (case h1 => wtm_at "ne1"); (case h2 => wtm_at "hp1"))
  | ((with_reducible apply Kp.get); (case x => wtm_at "as"); (case n => wtm_at "nin0"); (case e => wtm_at "hp1")))
local macro_rules | `(tactic| wtm_at "ne") => `(tactic| first
  | wtm_at "ne0"
  | ((with_reducible apply ne_new); (case x => wtm_at "as"); (case y => wtm_at "hp1"))
  | (apply Ne.symm; (with_reducible apply ne_new); (case x => wtm_at "as"); (case y => wtm_at "hp1"))
  | ((with_reducible apply ne_of); (case h => wtm_at "as"); (case h' => wtm_at "as"); (case d => (intro z; cases z))))
local macro_rules | `(tactic| wtm_at "nin") => `(tactic| first
  | (with_reducible exact nin0)
  | ((with_reducible apply nin1); wtm_at "ne")
  | ((with_reducible apply nin2); (case h => wtm_at "ne"); (case h' => wtm_at "ne")))
local macro_rules | `(tactic| wtm_at "hp") => `(tactic| first
  | wtm_at "as"
  | (with_reducible exact upd_same)
  | (with_reducible refine (upd_ne ?h1).trans ?h2; (case h1 => wtm_at "ne"); (case h2 => wtm_at "hp"))
  | ((with_reducible apply Kp.get); (case x => wtm_at "as"); (case n => wtm_at "nin"); (case e => wtm_at "hp")))
local macro_rules | `(tactic| wtm_at "kp") => `(tactic| first
  | wtm_at "as"
  | (with_reducible exact Kp.refl _ _)
  | ((with_reducible apply Kp.new); (case n => wtm_at "as"); (case x => wtm_at "kp"))
  | ((with_reducible refine Kp.put (u := ?hu) ?h1 in1 ?h2 ?h3); (case h2 => wtm_at "hp"); (case h3 => exact True.intro); (case h1 => wtm_at "kp"))
  | ((with_reducible refine Kp.put (u := ?hu) ?h1 in2 ?h2 ?h3); (case h2 => wtm_at "hp"); (case h3 => exact True.intro); (case h1 => wtm_at "kp"))
  | ((with_reducible apply Kp.old); (case n => wtm_at "as"); (case x => wtm_at "kp"))
  | ((with_reducible apply Kp.last); (case y => wtm_at "as"); (case x => wtm_at "kp")))
local macro_rules | `(tactic| wtm_at "sq") => `(tactic| first
  | ((with_reducible show SqL _ _ _ _); wtm_at "as")
  | ((with_reducible show SqT _ _ _ _); wtm_at "as")
  | ((with_reducible apply SqL.of); wtm_at "hp")
  | ((with_reducible apply SqT.of); wtm_at "hp"))
local macro_rules | `(tactic| wtm_at "side") => `(tactic| first
  | rfl
  | wtm_at "as"
  | exact ⟨by wtm_at "as", by wtm_at "as"⟩
  | decide
  | exact ⟨by decide, by decide⟩
  | exact .inr ⟨by decide, by decide⟩
  | exact .inl ⟨by omega, by omega⟩
  | exact .inr ⟨by omega, by omega⟩
  | exact ⟨by omega, by omega⟩
  | (simp only [List.length_cons, List.length_nil]; decide)
  | omega)
local macro_rules | `(tactic| wtm_at "lk") => `(tactic| first
  | wtm_at "as"
  | exact lk_hit
  | ((with_reducible refine (lk_skip ?h1).trans ?h2); (case h1 => decide +kernel); (case h2 => wtm_at "lk"))
  | rfl)
local macro_rules | `(tactic| wtm_at "pf") => `(tactic| first
  | exact put_nil
  | exact put_hit
  | ((with_reducible refine put_skip ?h1 ?h2); (case h1 => decide +kernel); (case h2 => wtm_at "pf")))
local macro_rules | `(tactic| wtm_at "s1") => `(tactic| first
  | refine ⟨_, rfl, ?_⟩
  | refine ⟨_, _, rfl, rfl, ?_⟩
  | refine ⟨_, _, rfl, ?_⟩
  | (refine And.intro ?h1 ?h2; (case h1 => wtm_at "side"))
  | refine Or.inl ⟨_, rfl, ?_⟩
  | refine ⟨_, _, _, _, rfl, rfl, SqL.of (by wtm_at "hp"), rfl, ?_⟩
  | refine ⟨_, _, _, _, rfl, rfl, SqT.of (by wtm_at "hp"), rfl, ?_⟩
  | refine ⟨_, _, _, _, rfl, rfl, (by wtm_at "hp"), rfl, ?_⟩
  | refine ⟨_, _, rfl, (by wtm_at "sq"), ?_⟩
  | refine ⟨_, _, rfl, .inl (by wtm_at "sq"), ?_⟩
  | refine ⟨_, _, rfl, .inr (by wtm_at "sq"), ?_⟩
  | refine ⟨.inl ⟨rfl, _, SqL.of (by wtm_at "hp")⟩, ?_⟩)

def top (i : Nat) : Stmt := PySem.Challenge.pw_tailtables_k36_scripts_joined.main.body.getD i (.Pass ⟨0, 0, 0, 0⟩)
abbrev s_BadScript___init__ : Stmt := inClass (top 2) 0
theorem sc_BadScript___init__ : FnScope ["self", "steps", "bits"] ["self", "steps", "bits"] (defScope s_BadScript___init__) := ⟨rfl, rfl, rfl, by decide +kernel, rfl, by decide +kernel, by decide +kernel⟩
abbrev s_is_integer : Stmt := top 4
theorem sc_is_integer : FnScope ["thing"] ["thing"] (defScope s_is_integer) := ⟨rfl, rfl, rfl, by decide +kernel, rfl, by decide +kernel, by decide +kernel⟩
abbrev s_are_bits : Stmt := top 6
theorem sc_are_bits : FnScope ["things", "one"] ["things"] (defScope s_are_bits) := ⟨rfl, rfl, rfl, by decide +kernel, rfl, by decide +kernel, by decide +kernel⟩
abbrev s_Script___init__ : Stmt := inClass (top 7) 1
theorem sc_Script___init__ : FnScope ["self", "steps", "bits"] ["self", "steps", "bits"] (defScope s_Script___init__) := ⟨rfl, rfl, rfl, by decide +kernel, rfl, by decide +kernel, by decide +kernel⟩
abbrev s_Script_none : Stmt := inClass (top 7) 2
theorem sc_Script_none : FnScope ["cls"] ["cls"] (defScope s_Script_none) := ⟨rfl, rfl, rfl, by decide +kernel, rfl, by decide +kernel, by decide +kernel⟩
abbrev s_Script___eq__ : Stmt := inClass (top 7) 3
theorem sc_Script___eq__ : FnScope ["self", "other"] ["self", "other"] (defScope s_Script___eq__) := ⟨rfl, rfl, rfl, by decide +kernel, rfl, by decide +kernel, by decide +kernel⟩
abbrev s_Script___lt__ : Stmt := inClass (top 7) 4
theorem sc_Script___lt__ : FnScope ["self", "other"] ["self", "other"] (defScope s_Script___lt__) := ⟨rfl, rfl, rfl, by decide +kernel, rfl, by decide +kernel, by decide +kernel⟩
abbrev s_Script___le__ : Stmt := inClass (top 7) 5
theorem sc_Script___le__ : FnScope ["self", "other"] ["self", "other"] (defScope s_Script___le__) := ⟨rfl, rfl, rfl, by decide +kernel, rfl, by decide +kernel, by decide +kernel⟩
abbrev s_Script___add__ : Stmt := inClass (top 7) 6
theorem sc_Script___add__ : FnScope ["self", "other"] ["self", "other"] (defScope s_Script___add__) := ⟨rfl, rfl, rfl, by decide +kernel, rfl, by decide +kernel, by decide +kernel⟩
abbrev s_Script___mul__ : Stmt := inClass (top 7) 7
theorem sc_Script___mul__ : FnScope ["self", "k"] ["self", "k"] (defScope s_Script___mul__) := ⟨rfl, rfl, rfl, by decide +kernel, rfl, by decide +kernel, by decide +kernel⟩
abbrev s_Script___rmul__ : Stmt := inClass (top 7) 8
theorem sc_Script___rmul__ : FnScope ["self", "k"] ["self", "k"] (defScope s_Script___rmul__) := ⟨rfl, rfl, rfl, by decide +kernel, rfl, by decide +kernel, by decide +kernel⟩
abbrev s_Script___len__ : Stmt := inClass (top 7) 9
theorem sc_Script___len__ : FnScope ["self"] ["self"] (defScope s_Script___len__) := ⟨rfl, rfl, rfl, by decide +kernel, rfl, by decide +kernel, by decide +kernel⟩
abbrev s_Script___iter__ : Stmt := inClass (top 7) 10
theorem sc_Script___iter__ : FnScope ["self"] ["self"] (defScope s_Script___iter__) := ⟨rfl, rfl, rfl, by decide +kernel, rfl, by decide +kernel, by decide +kernel⟩
abbrev s_Script___bool__ : Stmt := inClass (top 7) 11
theorem sc_Script___bool__ : FnScope ["self"] ["self"] (defScope s_Script___bool__) := ⟨rfl, rfl, rfl, by decide +kernel, rfl, by decide +kernel, by decide +kernel⟩
abbrev s_bag : Stmt := top 9
theorem sc_bag : FnScope ["_law_script", "_law_at", "_law_cell", "_law_vast"] ["_law_script", "_law_at"] (defScope s_bag) := ⟨rfl, rfl, rfl, by decide +kernel, rfl, by decide +kernel, by decide +kernel⟩
abbrev s_take : Stmt := top 10
theorem sc_take : FnScope ["_law_bag_here", "_law_many", "_law_digit", "_law_once", "_law_twice"] ["_law_bag_here", "_law_many"] (defScope s_take) := ⟨rfl, rfl, rfl, by decide +kernel, rfl, by decide +kernel, by decide +kernel⟩
abbrev s_some : Stmt := top 11
theorem sc_some : FnScope ["_law_bag_here", "_law_bits", "_law_turn"] ["_law_bag_here"] (defScope s_some) := ⟨rfl, rfl, rfl, by decide +kernel, rfl, by decide +kernel, by decide +kernel⟩
abbrev s_is : Stmt := top 12
theorem sc_is : FnScope ["_law_told", "_law_steps", "_law_bits"] ["_law_told", "_law_steps", "_law_bits"] (defScope s_is) := ⟨rfl, rfl, rfl, by decide +kernel, rfl, by decide +kernel, by decide +kernel⟩
abbrev s_sums : Stmt := top 13
theorem sc_sums : FnScope ["_law_pairs", "_law_told", "_law_a", "_law_b", "_law_c", "_law_one", "_law_two", "_law_three", "_law_due", "_law_none"] ["_law_pairs", "_law_told"] (defScope s_sums) := ⟨rfl, rfl, rfl, by decide +kernel, rfl, by decide +kernel, by decide +kernel⟩
abbrev s_times : Stmt := top 14
theorem sc_times : FnScope ["_law_pair", "_law_told", "_law_many", "_law_more", "_law_steps", "_law_bits", "_law_total", "_law_turn"] ["_law_pair", "_law_told", "_law_many", "_law_more"] (defScope s_times) := ⟨rfl, rfl, rfl, by decide +kernel, rfl, by decide +kernel, by decide +kernel⟩
abbrev s_law : Stmt := top 15
theorem sc_law : FnScope ["_law_script", "_law_at", "_law_bag_here", "_law_pairs", "_law_told", "_law_many", "_law_more", "_law_turn", "_law_steps", "_law_bits", "_law_k"] ["_law_script"] (defScope s_law) := ⟨rfl, rfl, rfl, by decide +kernel, rfl, by decide +kernel, by decide +kernel⟩
/-! the draws -/
def BagAt (H : Hp) (b : Addr) (N : Nat) : Prop := ∃ c x n : Int, H b = some (.lst [.int c, .int x, .int n]) ∧ 0 ≤ c ∧ 0 ≤ x ∧ x < 9223372036854775808 ∧ 0 ≤ n ∧ n ≤ N
theorem BagAt.at {H : Hp} {b : Addr} {N : Nat} (h : BagAt H b N) : ∃ xs, H b = some (.lst xs) := by
  obtain ⟨c, x, n, e, _⟩ := h
  exact ⟨_, e⟩
theorem BagAt.keep {S : List Addr} {H H' : Hp} {b : Addr} {N : Nat} (h : BagAt H b N) (k : Kp S H H') (n : b ∉ S) : BagAt H' b N := by
  obtain ⟨c, x, m, e, r⟩ := h
  exact ⟨c, x, m, k.get n e, r⟩
theorem BagAt.upd {H : Hp} {b p : Addr} {N : Nat} {o : HO} (h : BagAt H b N) (k : b ≠ p) : BagAt (upd H p o) b N := by
  obtain ⟨c, x, m, e, r⟩ := h
  exact ⟨c, x, m, (upd_ne k).trans e, r⟩
theorem BagAt.mono {H : Hp} {b : Addr} {N M : Nat} (h : BagAt H b N) (k : N ≤ M) : BagAt H b M := by
  obtain ⟨c, x, m, e, r1, r2, r3, r4, r5⟩ := h
  exact ⟨c, x, m, e, r1, r2, r3, r4, by omega⟩
theorem BagAt.ne {H : Hp} {b p : Addr} {N : Nat} (h : BagAt H b N) (k : H p = none) : b ≠ p := by
  obtain ⟨c, x, m, e, _⟩ := h
  intro z
  rw [z, k] at e
  cases e
def spTake : Sp := fun vs H Q _ => ∃ (b : Addr) (m : Int) (N : Nat), vs = [.ref b, .int m] ∧ BagAt H b N ∧ N < 1000000000000 ∧ 0 < m ∧ m.natAbs.log2 < 9000 ∧
  ∀ (d : Int) (H' : Hp), 0 ≤ d → d < m → BagAt H' b (N + 1) → Kp [b] H H' → Q (.int d) H'
def spBag (K : PySem.W.Frag) : Sp := fun vs H Q _ => ∃ (a : Addr) (at_ : Nat) (ns : List Int), vs = [.ref a, .int (at_ : Int)] ∧ SqL K H a (ns.map V.int) ∧ ns.length ≤ 63 ∧ at_ ≤ 63 ∧
  ∀ (b : Addr) (H' : Hp), H b = none → BagAt H' b 0 → Kp [] H H' → Q (.ref b) H'
structure Txt (K : PySem.W.Frag) (mg : Str → Option Value) : Prop where
  n_len : mg "len" = none
  n_int : mg "int" = none
  n_abs : mg "abs" = none
  n_bool : mg "bool" = none
  n_enumerate : mg "enumerate" = none
  n_list : mg "list" = none
  n_tuple : mg "tuple" = none
  n_range : mg "range" = none
  n_min : mg "min" = none
  n_max : mg "max" = none
  n_all : mg "all" = none
  n_any : mg "any" = none
  n_isinstance : mg "isinstance" = none
theorem log9 {m : Int} (h0 : 0 < m) (h : m < 2 ^ 200) : m.natAbs.log2 < 9000 := by
  have : m.natAbs < 2 ^ 200 := by omega
  exact Nat.lt_of_lt_of_le (PySem.Flt.log2_lt_of (by decide) this) (by decide)
theorem atI_ints {ns : List Int} {j : Nat} (h : j < ns.length) : atI (ns.map V.int) (j : Int) = some (.int ns[j]) := atI_nat (by simp [h])
theorem cut_ints (ns : List Int) (lo hi : Option Int) : ∃ ms : List Int, cutV (ns.map V.int) lo hi = ms.map V.int ∧ ms.length ≤ ns.length ∧ ∀ z ∈ ms, z ∈ ns := by
  unfold cutV
  refine ⟨(ns.drop _).take _, by rw [List.map_take, List.map_drop], ?_, fun z hz => List.mem_of_mem_drop (List.mem_of_mem_take hz)⟩
  rw [List.length_take, List.length_drop]
  omega
section
variable {P : Program} {w : World} {K : PySem.W.Frag} {mg : Str → Option Value} {base : Heap}
theorem c_take (D : Def K mg "_law_take" s_take ["_law_bag_here", "_law_many"]) (T : Txt K mg) : Cal CX0 P w K mg base 1 "_law_take" spTake := by
  refine D.ok sc_take (fun vs H Q E h => ?_) (fun f cdv A outer s H vs Q E hr h => ?_)
  · obtain ⟨b, m, N, rfl, _⟩ := h
    rfl
  · obtain ⟨b, m, N, rfl, ⟨c, x, n, hb, c0, x0, x1, n0, n1⟩, N1, m0, m1, k⟩ := h
    refine ⟨_, (pss_cons (ps_if (pt_cmpR op_gt (pe_ix ix_list (pv 0) pe_int (fun _ _ => rfl)) pe_int (nomark _)) 
      (pss_cons (ps_set (i := 2) sc_take.nd rfl (Or.inl rfl) (pe_op op_mod (pe_callTy call_int1 (by rfl) T.n_int (by decide +kernel) (pa_cons (pe_ix ix_list (pv 0) pe_int (fun _ _ => rfl)) pa_nil)) (pv 1)))
        (pss_cons (ps_asg (pe_op op_fdivW (pe_ix ix_list (pv 0) pe_int (fun _ _ => rfl)) (pv 1)) (pg_sub (pv 0) pe_int set_list))
        (pss_one (ps_ret (pv 2)))))
      pss_nil)
      (pss_cons (ps_asg (pe_op op_add (pe_ix ix_list (pv 0) pe_int (fun _ _ => rfl)) pe_int) (pg_sub (pv 0) pe_int set_list))
      (pss_cons (ps_set (i := 3) sc_take.nd rfl (Or.inl rfl) (pe_op op_add (pe_op op_mul (pe_ix ix_list (pv 0) pe_int (fun _ _ => rfl)) pe_int) pe_int))
      (pss_cons (ps_set (i := 3) sc_take.nd rfl (Or.inl rfl) (pe_op op_mod (pe_callTy call_int1 (by rfl) T.n_int (by decide +kernel) (pa_cons (pe_op op_add (pv 3) (pe_op op_mul (pe_op op_mul pe_int (pe_ix ix_list (pv 0) pe_int (fun _ _ => rfl))) (pe_ix ix_list (pv 0) pe_int (fun _ _ => rfl)))) pa_nil)) pe_int))
      (pss_cons (ps_set (i := 4) sc_take.nd rfl (Or.inl rfl) (pe_op op_mod (pe_callTy call_int1 (by rfl) T.n_int (by decide +kernel) (pa_cons (pe_op op_add (pe_op op_mul (pv 3) (pe_op op_add (pv 3) (pe_ix ix_list (pv 0) pe_int (fun _ _ => rfl)))) (pe_op op_mul pe_int (pe_ix ix_list (pv 0) pe_int (fun _ _ => rfl)))) pa_nil)) pe_int))
      (pss_one (ps_ret (pe_op op_mod (pe_callTy call_int1 (by rfl) T.n_int (by decide +kernel) (pa_cons (pe_op op_fdiv (pv 4) pe_int) pa_nil)) (pv 1))))))))), ?_⟩
    repeat wtm_at "s1"
    refine ite2 (fun c1 => ?_) (fun c1 => ?_)
    · have c2 : 0 < c := of_decide_eq_true c1
      repeat wtm_at "s1"
      exact k _ _ (Int.emod_nonneg _ (by omega)) (Int.emod_lt_of_pos _ m0) ⟨c / m, x, n, upd_same, Int.ediv_nonneg c0 (by omega), x0, x1, n0, by omega⟩ (by wtm_at "kp")
    · repeat wtm_at "s1"
      exact k _ _ (Int.emod_nonneg _ (by omega)) (Int.emod_lt_of_pos _ m0) ⟨c, x, n + 1, upd_same, c0, x0, x1, by omega, by omega⟩ (by wtm_at "kp")
theorem c_bag (D : Def K mg "_law_bag" s_bag ["_law_script", "_law_at"]) (T : Txt K mg) : Cal CX0 P w K mg base 1 "_law_bag" (spBag K) := by
  refine D.ok sc_bag (fun vs H Q E h => ?_) (fun f cdv A outer s H vs Q E hr h => ?_)
  · obtain ⟨b, m, ns, rfl, _⟩ := h
    rfl
  · obtain ⟨a, at_, ns, rfl, hS, n63, a63, k⟩ := h
    refine ⟨_, (C8.pss_cut (ps_set (i := 2) sc_bag.nd rfl (Or.inl rfl) (pe_ifExp (pt_cmpR op_lt (pv 1) (pe_callB call_len_seq (by rfl) T.n_len (by decide +kernel) (pa_cons (pv 0) pa_nil)) (nomark _)) (pe_ix ix_list (pv 0) (pv 1) (fun _ _ => rfl)) pe_int))
      (pss_cons (ps_set (i := 3) sc_bag.nd rfl (Or.inl rfl) (pe_callB call_abs (by rfl) T.n_abs (by decide +kernel) (pa_cons (pv 2) pa_nil)))
      (pss_one (ps_ret (pe_lst (pa_cons (pe_ifExp (pt_cmpR op_ge (pv 3) (pe_op op_pow pe_int pe_int) (nomark _)) (pv 3) pe_int) (pa_cons (pe_op op_add (pe_op op_add (pe_op op_mod (pe_callTy call_int1 (by rfl) T.n_int (by decide +kernel) (pa_cons (pv 2) pa_nil)) pe_int) (pe_op op_mul pe_int (pv 1))) pe_int) (pa_cons pe_int pa_nil)))))))), ?_⟩
    refine ⟨fun σ G => G = H ∧ ∃ c : Int, σ = [some (.ref a), some (.int (at_ : Int)), some (.int c), none], ?_, ?_⟩
    · refine ⟨_, rfl, _, rfl, a, _, rfl, .inl hS, _, _, rfl, rfl, _, rfl, ?_⟩
      rw [List.length_map]
      refine ite2 (fun c1 => ?_) (fun c1 => ?_)
      · have hat : at_ < ns.length := by have := of_decide_eq_true c1; omega
        exact ⟨_, rfl, _, rfl, a, _, _, _, rfl, rfl, hS, atI_ints hat, rfl, _, rfl⟩
      · exact ⟨rfl, 0, rfl⟩
    · rintro σ G ⟨rfl, c, rfl⟩
      repeat wtm_at "s1"
      have fin : ∀ z : Int, 0 ≤ z → ∀ p, G p = none → Q (.ref p) (upd G p (.lst [.int z, .int (c % 4611686018427387847 + 131071 * (at_ : Int) + 257), .int 0])) := fun z z0 p hp =>
        k p _ hp ⟨z, _, 0, upd_same, z0, by omega, by omega, by omega, by omega⟩ (by wtm_at "kp")
      have ab : 0 ≤ (if 0 ≤ c then c else -c) := by split <;> omega
      refine ite2 (fun c1 => ?_) (fun c1 => ?_)
      · repeat wtm_at "s1"
        exact fin _ (by omega)
      · repeat wtm_at "s1"
        exact fin 0 (by omega)
end

/-! scripts -/
def sF (i : Int) (l : Addr) : List (Str × V) := [("steps", .int i), ("bits", .ref l)]
theorem sF_make (i : Int) (l : Addr) : putF "bits" (.ref l) (putF "steps" (.int i) []) = sF i l := by
  have e1 : putF "steps" (.int i) [] = [((Str.ofString "steps"), V.int i)] := by wtm_at "pf"
  rw [e1]
  unfold sF
  wtm_at "pf"
theorem sF_s (i : Int) (l : Addr) : (sF i l).lookup ("steps" : Str) = some (.int i) := by unfold sF; wtm_at "lk"
theorem sF_b (i : Int) (l : Addr) : (sF i l).lookup ("bits" : Str) = some (.ref l) := by unfold sF; wtm_at "lk"
def plainTys : List String := ["tuple", "list", "int", "NoneType", "str", "bool"]
structure Scp (K : PySem.W.Frag) (mg : Str → Option Value) (C : Addr) : Prop where
  cl : Cls K C
  nS : NoAttr K C "steps"
  nB : NoAttr K C "bits"
  g_Script : mg "Script" = some (.ref C)
  ca : PySem.W.findIn K (.ref C) "__class__" = some (some (.builtin "object.__class__"))
  cn : PySem.W.specialIn K (.builtin "object.__class__") "__get__" = some (some (.builtin "getset_descriptor.__get__"))
  ct : PySem.W.takesIn K (.builtin "object.__class__") = some true
  cm : PySem.W.mroIn K C (.type "object") = some true
  oth : ∀ t ∈ plainTys, PySem.W.kitOne K (.type t) (.ref C) = some false ∧ PySem.W.notFirst K C (.type t) = true
/-- a script at p -/
def ScAt (C : Addr) (H : Hp) (p : Addr) (i : Int) (l : Addr) (ns : List Int) : Prop := (∃ dx, H p = some (.ins C dx (sF i l))) ∧ H l = some (.tup (ns.map V.int))
theorem ScAt.keep {C p l : Addr} {H H' : Hp} {i : Int} {ns : List Int} (h : ScAt C H p i l ns) {S : List Addr} (k : Kp S H H') (n : p ∉ S) : ScAt C H' p i l ns := by
  obtain ⟨⟨dx, e⟩, e2⟩ := h
  exact ⟨⟨dx, k.get n e⟩, k.tup _ _ e2⟩
section
variable {P : Program} {w : World} {K : PySem.W.Frag} {mg : Str → Option Value} {base : Heap} {C : Addr}
theorem Scp.ty (S : Scp K mg C) {H : Hp} {p dx : Addr} {fs : List (Str × V)} (h : H p = some (.ins C dx fs)) : TyX K H (.ref p) (.ref C) := .base (.ins h S.cl S.ca S.cn S.ct S.cm)
theorem kit_self : PySem.W.kitOne K (.ref C) (.ref C) = some true := by
  unfold PySem.W.kitOne
  rw [if_pos]
  simp
theorem nf_self : PySem.W.notFirst K C (.ref C) = true := by
  unfold PySem.W.notFirst
  simp
theorem ifT {b : Bool} {p q : Prop} (h : b = true) (x : p) : if b = true then p else q := by rw [if_pos h]; exact x
theorem ifF {b : Bool} {p q : Prop} (h : b = false) (x : q) : if b = true then p else q := by rw [if_neg (by rw [h]; decide)]; exact x
def spIsInt : Sp := fun vs H Q _ => ∃ i : Int, vs = [.int i] ∧ Q (.bl true) H
theorem c_isint (D : Def K mg "is_integer" s_is_integer ["thing"]) (T : Txt K mg) : Cal CX0 P w K mg base 1 "is_integer" spIsInt := by
  refine D.ok sc_is_integer (fun vs H Q E h => ?_) (fun f cdv A outer s H vs Q E hr h => ?_)
  · obtain ⟨i, rfl, _⟩ := h
    rfl
  · obtain ⟨i, rfl, k⟩ := h
    refine ⟨_, (pss_one (ps_ret (pe_and (pe_callB call_isi (by rfl) T.n_isinstance (by decide +kernel) (pa_cons (pv 0) (pa_cons (pe_bltn (v := .ty "int") rfl T.n_int (by decide +kernel) rfl) pa_nil))) (pe_one (pe_not (pe_callB call_isi (by rfl) T.n_isinstance (by decide +kernel) (pa_cons (pv 0) (pa_cons (pe_bltn (v := .ty "bool") rfl T.n_bool (by decide +kernel) rfl) pa_nil)))))))), ?_⟩
    refine ⟨_, rfl, _, _, _, _, true, rfl, .ty "int", .base (.int i), kit_ty (by decide +kernel), ?_⟩
    exact ⟨_, rfl, ifT rfl ⟨_, rfl, _, _, _, _, false, rfl, .ty "bool", .base (.int i), kit_ty (by decide +kernel), _, rfl, k⟩⟩
def Bits (ns : List Int) : Prop := ∀ z ∈ ns, 0 ≤ z ∧ z ≤ 1
def spBits : Sp := fun vs H Q _ => ∃ (a : Addr) (ns : List Int), vs = [.ref a] ∧ H a = some (.tup (ns.map V.int)) ∧ ns.length ≤ 1000000 ∧ Bits ns ∧ ∀ H', Kp [] H H' → Q (.bl true) H'
theorem c_bits (D : Def K mg "are_bits" s_are_bits ["things"]) (T : Txt K mg) (cInt : Cal CX0 P w K mg base 1 "is_integer" spIsInt) : Cal CX0 P w K mg base 2 "are_bits" spBits := by
  refine D.ok sc_are_bits (fun vs H Q E h => ?_) (fun f cdv A outer s H vs Q E hr h => ?_)
  · obtain ⟨a, ns, rfl, _⟩ := h
    rfl
  · obtain ⟨a, ns, rfl, ha, hl, hb, k⟩ := h
    refine ⟨_, (pss_cons (ps_if (pt_not (pt_val (pe_callB call_isiT (by rfl) T.n_isinstance (by decide +kernel) (pa_cons (pv 0) (pa_cons (pe_tup (pa_cons (pe_bltn (v := .ty "list") rfl T.n_list (by decide +kernel) rfl) (pa_cons (pe_bltn (v := .ty "tuple") rfl T.n_tuple (by decide +kernel) rfl) pa_nil))) pa_nil))))) 
      (pss_one (ps_ret pe_bl))
      pss_nil)
      (pss_one (ps_ret (pe_callB (cr_all rfl) (by rfl) T.n_all (by decide +kernel) (pa_cons (pe_lc (own := [("one", 1)]) (g := gName 1) (tt := tYes) rfl sc_are_bits.nd (pi_tup (pv 0)) (blkOk_by (own := [("one", 1)]) (N := ["things", "one"]) (sc := defScope s_are_bits) (by decide +kernel)) (fun _ _ _ _ _ => (pg_name (i := 1) sc_are_bits.nd rfl (by first | exact Or.inl rfl | exact Or.inr rfl))) (fun _ _ _ _ _ => pts_nil) (fun _ _ _ _ _ => (pe_and (pe_cl cInt hr pass0 (pa_cons (pv 1) pa_nil)) (pe_one (pe_chain op_le op_le pe_int (pv 1) pe_int))))) pa_nil))))), ?_⟩
    refine ⟨_, rfl, by wtm_at "side", fun tp htp => ⟨_, tp, _, _, _, true, rfl, upd_same, .cons (.ty "list") (.cons (.ty "tuple") .nil), .base (.tup (by wtm_at "hp")), ?_, _, rfl, ?_⟩⟩
    · exact kitAny_cons (b := false) (kit_ty (by decide +kernel)) (fun _ => kitAny_cons (b := true) (kit_ty (by decide +kernel)) (fun z => nomatch z) (fun _ => rfl)) (fun z => nomatch z)
    refine ifF rfl ?_
    have K1 : Kp [] H (upd H tp (.tup [.ty "list", .ty "tuple"])) := by wtm_at "kp"
    have h1 : (upd H tp (.tup [.ty "list", .ty "tuple"])) a = some (.tup (ns.map V.int)) := K1.get nin0 ha
    generalize upd H tp (.tup [.ty "list", .ty "tuple"]) = G at K1 h1 ⊢
    refine ⟨_, rfl, a, rfl, ⟨_, SqT.of h1⟩, fun L hL => ?_⟩
    refine lc_it walk_tup (fun j X => X L = some (.lst ((List.replicate j true).map V.bl)) ∧ Kp [] G X) ⟨upd_same, by wtm_at "kp"⟩ (fun j X _ h => SqT.of (h.2.get nin0 h1)) ?_ ?_
    · rintro j x X X' hj ⟨hX, KX⟩ ⟨rfl, hx⟩
      obtain ⟨z, hz, rfl⟩ : ∃ z, ns[j]? = some z ∧ V.int z = x := by
        rw [List.getElem?_map] at hx
        exact Option.map_eq_some_iff.mp hx
      obtain ⟨z0, z1⟩ := hb z (List.mem_of_getElem? hz)
      rw [List.length_map] at hj
      refine ⟨rfl, _, rfl, z, rfl, _, rfl, ifT rfl ⟨_, rfl, _, _, rfl, rfl, _, rfl, ifT (decide_eq_true z0) ⟨_, _, rfl, rfl, _, hX, ?_, ?_, ?_⟩⟩⟩
      · rw [List.length_map, List.length_replicate]; show j < 16777216; omega
      · rw [upd_same]
        show some (HO.lst (_ ++ [V.bl (decide (z ≤ 1))])) = _
        rw [decide_eq_true z1, List.replicate_succ', List.map_append]; rfl
      · exact Kp.old KX hL
    · rintro X ⟨hX, KX⟩
      refine ⟨L, _, rfl, SqL.of hX, ?_⟩
      rw [show (List.replicate (ns.map V.int).length true).all id = true by simp]
      exact k _ (K1.trans KX)
def spInit (C : Addr) : Sp := fun vs H Q _ => ∃ (p q dx : Addr) (i : Int) (ns : List Int), vs = [.ref p, .int i, .ref q] ∧ H p = some (.ins C dx []) ∧ H q = some (.tup (ns.map V.int)) ∧ Bits ns ∧ ns.length ≤ 1000000 ∧ (ns.length : Int) ≤ i ∧
  ∀ H' : Hp, ScAt C H' p i q ns → Kp [p] H H' → Q .non H'
theorem m_init {f C : Addr} (D : Mdef K "__init__" "Script.__init__" s_Script___init__ ["self", "steps", "bits"] f) (T : Txt K mg) (S : Scp K mg C) (M : Mk K C f) (cInt : Cal CX0 P w K mg base 1 "is_integer" spIsInt) (cBits : Cal CX0 P w K mg base 2 "are_bits" spBits) :
    Mak CX0 P w K mg base 3 "Script" C (spInit C) := by
  obtain ⟨fd, F, b⟩ := D.ex
  refine ⟨f, fd, _, M, F.ok sc_Script___init__ (fun vs H Q E h => ?_) (fun cdv A outer s H vs Q E hr h => ?_), S.g_Script, b⟩
  · obtain ⟨p, q, dx, i, ns, rfl, _⟩ := h
    rfl
  · obtain ⟨p, q, dx, i, ns, rfl, hp, hq, hb, hl, hi, k⟩ := h
    refine ⟨_, (pss_cons (ps_if (PW.pt (pw_or (pt_not (pt_val (pe_cl cInt hr pass0 (pa_cons (pv 1) pa_nil)))) (pw_or (pt_cmpR op_lt (pv 1) pe_int (nomark _)) (pw_or (pt_not (pt_val (pe_cl cBits hr pass0 (pa_cons (pv 2) pa_nil)))) (pw_or1 (pt_cmpR op_gt (pe_callB call_len_seq (by rfl) T.n_len (by decide +kernel) (pa_cons (pv 2) pa_nil)) (pv 1) (nomark _))))))) 
      (pss_one ps_never)
      pss_nil)
      (pss_cons (ps_fld (pv 0) (pv 1) rfl)
      (pss_one (ps_fld (pv 0) (pe_callTy call_tuple_of (by rfl) T.n_tuple (by decide +kernel) (pa_cons (pv 2) pa_nil)) rfl)))), ?_⟩
    refine ⟨_, rfl, i, rfl, _, rfl, ?_⟩
    refine ifF rfl ⟨_, rfl, _, _, rfl, rfl, _, rfl, ifF (decide_eq_false (by omega)) ⟨_, rfl, q, ns, rfl, hq, hl, hb, fun H1 K1 => ⟨_, rfl, ifF rfl ⟨_, rfl, q, _, rfl, .inr (SqT.of (K1.get nin0 hq)), _, rfl, _, _, rfl, rfl, _, rfl, ?_⟩⟩⟩⟩
    refine ifF (decide_eq_false (by rw [List.length_map]; omega)) ?_
    have hp1 := K1.get nin0 hp
    have npq : q ≠ p := by wtm_at "ne"
    have hq1 := K1.get nin0 hq
    refine ⟨_, rfl, _, rfl, p, C, dx, [], rfl, hp1, S.cl, S.nS, by decide, _, rfl, q, _, rfl, .inr ⟨SqT.of (by wtm_at "hp"), _, rfl, p, C, dx, _, rfl, upd_same, S.cl, S.nB, ?_, ?_⟩⟩
    · exact Nat.lt_of_le_of_lt (Nat.le_refl 1) (by decide)
    · have K1' : Kp [p] H H1 := K1.more _
      refine k _ ⟨⟨dx, ?_⟩, ?_⟩ ?_
      · rw [upd_same, sF_make]
      · wtm_at "hp"
      · wtm_at "kp"
def spEq (K : PySem.W.Frag) (C : Addr) : Sp := fun vs H Q _ => ∃ (p l : Addr) (i : Int) (ns : List Int) (y : V), vs = [.ref p, y] ∧ ScAt C H p i l ns ∧
  ((∃ (q m : Addr) (j : Int) (ms : List Int), y = .ref q ∧ ScAt C H q j m ms ∧ Q (.bl (decide (i = j ∧ ns = ms))) H) ∨ ∃ t ∈ plainTys, TyX K H y (.type t) ∧ Q (.bl false) H)
theorem eqv_ints (ns ms : List Int) : PyData.eqv (.tuple (ns.map PyData.int)) (.tuple (ms.map PyData.int)) = decide (ns = ms) := by
  rw [PyData.eqv]; exact PySem.W.ked_eqvAll ns ms
theorem eqv_pair (i j : Int) (ns ms : List Int) : PyData.eqv (.tuple [.int i, .tuple (ns.map PyData.int)]) (.tuple [.int j, .tuple (ms.map PyData.int)]) = decide (i = j ∧ ns = ms) := by
  rw [PyData.eqv, PyData.eqvAll, PyData.eqvAll, eqv_ints, PyData.eqvAll, PyData.eqv]
  by_cases h : i = j <;> by_cases h2 : ns = ms <;> simp [h, h2]
theorem m_eq {f C : Addr} (D : Mdef K "__eq__" "Script.__eq__" s_Script___eq__ ["self", "other"] f) (T : Txt K mg) (S : Scp K mg C) : FnR P w K mg base CX0 1 f (spEq K C) := by
  obtain ⟨fd, F, b⟩ := D.ex
  have G : FnOk P w K mg base CX0 1 f fd ["self", "other"] (spEq K C) := by
    refine F.ok sc_Script___eq__ (fun vs H Q E h => ?_) (fun cdv A outer s H vs Q E hr h => ?_)
    · obtain ⟨p, l, i, ns, y, rfl, _⟩ := h
      rfl
    · obtain ⟨p, l, i, ns, y, rfl, ⟨⟨dx, hp⟩, hl⟩, h⟩ := h
      refine ⟨_, (pss_one (ps_ret (pe_and (pe_callB call_isi (by rfl) T.n_isinstance (by decide +kernel) (pa_cons (pv 1) (pa_cons (pe_glob (v := .ref C) rfl S.g_Script rfl) pa_nil))) (pe_and (pe_cmpR op_eq (pe_fld (pv 0) rfl) (pe_fld (pv 1) rfl) (nomark _)) (pe_one (pe_cmpR (op_eqD hr.units) (pe_fld (pv 0) rfl) (pe_fld (pv 1) rfl) (nomark _))))))), ?_⟩
      rcases h with ⟨q, m, j, ms, rfl, ⟨⟨dy, hq⟩, hm⟩, k⟩ | ⟨t, ht, ty, k⟩
      · refine ⟨_, rfl, _, _, _, _, true, rfl, .own C, S.ty hq, kit_self, _, rfl, ifT rfl ?_⟩
        refine ⟨_, rfl, p, C, dx, _, _, rfl, hp, S.cl, S.nS, sF_s _ _, _, rfl, q, C, dy, _, _, rfl, hq, S.cl, S.nS, sF_s _ _, rfl, _, rfl, ?_⟩
        refine ite2 (fun c1 => ?_) (fun c1 => ?_)
        · have e : i = j := by have := of_decide_eq_true c1; cases this; rfl
          refine ⟨_, rfl, p, C, dx, _, _, rfl, hp, S.cl, S.nB, sF_b _ _, _, rfl, q, C, dy, _, _, rfl, hq, S.cl, S.nB, sF_b _ _, _, _, .tup (SqT.of hl) (PdAll.dp _ _ (PdAll.ints ns)), .tup (SqT.of hm) (PdAll.dp _ _ (PdAll.ints ms)), shaped_ints _, shaped_ints _, ?_⟩
          rw [eqv_ints, show decide (ns = ms) = decide (i = j ∧ ns = ms) by simp [e]]
          exact k
        · have e : ¬ i = j := fun z => c1 (decide_eq_true (by rw [z]))
          rw [show decide (i = j ∧ ns = ms) = false by simp [e]] at k
          exact k
      · refine ⟨_, rfl, _, _, _, _, false, rfl, .own C, ty, (S.oth t ht).1, _, rfl, ifF rfl k⟩
  exact (G.raw b .nil).imp fun vs H Q E h => by rw [List.append_nil]; exact h
def spLt (C : Addr) (r : Int → List Int → Int → List Int → Bool) : Sp := fun vs H Q _ => ∃ (p l : Addr) (i : Int) (ns : List Int) (q m : Addr) (j : Int) (ms : List Int), vs = [.ref p, .ref q] ∧ ScAt C H p i l ns ∧ ScAt C H q j m ms ∧
  ∀ H', Kp [] H H' → Q (.bl (r i ns j ms)) H'
theorem m_lt {f C : Addr} (D : Mdef K "__lt__" "Script.__lt__" s_Script___lt__ ["self", "other"] f) (T : Txt K mg) (S : Scp K mg C) : FnR P w K mg base CX0 1 f (spLt C lt2) := by
  obtain ⟨fd, F, b⟩ := D.ex
  have G : FnOk P w K mg base CX0 1 f fd ["self", "other"] (spLt C lt2) := by
    refine F.ok sc_Script___lt__ (fun vs H Q E h => ?_) (fun cdv A outer s H vs Q E hr h => ?_)
    · obtain ⟨p, l, i, ns, q, m, j, ms, rfl, _⟩ := h
      rfl
    · obtain ⟨p, l, i, ns, q, m, j, ms, rfl, ⟨⟨dx, hp⟩, hl⟩, ⟨⟨dy, hq⟩, hm⟩, k⟩ := h
      refine ⟨_, (pss_cons (ps_if (pt_not (pt_val (pe_callB call_isi (by rfl) T.n_isinstance (by decide +kernel) (pa_cons (pv 1) (pa_cons (pe_glob (v := .ref C) rfl S.g_Script rfl) pa_nil))))) 
      (pss_one ps_never)
      pss_nil)
      (pss_one (ps_ret (pe_cmpR (op_lt2 hr.units3) (pe_tup (pa_cons (pe_fld (pv 0) rfl) (pa_cons (pe_fld (pv 0) rfl) pa_nil))) (pe_tup (pa_cons (pe_fld (pv 1) rfl) (pa_cons (pe_fld (pv 1) rfl) pa_nil))) (nomark _))))), ?_⟩
      refine ⟨_, rfl, _, _, _, _, true, rfl, .own C, S.ty hq, kit_self, _, rfl, ifF rfl ?_⟩
      refine ⟨_, rfl, p, C, dx, _, _, rfl, hp, S.cl, S.nS, sF_s _ _, _, rfl, p, C, dx, _, _, rfl, hp, S.cl, S.nB, sF_b _ _, by wtm_at "side", fun u hu => ?_⟩
      have hq1 : (upd H u (.tup [.int i, .ref l])) q = some (.ins C dy (sF j m)) := by wtm_at "hp"
      refine ⟨_, rfl, q, C, dy, _, _, rfl, hq1, S.cl, S.nS, sF_s _ _, _, rfl, q, C, dy, _, _, rfl, hq1, S.cl, S.nB, sF_b _ _, by wtm_at "side", fun v hv => ?_⟩
      have e0 : (upd H u (.tup [.int i, .ref l])) u = some (.tup [.int i, .ref l]) := upd_same
      have e1 : (upd (upd H u (.tup [.int i, .ref l])) v (.tup [.int j, .ref m])) u = some (.tup [.int i, .ref l]) := by wtm_at "hp"
      have e2 : (upd (upd H u (.tup [.int i, .ref l])) v (.tup [.int j, .ref m])) l = some (.tup (ns.map V.int)) := by wtm_at "hp"
      have e3 : (upd (upd H u (.tup [.int i, .ref l])) v (.tup [.int j, .ref m])) m = some (.tup (ms.map V.int)) := by wtm_at "hp"
      exact ⟨i, ns, j, ms, ⟨u, l, rfl, e1, e2⟩, ⟨v, m, rfl, upd_same, e3⟩, k _ (by wtm_at "kp")⟩
  exact (G.raw b .nil).imp fun vs H Q E h => by rw [List.append_nil]; exact h
def OkP (pr : Int × List Int) : Prop := Bits pr.2 ∧ pr.2.length ≤ 1000000 ∧ (pr.2.length : Int) ≤ pr.1
def Prs (H : Hp) (xs : List V) (ps : List (Int × List Int)) : Prop := xs.length = ps.length ∧ ∀ (k : Nat) (pr : Int × List Int), ps[k]? = some pr → OkP pr ∧ ∃ v, xs[k]? = some v ∧ Pr H v pr.1 pr.2
theorem Pr.keep {H H' : Hp} {v : V} {i : Int} {ns : List Int} {S : List Addr} (h : Pr H v i ns) (k : Kp S H H') : Pr H' v i ns := by
  obtain ⟨a, p, e, h1, h2⟩ := h
  exact ⟨a, p, e, k.tup _ _ h1, k.tup _ _ h2⟩
theorem Prs.keep {H H' : Hp} {xs : List V} {ps : List (Int × List Int)} {S : List Addr} (h : Prs H xs ps) (k : Kp S H H') : Prs H' xs ps := by
  refine ⟨h.1, fun j pr e => ?_⟩
  obtain ⟨o, v, e1, e2⟩ := h.2 j pr e
  exact ⟨o, v, e1, e2.keep k⟩
theorem Prs.snoc {H : Hp} {xs : List V} {ps : List (Int × List Int)} {v : V} {pr : Int × List Int} (h : Prs H xs ps) (o : OkP pr) (h2 : Pr H v pr.1 pr.2) : Prs H (xs ++ [v]) (ps ++ [pr]) := by
  refine ⟨by simp [h.1], fun j q e => ?_⟩
  by_cases hj : j < ps.length
  · rw [List.getElem?_append_left hj] at e
    rw [List.getElem?_append_left (by rw [h.1]; exact hj)]
    exact h.2 j q e
  · have hj2 : j = ps.length := by
      have := (List.getElem?_eq_some_iff.mp e).1
      rw [List.length_append] at this
      have : j < ps.length + 1 := this
      omega
    subst hj2
    rw [List.getElem?_concat_length] at e
    cases e
    rw [← h.1, List.getElem?_concat_length]
    exact ⟨o, v, rfl, h2⟩
theorem Bits.app {a b : List Int} (h : Bits a) (h2 : Bits b) : Bits (a ++ b) := fun z hz => (List.mem_append.mp hz).elim (h z) (h2 z)
theorem Bits.one {d : Int} (h : 0 ≤ d) (h2 : d < 2) : Bits [d] := fun z hz => by rw [List.mem_singleton.mp hz]; omega
/-- what comparing asks of the class -/
structure Cmp (P : Program) (w : World) (K : PySem.W.Frag) (mg : Str → Option Value) (base : Heap) (C fe fl fn : Addr) : Prop where
  hE : PySem.W.findIn K (.ref C) "__eq__" = some (some (.ref fe))
  iE : PySem.W.isFn K (.ref fe) = true
  cE : FnR P w K mg base CX0 1 fe (spEq K C)
  hL : PySem.W.findIn K (.ref C) "__lt__" = some (some (.ref fl))
  iL : PySem.W.isFn K (.ref fl) = true
  cL : FnR P w K mg base CX0 1 fl (spLt C lt2)
  hN : PySem.W.findIn K (.ref C) "__ne__" = some (some (.builtin "object.__ne__"))
  hO : PySem.W.subIn K (.ref C) (.type "object") = some true
theorem shaped_pair (i : Int) (ns : List Int) : SeqAt.shaped (.tuple [.int i, .tuple (ns.map PyData.int)]) = true := by
  have h := shaped_ints ns
  have c := SeqAt.canLay_of_shaped h
  have d := SeqAt.depth_of_shaped h
  have d2 : PyData.depthAll (ns.map PyData.int) = 0 := by
    clear c d h
    induction ns with
    | nil => simp only [List.map_nil, PyData.depthAll]
    | cons n l ih => simp only [List.map_cons, PyData.depthAll, PyData.depth, ih, Nat.max_self]
  rw [PyData.canLay0] at c
  unfold SeqAt.shaped
  simp only [PyData.canLay0, PyData.canLayAll0, PyData.depth, PyData.depthAll, c, d2, Bool.true_and]
  decide
theorem Pr.dp {H : Hp} {v : V} {i : Int} {ns : List Int} (h : Pr H v i ns) : Dp K H v (.tuple [.int i, .tuple (ns.map PyData.int)]) := by
  obtain ⟨a, p, rfl, h1, h2⟩ := h
  exact .tup (SqT.of h1) (.cons (.int i) (.cons (.tup (SqT.of h2) (PdAll.dp _ _ (PdAll.ints ns))) .nil))
section
variable {p q l m : Addr} {i j : Int} {ns ms : List Int} {G : Hp} {Q : VK} {x y : V}
theorem own_lt (S : Scp K mg C) {r : Int → List Int → Int → List Int → Bool} (hp : ScAt C G p i l ns) (hq : ScAt C G q j m ms) (h : ∀ G', Kp [] G G' → Q (.bl (r i ns j ms)) G') : rOwnD K C (spLt C r) E0 (.ref p) (.ref q) G Q := by
  obtain ⟨dx, e⟩ := hp.1
  obtain ⟨dy, e2⟩ := hq.1
  exact ⟨p, dx, _, _, rfl, e, S.ty e2, nf_self, p, l, i, ns, q, m, j, ms, rfl, hp, hq, fun G' k => ⟨_, rfl, h G' k⟩⟩
theorem own_eq (S : Scp K mg C) (hp : ScAt C G p i l ns) (hq : ScAt C G q j m ms) (h : Q (.bl (decide (i = j ∧ ns = ms))) G) : rOwnD K C (spEq K C) E0 (.ref p) (.ref q) G Q := by
  obtain ⟨dx, e⟩ := hp.1
  obtain ⟨dy, e2⟩ := hq.1
  exact ⟨p, dx, _, _, rfl, e, S.ty e2, nf_self, p, l, i, ns, _, rfl, hp, .inl ⟨q, m, j, ms, rfl, hq, ⟨_, rfl, h⟩⟩⟩
theorem own_ne (S : Scp K mg C) (hp : ScAt C G p i l ns) (hq : ScAt C G q j m ms) (h : Q (.bl (!decide (i = j ∧ ns = ms))) G) : rNeOwn K C (spEq K C) E0 (.ref p) (.ref q) G Q := by
  obtain ⟨dx, e⟩ := hp.1
  obtain ⟨dy, e2⟩ := hq.1
  exact ⟨p, dx, _, _, rfl, e, S.ty e2, nf_self, p, l, i, ns, _, rfl, hp, .inl ⟨q, m, j, ms, rfl, hq, ⟨_, rfl, h⟩⟩⟩
theorem own_eqT (S : Scp K mg C) {t : String} (ht : t ∈ plainTys) (ty : TyX K G y (.type t)) (hp : ScAt C G p i l ns) (h : Q (.bl false) G) : rOwnD K C (spEq K C) E0 (.ref p) y G Q := by
  obtain ⟨dx, e⟩ := hp.1
  exact ⟨p, dx, _, _, rfl, e, ty, (S.oth t ht).2, p, l, i, ns, _, rfl, hp, .inr ⟨t, ht, ty, ⟨_, rfl, h⟩⟩⟩
theorem own_neT (S : Scp K mg C) {t : String} (ht : t ∈ plainTys) (ty : TyX K G y (.type t)) (hp : ScAt C G p i l ns) (h : Q (.bl true) G) : rNeOwn K C (spEq K C) E0 (.ref p) y G Q := by
  obtain ⟨dx, e⟩ := hp.1
  exact ⟨p, dx, _, _, rfl, e, ty, (S.oth t ht).2, p, l, i, ns, _, rfl, hp, .inr ⟨t, ht, ty, ⟨_, rfl, h⟩⟩⟩
theorem pr_eq (hx : Pr G x i ns) (hy : Pr G y j ms) (h : Q (.bl (decide (i = j ∧ ns = ms))) G) : rEqD K x y G Q := ⟨_, _, hx.dp, hy.dp, shaped_pair _ _, shaped_pair _ _, by rw [eqv_pair]; exact h⟩
theorem pr_ne (hx : Pr G x i ns) (hy : Pr G y j ms) (h : Q (.bl (!decide (i = j ∧ ns = ms))) G) : rNeD K x y G Q := ⟨_, _, hx.dp, hy.dp, shaped_pair _ _, shaped_pair _ _, by rw [eqv_pair]; exact h⟩
theorem pr_lt (hx : Pr G x i ns) (hy : Pr G y j ms) (h : Q (.bl (lt2 i ns j ms)) G) : rLt2 x y G Q := ⟨i, ns, j, ms, hx, hy, h⟩
theorem pr_le (hx : Pr G x i ns) (hy : Pr G y j ms) (h : Q (.bl (le2 i ns j ms)) G) : rLe2 x y G Q := ⟨i, ns, j, ms, hx, hy, h⟩
theorem eq_turn : decide (j = i ∧ ms = ns) = decide (i = j ∧ ns = ms) := by
  by_cases h : i = j <;> by_cases h2 : ns = ms <;> simp [h, h2, eq_comm]
theorem nn (a : Bool) : (!decide (V.bl a = V.bl a)) = false := by simp
end
theorem ScAt.updL {M p l : Addr} {H : Hp} {i : Int} {ns : List Int} {ys : List V} {o : HO} (h : ScAt C H p i l ns) (hM : H M = some (.lst ys)) : ScAt C (upd H M o) p i l ns := by
  obtain ⟨⟨dx, e⟩, e2⟩ := h
  refine ⟨⟨dx, (upd_ne fun z => ?_).trans e⟩, (upd_ne fun z => ?_).trans e2⟩
  · rw [z, hM] at e; cases e
  · rw [z, hM] at e2; cases e2
/-- the scripts that were made of the pairs -/
def Tld (C : Addr) (H : Hp) (ys : List V) (ps : List (Int × List Int)) : Prop := ∀ (k : Nat) (v : V) (pr : Int × List Int), ys[k]? = some v → ps[k]? = some pr → ∃ s l : Addr, v = .ref s ∧ ScAt C H s pr.1 l pr.2
def spLaw (K : PySem.W.Frag) : Sp := fun vs H Q _ => ∃ (a : Addr) (ns : List Int), vs = [.ref a] ∧ SqL K H a (ns.map V.int) ∧ ns.length ≤ 63 ∧ ∀ H', Q (.bl true) H'
theorem oth_mk (k1 : PySem.W.kitOne K (.type "tuple") (.ref C) = some false) (k2 : PySem.W.kitOne K (.type "list") (.ref C) = some false) (k3 : PySem.W.kitOne K (.type "int") (.ref C) = some false)
    (k4 : PySem.W.kitOne K (.type "NoneType") (.ref C) = some false) (k5 : PySem.W.kitOne K (.type "str") (.ref C) = some false) (k6 : PySem.W.kitOne K (.type "bool") (.ref C) = some false)
    (n1 : PySem.W.subIn K (.type "tuple") (.ref C) = some false) (n2 : PySem.W.subIn K (.type "list") (.ref C) = some false) (n3 : PySem.W.subIn K (.type "int") (.ref C) = some false)
    (n4 : PySem.W.subIn K (.type "NoneType") (.ref C) = some false) (n5 : PySem.W.subIn K (.type "str") (.ref C) = some false) (n6 : PySem.W.subIn K (.type "bool") (.ref C) = some false) :
    ∀ t ∈ plainTys, PySem.W.kitOne K (.type t) (.ref C) = some false ∧ PySem.W.notFirst K C (.type t) = true := by
  have nf : ∀ t : String, PySem.W.subIn K (.type t) (.ref C) = some false → PySem.W.notFirst K C (.type t) = true := fun t h => by
    unfold PySem.W.notFirst
    rw [h]
    simp
  intro t ht
  simp only [plainTys, List.mem_cons, List.not_mem_nil, or_false] at ht
  rcases ht with rfl | rfl | rfl | rfl | rfl | rfl
  · exact ⟨k1, nf _ n1⟩
  · exact ⟨k2, nf _ n2⟩
  · exact ⟨k3, nf _ n3⟩
  · exact ⟨k4, nf _ n4⟩
  · exact ⟨k5, nf _ n5⟩
  · exact ⟨k6, nf _ n6⟩
/-! scripts joined and repeated -/
def Scr (C : Addr) (H : Hp) (r : Addr) (i : Int) (ns : List Int) : Prop := (∃ l, ScAt C H r i l ns) ∧ Bits ns ∧ (ns.length : Int) ≤ i
theorem Scr.keep {H H' : Hp} {r : Addr} {i : Int} {ns : List Int} (h : Scr C H r i ns) (k : Kp [] H H') : Scr C H' r i ns := by
  obtain ⟨⟨l, h1⟩, h2⟩ := h
  exact ⟨⟨l, h1.keep k nin0⟩, h2⟩
theorem make_sc {H : Hp} {q : Addr} {i : Int} {ns : List Int} {Q : VK} {E : XK} (hq : H q = some (.tup (ns.map V.int))) (hb : Bits ns) (hl : ns.length ≤ 1000000) (hi : (ns.length : Int) ≤ i)
    (h : ∀ r H', Scr C H' r i ns → Kp [] H H' → H r = none → Q (.ref r) H') :
    ∀ x dx, H x = none → H dx = none → dx ≠ x → spInit C (V.ref x :: [V.int i, V.ref q]) (upd (upd H dx (.own x)) x (.ins C dx [])) (fun v H2 => v = .non ∧ Q (.ref x) H2) E := by
  intro s dx hs hdx nds
  have hs2 : (upd H dx (.own s)) s = none := (upd_ne nds.symm).trans hs
  have KZ : Kp [s] H (upd (upd H dx (.own s)) s (.ins C dx [])) := Kp.new (Kp.new (Kp.refl _ _) hdx) hs2
  refine ⟨s, q, dx, i, ns, rfl, upd_same, KZ.tup _ _ hq, hb, hl, hi, fun Y hSc KY => ⟨rfl, ?_⟩⟩
  exact h s Y ⟨⟨q, hSc⟩, hb, hi⟩ ((KZ.trans KY).drop hs) hs
theorem cat_t {G : Hp} {l m : Addr} {ns ms : List Int} {Q : VK} (hl : G l = some (.tup (ns.map V.int))) (hm : G m = some (.tup (ms.map V.int))) (hz : ns.length + ms.length ≤ 1000000)
    (h : ∀ t G', G' t = some (.tup ((ns ++ ms).map V.int)) → Kp [] G G' → Q (.ref t) G') : rCatA K (.ref l) (.ref m) G Q := by
  refine ⟨l, m, _, _, rfl, rfl, SqT.of hl, SqT.of hm, ?_, fun e => ?_, fun e1 e => ?_, fun e1 e2 p hp => ?_⟩
  · rw [List.length_map, List.length_map]; exact Nat.le_trans hz (by decide)
  · have : ns = [] := List.map_eq_nil_iff.mp e
    subst this
    exact h m G hm (Kp.refl _ _)
  · have : ms = [] := List.map_eq_nil_iff.mp e
    subst this
    exact h l G (by rw [List.append_nil]; exact hl) (Kp.refl _ _)
  · rw [← List.map_append]
    exact h p _ upd_same (Kp.new (Kp.refl _ _) hp)
def rep (k : Int) (ns : List Int) : List Int := (List.replicate k.toNat ns).flatten
theorem rep_map (k : Int) (ns : List Int) : (List.replicate k.toNat (ns.map V.int)).flatten = (rep k ns).map V.int := by
  unfold rep
  rw [List.map_flatten, List.map_replicate]
theorem rep_one {k : Int} {ns : List Int} (h : ns = [] ∨ k = 1) (h0 : 0 ≤ k) : rep k ns = ns := by
  unfold rep
  rcases h with h | h
  · subst h; simp
  · subst h; simp
theorem rep_len (k : Int) (ns : List Int) : (rep k ns).length = k.toNat * ns.length := by
  unfold rep; simp
theorem rep_bits {k : Int} {ns : List Int} (h : Bits ns) : Bits (rep k ns) := by
  intro z hz
  unfold rep at hz
  obtain ⟨l, h1, h2⟩ := List.mem_flatten.mp hz
  rw [(List.mem_replicate.mp h1).2] at h2
  exact h z h2
theorem rep_t {G : Hp} {l : Addr} {k : Int} {ns : List Int} {Q : VK} (hl : G l = some (.tup (ns.map V.int))) (k0 : 0 ≤ k)
    (h : ∀ t G', G' t = some (.tup ((rep k ns).map V.int)) → Kp [] G G' → Q (.ref t) G') : RepA G l k (ns.map V.int) Q := by
  refine ⟨fun c => ?_, fun c p hp => ?_⟩
  · refine h l G ?_ (Kp.refl _ _)
    rw [rep_one (c.imp (fun e => List.map_eq_nil_iff.mp e) id) k0]
    exact hl
  · rw [rep_map]
    exact h p _ upd_same (Kp.new (Kp.refl _ _) hp)
theorem rep_le {k i : Int} {ns : List Int} (k0 : 0 ≤ k) (h : (ns.length : Int) ≤ i) : ((rep k ns).length : Int) ≤ i * k := by
  rw [rep_len, Int.natCast_mul, Int.toNat_of_nonneg k0, Int.mul_comm]
  exact Int.mul_le_mul_of_nonneg_right h k0
theorem rep_sz {k : Int} {ns : List Int} (k1 : k ≤ 1000) (h : ns.length ≤ 1000) : (rep k ns).length ≤ 1000000 := by
  rw [rep_len]
  exact Nat.le_trans (Nat.mul_le_mul (show k.toNat ≤ 1000 by omega) h) (by decide)
def spAdd (C : Addr) : Sp := fun vs H Q _ => ∃ (p q : Addr) (i j : Int) (ns ms : List Int), vs = [.ref p, .ref q] ∧ Scr C H p i ns ∧ Scr C H q j ms ∧ ns.length + ms.length ≤ 1000000 ∧
  ∀ r H', Scr C H' r (i + j) (ns ++ ms) → Kp [] H H' → Q (.ref r) H'
def spMul (C : Addr) : Sp := fun vs H Q _ => ∃ (p : Addr) (i k : Int) (ns : List Int), vs = [.ref p, .int k] ∧ Scr C H p i ns ∧ 0 ≤ k ∧ k ≤ 1000 ∧ ns.length ≤ 1000 ∧
  ∀ r H', Scr C H' r (i * k) (rep k ns) → Kp [] H H' → Q (.ref r) H'
def spNone (C : Addr) : Sp := fun vs H Q _ => vs = [.ref C] ∧ ∀ r H', Scr C H' r 0 [] → Kp [] H H' → Q (.ref r) H'
theorem m_add {f C : Addr} (D : Mdef K "__add__" "Script.__add__" s_Script___add__ ["self", "other"] f) (T : Txt K mg) (S : Scp K mg C) (cScr : Mak CX0 P w K mg base 3 "Script" C (spInit C)) : FnR P w K mg base CX0 5 f (spAdd C) := by
  obtain ⟨fd, F, b⟩ := D.ex
  have G : FnOk P w K mg base CX0 5 f fd ["self", "other"] (spAdd C) := by
    refine F.ok sc_Script___add__ (fun vs H Q E h => ?_) (fun cdv A outer s H vs Q E hr h => ?_)
    · obtain ⟨p, q, i, j, ns, ms, rfl, _⟩ := h
      rfl
    · obtain ⟨p, q, i, j, ns, ms, rfl, ⟨⟨l, ⟨dx, hp⟩, hl⟩, b1, c1⟩, ⟨⟨m, ⟨dy, hq⟩, hm⟩, b2, c2⟩, hz, k⟩ := h
      refine ⟨_, (pss_cons (ps_if (pt_not (pt_val (pe_callB call_isi (by rfl) T.n_isinstance (by decide +kernel) (pa_cons (pv 1) (pa_cons (pe_glob (v := .ref C) rfl S.g_Script rfl) pa_nil))))) 
      (pss_one ps_never)
      pss_nil)
      (pss_one (ps_ret (pe_mkc cScr hr pass0 (pa_cons (pe_op op_add (pe_fld (pv 0) rfl) (pe_fld (pv 1) rfl)) (pa_cons (pe_op op_catA (pe_fld (pv 0) rfl) (pe_fld (pv 1) rfl)) pa_nil)))))), ?_⟩
      refine ⟨_, rfl, _, _, _, _, true, rfl, .own C, S.ty hq, kit_self, _, rfl, ifF rfl ?_⟩
      refine ⟨_, rfl, p, C, dx, _, _, rfl, hp, S.cl, S.nS, sF_s _ _, _, rfl, q, C, dy, _, _, rfl, hq, S.cl, S.nS, sF_s _ _, _, _, rfl, rfl, _, rfl, p, C, dx, _, _, rfl, hp, S.cl, S.nB, sF_b _ _, _, rfl, q, C, dy, _, _, rfl, hq, S.cl, S.nB, sF_b _ _, ?_⟩
      refine cat_t hl hm hz fun t G' ht KG => ?_
      refine make_sc ht (b1.app b2) (by rw [List.length_append]; exact hz) (by rw [List.length_append]; omega) fun r H' hr' K' _ => ?_
      exact k r H' hr' (KG.trans K')
  exact (G.raw b .nil).imp fun vs H Q E h => by rw [List.append_nil]; exact h
theorem m_mul {f C : Addr} (D : Mdef K "__mul__" "Script.__mul__" s_Script___mul__ ["self", "k"] f) (T : Txt K mg) (S : Scp K mg C) (cScr : Mak CX0 P w K mg base 3 "Script" C (spInit C)) : FnR P w K mg base CX0 5 f (spMul C) := by
  obtain ⟨fd, F, b⟩ := D.ex
  have G : FnOk P w K mg base CX0 5 f fd ["self", "k"] (spMul C) := by
    refine F.ok sc_Script___mul__ (fun vs H Q E h => ?_) (fun cdv A outer s H vs Q E hr h => ?_)
    · obtain ⟨p, i, kk, ns, rfl, _⟩ := h
      rfl
    · obtain ⟨p, i, kk, ns, rfl, ⟨⟨l, ⟨dx, hp⟩, hl⟩, b1, c1⟩, k0, k1, hz, k⟩ := h
      refine ⟨_, (pss_one (ps_ret (pe_mkc cScr hr pass0 (pa_cons (pe_op op_mul (pe_fld (pv 0) rfl) (pv 1)) (pa_cons (pe_op op_repA (pe_fld (pv 0) rfl) (pv 1)) pa_nil))))), ?_⟩
      refine ⟨_, rfl, p, C, dx, _, _, rfl, hp, S.cl, S.nS, sF_s _ _, _, rfl, _, _, rfl, rfl, .inr ⟨by omega, by omega⟩, _, rfl, p, C, dx, _, _, rfl, hp, S.cl, S.nB, sF_b _ _, _, rfl, l, kk, _, rfl, rfl, SqT.of hl, k0, k1, by rw [List.length_map]; exact hz, ?_⟩
      refine rep_t hl k0 fun t G' ht KG => ?_
      refine make_sc ht (rep_bits b1) (rep_sz k1 hz) (rep_le k0 c1) fun r H' hr' K' _ => ?_
      exact k r H' hr' (KG.trans K')
  exact (G.raw b .nil).imp fun vs H Q E h => by rw [List.append_nil]; exact h
theorem m_rmul {f C : Addr} (D : Mdef K "__rmul__" "Script.__rmul__" s_Script___rmul__ ["self", "k"] f) (T : Txt K mg) (S : Scp K mg C) (cScr : Mak CX0 P w K mg base 3 "Script" C (spInit C)) : FnR P w K mg base CX0 5 f (spMul C) := by
  obtain ⟨fd, F, b⟩ := D.ex
  have G : FnOk P w K mg base CX0 5 f fd ["self", "k"] (spMul C) := by
    refine F.ok sc_Script___rmul__ (fun vs H Q E h => ?_) (fun cdv A outer s H vs Q E hr h => ?_)
    · obtain ⟨p, i, kk, ns, rfl, _⟩ := h
      rfl
    · obtain ⟨p, i, kk, ns, rfl, ⟨⟨l, ⟨dx, hp⟩, hl⟩, b1, c1⟩, k0, k1, hz, k⟩ := h
      refine ⟨_, (pss_one (ps_ret (pe_mkc cScr hr pass0 (pa_cons (pe_op op_mul (pe_fld (pv 0) rfl) (pv 1)) (pa_cons (pe_op op_repAR (pv 1) (pe_fld (pv 0) rfl)) pa_nil))))), ?_⟩
      refine ⟨_, rfl, p, C, dx, _, _, rfl, hp, S.cl, S.nS, sF_s _ _, _, rfl, _, _, rfl, rfl, .inr ⟨by omega, by omega⟩, _, rfl, _, rfl, p, C, dx, _, _, rfl, hp, S.cl, S.nB, sF_b _ _, l, kk, _, rfl, rfl, SqT.of hl, k0, k1, by rw [List.length_map]; exact hz, ?_⟩
      refine rep_t hl k0 fun t G' ht KG => ?_
      refine make_sc ht (rep_bits b1) (rep_sz k1 hz) (rep_le k0 c1) fun r H' hr' K' _ => ?_
      exact k r H' hr' (KG.trans K')
  exact (G.raw b .nil).imp fun vs H Q E h => by rw [List.append_nil]; exact h
theorem m_none {f C : Addr} (D : Mdef K "none" "Script.none" s_Script_none ["cls"] f) (T : Txt K mg) (S : Scp K mg C) (cScr : Mak CX0 P w K mg base 3 "Script" C (spInit C)) : FnR P w K mg base CX0 5 f (spNone C) := by
  obtain ⟨fd, F, b⟩ := D.ex
  have G : FnOk P w K mg base CX0 5 f fd ["cls"] (spNone C) := by
    refine F.ok sc_Script_none (fun vs H Q E h => ?_) (fun cdv A outer s H vs Q E hr h => ?_)
    · obtain ⟨rfl, _⟩ := h
      rfl
    · obtain ⟨rfl, k⟩ := h
      refine ⟨_, (pss_one (ps_ret (pe_makeV (pv 0) cScr hr pass0 (pa_cons pe_int (pa_cons (pe_tup pa_nil) pa_nil))))), ?_⟩
      refine ⟨_, rfl, rfl, Nat.zero_le _, fun t ht => ?_⟩
      refine make_sc (ns := []) (i := 0) upd_same (fun _ z => absurd z List.not_mem_nil) (by decide) (by decide) fun r H' hr' K' _ => ?_
      exact k r H' hr' ((Kp.new (Kp.refl _ _) ht).trans K')
  exact (G.raw b .nil).imp fun vs H Q E h => by rw [List.append_nil]; exact h
/-- what joining and repeating ask of the class -/
structure Way (P : Program) (w : World) (K : PySem.W.Frag) (mg : Str → Option Value) (base : Heap) (C fa fx fr p0 fN : Addr) (mc : Value) (cz : ClassData) : Prop where
  sf : PySem.W.selfFirst K C = true
  hA : PySem.W.findIn K (.ref C) "__add__" = some (some (.ref fa))
  iA : PySem.W.isFn K (.ref fa) = true
  cA : FnR P w K mg base CX0 5 fa (spAdd C)
  hX : PySem.W.findIn K (.ref C) "__mul__" = some (some (.ref fx))
  iX : PySem.W.isFn K (.ref fx) = true
  cX : FnR P w K mg base CX0 5 fx (spMul C)
  hR : PySem.W.findIn K (.ref C) "__rmul__" = some (some (.ref fr))
  iR : PySem.W.isFn K (.ref fr) = true
  cR : FnR P w K mg base CX0 5 fr (spMul C)
  sI : PySem.W.subIn K (.type "int") (.ref C) = some false
  sJ : PySem.W.subIn K (.ref C) (.type "int") = some false
  cd : PySem.W.clsIn K C = some cz
  mro : cz.mro = [.ref C, .type "object"]
  hI : PySem.W.findIn K (.ref C) "__iadd__" = some none
  rd : ClX.CRead K C mc
  cm : ClX.CMet K C mc "none" p0 fN
  cN : FnR P w K mg base CX0 5 fN (spNone C)
theorem lex_shift {e r : Nat → Bool} {z : Bool} : ∀ (n i : Nat), Ob.lexAt e r z (i + 1) n = Ob.lexAt (fun k => e (k + 1)) (fun k => r (k + 1)) z i n
  | 0, _ => rfl
  | n + 1, i => by rw [Ob.lexAt_succ, Ob.lexAt_succ, lex_shift n (i + 1)]
theorem ltI_cons (x : Int) (n m : List Int) : ltI (x :: n) (x :: m) = ltI n m := by
  unfold ltI
  rw [List.length_cons, List.length_cons, Nat.succ_min_succ, Ob.lexAt_succ, if_pos (by simp), lex_shift]
  simp
theorem ltI_app (a n m : List Int) : ltI (a ++ n) (a ++ m) = ltI n m := by
  induction a with
  | nil => rfl
  | cons x a ih => rw [List.cons_append, List.cons_append, ltI_cons, ih]
theorem lt2_add (k i j : Int) (a n m : List Int) : lt2 (k + i) (a ++ n) (k + j) (a ++ m) = lt2 i n j m := by
  unfold lt2
  rw [ltI_app]
  by_cases h : i = j
  · subst h
    simp
  · have h2 : ¬ k + i = k + j := by omega
    rw [if_neg h, if_neg h2]
    exact decide_eq_decide.mpr (by omega)
theorem eq2_add (k i j : Int) (a n m : List Int) : decide (k + i = k + j ∧ a ++ n = a ++ m) = decide (i = j ∧ n = m) := by
  refine decide_eq_decide.mpr ?_
  rw [List.append_cancel_left_eq]
  constructor
  · rintro ⟨h1, h2⟩
    exact ⟨by omega, h2⟩
  · rintro ⟨h1, h2⟩
    exact ⟨by omega, h2⟩
def spSome : Sp := fun vs H Q _ => ∃ (b : Addr) (N : Nat), vs = [.ref b] ∧ BagAt H b N ∧ N < 1000000 ∧
  ∀ (v : V) (H' : Hp) (i : Int) (ns : List Int), Pr H' v i ns → OkP (i, ns) → ns.length ≤ 8 → BagAt H' b (N + 10) → Kp [b] H H' → Q v H'
theorem c_some (D : Def K mg "_law_some" s_some ["_law_bag_here"]) (T : Txt K mg) (cTake : Cal CX0 P w K mg base 1 "_law_take" spTake) : Cal CX0 P w K mg base 2 "_law_some" spSome := by
  refine D.ok sc_some (fun vs H Q E h => ?_) (fun f cdv A outer s H vs Q E hr h => ?_)
  · obtain ⟨b, N, rfl, _⟩ := h
    rfl
  · obtain ⟨b, N, rfl, B, hN, k⟩ := h
    refine ⟨_, (pss_cons (ps_set (i := 1) sc_some.nd rfl (Or.inl rfl) (pe_callTy call_tuple_of (by rfl) T.n_tuple (by decide +kernel) (pa_cons (pe_lc (own := [("_law_turn", 2)]) (g := gName 2) (tt := tYes) rfl sc_some.nd (pi_range1 (by rfl) T.n_range (pa_cons (pe_cl cTake hr pass0 (pa_cons (pv 0) (pa_cons pe_int pa_nil))) pa_nil)) (blkOk_by (own := [("_law_turn", 2)]) (N := ["_law_bag_here", "_law_bits", "_law_turn"]) (sc := defScope s_some) (by decide +kernel)) (fun _ _ _ _ _ => (pg_name (i := 2) sc_some.nd rfl (by first | exact Or.inl rfl | exact Or.inr rfl))) (fun _ _ _ _ _ => pts_nil) (fun _ _ _ _ _ => (pe_cl cTake hr pass0 (pa_cons (pv 0) (pa_cons pe_int pa_nil))))) pa_nil)))
      (pss_one (ps_ret (pe_tup (pa_cons (pe_op op_add (pe_callB call_len_seq (by rfl) T.n_len (by decide +kernel) (pa_cons (pv 1) pa_nil)) (pe_ix ix_tup (pe_tup (pa_cons pe_int (pa_cons pe_int (pa_cons pe_int (pa_cons (pe_op op_pow pe_int pe_int) pa_nil))))) (pe_cl cTake hr pass0 (pa_cons (pv 0) (pa_cons pe_int pa_nil))) (fun _ _ => rfl))) (pa_cons (pv 1) pa_nil)))))), ?_⟩
    refine ⟨_, rfl, b, _, N, rfl, B, by omega, by decide, by decide, fun d H1 d0 d1 B1 K1 => ?_⟩
    refine ⟨d, rfl, by omega, by omega, fun L hL => ?_⟩
    have nbL : b ≠ L := B1.ne hL
    have hL0 : H L = none := K1.free (nin1 nbL.symm) hL
    refine lc_rng (fun j X => ∃ ns : List Int, ns.length = j ∧ Bits ns ∧ X L = some (.lst (ns.map V.int)) ∧ BagAt X b (N + 1 + j) ∧ Kp [b] H X)
      ⟨[], rfl, (fun _ z => absurd z List.not_mem_nil), upd_same, B1.upd nbL, Kp.new K1 hL⟩ ?_ ?_
    · rintro j X hj ⟨ns, hj2, hb, hX, BX, KX⟩
      refine ⟨rfl, _, rfl, b, _, _, rfl, BX, by omega, by decide, by decide, fun e X2 e0 e1 B2 K2 => ?_⟩
      have hX2 := K2.get (nin1 nbL.symm) hX
      refine ⟨_, hX2, ?_, ns ++ [e], ?_, hb.app (Bits.one e0 e1), ?_, B2.upd nbL, ?_⟩
      · rw [List.length_map]; show ns.length < 16777216; omega
      · rw [List.length_append, hj2]; rfl
      · rw [upd_same, List.map_append]; rfl
      · exact Kp.old (KX.trans K2) hL0
    · rintro X ⟨ns, hlb, hbb, hX, BX, KX⟩
      refine ⟨L, _, rfl, .inl ⟨SqL.of hX, fun t ht => ?_⟩⟩
      have nbt : b ≠ t := BX.ne ht
      have h1 : (upd X t (.tup (ns.map V.int))) t = some (.tup (ns.map V.int)) := upd_same
      have K2 : Kp [b] H (upd X t (.tup (ns.map V.int))) := Kp.new KX ht
      have B2 := BX.upd (o := .tup (ns.map V.int)) nbt
      generalize upd X t (.tup (ns.map V.int)) = G at h1 K2 B2 ⊢
      refine ⟨_, rfl, t, _, rfl, .inr (SqT.of h1), _, _, rfl, rfl, by wtm_at "side", by wtm_at "side", fun u hu => ?_⟩
      have nbu : b ≠ u := B2.ne hu
      refine ⟨_, rfl, b, _, _, rfl, B2.upd nbu, by omega, by decide, by decide, fun e G2 e0 e1 B3 K3 => ?_⟩
      have hu2 := K3.tup _ _ upd_same
      have ht2 : G2 t = some (.tup (ns.map V.int)) := K3.tup _ _ ((upd_ne (ne_new hu h1)).trans h1)
      obtain ⟨c, hc, c0⟩ : ∃ c : Int, atI [V.int 0, .int 1, .int 3, .int (10 ^ (20 : Int).toNat)] e = some (.int c) ∧ 0 ≤ c := by
        rcases (by omega : e = 0 ∨ e = 1 ∨ e = 2 ∨ e = 3) with z | z | z | z <;> subst z
        · exact ⟨0, rfl, by decide⟩
        · exact ⟨1, rfl, by decide⟩
        · exact ⟨3, rfl, by decide⟩
        · exact ⟨_, rfl, by decide⟩
      refine ⟨u, _, e, _, rfl, rfl, SqT.of hu2, hc, _, _, rfl, rfl, _, rfl, by wtm_at "side", fun r hr' => ?_⟩
      have nbr : b ≠ r := B3.ne hr'
      have ntr : t ≠ r := ne_new hr' ht2
      refine k (.ref r) _ _ ns ⟨r, t, rfl, upd_same, (upd_ne ntr).trans ht2⟩ ⟨hbb, by show ns.length ≤ 1000000; omega, ?_⟩ (by omega) ((B3.upd nbr).mono (by omega)) (Kp.new ((Kp.new K2 hu).trans K3) hr')
      rw [List.length_map]
      show (ns.length : Int) ≤ ns.length + c
      omega
def spIs (C : Addr) : Sp := fun vs H Q _ => ∃ (p q : Addr) (i j : Int) (ns ms : List Int), vs = [.ref p, .int j, .ref q] ∧ Scr C H p i ns ∧ H q = some (.tup (ms.map V.int)) ∧ i = j ∧ ns = ms ∧ Q (.bl true) H
theorem c_is (D : Def K mg "_law_is" s_is ["_law_told", "_law_steps", "_law_bits"]) (T : Txt K mg) (S : Scp K mg C) : Cal CX0 P w K mg base 1 "_law_is" (spIs C) := by
  refine D.ok sc_is (fun vs H Q E h => ?_) (fun f cdv A outer s H vs Q E hr h => ?_)
  · obtain ⟨p, q, i, j, ns, ms, rfl, _⟩ := h
    rfl
  · obtain ⟨p, q, i, j, ns, ms, rfl, ⟨⟨l, ⟨dx, hp⟩, hl⟩, _⟩, hq, rfl, rfl, k⟩ := h
    refine ⟨_, (pss_cons (ps_if (PW.pt (pw_or (pt_not (pt_val (pe_callB call_isi (by rfl) T.n_isinstance (by decide +kernel) (pa_cons (pv 0) (pa_cons (pe_glob (v := .ref C) rfl S.g_Script rfl) pa_nil))))) (pw_or1 (pt_not (pt_val (pe_callB call_isi (by rfl) T.n_isinstance (by decide +kernel) (pa_cons (pe_fld (pv 0) rfl) (pa_cons (pe_bltn (v := .ty "tuple") rfl T.n_tuple (by decide +kernel) rfl) pa_nil)))))))) 
      (pss_one (ps_ret pe_bl))
      pss_nil)
      (pss_one (ps_ret (pe_and (pe_cmpR op_eq (pe_fld (pv 0) rfl) (pv 1) (nomark _)) (pe_one (pe_cmpR (op_eqD hr.units) (pe_fld (pv 0) rfl) (pv 2) (nomark _))))))), ?_⟩
    refine ⟨_, rfl, _, _, _, _, true, rfl, .own C, S.ty hp, kit_self, _, rfl, ifF rfl ⟨_, rfl, p, C, dx, _, _, rfl, hp, S.cl, S.nB, sF_b _ _, _, _, _, _, true, rfl, .ty "tuple", .base (.tup hl), kit_ty (by decide +kernel), _, rfl, ifF rfl ?_⟩⟩
    refine ⟨_, rfl, p, C, dx, _, _, rfl, hp, S.cl, S.nS, sF_s _ _, _, rfl, rfl, _, rfl, ifT (decide_eq_true rfl) ⟨_, rfl, p, C, dx, _, _, rfl, hp, S.cl, S.nB, sF_b _ _, _, rfl, _, _, .tup (SqT.of hl) (PdAll.dp _ _ (PdAll.ints ns)), .tup (SqT.of hq) (PdAll.dp _ _ (PdAll.ints ns)), shaped_ints _, shaped_ints _, ?_⟩⟩
    rw [eqv_ints, decide_eq_true rfl]
    exact k
section
variable {p q : Addr} {i j k : Int} {ns ms : List Int} {G : Hp} {Q : VK} {x : V}
theorem add_sc (hp : Scr C G p i ns) (hq : Scr C G q j ms) (hz : ns.length + ms.length ≤ 1000000) (h : ∀ r G', Scr C G' r (i + j) (ns ++ ms) → Kp [] G G' → Q (.ref r) G') : rBinS C (spAdd C) E0 (.ref p) (.ref q) G Q := by
  obtain ⟨⟨l, ⟨dx, e⟩, _⟩, _⟩ := id hp
  obtain ⟨⟨m, ⟨dy, e2⟩, _⟩, _⟩ := id hq
  exact ⟨p, dx, _, q, dy, _, rfl, e, rfl, e2, p, q, i, j, ns, ms, rfl, hp, hq, hz, fun r G' h1 k => ⟨r, rfl, h r G' h1 k⟩⟩
theorem mul_sc (hp : Scr C G p i ns) (k0 : 0 ≤ k) (k1 : k ≤ 1000) (hz : ns.length ≤ 1000) (h : ∀ r G', Scr C G' r (i * k) (rep k ns) → Kp [] G G' → Q (.ref r) G') : rBinI C (spMul C) E0 (.ref p) (.int k) G Q := by
  obtain ⟨⟨l, ⟨dx, e⟩, _⟩, _⟩ := id hp
  exact ⟨p, dx, _, k, rfl, e, rfl, p, i, k, ns, rfl, hp, k0, k1, hz, fun r G' h1 k => ⟨r, rfl, h r G' h1 k⟩⟩
theorem rmul_sc (hp : Scr C G p i ns) (k0 : 0 ≤ k) (k1 : k ≤ 1000) (hz : ns.length ≤ 1000) (h : ∀ r G', Scr C G' r (i * k) (rep k ns) → Kp [] G G' → Q (.ref r) G') : rBinR C (spMul C) E0 (.int k) (.ref p) G Q := by
  obtain ⟨⟨l, ⟨dx, e⟩, _⟩, _⟩ := id hp
  exact ⟨p, dx, _, k, rfl, e, rfl, p, i, k, ns, rfl, hp, k0, k1, hz, fun r G' h1 k => ⟨r, rfl, h r G' h1 k⟩⟩
theorem ix_a (h : Pr G x i ns) (q : Q (.int i) G) {σ : St} : tC (V.int 0) σ G fun y H2 => rIxT K x y H2 Q := by
  obtain ⟨a, p, rfl, h1, h2⟩ := h
  exact ⟨a, _, 0, _, rfl, rfl, SqT.of h1, rfl, q⟩
theorem ix_b (h : Pr G x i ns) (q : ∀ l, G l = some (.tup (ns.map V.int)) → Q (.ref l) G) {σ : St} : tC (V.int 1) σ G fun y H2 => rIxT K x y H2 Q := by
  obtain ⟨a, p, rfl, h1, h2⟩ := h
  exact ⟨a, _, 1, _, rfl, rfl, SqT.of h1, rfl, q p h2⟩
theorem is_sc {r t : Addr} (h : Scr C G r i ns) (ht : G t = some (.tup (ms.map V.int))) (e1 : i = j) (e2 : ns = ms) (q : Q (.bl true) G) {E : XK} : spIs C [.ref r, .int j, .ref t] G Q E := ⟨r, t, i, j, ns, ms, rfl, h, ht, e1, e2, q⟩
theorem rep_add {a b : Int} (ha : 0 ≤ a) (hb : 0 ≤ b) : rep a ns ++ rep b ns = rep (a + b) ns := by
  unfold rep
  rw [← List.flatten_append, List.replicate_append_replicate, Int.toNat_add ha hb]
theorem rep_zero : rep 0 ns = [] := by unfold rep; simp
theorem rep_1 : rep 1 ns = ns := by unfold rep; simp
end
def spSums (C : Addr) : Sp := fun vs H Q _ => ∃ (A B s1 s2 s3 : Addr) (x1 x2 x3 : V) (i1 i2 i3 : Int) (n1 n2 n3 : List Int), vs = [.ref A, .ref B] ∧ H A = some (.lst [x1, x2, x3]) ∧ H B = some (.lst [.ref s1, .ref s2, .ref s3]) ∧
  Pr H x1 i1 n1 ∧ Pr H x2 i2 n2 ∧ Pr H x3 i3 n3 ∧ Scr C H s1 i1 n1 ∧ Scr C H s2 i2 n2 ∧ Scr C H s3 i3 n3 ∧ n1.length ≤ 8 ∧ n2.length ≤ 8 ∧ n3.length ≤ 8 ∧ ∀ H', Kp [] H H' → Q (.bl true) H'
set_option maxHeartbeats 4000000 in
theorem c_sums {fe fl fn fa fx fr p0 fN : Addr} {mc : Value} {cz : ClassData} (D : Def K mg "_law_sums" s_sums ["_law_pairs", "_law_told"]) (T : Txt K mg) (S : Scp K mg C) (O : Cmp P w K mg base C fe fl fn) (W : Way P w K mg base C fa fx fr p0 fN mc cz)
    (cIs : Cal CX0 P w K mg base 1 "_law_is" (spIs C)) : Cal CX0 P w K mg base 6 "_law_sums" (spSums C) := by
  refine D.ok sc_sums (fun vs H Q E h => ?_) (fun f cdv A outer s H vs Q E hr h => ?_)
  · obtain ⟨A, B, s1, s2, s3, x1, x2, x3, i1, i2, i3, n1, n2, n3, rfl, _⟩ := h
    rfl
  · obtain ⟨Aa, B, s1, s2, s3, x1, x2, x3, i1, i2, i3, n1, n2, n3, rfl, hA, hB, p1, p2, p3, q1, q2, q3, l1, l2, l3, k⟩ := h
    have hr1 : Room 1 _ := hr.mono (by decide)
    have hr5 : Room 5 _ := hr
    refine ⟨_, (pss_cons (ps_asg (pv 0) (pg_unl rfl (pgs_cons (pg_name (i := 2) sc_sums.nd rfl (by first | exact Or.inl rfl | exact Or.inr rfl)) (pgs_cons (pg_name (i := 3) sc_sums.nd rfl (by first | exact Or.inl rfl | exact Or.inr rfl)) (pgs_cons (pg_name (i := 4) sc_sums.nd rfl (by first | exact Or.inl rfl | exact Or.inr rfl)) pgs_nil)))))
      (pss_cons (ps_asg (pv 1) (pg_unl rfl (pgs_cons (pg_name (i := 5) sc_sums.nd rfl (by first | exact Or.inl rfl | exact Or.inr rfl)) (pgs_cons (pg_name (i := 6) sc_sums.nd rfl (by first | exact Or.inl rfl | exact Or.inr rfl)) (pgs_cons (pg_name (i := 7) sc_sums.nd rfl (by first | exact Or.inl rfl | exact Or.inr rfl)) pgs_nil)))))
      (pss_cons (ps_if (PW.pt (pw_or (pt_not (pt_val (pe_cl cIs hr pass0 (pa_cons (pe_op (op_binS (op := .Add) W.sf W.hA W.iA W.cA hr5 pass0) (pv 5) (pv 6)) (pa_cons (pe_op op_add (pe_ix ix_tup (pv 2) pe_int (fun _ _ => rfl)) (pe_ix ix_tup (pv 3) pe_int (fun _ _ => rfl))) (pa_cons (pe_op op_catA (pe_ix ix_tup (pv 2) pe_int (fun _ _ => rfl)) (pe_ix ix_tup (pv 3) pe_int (fun _ _ => rfl))) pa_nil)))))) (pw_or1 (pt_not (pt_val (pe_cl cIs hr pass0 (pa_cons (pe_op (op_binS (op := .Add) W.sf W.hA W.iA W.cA hr5 pass0) (pv 6) (pv 5)) (pa_cons (pe_op op_add (pe_ix ix_tup (pv 3) pe_int (fun _ _ => rfl)) (pe_ix ix_tup (pv 2) pe_int (fun _ _ => rfl))) (pa_cons (pe_op op_catA (pe_ix ix_tup (pv 3) pe_int (fun _ _ => rfl)) (pe_ix ix_tup (pv 2) pe_int (fun _ _ => rfl))) pa_nil))))))))) 
      (pss_one (ps_ret pe_bl))
      pss_nil)
      (pss_cons (ps_set (i := 8) sc_sums.nd rfl (Or.inl rfl) (pe_tup (pa_cons (pe_op op_add (pe_op op_add (pe_ix ix_tup (pv 2) pe_int (fun _ _ => rfl)) (pe_ix ix_tup (pv 3) pe_int (fun _ _ => rfl))) (pe_ix ix_tup (pv 4) pe_int (fun _ _ => rfl))) (pa_cons (pe_op op_catA (pe_op op_catA (pe_ix ix_tup (pv 2) pe_int (fun _ _ => rfl)) (pe_ix ix_tup (pv 3) pe_int (fun _ _ => rfl))) (pe_ix ix_tup (pv 4) pe_int (fun _ _ => rfl))) pa_nil))))
      (pss_cons (ps_if (PW.pt (pw_or (pt_not (pt_val (pe_cl cIs hr pass0 (pa_cons (pe_op (op_binS (op := .Add) W.sf W.hA W.iA W.cA hr5 pass0) (pe_op (op_binS (op := .Add) W.sf W.hA W.iA W.cA hr5 pass0) (pv 5) (pv 6)) (pv 7)) (pa_cons (pe_ix ix_tup (pv 8) pe_int (fun _ _ => rfl)) (pa_cons (pe_ix ix_tup (pv 8) pe_int (fun _ _ => rfl)) pa_nil)))))) (pw_or1 (pt_not (pt_val (pe_cl cIs hr pass0 (pa_cons (pe_op (op_binS (op := .Add) W.sf W.hA W.iA W.cA hr5 pass0) (pv 5) (pe_op (op_binS (op := .Add) W.sf W.hA W.iA W.cA hr5 pass0) (pv 6) (pv 7))) (pa_cons (pe_ix ix_tup (pv 8) pe_int (fun _ _ => rfl)) (pa_cons (pe_ix ix_tup (pv 8) pe_int (fun _ _ => rfl)) pa_nil))))))))) 
      (pss_one (ps_ret pe_bl))
      pss_nil)
      (pss_cons (ps_set (i := 9) sc_sums.nd rfl (Or.inl rfl) (pe_cmeth0 (pl := _) (pe_glob (v := .ref C) rfl S.g_Script rfl) W.rd W.cm W.cN hr5 pass0))
      (pss_cons (ps_if (PW.pt (pw_or (pt_not (pt_val (pe_cl cIs hr pass0 (pa_cons (pe_op (op_binS (op := .Add) W.sf W.hA W.iA W.cA hr5 pass0) (pv 5) (pv 9)) (pa_cons (pe_ix ix_tup (pv 2) pe_int (fun _ _ => rfl)) (pa_cons (pe_ix ix_tup (pv 2) pe_int (fun _ _ => rfl)) pa_nil)))))) (pw_or1 (pt_not (pt_val (pe_cl cIs hr pass0 (pa_cons (pe_op (op_binS (op := .Add) W.sf W.hA W.iA W.cA hr5 pass0) (pv 9) (pv 5)) (pa_cons (pe_ix ix_tup (pv 2) pe_int (fun _ _ => rfl)) (pa_cons (pe_ix ix_tup (pv 2) pe_int (fun _ _ => rfl)) pa_nil))))))))) 
      (pss_one (ps_ret pe_bl))
      pss_nil)
      (pss_one (ps_ret (pe_and (pe_cmpR op_eq (pe_cmpR (op_ownD (op := .Lt) (fun _ _ => rfl) O.hL O.iL O.cL hr1 pass0) (pe_op (op_binS (op := .Add) W.sf W.hA W.iA W.cA hr5 pass0) (pv 7) (pv 5)) (pe_op (op_binS (op := .Add) W.sf W.hA W.iA W.cA hr5 pass0) (pv 7) (pv 6)) (nomark _)) (pe_cmpR (op_lt2 hr.units3) (pv 2) (pv 3) (nomark _)) (nomark _)) (pe_one (pe_cmpR op_eq (pe_cmpR (op_ownD (op := .Eq) (fun _ _ => rfl) O.hE O.iE O.cE hr1 pass0) (pe_op (op_binS (op := .Add) W.sf W.hA W.iA W.cA hr5 pass0) (pv 7) (pv 5)) (pe_op (op_binS (op := .Add) W.sf W.hA W.iA W.cA hr5 pass0) (pv 7) (pv 6)) (nomark _)) (pe_cmpR (op_eqD hr.units) (pv 2) (pv 3) (nomark _)) (nomark _))))))))))))), ?_⟩
    refine ⟨_, rfl, Aa, _, rfl, SqL.of hA, rfl, _, _, rfl, _, _, rfl, _, _, rfl, rfl, ?_⟩
    refine ⟨_, rfl, B, _, rfl, SqL.of hB, rfl, _, _, rfl, _, _, rfl, _, _, rfl, rfl, ?_⟩
    refine ⟨_, rfl, _, rfl, add_sc q1 q2 (by omega) fun r G1 hr' K1 => ?_⟩
    refine ⟨_, rfl, ix_a (p1.keep K1) ⟨_, rfl, ix_a (p2.keep K1) ⟨_, _, rfl, rfl, _, rfl, ix_b (p1.keep K1) fun la hla => ⟨_, rfl, ix_b (p2.keep K1) fun lb hlb => cat_t hla hlb (by omega) fun t G2 ht K2 => ⟨_, _, _, _, _, _, rfl, hr'.keep K2, ht, rfl, rfl, _, rfl, ifF rfl ?_⟩⟩⟩⟩⟩
    have KA : Kp [] H G2 := K1.trans K2
    clear K1 K2 ht hlb hla hr'
    refine ⟨_, rfl, _, rfl, add_sc (q2.keep KA) (q1.keep KA) (by omega) fun r G1 hr' K1 => ?_⟩
    have KB : Kp [] H G1 := KA.trans K1
    refine ⟨_, rfl, ix_a (p2.keep KB) ⟨_, rfl, ix_a (p1.keep KB) ⟨_, _, rfl, rfl, _, rfl, ix_b (p2.keep KB) fun la hla => ⟨_, rfl, ix_b (p1.keep KB) fun lb hlb => cat_t hla hlb (by omega) fun t G3 ht K2 => ⟨_, _, _, _, _, _, rfl, hr'.keep K2, ht, rfl, rfl, _, rfl, ifF rfl ?_⟩⟩⟩⟩⟩
    have KC : Kp [] H G3 := KB.trans K2
    clear KA KB K1 K2 ht hlb hla hr'
    refine ⟨_, rfl, ix_a (p1.keep KC) ⟨_, rfl, ix_a (p2.keep KC) ⟨_, _, rfl, rfl, _, rfl, ix_a (p3.keep KC) ⟨_, _, rfl, rfl, _, rfl, ix_b (p1.keep KC) fun la hla => ⟨_, rfl, ix_b (p2.keep KC) fun lb hlb => cat_t hla hlb (by omega) fun t G4 ht K2 => ⟨_, rfl, ix_b (p3.keep (KC.trans K2)) fun lc hlc => cat_t ht hlc (by rw [List.length_append]; omega) fun t2 G5 ht2 K5 => ⟨by wtm_at "side", fun u hu => ?_⟩⟩⟩⟩⟩⟩⟩
    have KD : Kp [] H (upd G5 u (.tup [.int (i1 + i2 + i3), .ref t2])) := Kp.new ((KC.trans K2).trans K5) hu
    have pd : Pr (upd G5 u (.tup [.int (i1 + i2 + i3), .ref t2])) (.ref u) (i1 + i2 + i3) (n1 ++ n2 ++ n3) := ⟨u, t2, rfl, upd_same, (upd_ne (ne_new hu ht2)).trans ht2⟩
    generalize upd G5 u (.tup [.int (i1 + i2 + i3), .ref t2]) = G6 at KD pd ⊢
    clear KC K2 K5 ht ht2 hlb hla hlc hu
    refine ⟨_, rfl, _, rfl, add_sc (q1.keep KD) (q2.keep KD) (by omega) fun r G1 hr' K1 => ⟨_, rfl, add_sc hr' (q3.keep (KD.trans K1)) (by rw [List.length_append]; omega) fun r2 G2 hr2 K2 => ?_⟩⟩
    have KE : Kp [] G6 G2 := K1.trans K2
    refine ⟨_, rfl, ix_a (pd.keep KE) ⟨_, rfl, ix_b (pd.keep KE) fun la hla => ⟨_, _, _, _, _, _, rfl, hr2, hla, rfl, rfl, _, rfl, ifF rfl ?_⟩⟩⟩
    have KF : Kp [] H G2 := KD.trans KE
    refine ⟨_, rfl, _, rfl, _, rfl, add_sc (q2.keep KF) (q3.keep KF) (by omega) fun r3 G7 hr3 K3 => add_sc (q1.keep (KF.trans K3)) hr3 (by rw [List.length_append]; omega) fun r4 G8 hr4 K4 => ?_⟩
    have KG : Kp [] G6 G8 := (KE.trans K3).trans K4
    refine ⟨_, rfl, ix_a (pd.keep KG) ⟨_, rfl, ix_b (pd.keep KG) fun lb hlb => ⟨_, _, _, _, _, _, rfl, hr4, hlb, by omega, (List.append_assoc _ _ _).symm, _, rfl, ifF rfl ?_⟩⟩⟩
    have KH : Kp [] H G8 := KD.trans KG
    clear KF KE KG K1 K2 K3 K4 hr' hr2 hr3 hr4
    refine ⟨rfl, rfl, fun z G9 hz9 K9 => ?_⟩
    have KI : Kp [] H G9 := KH.trans K9
    refine ⟨_, rfl, _, rfl, add_sc (q1.keep KI) hz9 (by show n1.length + 0 ≤ 1000000; omega) fun r G1 hr' K1 => ?_⟩
    have KJ : Kp [] H G1 := KI.trans K1
    refine ⟨_, rfl, ix_a (p1.keep KJ) ⟨_, rfl, ix_b (p1.keep KJ) fun la hla => ⟨_, _, _, _, _, _, rfl, hr', hla, by omega, List.append_nil _, _, rfl, ifF rfl ?_⟩⟩⟩
    refine ⟨_, rfl, _, rfl, add_sc (hz9.keep K1) (q1.keep KJ) (by show 0 + n1.length ≤ 1000000; omega) fun r2 G2 hr2 K2 => ?_⟩
    have KL : Kp [] H G2 := KJ.trans K2
    refine ⟨_, rfl, ix_a (p1.keep KL) ⟨_, rfl, ix_b (p1.keep KL) fun la hla => ⟨_, _, _, _, _, _, rfl, hr2, hla, by omega, rfl, _, rfl, ifF rfl ?_⟩⟩⟩
    clear hr' hr2 hla K1 K2 KJ KI
    refine ⟨_, rfl, _, rfl, add_sc (q3.keep KL) (q1.keep KL) (by omega) fun r1 G1 h1 K1 => ⟨_, rfl, _, rfl, add_sc (q3.keep (KL.trans K1)) (q2.keep (KL.trans K1)) (by omega) fun r2 G2 h2 K2 => ?_⟩⟩
    obtain ⟨m1, e1⟩ := (h1.keep K2).1
    obtain ⟨m2, e2⟩ := h2.1
    refine own_lt S e1 e2 fun G3 K3 => ?_
    have KM : Kp [] H G3 := ((KL.trans K1).trans K2).trans K3
    refine ⟨_, rfl, _, rfl, pr_lt (p1.keep KM) (p2.keep KM) ⟨rfl, _, rfl, ifT (by rw [lt2_add]; simp) ?_⟩⟩
    clear h1 h2 e1 e2 K1 K2 K3
    refine ⟨_, rfl, _, rfl, add_sc (q3.keep KM) (q1.keep KM) (by omega) fun r1 G1 h1 K1 => ⟨_, rfl, _, rfl, add_sc (q3.keep (KM.trans K1)) (q2.keep (KM.trans K1)) (by omega) fun r2 G2 h2 K2 => ?_⟩⟩
    obtain ⟨m1, e1⟩ := (h1.keep K2).1
    obtain ⟨m2, e2⟩ := h2.1
    refine own_eq S e1 e2 ?_
    have KN : Kp [] H G2 := (KM.trans K1).trans K2
    refine ⟨_, rfl, _, rfl, pr_eq (p1.keep KN) (p2.keep KN) ⟨rfl, ?_⟩⟩
    rw [eq2_add, decide_eq_true rfl]
    exact k _ KN
section
variable {p q : Addr} {i j k : Int} {ns ms : List Int} {G : Hp} {Q : VK} {x : V} {σ : St}
theorem mul_c (hp : Scr C G p i ns) (k0 : 0 ≤ k) (k1 : k ≤ 1000) (hz : ns.length ≤ 1000) (h : ∀ r G', Scr C G' r (i * k) (rep k ns) → Kp [] G G' → Q (.ref r) G') : tC (V.int k) σ G fun y H2 => rBinI C (spMul C) E0 (.ref p) y H2 Q := mul_sc hp k0 k1 hz h
end
def spTimes (C : Addr) : Sp := fun vs H Q _ => ∃ (s : Addr) (x : V) (i m n : Int) (ns : List Int), vs = [x, .ref s, .int m, .int n] ∧ Pr H x i ns ∧ Scr C H s i ns ∧ ns.length ≤ 8 ∧ 0 ≤ m ∧ 0 ≤ n ∧ m + n ≤ 1000 ∧ ∀ H', Kp [] H H' → Q (.bl true) H'
set_option maxHeartbeats 4000000 in
theorem c_times {fe fl fn fa fx fr p0 fN : Addr} {mc : Value} {cz : ClassData} (D : Def K mg "_law_times" s_times ["_law_pair", "_law_told", "_law_many", "_law_more"]) (T : Txt K mg) (S : Scp K mg C) (O : Cmp P w K mg base C fe fl fn) (W : Way P w K mg base C fa fx fr p0 fN mc cz)
    (cIs : Cal CX0 P w K mg base 1 "_law_is" (spIs C)) : Cal CX0 P w K mg base 6 "_law_times" (spTimes C) := by
  refine D.ok sc_times (fun vs H Q E h => ?_) (fun f cdv A outer s H vs Q E hr h => ?_)
  · obtain ⟨s, x, i, m, n, ns, rfl, _⟩ := h
    rfl
  · obtain ⟨s1, x, i, m, n, ns, rfl, ⟨a, l, rfl, ha, hl⟩, q, l8, m0, n0, mn, k⟩ := h
    have hr1 : Room 1 _ := hr.mono (by decide)
    have hr5 : Room 5 _ := hr
    refine ⟨_, (pss_cons (ps_asg (pv 0) (pg_tup rfl (pgs_cons (pg_name (i := 4) sc_times.nd rfl (by first | exact Or.inl rfl | exact Or.inr rfl)) (pgs_cons (pg_name (i := 5) sc_times.nd rfl (by first | exact Or.inl rfl | exact Or.inr rfl)) pgs_nil))))
      (pss_cons (ps_if (pt_not (pt_val (pe_cl cIs hr pass0 (pa_cons (pe_op (op_mulI W.sf W.hX W.hR W.sI W.iX W.cX hr5 pass0) (pv 1) (pv 2)) (pa_cons (pe_op op_mul (pv 4) (pv 2)) (pa_cons (pe_op op_repA (pv 5) (pv 2)) pa_nil)))))) 
      (pss_one (ps_ret pe_bl))
      pss_nil)
      (pss_cons (ps_if (PW.pt (pw_or (pt_not (pt_val (pe_cl cIs hr pass0 (pa_cons (pe_op (op_mulI W.sf W.hX W.hR W.sI W.iX W.cX hr5 pass0) (pv 1) pe_int) (pa_cons pe_int (pa_cons (pe_tup pa_nil) pa_nil)))))) (pw_or1 (pt_not (pt_val (pe_cl cIs hr pass0 (pa_cons (pe_op (op_mulI W.sf W.hX W.hR W.sI W.iX W.cX hr5 pass0) (pv 1) pe_int) (pa_cons (pv 4) (pa_cons (pv 5) pa_nil))))))))) 
      (pss_one (ps_ret pe_bl))
      pss_nil)
      (pss_cons (ps_if (PW.pt (pw_or (pt_not (pt_val (pe_cl cIs hr pass0 (pa_cons (pe_op (op_mulR W.sf W.hX W.hR W.sJ W.iR W.cR hr5 pass0) (pv 2) (pv 1)) (pa_cons (pe_op op_mul (pv 4) (pv 2)) (pa_cons (pe_op op_repA (pv 5) (pv 2)) pa_nil)))))) (pw_or1 (pt_not (pt_val (pe_cl cIs hr pass0 (pa_cons (pe_op (op_mulR W.sf W.hX W.hR W.sJ W.iR W.cR hr5 pass0) pe_int (pv 1)) (pa_cons pe_int (pa_cons (pe_tup pa_nil) pa_nil))))))))) 
      (pss_one (ps_ret pe_bl))
      pss_nil)
      (pss_cons (ps_set (i := 6) sc_times.nd rfl (Or.inl rfl) (pe_cmeth0 (pl := _) (pe_glob (v := .ref C) rfl S.g_Script rfl) W.rd W.cm W.cN hr5 pass0))
      (pss_cons (ps_for PassesOwn.never rfl (pi_range1 (by rfl) T.n_range (pa_cons pe_int pa_nil)) (pg_name (i := 7) sc_times.nd rfl (by first | exact Or.inl rfl | exact Or.inr rfl))
      (pss_one (ps_aug (i := 6) sc_times.nd rfl (Or.inl rfl) (pv 1) (iop_binS W.sf W.cd W.mro W.hA W.hI W.iA W.cA hr5 pass0))))
      (pss_cons (ps_if (PW.pt (pw_or (pt_not (pt_val (pe_cl cIs hr pass0 (pa_cons (pv 6) (pa_cons (pe_op op_mul pe_int (pv 4)) (pa_cons (pe_op op_repAR pe_int (pv 5)) pa_nil)))))) (pw_or1 (pt_not (pt_val (pe_cl cIs hr pass0 (pa_cons (pv 1) (pa_cons (pv 4) (pa_cons (pv 5) pa_nil))))))))) 
      (pss_one (ps_ret pe_bl))
      pss_nil)
      (pss_cons (ps_if (pt_not (pt_val (pe_cl cIs hr pass0 (pa_cons (pe_cmeth0 (pl := _) (pe_glob (v := .ref C) rfl S.g_Script rfl) W.rd W.cm W.cN hr5 pass0) (pa_cons pe_int (pa_cons (pe_tup pa_nil) pa_nil)))))) 
      (pss_one (ps_ret pe_bl))
      pss_nil)
      (pss_one (ps_ret (pe_cmpR (op_ownD (op := .Eq) (fun _ _ => rfl) O.hE O.iE O.cE hr1 pass0) (pe_op (op_binS (op := .Add) W.sf W.hA W.iA W.cA hr5 pass0) (pe_op (op_mulI W.sf W.hX W.hR W.sI W.iX W.cX hr5 pass0) (pv 1) (pv 2)) (pe_op (op_mulI W.sf W.hX W.hR W.sI W.iX W.cX hr5 pass0) (pv 1) (pv 3))) (pe_op (op_mulI W.sf W.hX W.hR W.sI W.iX W.cX hr5 pass0) (pv 1) (pe_op op_add (pv 2) (pv 3))) (nomark _)))))))))))), ?_⟩
    have lm : (ns.map V.int).length ≤ 1000 := by rw [List.length_map]; omega
    refine ⟨_, rfl, a, _, rfl, SqT.of ha, rfl, _, _, rfl, _, _, rfl, rfl, ?_⟩
    refine ⟨_, rfl, _, rfl, mul_sc q m0 (by omega) (by omega) fun r G1 hr' K1 => ?_⟩
    refine ⟨_, rfl, _, rfl, _, _, rfl, rfl, .inr ⟨by omega, by omega⟩, _, rfl, _, rfl, l, m, _, rfl, rfl, SqT.of (K1.tup _ _ hl), m0, by omega, lm, rep_t (K1.tup _ _ hl) m0 fun t G2 ht K2 => ?_⟩
    refine ⟨_, _, _, _, _, _, rfl, hr'.keep K2, ht, rfl, rfl, _, rfl, ifF rfl ?_⟩
    have KA : Kp [] H G2 := K1.trans K2
    clear K1 K2 ht hr'
    refine ⟨_, rfl, mul_c (q.keep KA) (by decide) (by decide) (by omega) fun r G1 hr' K1 => ⟨Nat.zero_le _, fun t ht => ?_⟩⟩
    refine ⟨_, _, _, _, _, [], rfl, hr'.keep (Kp.new (Kp.refl _ _) ht), upd_same, Int.mul_zero _, rep_zero, _, rfl, ifF rfl ?_⟩
    have KB : Kp [] H (upd G1 t (.tup [])) := Kp.new (KA.trans K1) ht
    generalize upd G1 t (.tup []) = G3 at KB ⊢
    refine ⟨_, rfl, mul_c (q.keep KB) (by decide) (by decide) (by omega) fun r4 G4 hr4 K4 => ⟨_, rfl, _, rfl, ?_⟩⟩
    have KC : Kp [] H G4 := KB.trans K4
    refine ⟨_, _, _, _, _, _, rfl, hr4, KC.tup _ _ hl, Int.mul_one _, rep_1, _, rfl, ifF rfl ?_⟩
    clear hr' hr4 K1 K4 ht
    refine ⟨_, rfl, _, rfl, rmul_sc (q.keep KC) m0 (by omega) (by omega) fun r G5 hr' K5 => ?_⟩
    have KD : Kp [] H G5 := KC.trans K5
    refine ⟨_, rfl, _, rfl, _, _, rfl, rfl, .inr ⟨by omega, by omega⟩, _, rfl, _, rfl, l, m, _, rfl, rfl, SqT.of (KD.tup _ _ hl), m0, by omega, lm, rep_t (KD.tup _ _ hl) m0 fun t G6 ht K6 => ?_⟩
    refine ⟨_, _, _, _, _, _, rfl, hr'.keep K6, ht, rfl, rfl, _, rfl, ifF rfl ?_⟩
    have KE : Kp [] H G6 := KD.trans K6
    refine ⟨_, rfl, rmul_sc (q.keep KE) (show (0 : Int) ≤ 0 by decide) (by decide) (by omega) fun r7 G7 hr7 K7 => ⟨Nat.zero_le _, fun t7 ht7 => ?_⟩⟩
    refine ⟨_, _, _, _, _, [], rfl, hr7.keep (Kp.new (Kp.refl _ _) ht7), upd_same, Int.mul_zero _, rep_zero, _, rfl, ifF rfl ?_⟩
    have KF : Kp [] H (upd G7 t7 (.tup [])) := Kp.new (KE.trans K7) ht7
    generalize upd G7 t7 (.tup []) = G8 at KF ⊢
    clear hr' hr7 K5 K6 K7 ht ht7
    refine ⟨rfl, rfl, fun z G9 hz9 K9 => ?_⟩
    refine ⟨_, rfl, by decide, by decide, ?_⟩
    refine for_rng (fun j σ G => ∃ (r : Addr) (v : Option V), σ = [some (.ref a), some (.ref s1), some (.int m), some (.int n), some (.int i), some (.ref l), some (.ref r), v] ∧ Scr C G r (i * (j : Int)) (rep (j : Int) ns) ∧ Kp [] H G)
      ⟨z, _, rfl, by rw [show ((0 : Nat) : Int) = 0 from rfl, Int.mul_zero, rep_zero]; exact hz9, KF.trans K9⟩ ?_ ?_
    · rintro j σ G hj ⟨r, v, rfl, hs, KG⟩
      have j2 : j < 2 := hj
      refine ⟨_, rfl, _, rfl, add_sc hs (q.keep KG) (by rw [rep_len]; have : (j : Int).toNat * ns.length ≤ 2 * 8 := Nat.mul_le_mul (by omega) l8; omega) fun r' G' hr' K' => ⟨r', _, rfl, ?_, KG.trans K'⟩⟩
      have e1 : i * (j : Int) + i = i * ((j + 1 : Nat) : Int) := by rw [show ((j + 1 : Nat) : Int) = (j : Int) + 1 by omega, Int.mul_add, Int.mul_one]
      have e2 : rep (j : Int) ns ++ ns = rep ((j + 1 : Nat) : Int) ns := by
        rw [show ((j + 1 : Nat) : Int) = (j : Int) + 1 by omega, ← rep_add (by omega) (by decide), rep_1]
      rw [← e1, ← e2]
      exact hr'
    · rintro σ G ⟨r, v, rfl, hs, KG⟩
      have hs2 : Scr C G r (i * 2) (rep 2 ns) := hs
      refine ⟨_, rfl, _, rfl, _, _, rfl, rfl, .inl ⟨by decide, by decide⟩, _, rfl, l, 2, _, rfl, rfl, SqT.of (KG.tup _ _ hl), by decide, by decide, lm, rep_t (KG.tup _ _ hl) (by decide) fun t G2 ht K2 => ?_⟩
      refine ⟨_, _, _, _, _, _, rfl, hs2.keep K2, ht, Int.mul_comm _ _, rfl, _, rfl, ifF rfl ?_⟩
      have KH : Kp [] H G2 := KG.trans K2
      refine ⟨_, rfl, _, rfl, _, rfl, ?_⟩
      refine ⟨_, _, _, _, _, _, rfl, q.keep KH, KH.tup _ _ hl, rfl, rfl, _, rfl, ifF rfl ?_⟩
      refine ⟨rfl, rfl, fun z3 G3 hz3 K3 => ⟨Nat.zero_le _, fun t3 ht3 => ?_⟩⟩
      refine ⟨_, _, _, _, _, [], rfl, hz3.keep (Kp.new (Kp.refl _ _) ht3), upd_same, rfl, rfl, _, rfl, ifF rfl ?_⟩
      have KI : Kp [] H (upd G3 t3 (.tup [])) := Kp.new (KH.trans K3) ht3
      generalize upd G3 t3 (.tup []) = G4 at KI ⊢
      refine ⟨_, rfl, _, rfl, mul_sc (q.keep KI) m0 (by omega) (by omega) fun r5 G5 hr5' K5 => ⟨_, rfl, _, rfl, mul_sc (q.keep (KI.trans K5)) n0 (by omega) (by omega) fun r6 G6 hr6 K6 => ?_⟩⟩
      refine add_sc (hr5'.keep K6) hr6 ?_ fun r7 G7 hr7 K7 => ?_
      · have a1 := rep_sz (k := m) (ns := ns) (by omega) (by omega)
        have a2 : (rep m ns).length = m.toNat * ns.length := rep_len _ _
        have a3 : (rep n ns).length = n.toNat * ns.length := rep_len _ _
        have a4 : m.toNat * ns.length ≤ 1000 * 8 := Nat.mul_le_mul (by omega) l8
        have a5 : n.toNat * ns.length ≤ 1000 * 8 := Nat.mul_le_mul (by omega) l8
        omega
      have KJ : Kp [] H G7 := ((KI.trans K5).trans K6).trans K7
      refine ⟨_, rfl, _, rfl, _, rfl, _, _, rfl, rfl, mul_sc (q.keep KJ) (by omega) (by omega) (by omega) fun r8 G8 hr8 K8 => ?_⟩
      obtain ⟨m1, e1⟩ := (hr7.keep K8).1
      obtain ⟨m2, e2⟩ := hr8.1
      refine own_eq S e1 e2 ?_
      rw [decide_eq_true ⟨(Int.mul_add _ _ _).symm, rep_add m0 n0⟩]
      exact k _ (KJ.trans K8)
def PrsL (H : Hp) (xs : List V) (ps : List (Int × List Int)) : Prop := Prs H xs ps ∧ ∀ pr ∈ ps, pr.2.length ≤ 8
set_option maxHeartbeats 4000000 in
theorem c_law (D : Def K mg "law" s_law ["_law_script"]) (T : Txt K mg) (S : Scp K mg C) (cTake : Cal CX0 P w K mg base 1 "_law_take" spTake) (cBag : Cal CX0 P w K mg base 1 "_law_bag" (spBag K)) (cSome : Cal CX0 P w K mg base 2 "_law_some" spSome)
    (cScr : Mak CX0 P w K mg base 3 "Script" C (spInit C)) (cIs : Cal CX0 P w K mg base 1 "_law_is" (spIs C)) (cSums : Cal CX0 P w K mg base 6 "_law_sums" (spSums C)) (cTimes : Cal CX0 P w K mg base 6 "_law_times" (spTimes C)) : CalG CX0 P w K mg base 7 "law" (spLaw K) := by
  refine D.okG0 sc_law (fun vs H Q E h => ?_) (fun f cdv A outer s H vs Q E hg hr h => ?_)
  · obtain ⟨a, ns, rfl, _⟩ := h
    rfl
  · obtain ⟨a, ns, rfl, hS, n63, k⟩ := h
    refine ⟨_, (pss_cons (ps_for PassesOwn.never rfl (pi_range1 (by rfl) T.n_range (pa_cons (pe_callB (call_max2 rfl) (by rfl) T.n_max (by decide +kernel) (pa_cons pe_int (pa_cons (pe_callB (call_min2 rfl) (by rfl) T.n_min (by decide +kernel) (pa_cons pe_int (pa_cons (pe_callB call_len_seq (by rfl) T.n_len (by decide +kernel) (pa_cons (pv 0) pa_nil)) pa_nil))) pa_nil))) pa_nil)) (pg_name (i := 1) sc_law.nd rfl (by first | exact Or.inl rfl | exact Or.inr rfl))
      (pss_cons (ps_set (i := 2) sc_law.nd rfl (Or.inr rfl) (pe_cl cBag hr pass0 (pa_cons (pv 0) (pa_cons (pv 1) pa_nil))))
        (pss_cons (ps_set (i := 3) sc_law.nd rfl (Or.inr rfl) (pe_lc (own := [("_law_turn", 7)]) (g := gName 7) (tt := tYes) rfl sc_law.nd (pi_range1 (by rfl) T.n_range (pa_cons pe_int pa_nil)) (blkOk_by (own := [("_law_turn", 7)]) (N := ["_law_script", "_law_at", "_law_bag_here", "_law_pairs", "_law_told", "_law_many", "_law_more", "_law_turn", "_law_steps", "_law_bits", "_law_k"]) (sc := defScope s_law) (by decide +kernel)) (fun _ _ _ _ _ => (pg_name (i := 7) sc_law.nd rfl (by first | exact Or.inl rfl | exact Or.inr rfl))) (fun _ _ _ _ _ => pts_nil) (fun _ _ _ _ _ => (pe_cl cSome hr pass0 (pa_cons (pv 2) pa_nil)))))
        (pss_cons (ps_set (i := 4) sc_law.nd rfl (Or.inr rfl) (pe_lc (own := [("_law_steps", 8), ("_law_bits", 9)]) (g := gTup K 2 (gCons (gName 8) (gCons (gName 9) (gNil)))) (tt := tYes) rfl sc_law.nd (pi_list (pv 3)) (blkOk_by (own := [("_law_steps", 8), ("_law_bits", 9)]) (N := ["_law_script", "_law_at", "_law_bag_here", "_law_pairs", "_law_told", "_law_many", "_law_more", "_law_turn", "_law_steps", "_law_bits", "_law_k"]) (sc := defScope s_law) (by decide +kernel)) (fun _ _ _ _ _ => (pg_tup rfl (pgs_cons (pg_name (i := 8) sc_law.nd rfl (by first | exact Or.inl rfl | exact Or.inr rfl)) (pgs_cons (pg_name (i := 9) sc_law.nd rfl (by first | exact Or.inl rfl | exact Or.inr rfl)) pgs_nil)))) (fun _ _ _ _ _ => pts_nil) (fun _ _ _ _ _ => (pe_mkc cScr hr pass0 (pa_cons (pv 8) (pa_cons (pv 9) pa_nil))))))
        (pss_cons (ps_set (i := 5) sc_law.nd rfl (Or.inl rfl) (pe_ix ix_tup (pe_tup (pa_cons pe_int (pa_cons pe_int (pa_cons (pe_cl cTake hr pass0 (pa_cons (pv 2) (pa_cons pe_int pa_nil))) pa_nil)))) (pe_cl cTake hr pass0 (pa_cons (pv 2) (pa_cons pe_int pa_nil))) (fun _ _ => rfl)))
        (pss_cons (ps_set (i := 6) sc_law.nd rfl (Or.inl rfl) (pe_cl cTake hr pass0 (pa_cons (pv 2) (pa_cons (pe_op op_sub pe_int (pv 5)) pa_nil))))
        (pss_cons (ps_if (PW.pt (pw_or (pt_not (pt_val (pe_cl cSums hr pass0 (pa_cons (pv 3) (pa_cons (pv 4) pa_nil))))) (pw_or1 (pt_not (pt_val (pe_cl cTimes hr pass0 (pa_cons (pe_ix ix_list (pv 3) pe_int (fun _ _ => rfl)) (pa_cons (pe_ix ix_list (pv 4) pe_int (fun _ _ => rfl)) (pa_cons (pv 5) (pa_cons (pv 6) pa_nil)))))))))) 
        (pss_one (ps_ret pe_bl))
        pss_nil)
        (pss_one (ps_if (pt_not (pt_val (pe_callB (cr_all rfl) (by rfl) T.n_all (by decide +kernel) (pa_cons (pe_lc (own := [("_law_k", 10)]) (g := gName 10) (tt := tYes) rfl sc_law.nd (pi_range1 (by rfl) T.n_range (pa_cons pe_int pa_nil)) (blkOk_by (own := [("_law_k", 10)]) (N := ["_law_script", "_law_at", "_law_bag_here", "_law_pairs", "_law_told", "_law_many", "_law_more", "_law_turn", "_law_steps", "_law_bits", "_law_k"]) (sc := defScope s_law) (by decide +kernel)) (fun _ _ _ _ _ => (pg_name (i := 10) sc_law.nd rfl (by first | exact Or.inl rfl | exact Or.inr rfl))) (fun _ _ _ _ _ => pts_nil) (fun _ _ _ _ _ => (pe_cl cIs hr pass0 (pa_cons (pe_ix (show IxR _ (rIxL K) from ix_list) (pv 4) (pv 10) (fun _ _ => rfl)) (pa_cons (pe_ix (show IxR _ (rIxT K) from ix_tup) (pe_ix (show IxR _ (rIxL K) from ix_list) (pv 3) (pv 10) (fun _ _ => rfl)) pe_int (fun _ _ => rfl)) (pa_cons (pe_ix (show IxR _ (rIxT K) from ix_tup) (pe_ix (show IxR _ (rIxL K) from ix_list) (pv 3) (pv 10) (fun _ _ => rfl)) pe_int (fun _ _ => rfl)) pa_nil)))))) pa_nil)))) 
        (pss_one (ps_ret pe_bl))
        pss_nil)))))))))
      (pss_one (ps_ret pe_bl))), ?_⟩
    refine ⟨_, rfl, a, _, rfl, .inl hS, _, _, rfl, _, _, rfl, _, rfl, ?_, ?_, ?_⟩
    · split <;> split <;> omega
    · rw [List.length_map]; split <;> split <;> omega
    refine for_rng (fun i σ G => ∃ v1 v2 v3 v4 v5 v6 v7 v8 v9 v10 : Option V, σ = [some (.ref a), v1, v2, v3, v4, v5, v6, v7, v8, v9, v10] ∧ Kp [] H G)
      ⟨_, _, _, _, _, _, _, _, _, _, rfl, Kp.refl _ _⟩ ?_ ?_
    · rintro i σ G hi ⟨v1, v2, v3, v4, v5, v6, v7, v8, v9, v10, rfl, KG⟩
      have hi6 : i ≤ 63 := by
        rw [List.length_map] at hi
        have : i < 6 := by
          refine Nat.lt_of_lt_of_le hi ?_
          split <;> split <;> omega
        omega
      refine ⟨_, rfl, _, rfl, a, i, ns, rfl, KG.same.seq hS, n63, hi6, fun b G1 nb B1 K1 => ?_⟩
      refine ⟨_, rfl, by decide, by decide, fun L hL => ?_⟩
      have nbL : b ≠ L := B1.ne hL
      refine lc_rng (fun j X => ∃ (xs : List V) (ps : List (Int × List Int)), X L = some (.lst xs) ∧ ps.length = j ∧ PrsL X xs ps ∧ BagAt X b (j * 10) ∧ Kp [b] G1 X)
        ⟨[], [], upd_same, rfl, ⟨⟨rfl, fun j pr z => by cases z⟩, fun _ z => absurd z List.not_mem_nil⟩, B1.upd nbL, Kp.new (Kp.refl _ _) hL⟩ ?_ ?_
      · rintro j X hj ⟨xs, ps, hX, hj2, ⟨hP, h8⟩, BX, KX⟩
        have j3 : j < 3 := hj
        refine ⟨rfl, _, rfl, b, _, rfl, BX, by omega, fun v X2 i2 n2 hPr hOk hl8 B2 K2 => ?_⟩
        have hX2 := K2.get (nin1 nbL.symm) hX
        have KL : Kp [L] X2 (upd X2 L (.lst (xs ++ [v]))) := Kp.put (Kp.refl _ _) in1 hX2 True.intro
        refine ⟨_, hX2, ?_, xs ++ [v], ps ++ [(i2, n2)], upd_same, ?_, ⟨((hP.keep K2).snoc hOk hPr).keep KL, ?_⟩, (B2.upd nbL).mono (by omega), Kp.old (KX.trans K2) hL⟩
        · rw [hP.1, hj2]; show j < 16777216; omega
        · rw [List.length_append, hj2]; rfl
        · intro pr hpr
          rcases List.mem_append.mp hpr with z | z
          · exact h8 pr z
          · rw [List.mem_singleton.mp z]; exact hl8
      rintro G2 ⟨xs, ps, hL2, hps, ⟨hP, h8⟩, B2, K2⟩
      refine ⟨_, rfl, L, rfl, ⟨_, SqL.of hL2⟩, fun M hM => ?_⟩
      have nLM : L ≠ M := ne_new hM hL2
      have nbM : b ≠ M := B2.ne hM
      refine lc_it (walk_list (xs := xs)) (fun j X => ∃ ys : List V, X M = some (.lst ys) ∧ ys.length = j ∧ Tld C X ys ps ∧ Kp [] G2 X) ⟨[], upd_same, rfl, (fun k v pr z => by cases z), Kp.new (Kp.refl _ _) hM⟩ (fun j X _ ⟨_, _, _, _, z⟩ => SqL.of (z.get nin0 hL2)) ?_ ?_
      · rintro j x X X' hj ⟨ys, hX, hy, hT, KX⟩ ⟨rfl, hx⟩
        have hj2 : j < ps.length := by rw [← hP.1]; exact hj
        obtain ⟨⟨o1, o2, o3⟩, v, hv, r, u, rfl, e1, e2⟩ := hP.2 j ps[j] (by simp [hj2])
        rw [hx] at hv
        cases hv
        have e1' := KX.tup _ _ e1
        have e2' := KX.tup _ _ e2
        refine ⟨r, _, rfl, SqT.of e1', rfl, _, _, rfl, _, _, rfl, rfl, ?_⟩
        refine ⟨rfl, _, rfl, _, rfl, fun s dx hs hdx nds => ?_⟩
        have hs2 : (upd X' dx (.own s)) s = none := (upd_ne nds.symm).trans hs
        have KZ : Kp [s] X' (upd (upd X' dx (.own s)) s (.ins C dx [])) := Kp.new (Kp.new (Kp.refl _ _) hdx) hs2
        refine ⟨s, u, dx, ps[j].1, ps[j].2, rfl, upd_same, KZ.tup _ _ e2', o1, o2, o3, fun Y hSc KY => ⟨rfl, ?_⟩⟩
        have K3 : Kp [] X' Y := (KZ.trans KY).drop hs
        have hYM := K3.get nin0 hX
        refine ⟨ys, hYM, ?_, ys ++ [.ref s], upd_same, ?_, ?_, Kp.old (KX.trans K3) hM⟩
        · rw [hy]; show j < 16777216; omega
        · rw [List.length_append, hy]; rfl
        · intro k v pr z1 z2
          by_cases hk : k < ys.length
          · rw [List.getElem?_append_left hk] at z1
            obtain ⟨s', l', ev, h'⟩ := hT k v pr z1 z2
            exact ⟨s', l', ev, (h'.keep K3 nin0).updL hYM⟩
          · have hk2 : k = ys.length := by
              have := (List.getElem?_eq_some_iff.mp z1).1
              rw [List.length_append] at this
              have : k < ys.length + 1 := this
              omega
            subst hk2
            rw [List.getElem?_concat_length] at z1
            cases z1
            have z3 : ps[j]? = some ps[j] := by simp [hj2]
            rw [hy, z3] at z2
            cases z2
            exact ⟨s, u, rfl, hSc.updL hYM⟩
      · rintro G3 ⟨ys, hM3, hy, hT, K3⟩
        have ps3 : ps.length = 3 := hps
        have hy3 : ys.length = 3 := by rw [hy, hP.1, ps3]
        have xs3 : xs.length = 3 := by rw [hP.1, ps3]
        have hL3 := K3.get nin0 hL2
        have B3 : BagAt G3 b 30 := B2.keep K3 nin0
        refine ⟨_, rfl, b, _, _, rfl, B3, by omega, by decide, by decide, fun e G4 e0 e1 B4 K4 => ⟨by wtm_at "side", fun u hu => ?_⟩⟩
        have nbu : b ≠ u := B4.ne hu
        refine ⟨_, rfl, b, _, _, rfl, B4.upd nbu, by omega, by decide, by decide, fun g G5 g0 g1 B5 K5 => ?_⟩
        have hu5 := K5.tup _ _ upd_same
        obtain ⟨m, hm, m0, m1⟩ : ∃ m : Int, atI [V.int 2, .int 3, .int e] g = some (.int m) ∧ 0 ≤ m ∧ m ≤ 1000 := by
          rcases (by omega : g = 0 ∨ g = 1 ∨ g = 2) with z | z | z <;> subst z
          · exact ⟨2, rfl, by decide, by decide⟩
          · exact ⟨3, rfl, by decide, by decide⟩
          · exact ⟨e, rfl, e0, by omega⟩
        refine ⟨u, _, g, _, rfl, rfl, SqT.of hu5, hm, ?_⟩
        refine ⟨_, rfl, _, rfl, _, _, rfl, rfl, b, _, _, rfl, B5, by omega, by omega, log9 (by omega) (by omega), fun n G6 n0 n1 B6 K6 => ?_⟩
        have K46 : Kp [b] G3 G6 := ((Kp.new K4 hu).trans K5).trans K6
        have hL6 := K46.get (nin1 nbL.symm) hL3
        have hM6 := K46.get (nin1 nbM.symm) hM3
        have hP6 : Prs G6 xs ps := (hP.keep K3).keep K46
        have hT6 : ∀ (j : Nat) (hj : j < 3), ∃ s, ys[j]? = some (.ref s) ∧ ∀ pr, ps[j]? = some pr → Scr C G6 s pr.1 pr.2 := by
          intro j hj
          obtain ⟨s, l, e1, e2⟩ := hT j (ys[j]'(by omega)) (ps[j]'(by omega)) (by simp) (by simp)
          have nsb : s ≠ b := by
            intro z
            obtain ⟨⟨dx, e⟩, _⟩ := e2
            obtain ⟨_, _, _, e', _⟩ := B3
            rw [z, e'] at e
            cases e
          refine ⟨s, by rw [← e1]; simp, fun pr hpr => ?_⟩
          have : ps[j]'(by omega) = pr := by
            have z : ps[j]? = some (ps[j]'(by omega)) := by simp
            rw [z] at hpr
            exact Option.some.inj hpr
          rw [← this]
          obtain ⟨o1, _, o3⟩ := (hP.2 j _ (show ps[j]? = some (ps[j]'(by omega)) by simp)).1
          exact ⟨⟨l, e2.keep K46 (nin1 nsb)⟩, o1, o3⟩
        obtain ⟨pr1, pr2, pr3, eps⟩ : ∃ a b c, ps = [a, b, c] := by
          match ps, ps3 with
          | [a, b, c], _ => exact ⟨a, b, c, rfl⟩
        subst eps
        obtain ⟨x1, x2, x3, exs⟩ : ∃ a b c, xs = [a, b, c] := by
          match xs, xs3 with
          | [a, b, c], _ => exact ⟨a, b, c, rfl⟩
        subst exs
        obtain ⟨y1, y2, y3, eys⟩ : ∃ a b c, ys = [a, b, c] := by
          match ys, hy3 with
          | [a, b, c], _ => exact ⟨a, b, c, rfl⟩
        subst eys
        obtain ⟨s1, z1, t1⟩ := hT6 0 (by decide)
        obtain ⟨s2, z2, t2⟩ := hT6 1 (by decide)
        obtain ⟨s3, z3, t3⟩ := hT6 2 (by decide)
        obtain rfl : y1 = .ref s1 := Option.some.inj z1
        obtain rfl : y2 = .ref s2 := Option.some.inj z2
        obtain rfl : y3 = .ref s3 := Option.some.inj z3
        have c1 := t1 pr1 rfl
        have c2 := t2 pr2 rfl
        have c3 := t3 pr3 rfl
        obtain ⟨_, w1, f1, d1⟩ := hP6.2 0 pr1 rfl
        obtain ⟨_, w2, f2, d2⟩ := hP6.2 1 pr2 rfl
        obtain ⟨_, w3, f3, d3⟩ := hP6.2 2 pr3 rfl
        obtain rfl : x1 = w1 := Option.some.inj f1
        obtain rfl : x2 = w2 := Option.some.inj f2
        obtain rfl : x3 = w3 := Option.some.inj f3
        have g1 : pr1.2.length ≤ 8 := h8 pr1 (by simp)
        have g2 : pr2.2.length ≤ 8 := h8 pr2 (by simp)
        have g3 : pr3.2.length ≤ 8 := h8 pr3 (by simp)
        refine ⟨_, rfl, _, rfl, L, M, s1, s2, s3, x1, x2, x3, _, _, _, _, _, _, rfl, hL6, hM6, d1, d2, d3, c1, c2, c3, g1, g2, g3, fun G7 K7 => ⟨_, rfl, ifF rfl ?_⟩⟩
        have hL7 := K7.get nin0 hL6
        have hM7 := K7.get nin0 hM6
        refine ⟨_, rfl, L, _, 0, _, rfl, rfl, SqL.of hL7, rfl, _, rfl, M, _, 0, _, rfl, rfl, SqL.of hM7, rfl, _, rfl, _, rfl, s1, x1, _, m, n, _, rfl, d1.keep K7, c1.keep K7, g1, m0, n0, by omega, fun G8 K8 => ⟨_, rfl, ifF rfl ?_⟩⟩
        have K78 : Kp [] G6 G8 := K7.trans K8
        refine ⟨_, rfl, by decide, by decide, fun D hD => ?_⟩
        refine lc_rng (fun j X => X D = some (.lst ((List.replicate j true).map V.bl)) ∧ Kp [] G8 X) ⟨upd_same, Kp.new (Kp.refl _ _) hD⟩ ?_ ?_
        · rintro j X hj ⟨hX, KX⟩
          have j3 : j < 3 := hj
          have KX6 : Kp [] G6 X := K78.trans KX
          have hLX := KX6.get nin0 hL6
          have hMX := KX6.get nin0 hM6
          obtain ⟨sj, xj, ij, nj, a1, a2, a3, a4⟩ : ∃ (sj : Addr) (xj : V) (ij : Int) (nj : List Int), atI [V.ref s1, .ref s2, .ref s3] (j : Int) = some (.ref sj) ∧ atI [x1, x2, x3] (j : Int) = some xj ∧ Pr G6 xj ij nj ∧ Scr C G6 sj ij nj := by
            rcases (by omega : j = 0 ∨ j = 1 ∨ j = 2) with z | z | z <;> subst z
            · exact ⟨s1, x1, _, _, rfl, rfl, d1, c1⟩
            · exact ⟨s2, x2, _, _, rfl, rfl, d2, c2⟩
            · exact ⟨s3, x3, _, _, rfl, rfl, d3, c3⟩
          refine ⟨rfl, _, rfl, _, rfl, M, _, _, _, rfl, rfl, SqL.of hMX, a1, _, rfl, _, rfl, L, _, _, _, rfl, rfl, SqL.of hLX, a2, ix_a (a3.keep KX6) ⟨_, rfl, _, rfl, L, _, _, _, rfl, rfl, SqL.of hLX, a2, ix_b (a3.keep KX6) fun l hl => ?_⟩⟩
          refine ⟨_, _, _, _, _, _, rfl, a4.keep KX6, hl, rfl, rfl, _, hX, ?_, ?_, Kp.old KX hD⟩
          · rw [List.length_map, List.length_replicate]; show j < 16777216; omega
          · rw [upd_same, List.replicate_succ', List.map_append]; rfl
        · rintro X ⟨hX, KX⟩
          refine ⟨D, _, rfl, SqL.of hX, ?_⟩
          rw [show ∀ n, (List.replicate n true).all id = true by simp]
          refine ⟨_, rfl, ifF rfl ?_⟩
          refine ⟨_, _, _, _, _, _, _, _, _, _, rfl, KG.trans ?_⟩
          have K8x : Kp [b] G1 X := (((K2.trans (K3.more _)).trans K46).trans (K78.more _)).trans (KX.more _)
          exact ((K1.more [b]).trans K8x).drop nb
    · rintro σ G ⟨v1, v2, v3, v4, v5, v6, v7, v8, v9, v10, rfl, KG⟩
      exact k _
end
theorem all_mk {l : PySem.W.OpenLaw} {w : World} {K : PySem.W.Frag} {h : Heap} {mg : Str → Option Value} {fa f_take f_bag f_some f_is f_sums f_times f_law f_isint f_bits C_Script f_init f_eq f_lt f_add f_mul f_rmul f_none p_none : Addr} (X : K.In h) (G : h.Ns mainGlobals mg) (hfa : mg "law" = some (.ref fa))
    {od_take an_take : Option Addr} {sl_take : Array (Option Value)} {oc_take kV_take dc_take pm_take cd_take ct_take : Value}
    {od_bag an_bag : Option Addr} {sl_bag : Array (Option Value)} {oc_bag kV_bag dc_bag pm_bag cd_bag ct_bag : Value}
    {od_some an_some : Option Addr} {sl_some : Array (Option Value)} {oc_some kV_some dc_some pm_some cd_some ct_some : Value}
    {od_is an_is : Option Addr} {sl_is : Array (Option Value)} {oc_is kV_is dc_is pm_is cd_is ct_is : Value}
    {od_sums an_sums : Option Addr} {sl_sums : Array (Option Value)} {oc_sums kV_sums dc_sums pm_sums cd_sums ct_sums : Value}
    {od_times an_times : Option Addr} {sl_times : Array (Option Value)} {oc_times kV_times dc_times pm_times cd_times ct_times : Value}
    {od_law an_law : Option Addr} {sl_law : Array (Option Value)} {oc_law kV_law dc_law pm_law cd_law ct_law : Value}
    {od_isint an_isint : Option Addr} {sl_isint : Array (Option Value)} {oc_isint kV_isint dc_isint pm_isint cd_isint ct_isint : Value}
    {od_bits an_bits : Option Addr} {sl_bits : Array (Option Value)} {oc_bits kV_bits dc_bits pm_bits cd_bits ct_bits : Value}
    {od_init an_init : Option Addr} {sl_init : Array (Option Value)} {oc_init kV_init dc_init pm_init cd_init ct_init : Value}
    {od_eq an_eq : Option Addr} {sl_eq : Array (Option Value)} {oc_eq kV_eq dc_eq pm_eq cd_eq ct_eq : Value}
    {od_lt an_lt : Option Addr} {sl_lt : Array (Option Value)} {oc_lt kV_lt dc_lt pm_lt cd_lt ct_lt : Value}
    {od_add an_add : Option Addr} {sl_add : Array (Option Value)} {oc_add kV_add dc_add pm_add cd_add ct_add : Value}
    {od_mul an_mul : Option Addr} {sl_mul : Array (Option Value)} {oc_mul kV_mul dc_mul pm_mul cd_mul ct_mul : Value}
    {od_rmul an_rmul : Option Addr} {sl_rmul : Array (Option Value)} {oc_rmul kV_rmul dc_rmul pm_rmul cd_rmul ct_rmul : Value}
    {od_none an_none : Option Addr} {sl_none : Array (Option Value)} {oc_none kV_none dc_none pm_none cd_none ct_none : Value} {rc_none : List Value}
    {cz : ClassData}
    (a_take : PySem.W.nsIn K mainGlobals "_law_take" = some (some (.ref f_take)))
    (l_take : K.lookup f_take = some ⟨oc_take, od_take, .func (PySem.W.fnOf "_law_take" "_law_take" (defArgs s_take) (defBody s_take) (defScope s_take) .none kV_take dc_take pm_take an_take cd_take ct_take), sl_take⟩)
    (hc_take : PySem.W.codeIn K cd_take "_law_take" = true)
    (k_take : PySem.W.keepIn K (.ref f_take) = true)
    (a_bag : PySem.W.nsIn K mainGlobals "_law_bag" = some (some (.ref f_bag)))
    (l_bag : K.lookup f_bag = some ⟨oc_bag, od_bag, .func (PySem.W.fnOf "_law_bag" "_law_bag" (defArgs s_bag) (defBody s_bag) (defScope s_bag) .none kV_bag dc_bag pm_bag an_bag cd_bag ct_bag), sl_bag⟩)
    (hc_bag : PySem.W.codeIn K cd_bag "_law_bag" = true)
    (k_bag : PySem.W.keepIn K (.ref f_bag) = true)
    (a_some : PySem.W.nsIn K mainGlobals "_law_some" = some (some (.ref f_some)))
    (l_some : K.lookup f_some = some ⟨oc_some, od_some, .func (PySem.W.fnOf "_law_some" "_law_some" (defArgs s_some) (defBody s_some) (defScope s_some) .none kV_some dc_some pm_some an_some cd_some ct_some), sl_some⟩)
    (hc_some : PySem.W.codeIn K cd_some "_law_some" = true)
    (k_some : PySem.W.keepIn K (.ref f_some) = true)
    (a_is : PySem.W.nsIn K mainGlobals "_law_is" = some (some (.ref f_is)))
    (l_is : K.lookup f_is = some ⟨oc_is, od_is, .func (PySem.W.fnOf "_law_is" "_law_is" (defArgs s_is) (defBody s_is) (defScope s_is) .none kV_is dc_is pm_is an_is cd_is ct_is), sl_is⟩)
    (hc_is : PySem.W.codeIn K cd_is "_law_is" = true)
    (k_is : PySem.W.keepIn K (.ref f_is) = true)
    (a_sums : PySem.W.nsIn K mainGlobals "_law_sums" = some (some (.ref f_sums)))
    (l_sums : K.lookup f_sums = some ⟨oc_sums, od_sums, .func (PySem.W.fnOf "_law_sums" "_law_sums" (defArgs s_sums) (defBody s_sums) (defScope s_sums) .none kV_sums dc_sums pm_sums an_sums cd_sums ct_sums), sl_sums⟩)
    (hc_sums : PySem.W.codeIn K cd_sums "_law_sums" = true)
    (k_sums : PySem.W.keepIn K (.ref f_sums) = true)
    (a_times : PySem.W.nsIn K mainGlobals "_law_times" = some (some (.ref f_times)))
    (l_times : K.lookup f_times = some ⟨oc_times, od_times, .func (PySem.W.fnOf "_law_times" "_law_times" (defArgs s_times) (defBody s_times) (defScope s_times) .none kV_times dc_times pm_times an_times cd_times ct_times), sl_times⟩)
    (hc_times : PySem.W.codeIn K cd_times "_law_times" = true)
    (k_times : PySem.W.keepIn K (.ref f_times) = true)
    (a_law : PySem.W.nsIn K mainGlobals "law" = some (some (.ref f_law)))
    (l_law : K.lookup f_law = some ⟨oc_law, od_law, .func (PySem.W.fnOf "law" "law" (defArgs s_law) (defBody s_law) (defScope s_law) .none kV_law dc_law pm_law an_law cd_law ct_law), sl_law⟩)
    (hc_law : PySem.W.codeIn K cd_law "law" = true)
    (k_law : PySem.W.keepIn K (.ref f_law) = true)
    (a_isint : PySem.W.nsIn K mainGlobals "is_integer" = some (some (.ref f_isint)))
    (l_isint : K.lookup f_isint = some ⟨oc_isint, od_isint, .func (PySem.W.fnOf "is_integer" "is_integer" (defArgs s_is_integer) (defBody s_is_integer) (defScope s_is_integer) .none kV_isint dc_isint pm_isint an_isint cd_isint ct_isint), sl_isint⟩)
    (hc_isint : PySem.W.codeIn K cd_isint "is_integer" = true)
    (k_isint : PySem.W.keepIn K (.ref f_isint) = true)
    (a_bits : PySem.W.nsIn K mainGlobals "are_bits" = some (some (.ref f_bits)))
    (l_bits : K.lookup f_bits = some ⟨oc_bits, od_bits, .func (PySem.W.fnOf "are_bits" "are_bits" (defArgs s_are_bits) (defBody s_are_bits) (defScope s_are_bits) .none kV_bits dc_bits pm_bits an_bits cd_bits ct_bits), sl_bits⟩)
    (hc_bits : PySem.W.codeIn K cd_bits "are_bits" = true)
    (k_bits : PySem.W.keepIn K (.ref f_bits) = true)
    (aC_Script : PySem.W.nsIn K mainGlobals "Script" = some (some (.ref C_Script)))
    (pg_Script : PySem.W.plainGet K C_Script Str.empty = true)
    (hd_Script : PySem.W.hasDictIn K C_Script = true)
    (po_Script : PySem.W.plainOver K C_Script = true)
    (sa_Script : PySem.W.findIn K (.ref C_Script) "__setattr__" = some (some (.builtin "object.__setattr__")))
    (mk_Script : PySem.W.makesIn K C_Script = true)
    (kc_Script : PySem.W.keepIn K (.ref C_Script) = true)
    (no_Script_steps : PySem.W.findIn K (.ref C_Script) "steps" = some none)
    (no_Script_bits : PySem.W.findIn K (.ref C_Script) "bits" = some none)
    (ca : PySem.W.findIn K (.ref C_Script) "__class__" = some (some (.builtin "object.__class__")))
    (cn : PySem.W.specialIn K (.builtin "object.__class__") "__get__" = some (some (.builtin "getset_descriptor.__get__")))
    (ct : PySem.W.takesIn K (.builtin "object.__class__") = some true)
    (cm : PySem.W.mroIn K C_Script (.type "object") = some true)
    (kt_tuple : PySem.W.kitOne K (.type "tuple") (.ref C_Script) = some false)
    (kt_list : PySem.W.kitOne K (.type "list") (.ref C_Script) = some false)
    (kt_int : PySem.W.kitOne K (.type "int") (.ref C_Script) = some false)
    (kt_NoneType : PySem.W.kitOne K (.type "NoneType") (.ref C_Script) = some false)
    (kt_str : PySem.W.kitOne K (.type "str") (.ref C_Script) = some false)
    (kt_bool : PySem.W.kitOne K (.type "bool") (.ref C_Script) = some false)
    (sb_tuple : PySem.W.subIn K (.type "tuple") (.ref C_Script) = some false)
    (sb_list : PySem.W.subIn K (.type "list") (.ref C_Script) = some false)
    (sb_int : PySem.W.subIn K (.type "int") (.ref C_Script) = some false)
    (sb_NoneType : PySem.W.subIn K (.type "NoneType") (.ref C_Script) = some false)
    (sb_str : PySem.W.subIn K (.type "str") (.ref C_Script) = some false)
    (sb_bool : PySem.W.subIn K (.type "bool") (.ref C_Script) = some false)
    (nE : PySem.W.findIn K (.ref C_Script) "__ne__" = some (some (.builtin "object.__ne__")))
    (sO : PySem.W.subIn K (.ref C_Script) (.type "object") = some true)
    (a_init : PySem.W.findIn K (.ref C_Script) "__init__" = some (some (.ref f_init)))
    (l_init : K.lookup f_init = some ⟨oc_init, od_init, .func (PySem.W.fnOf "__init__" "Script.__init__" (defArgs s_Script___init__) (defBody s_Script___init__) (defScope s_Script___init__) .none kV_init dc_init pm_init an_init cd_init ct_init), sl_init⟩)
    (hc_init : PySem.W.codeIn K cd_init "Script.__init__" = true)
    (k_init : PySem.W.keepIn K (.ref f_init) = true)
    (i_init : PySem.W.isFn K (.ref f_init) = true)
    (a_eq : PySem.W.findIn K (.ref C_Script) "__eq__" = some (some (.ref f_eq)))
    (l_eq : K.lookup f_eq = some ⟨oc_eq, od_eq, .func (PySem.W.fnOf "__eq__" "Script.__eq__" (defArgs s_Script___eq__) (defBody s_Script___eq__) (defScope s_Script___eq__) .none kV_eq dc_eq pm_eq an_eq cd_eq ct_eq), sl_eq⟩)
    (hc_eq : PySem.W.codeIn K cd_eq "Script.__eq__" = true)
    (k_eq : PySem.W.keepIn K (.ref f_eq) = true)
    (i_eq : PySem.W.isFn K (.ref f_eq) = true)
    (a_lt : PySem.W.findIn K (.ref C_Script) "__lt__" = some (some (.ref f_lt)))
    (l_lt : K.lookup f_lt = some ⟨oc_lt, od_lt, .func (PySem.W.fnOf "__lt__" "Script.__lt__" (defArgs s_Script___lt__) (defBody s_Script___lt__) (defScope s_Script___lt__) .none kV_lt dc_lt pm_lt an_lt cd_lt ct_lt), sl_lt⟩)
    (hc_lt : PySem.W.codeIn K cd_lt "Script.__lt__" = true)
    (k_lt : PySem.W.keepIn K (.ref f_lt) = true)
    (i_lt : PySem.W.isFn K (.ref f_lt) = true)
    (a_add : PySem.W.findIn K (.ref C_Script) "__add__" = some (some (.ref f_add)))
    (l_add : K.lookup f_add = some ⟨oc_add, od_add, .func (PySem.W.fnOf "__add__" "Script.__add__" (defArgs s_Script___add__) (defBody s_Script___add__) (defScope s_Script___add__) .none kV_add dc_add pm_add an_add cd_add ct_add), sl_add⟩)
    (hc_add : PySem.W.codeIn K cd_add "Script.__add__" = true)
    (k_add : PySem.W.keepIn K (.ref f_add) = true)
    (i_add : PySem.W.isFn K (.ref f_add) = true)
    (a_mul : PySem.W.findIn K (.ref C_Script) "__mul__" = some (some (.ref f_mul)))
    (l_mul : K.lookup f_mul = some ⟨oc_mul, od_mul, .func (PySem.W.fnOf "__mul__" "Script.__mul__" (defArgs s_Script___mul__) (defBody s_Script___mul__) (defScope s_Script___mul__) .none kV_mul dc_mul pm_mul an_mul cd_mul ct_mul), sl_mul⟩)
    (hc_mul : PySem.W.codeIn K cd_mul "Script.__mul__" = true)
    (k_mul : PySem.W.keepIn K (.ref f_mul) = true)
    (i_mul : PySem.W.isFn K (.ref f_mul) = true)
    (a_rmul : PySem.W.findIn K (.ref C_Script) "__rmul__" = some (some (.ref f_rmul)))
    (l_rmul : K.lookup f_rmul = some ⟨oc_rmul, od_rmul, .func (PySem.W.fnOf "__rmul__" "Script.__rmul__" (defArgs s_Script___rmul__) (defBody s_Script___rmul__) (defScope s_Script___rmul__) .none kV_rmul dc_rmul pm_rmul an_rmul cd_rmul ct_rmul), sl_rmul⟩)
    (hc_rmul : PySem.W.codeIn K cd_rmul "Script.__rmul__" = true)
    (k_rmul : PySem.W.keepIn K (.ref f_rmul) = true)
    (i_rmul : PySem.W.isFn K (.ref f_rmul) = true)
    (at_none : PySem.W.findCls K (.ref C_Script) (.type "type") "none" = some (.get (.builtin "classmethod.__get__") (.ref p_none) .none (.ref C_Script)))
    (rc_no : PySem.W.recIn K p_none "classmethod" = some (.ref f_none :: rc_none))
    (l_none : K.lookup f_none = some ⟨oc_none, od_none, .func (PySem.W.fnOf "none" "Script.none" (defArgs s_Script_none) (defBody s_Script_none) (defScope s_Script_none) .none kV_none dc_none pm_none an_none cd_none ct_none), sl_none⟩)
    (hc_none : PySem.W.codeIn K cd_none "Script.none" = true)
    (k_none : PySem.W.keepIn K (.ref f_none) = true)
    (fi_none : PySem.W.fnIn K f_none = true)
    (rd_S : PySem.W.readsIn K C_Script (.type "type") = true)
    (ga_S : PySem.W.specialIn K (.ref C_Script) "__getattribute__" = some (some (.builtin "type.__getattribute__")))
    (sfS : PySem.W.selfFirst K C_Script = true)
    (cdS : PySem.W.clsIn K C_Script = some cz)
    (mroS : cz.mro = [.ref C_Script, .type "object"])
    (iaS : PySem.W.findIn K (.ref C_Script) "__iadd__" = some none)
    (sJ : PySem.W.subIn K (.ref C_Script) (.type "int") = some false)
    (z_len : PySem.W.nsIn K mainGlobals "len" = some none)
    (z_int : PySem.W.nsIn K mainGlobals "int" = some none)
    (z_abs : PySem.W.nsIn K mainGlobals "abs" = some none)
    (z_bool : PySem.W.nsIn K mainGlobals "bool" = some none)
    (z_enumerate : PySem.W.nsIn K mainGlobals "enumerate" = some none)
    (z_list : PySem.W.nsIn K mainGlobals "list" = some none)
    (z_tuple : PySem.W.nsIn K mainGlobals "tuple" = some none)
    (z_range : PySem.W.nsIn K mainGlobals "range" = some none)
    (z_min : PySem.W.nsIn K mainGlobals "min" = some none)
    (z_max : PySem.W.nsIn K mainGlobals "max" = some none)
    (z_all : PySem.W.nsIn K mainGlobals "all" = some none)
    (z_any : PySem.W.nsIn K mainGlobals "any" = some none)
    (z_isinstance : PySem.W.nsIn K mainGlobals "isinstance" = some none) :
    ∀ base : Heap, K.In base → base.Ns mainGlobals mg → FnG l.prog w K mg base CX0 7 fa (spLaw K) := by
  have D_take : Def K mg "_law_take" s_take ["_law_bag_here", "_law_many"] := ⟨f_take, _, fun_mk (st := s_take) l_take hc_take k_take, PySem.W.mg_of X G a_take, (fun_mk (st := s_take) l_take hc_take k_take).binds fun _ _ _ _ _ _ us hl => match us, hl with | [_, _], _ => rfl⟩
  have D_bag : Def K mg "_law_bag" s_bag ["_law_script", "_law_at"] := ⟨f_bag, _, fun_mk (st := s_bag) l_bag hc_bag k_bag, PySem.W.mg_of X G a_bag, (fun_mk (st := s_bag) l_bag hc_bag k_bag).binds fun _ _ _ _ _ _ us hl => match us, hl with | [_, _], _ => rfl⟩
  have D_some : Def K mg "_law_some" s_some ["_law_bag_here"] := ⟨f_some, _, fun_mk (st := s_some) l_some hc_some k_some, PySem.W.mg_of X G a_some, (fun_mk (st := s_some) l_some hc_some k_some).binds fun _ _ _ _ _ _ us hl => match us, hl with | [_], _ => rfl⟩
  have D_is : Def K mg "_law_is" s_is ["_law_told", "_law_steps", "_law_bits"] := ⟨f_is, _, fun_mk (st := s_is) l_is hc_is k_is, PySem.W.mg_of X G a_is, (fun_mk (st := s_is) l_is hc_is k_is).binds fun _ _ _ _ _ _ us hl => match us, hl with | [_, _, _], _ => rfl⟩
  have D_sums : Def K mg "_law_sums" s_sums ["_law_pairs", "_law_told"] := ⟨f_sums, _, fun_mk (st := s_sums) l_sums hc_sums k_sums, PySem.W.mg_of X G a_sums, (fun_mk (st := s_sums) l_sums hc_sums k_sums).binds fun _ _ _ _ _ _ us hl => match us, hl with | [_, _], _ => rfl⟩
  have D_times : Def K mg "_law_times" s_times ["_law_pair", "_law_told", "_law_many", "_law_more"] := ⟨f_times, _, fun_mk (st := s_times) l_times hc_times k_times, PySem.W.mg_of X G a_times, (fun_mk (st := s_times) l_times hc_times k_times).binds fun _ _ _ _ _ _ us hl => match us, hl with | [_, _, _, _], _ => rfl⟩
  have D_law : Def K mg "law" s_law ["_law_script"] := ⟨f_law, _, fun_mk (st := s_law) l_law hc_law k_law, PySem.W.mg_of X G a_law, (fun_mk (st := s_law) l_law hc_law k_law).binds fun _ _ _ _ _ _ us hl => match us, hl with | [_], _ => rfl⟩
  have D_isint : Def K mg "is_integer" s_is_integer ["thing"] := ⟨f_isint, _, fun_mk (st := s_is_integer) l_isint hc_isint k_isint, PySem.W.mg_of X G a_isint, (fun_mk (st := s_is_integer) l_isint hc_isint k_isint).binds fun _ _ _ _ _ _ us hl => match us, hl with | [_], _ => rfl⟩
  have D_bits : Def K mg "are_bits" s_are_bits ["things"] := ⟨f_bits, _, fun_mk (st := s_are_bits) l_bits hc_bits k_bits, PySem.W.mg_of X G a_bits, (fun_mk (st := s_are_bits) l_bits hc_bits k_bits).binds fun _ _ _ _ _ _ us hl => match us, hl with | [_], _ => rfl⟩
  have cl_Script : Cls K C_Script := ⟨pg_Script, hd_Script, po_Script, sa_Script⟩
  have mgC_Script := PySem.W.mg_of X G aC_Script
  have S : Scp K mg C_Script := ⟨cl_Script, no_Script_steps, no_Script_bits, mgC_Script, ca, cn, ct, cm, oth_mk kt_tuple kt_list kt_int kt_NoneType kt_str kt_bool sb_tuple sb_list sb_int sb_NoneType sb_str sb_bool⟩
  have D_init : Mdef K "__init__" "Script.__init__" s_Script___init__ ["self", "steps", "bits"] f_init := ⟨_, fun_mk (st := s_Script___init__) l_init hc_init k_init, (fun_mk (st := s_Script___init__) l_init hc_init k_init).binds fun _ _ _ _ _ _ us hl => match us, hl with | [_, _, _], _ => rfl⟩
  have M_init : Mk K C_Script f_init := ⟨mk_Script, a_init, i_init, kc_Script⟩
  have D_eq : Mdef K "__eq__" "Script.__eq__" s_Script___eq__ ["self", "other"] f_eq := ⟨_, fun_mk (st := s_Script___eq__) l_eq hc_eq k_eq, (fun_mk (st := s_Script___eq__) l_eq hc_eq k_eq).binds fun _ _ _ _ _ _ us hl => match us, hl with | [_, _], _ => rfl⟩
  have M_eq : Meth K C_Script "__eq__" f_eq := ⟨a_eq, i_eq, k_eq⟩
  have D_lt : Mdef K "__lt__" "Script.__lt__" s_Script___lt__ ["self", "other"] f_lt := ⟨_, fun_mk (st := s_Script___lt__) l_lt hc_lt k_lt, (fun_mk (st := s_Script___lt__) l_lt hc_lt k_lt).binds fun _ _ _ _ _ _ us hl => match us, hl with | [_, _], _ => rfl⟩
  have M_lt : Meth K C_Script "__lt__" f_lt := ⟨a_lt, i_lt, k_lt⟩
  have D_add : Mdef K "__add__" "Script.__add__" s_Script___add__ ["self", "other"] f_add := ⟨_, fun_mk (st := s_Script___add__) l_add hc_add k_add, (fun_mk (st := s_Script___add__) l_add hc_add k_add).binds fun _ _ _ _ _ _ us hl => match us, hl with | [_, _], _ => rfl⟩
  have M_add : Meth K C_Script "__add__" f_add := ⟨a_add, i_add, k_add⟩
  have D_mul : Mdef K "__mul__" "Script.__mul__" s_Script___mul__ ["self", "k"] f_mul := ⟨_, fun_mk (st := s_Script___mul__) l_mul hc_mul k_mul, (fun_mk (st := s_Script___mul__) l_mul hc_mul k_mul).binds fun _ _ _ _ _ _ us hl => match us, hl with | [_, _], _ => rfl⟩
  have M_mul : Meth K C_Script "__mul__" f_mul := ⟨a_mul, i_mul, k_mul⟩
  have D_rmul : Mdef K "__rmul__" "Script.__rmul__" s_Script___rmul__ ["self", "k"] f_rmul := ⟨_, fun_mk (st := s_Script___rmul__) l_rmul hc_rmul k_rmul, (fun_mk (st := s_Script___rmul__) l_rmul hc_rmul k_rmul).binds fun _ _ _ _ _ _ us hl => match us, hl with | [_, _], _ => rfl⟩
  have M_rmul : Meth K C_Script "__rmul__" f_rmul := ⟨a_rmul, i_rmul, k_rmul⟩
  have D_none : Mdef K "none" "Script.none" s_Script_none ["cls"] f_none := ⟨_, fun_mk (st := s_Script_none) l_none hc_none k_none, (fun_mk (st := s_Script_none) l_none hc_none k_none).binds fun _ _ _ _ _ _ us hl => match us, hl with | [_], _ => rfl⟩
  have T : Txt K mg := ⟨PySem.W.mg_none_of X G z_len, PySem.W.mg_none_of X G z_int, PySem.W.mg_none_of X G z_abs, PySem.W.mg_none_of X G z_bool, PySem.W.mg_none_of X G z_enumerate, PySem.W.mg_none_of X G z_list, PySem.W.mg_none_of X G z_tuple, PySem.W.mg_none_of X G z_range, PySem.W.mg_none_of X G z_min, PySem.W.mg_none_of X G z_max, PySem.W.mg_none_of X G z_all, PySem.W.mg_none_of X G z_any, PySem.W.mg_none_of X G z_isinstance⟩
  intro base KB GB
  have cTake : Cal CX0 l.prog w K mg base 1 "_law_take" spTake := c_take D_take T
  have cBag : Cal CX0 l.prog w K mg base 1 "_law_bag" (spBag K) := c_bag D_bag T
  have cInt : Cal CX0 l.prog w K mg base 1 "is_integer" spIsInt := c_isint D_isint T
  have cBits : Cal CX0 l.prog w K mg base 2 "are_bits" spBits := c_bits D_bits T cInt
  have cScr : Mak CX0 l.prog w K mg base 3 "Script" C_Script (spInit C_Script) := m_init D_init T S M_init cInt cBits
  have O : Cmp l.prog w K mg base C_Script f_eq f_lt f_lt := ⟨a_eq, i_eq, m_eq D_eq T S, a_lt, i_lt, m_lt D_lt T S, nE, sO⟩
  have W : Way l.prog w K mg base C_Script f_add f_mul f_rmul p_none f_none (.type "type") cz := ⟨sfS, a_add, i_add, m_add D_add T S cScr, a_mul, i_mul, m_mul D_mul T S cScr, a_rmul, i_rmul, m_rmul D_rmul T S cScr, sb_int, sJ, cdS, mroS, iaS, ⟨rd_S, ga_S⟩, ⟨at_none, ⟨_, rc_no⟩, fi_none⟩, m_none D_none T S cScr⟩
  have cSome : Cal CX0 l.prog w K mg base 2 "_law_some" spSome := c_some D_some T cTake
  have cIs : Cal CX0 l.prog w K mg base 1 "_law_is" (spIs C_Script) := c_is D_is T S
  have cSums : Cal CX0 l.prog w K mg base 6 "_law_sums" (spSums C_Script) := c_sums D_sums T S O W cIs
  have cTimes : Cal CX0 l.prog w K mg base 6 "_law_times" (spTimes C_Script) := c_times D_times T S O W cIs
  have cc_law : CalG CX0 l.prog w K mg base 7 "law" (spLaw K) := c_law D_law T S cTake cBag cSome cScr cIs cSums cTimes
  obtain ⟨fz, FZ, mz, _⟩ := cc_law.ex
  have ez := hfa.symm.trans mz
  cases ez
  exact FZ
end TT
open PySem PySem.W PyProof.Rows in
set_option maxRecDepth 100000 in
set_option maxHeartbeats 0 in
theorem PySem.Challenge.cw_tailtables_k36_scripts_joined_holds : PySem.Challenge.rw_tailtables_k36_scripts_joined.Holds := by
  w_on; o_law; k_head; (case hw => w_witness2)
  k_fill
  refine TT.walkG (l := PySem.Challenge.rw_tailtables_k36_scripts_joined) (n := 63) (k := 7) (CX := fun _ => L2.CX0) (sp := fun w => TT.spLaw _) rfl (by decide) rfl ⟨rfl, by decide, by decide⟩ (fun w h Y => PySem.W.kIn_of Y) ?F (fun _ _ a ns hl hb _ hS => ⟨a, ns, rfl, hS, hl, fun _ => rfl⟩) fun _ _ _ _ _ z => z
  case F =>
    intro w mg fa h KX G hmg
    refine' TT.all_mk KX G hmg ?a_take ?l_take ?hc_take ?k_take ?a_bag ?l_bag ?hc_bag ?k_bag ?a_some ?l_some ?hc_some ?k_some ?a_is ?l_is ?hc_is ?k_is ?a_sums ?l_sums ?hc_sums ?k_sums ?a_times ?l_times ?hc_times ?k_times ?a_law ?l_law ?hc_law ?k_law ?a_isint ?l_isint ?hc_isint ?k_isint ?a_bits ?l_bits ?hc_bits ?k_bits ?aC_Script ?pg_Script ?hd_Script ?po_Script ?sa_Script ?mk_Script ?kc_Script ?no_Script_steps ?no_Script_bits ?ca ?cn ?ct ?cm ?kt_tuple ?kt_list ?kt_int ?kt_NoneType ?kt_str ?kt_bool ?sb_tuple ?sb_list ?sb_int ?sb_NoneType ?sb_str ?sb_bool ?nE ?sO ?a_init ?l_init ?hc_init ?k_init ?i_init ?a_eq ?l_eq ?hc_eq ?k_eq ?i_eq ?a_lt ?l_lt ?hc_lt ?k_lt ?i_lt ?a_add ?l_add ?hc_add ?k_add ?i_add ?a_mul ?l_mul ?hc_mul ?k_mul ?i_mul ?a_rmul ?l_rmul ?hc_rmul ?k_rmul ?i_rmul ?at_none ?rc_no ?l_none ?hc_none ?k_none ?fi_none ?rd_S ?ga_S ?sfS ?cdS ?mroS ?iaS ?sJ ?z_len ?z_int ?z_abs ?z_bool ?z_enumerate ?z_list ?z_tuple ?z_range ?z_min ?z_max ?z_all ?z_any ?z_isinstance
    (case a_take => first | k_is | exact ⟨_, rfl⟩ | rfl)
    (case l_take => first | k_is | exact ⟨_, rfl⟩ | rfl)
    (case hc_take => first | k_is | exact ⟨_, rfl⟩ | rfl)
    (case k_take => first | k_is | exact ⟨_, rfl⟩ | rfl)
    (case a_bag => first | k_is | exact ⟨_, rfl⟩ | rfl)
    (case l_bag => first | k_is | exact ⟨_, rfl⟩ | rfl)
    (case hc_bag => first | k_is | exact ⟨_, rfl⟩ | rfl)
    (case k_bag => first | k_is | exact ⟨_, rfl⟩ | rfl)
    (case a_some => first | k_is | exact ⟨_, rfl⟩ | rfl)
    (case l_some => first | k_is | exact ⟨_, rfl⟩ | rfl)
    (case hc_some => first | k_is | exact ⟨_, rfl⟩ | rfl)
    (case k_some => first | k_is | exact ⟨_, rfl⟩ | rfl)
    (case a_is => first | k_is | exact ⟨_, rfl⟩ | rfl)
    (case l_is => first | k_is | exact ⟨_, rfl⟩ | rfl)
    (case hc_is => first | k_is | exact ⟨_, rfl⟩ | rfl)
    (case k_is => first | k_is | exact ⟨_, rfl⟩ | rfl)
    (case a_sums => first | k_is | exact ⟨_, rfl⟩ | rfl)
    (case l_sums => first | k_is | exact ⟨_, rfl⟩ | rfl)
    (case hc_sums => first | k_is | exact ⟨_, rfl⟩ | rfl)
    (case k_sums => first | k_is | exact ⟨_, rfl⟩ | rfl)
    (case a_times => first | k_is | exact ⟨_, rfl⟩ | rfl)
    (case l_times => first | k_is | exact ⟨_, rfl⟩ | rfl)
    (case hc_times => first | k_is | exact ⟨_, rfl⟩ | rfl)
    (case k_times => first | k_is | exact ⟨_, rfl⟩ | rfl)
    (case a_law => first | k_is | exact ⟨_, rfl⟩ | rfl)
    (case l_law => first | k_is | exact ⟨_, rfl⟩ | rfl)
    (case hc_law => first | k_is | exact ⟨_, rfl⟩ | rfl)
    (case k_law => first | k_is | exact ⟨_, rfl⟩ | rfl)
    (case a_isint => first | k_is | exact ⟨_, rfl⟩ | rfl)
    (case l_isint => first | k_is | exact ⟨_, rfl⟩ | rfl)
    (case hc_isint => first | k_is | exact ⟨_, rfl⟩ | rfl)
    (case k_isint => first | k_is | exact ⟨_, rfl⟩ | rfl)
    (case a_bits => first | k_is | exact ⟨_, rfl⟩ | rfl)
    (case l_bits => first | k_is | exact ⟨_, rfl⟩ | rfl)
    (case hc_bits => first | k_is | exact ⟨_, rfl⟩ | rfl)
    (case k_bits => first | k_is | exact ⟨_, rfl⟩ | rfl)
    (case aC_Script => first | k_is | exact ⟨_, rfl⟩ | rfl)
    (case pg_Script => first | k_is | exact ⟨_, rfl⟩ | rfl)
    (case hd_Script => first | k_is | exact ⟨_, rfl⟩ | rfl)
    (case po_Script => first | k_is | exact ⟨_, rfl⟩ | rfl)
    (case sa_Script => first | k_is | exact ⟨_, rfl⟩ | rfl)
    (case mk_Script => first | k_is | exact ⟨_, rfl⟩ | rfl)
    (case kc_Script => first | k_is | exact ⟨_, rfl⟩ | rfl)
    (case no_Script_steps => first | k_is | exact ⟨_, rfl⟩ | rfl)
    (case no_Script_bits => first | k_is | exact ⟨_, rfl⟩ | rfl)
    (case ca => first | k_is | exact ⟨_, rfl⟩ | rfl)
    (case cn => first | k_is | exact ⟨_, rfl⟩ | rfl)
    (case ct => first | k_is | exact ⟨_, rfl⟩ | rfl)
    (case cm => first | k_is | exact ⟨_, rfl⟩ | rfl)
    (case kt_tuple => first | k_is | exact ⟨_, rfl⟩ | rfl)
    (case kt_list => first | k_is | exact ⟨_, rfl⟩ | rfl)
    (case kt_int => first | k_is | exact ⟨_, rfl⟩ | rfl)
    (case kt_NoneType => first | k_is | exact ⟨_, rfl⟩ | rfl)
    (case kt_str => first | k_is | exact ⟨_, rfl⟩ | rfl)
    (case kt_bool => first | k_is | exact ⟨_, rfl⟩ | rfl)
    (case sb_tuple => first | k_is | exact ⟨_, rfl⟩ | rfl)
    (case sb_list => first | k_is | exact ⟨_, rfl⟩ | rfl)
    (case sb_int => first | k_is | exact ⟨_, rfl⟩ | rfl)
    (case sb_NoneType => first | k_is | exact ⟨_, rfl⟩ | rfl)
    (case sb_str => first | k_is | exact ⟨_, rfl⟩ | rfl)
    (case sb_bool => first | k_is | exact ⟨_, rfl⟩ | rfl)
    (case nE => first | k_is | exact ⟨_, rfl⟩ | rfl)
    (case sO => first | k_is | exact ⟨_, rfl⟩ | rfl)
    (case a_init => first | k_is | exact ⟨_, rfl⟩ | rfl)
    (case l_init => first | k_is | exact ⟨_, rfl⟩ | rfl)
    (case hc_init => first | k_is | exact ⟨_, rfl⟩ | rfl)
    (case k_init => first | k_is | exact ⟨_, rfl⟩ | rfl)
    (case i_init => first | k_is | exact ⟨_, rfl⟩ | rfl)
    (case a_eq => first | k_is | exact ⟨_, rfl⟩ | rfl)
    (case l_eq => first | k_is | exact ⟨_, rfl⟩ | rfl)
    (case hc_eq => first | k_is | exact ⟨_, rfl⟩ | rfl)
    (case k_eq => first | k_is | exact ⟨_, rfl⟩ | rfl)
    (case i_eq => first | k_is | exact ⟨_, rfl⟩ | rfl)
    (case a_lt => first | k_is | exact ⟨_, rfl⟩ | rfl)
    (case l_lt => first | k_is | exact ⟨_, rfl⟩ | rfl)
    (case hc_lt => first | k_is | exact ⟨_, rfl⟩ | rfl)
    (case k_lt => first | k_is | exact ⟨_, rfl⟩ | rfl)
    (case i_lt => first | k_is | exact ⟨_, rfl⟩ | rfl)
    (case a_add => first | k_is | exact ⟨_, rfl⟩ | rfl)
    (case l_add => first | k_is | exact ⟨_, rfl⟩ | rfl)
    (case hc_add => first | k_is | exact ⟨_, rfl⟩ | rfl)
    (case k_add => first | k_is | exact ⟨_, rfl⟩ | rfl)
    (case i_add => first | k_is | exact ⟨_, rfl⟩ | rfl)
    (case a_mul => first | k_is | exact ⟨_, rfl⟩ | rfl)
    (case l_mul => first | k_is | exact ⟨_, rfl⟩ | rfl)
    (case hc_mul => first | k_is | exact ⟨_, rfl⟩ | rfl)
    (case k_mul => first | k_is | exact ⟨_, rfl⟩ | rfl)
    (case i_mul => first | k_is | exact ⟨_, rfl⟩ | rfl)
    (case a_rmul => first | k_is | exact ⟨_, rfl⟩ | rfl)
    (case l_rmul => first | k_is | exact ⟨_, rfl⟩ | rfl)
    (case hc_rmul => first | k_is | exact ⟨_, rfl⟩ | rfl)
    (case k_rmul => first | k_is | exact ⟨_, rfl⟩ | rfl)
    (case i_rmul => first | k_is | exact ⟨_, rfl⟩ | rfl)
    (case at_none => first | k_is | exact ⟨_, rfl⟩ | rfl)
    (case rc_no => first | k_is | exact ⟨_, rfl⟩ | rfl)
    (case l_none => first | k_is | exact ⟨_, rfl⟩ | rfl)
    (case hc_none => first | k_is | exact ⟨_, rfl⟩ | rfl)
    (case k_none => first | k_is | exact ⟨_, rfl⟩ | rfl)
    (case fi_none => first | k_is | exact ⟨_, rfl⟩ | rfl)
    (case rd_S => first | k_is | exact ⟨_, rfl⟩ | rfl)
    (case ga_S => first | k_is | exact ⟨_, rfl⟩ | rfl)
    (case sfS => first | k_is | exact ⟨_, rfl⟩ | rfl)
    (case cdS => first | k_is | exact ⟨_, rfl⟩ | rfl)
    (case mroS => first | k_is | exact ⟨_, rfl⟩ | rfl)
    (case iaS => first | k_is | exact ⟨_, rfl⟩ | rfl)
    (case sJ => first | k_is | exact ⟨_, rfl⟩ | rfl)
    (case z_len => first | k_is | exact ⟨_, rfl⟩ | rfl)
    (case z_int => first | k_is | exact ⟨_, rfl⟩ | rfl)
    (case z_abs => first | k_is | exact ⟨_, rfl⟩ | rfl)
    (case z_bool => first | k_is | exact ⟨_, rfl⟩ | rfl)
    (case z_enumerate => first | k_is | exact ⟨_, rfl⟩ | rfl)
    (case z_list => first | k_is | exact ⟨_, rfl⟩ | rfl)
    (case z_tuple => first | k_is | exact ⟨_, rfl⟩ | rfl)
    (case z_range => first | k_is | exact ⟨_, rfl⟩ | rfl)
    (case z_min => first | k_is | exact ⟨_, rfl⟩ | rfl)
    (case z_max => first | k_is | exact ⟨_, rfl⟩ | rfl)
    (case z_all => first | k_is | exact ⟨_, rfl⟩ | rfl)
    (case z_any => first | k_is | exact ⟨_, rfl⟩ | rfl)
    (case z_isinstance => first | k_is | exact ⟨_, rfl⟩ | rfl)
