import PyProof.Rows.All
import Wide.All
import OpenK.AllK
import Wide.FinOn
import HandS.ForMost
import HandS.Wide
import HandS.EndBits
import HandS.Star
import HandS.ClsMeth
import HandS.Property
import HandS.RaiseMore
import HandS.Style
import HandS.TupAny
import HandS.Walk
import HandS.Codes
import PyProof.ListStr
import PyProof.ReprRoads
import PyProof.ReprLen
import PySem.Challenge.RW_tailtables_k08_scripted_worlds
set_option Elab.async false
set_option linter.all false
set_option maxRecDepth 100000
namespace TT
open PySem L2
/-! the heap but for some places -/
def Kp (S : List Addr) (H H' : Hp) : Prop := ∀ a o, a ∉ S → H a = some o → H' a = some o
theorem Kp.refl (S : List Addr) (H : Hp) : Kp S H H := fun _ _ _ e => e
theorem Kp.trans {S : List Addr} {H H1 H2 : Hp} (x : Kp S H H1) (y : Kp S H1 H2) : Kp S H H2 := fun a o n e => y a o n (x a o n e)
theorem Kp.last {S : List Addr} {H H1 H2 : Hp} (y : Kp S H1 H2) (x : Kp S H H1) : Kp S H H2 := x.trans y
theorem Kp.get {S : List Addr} {H H' : Hp} {a : Addr} {o : HO} (x : Kp S H H') (n : a ∉ S) (e : H a = some o) : H' a = some o := x a o n e
theorem Kp.new {S : List Addr} {H H' : Hp} {p : Addr} {o : HO} (x : Kp S H H') (n : H' p = none) : Kp S H (upd H' p o) := fun a u h e => by
  have z := x a u h e
  rw [upd_ne (fun q => by rw [q, n] at z; cases z)]
  exact z
theorem Kp.put {S : List Addr} {H H' : Hp} {p : Addr} {o : HO} (x : Kp S H H') (n : p ∈ S) : Kp S H (upd H' p o) := fun a u h e => by
  rw [upd_ne (fun q => h (by rw [q]; exact n))]
  exact x a u h e
/-- a place that was free before -/
theorem Kp.old {S : List Addr} {H H' : Hp} {p : Addr} {o : HO} (x : Kp S H H') (n : H p = none) : Kp S H (upd H' p o) := fun a u h e => by
  rw [upd_ne (fun q => by rw [q, n] at e; cases e)]
  exact x a u h e
theorem Kp.mono {S S' : List Addr} {H H' : Hp} (x : Kp S H H') (h : ∀ a ∈ S, a ∈ S') : Kp S' H H' := fun a o n e => x a o (fun z => n (h a z)) e
theorem Kp.drop {S : List Addr} {H H' : Hp} {b : Addr} (x : Kp (b :: S) H H') (n : H b = none) : Kp S H H' := fun a o h e => x a o (fun z => by
  rcases List.mem_cons.mp z with q | q
  · rw [q, n] at e; cases e
  · exact h q) e
theorem Kp.side {S : List Addr} {G Z W : Hp} {t : Addr} (x : Kp S G Z) (n : G t = none) (y : Kp [t] Z W) : Kp S G W := fun a o h e =>
  y a o (fun z => by rw [List.mem_singleton.mp z, n] at e; cases e) (x a o h e)
theorem Kp.more {H H' : Hp} (S : List Addr) (x : Kp [] H H') : Kp S H H' := x.mono fun _ z => absurd z List.not_mem_nil
theorem Kp.same {H H' : Hp} (x : Kp [] H H') : Same H H' := fun a o e => x a o (fun z => nomatch z) e
theorem Kp.free {S : List Addr} {H H' : Hp} {p : Addr} (x : Kp S H H') (n : p ∉ S) (e : H' p = none) : H p = none := by
  cases q : H p with
  | none => rfl
  | some o => rw [x p o n q] at e; cases e
theorem ne_new {H : Hp} {a b : Addr} {o : HO} (x : H b = none) (y : H a = some o) : a ≠ b := ne_of_none y x
theorem nin1 {a b : Addr} (h : a ≠ b) : a ∉ [b] := fun z => h (List.mem_singleton.mp z)
theorem nin2 {a b c : Addr} (h : a ≠ b) (h' : a ≠ c) : a ∉ [b, c] := fun z => by
  rcases List.mem_cons.mp z with q | q
  · exact h q
  · exact nin1 h' q
theorem nin0 {a : Addr} : a ∉ ([] : List Addr) := fun z => nomatch z
theorem in1 {a : Addr} {l : List Addr} : a ∈ a :: l := List.mem_cons_self
theorem in2 {a b : Addr} {l : List Addr} : a ∈ b :: a :: l := List.mem_cons_of_mem _ List.mem_cons_self
/-- a place where the stepping stops -/
inductive Stop (p : Prop) : Prop
  | a (h : p) : Stop p
  | b (h : p) : Stop p
theorem Stop.get {p : Prop} : Stop p → p
  | .a h => h
  | .b h => h
/-! fields by name -/
theorem lk_hit {f : Str} {v : V} {r : List (Str × V)} : List.lookup f ((f, v) :: r) = some v := by simp [List.lookup]
theorem lk_skip {f g : Str} {v : V} {r : List (Str × V)} (h : ¬ f = g) : List.lookup f ((g, v) :: r) = List.lookup f r := by
  have e : (f == g) = false := by simpa using h
  simp [List.lookup, e]
theorem put_nil {f : Str} {v : V} : putF f v [] = [(f, v)] := rfl
theorem put_hit {f : Str} {v x : V} {r : List (Str × V)} : putF f v ((f, x) :: r) = (f, v) :: r := if_pos rfl
theorem put_skip {f g : Str} {v x : V} {r r' : List (Str × V)} (h : ¬ g = f) (e : putF f v r = r') : putF f v ((g, x) :: r) = (g, x) :: r' := by
  rw [← e]
  exact if_neg h
/-! classes: made, their methods, their instances called -/
structure Mak (CX : CXT) (P : Program) (w : World) (K : PySem.W.Frag) (mg : Str → Option Value) (base : Heap) (k : Nat) (x : Str) (C : Addr) (sp : Sp) : Prop where
  ex : ∃ (f : Addr) (fd : FuncData) (ps : List Str), Mk K C f ∧ FnOk P w K mg base CX k f fd ps sp ∧ mg x = some (.ref C) ∧ Binds K fd ps []
section
variable {CX : CXT} {X : Cx} {E : XK} {k j : Nat} {x : Str} {C : Addr} {sp : Sp} {p pos : Pos} {e : Expr} {es : List Expr} {t : TA}
theorem pe_mkc (c : Mak CX X.prog X.w X.K X.mg X.base k x C sp) (hr : Room j X.A) (hx : Passes CX X E) (ha : PA X (e :: es) t) (hk : k + 1 ≤ j := by decide) (hg : Gl X x := by rfl)
    (hdb : (x == ("__debug__" : Str)) = false := by decide) (he : starEach (e :: es) X.env = (false, eval e X.env) :: starEach es X.env := by rfl) (hpl : (backTo pos (starEach es X.env)).any (·.1) = false := by rfl) :
    PE X (.Call (.Name x p) (e :: es) [] pos) (tMake C sp [] E t) := by
  obtain ⟨f, fd, ps, M, F, hm, b⟩ := c.ex
  exact pe_make M F (hr.mono hk) hg hm b .nil hx ha hdb he hpl
end
/-- a method (or any def of a class's text) at f -/
structure Mdef (K : PySem.W.Frag) (x qual : Str) (st : Stmt) (ps : List Str) (f : Addr) : Prop where
  ex : ∃ fd : FuncData, Fun K x qual st f fd ∧ Binds K fd ps []
/-! a def under its name -/
structure Cal (CX : CXT) (P : Program) (w : World) (K : PySem.W.Frag) (mg : Str → Option Value) (base : Heap) (k : Nat) (x : Str) (sp : Sp) : Prop where
  ex : ∃ (f : Addr) (fd : FuncData) (ps : List Str), FnOk P w K mg base CX k f fd ps sp ∧ mg x = some (.ref f) ∧ PySem.W.keepIn K (.ref f) = true ∧ Binds K fd ps []
/-- the def of the text, under its name -/
structure Def (K : PySem.W.Frag) (mg : Str → Option Value) (x : Str) (st : Stmt) (ps : List Str) : Prop where
  ex : ∃ (f : Addr) (fd : FuncData), Fun K x x st f fd ∧ mg x = some (.ref f) ∧ Binds K fd ps []
section
variable {P : Program} {w : World} {K : PySem.W.Frag} {mg : Str → Option Value} {base : Heap}
theorem Def.ok {x : Str} {st : Stmt} {N ps : List Str} {k : Nat} {sp : Sp} (D : Def K mg x st ps) (S : FnScope N ps (defScope st)) (len : ∀ vs H Q E, sp vs H Q E → vs.length = ps.length)
    (body : ∀ (f : Addr) (cdv : Value) (A : Around) (outer : List Env) (s : Shared) (H : Hp) (vs : List V) (Q : VK) (E : XK), Room k (A.deeper (PyProof.Rows.envOfC x (defScope st) s.heap.objs.size f cdv)) → sp vs H Q E →
      ∃ t, PSs (cxOf CX0 P w K mg base N x (defScope st) f cdv A outer s H E).nox (defBody st) t ∧ t { nx := fun _ H' => Q .non H', rt := Q } (start N vs) H) : Cal CX0 P w K mg base (k + 1) x sp := by
  obtain ⟨f, fd, F, hm, b⟩ := D.ex
  exact ⟨f, fd, ps, F.ok S len (fun cdv => body f cdv), hm, F.kp, b⟩
end
section
variable {CX : CXT} {X : Cx} {E : XK} {k j : Nat} {x : Str} {sp : Sp} {p pos : Pos} {e : Expr} {es : List Expr} {t : TA}
theorem pe_cl (c : Cal CX X.prog X.w X.K X.mg X.base k x sp) (hr : Room j X.A) (hx : Passes CX X E) (ha : PA X (e :: es) t) (hk : k ≤ j := by decide) (hg : Gl X x := by rfl)
    (hdb : (x == ("__debug__" : Str)) = false := by decide) (he : starEach (e :: es) X.env = (false, eval e X.env) :: starEach es X.env := by rfl) (hpl : (backTo pos (starEach es X.env)).any (·.1) = false := by rfl) :
    PE X (.Call (.Name x p) (e :: es) [] pos) (tCall sp [] E t) := by
  obtain ⟨f, fd, ps, F, hm, kp, b⟩ := c.ex
  exact pe_call F (hr.mono hk) hg hm kp b .nil hx ha hdb he hpl
end
/-! defs that may call repr: nothing is being shown around them -/
def FnG (P : Program) (w : World) (K : PySem.W.Frag) (mg : Str → Option Value) (base : Heap) (CX : CXT) (k : Nat) (f : Addr) (sp : Sp) : Prop :=
  ∀ (A : Around) (outer : List Env) (s : Shared) (H : Hp) (us : List Value) (vs : List V) (Q : VK) (E : XK), Room k A → A.guards = some [] →
    Env0 P w K mg base A outer s H → Vals vs us → sp vs H Q E → codeAny (model P w) A (.call (.ref f) ⟨us, []⟩) (CR CX outer P w H s Q E) s
section
variable {P : Program} {w : World} {K : PySem.W.Frag} {mg : Str → Option Value} {base : Heap} {CX : CXT} {k : Nat} {f : Addr} {sp : Sp}
theorem fn_g {x qual : Str} {st : Stmt} {fd : FuncData} {N ps : List Str} (F : Fun K x qual st f fd) (hb : Binds K fd ps []) (S : FnScope N ps (defScope st))
    (len : ∀ vs H Q E, sp vs H Q E → vs.length = ps.length)
    (body : ∀ (cdv : Value) (A : Around) (outer : List Env) (s : Shared) (H : Hp) (vs : List V) (Q : VK) (E : XK), (A.deeper (PyProof.Rows.envOfC qual (defScope st) s.heap.objs.size f cdv)).guards = some [] →
      Room k (A.deeper (PyProof.Rows.envOfC qual (defScope st) s.heap.objs.size f cdv)) → sp vs H Q E →
      ∃ t, PSs (cxOf CX P w K mg base N qual (defScope st) f cdv A outer s H E) (defBody st) t ∧ t { nx := fun _ H' => Q .non H', rt := Q } (start N vs) H) : FnG P w K mg base CX (k + 1) f sp := by
  obtain ⟨oc, od, kV, doc, pm, an, cdv, ct, osl, rfl, lk, hcd⟩ := F.ex
  intro A outer s H us vs Q E hr hg e0 r hsp
  have hl : vs.length = ps.length := len _ _ _ _ hsp
  have KX : K.In s.heap := e0.mod.kin.keeps fun b o e => (e0.bs b o e).1
  refine StX.run_bnd lk hcd S hr e0 (G := fun xs H2 => xs = vs ∧ H2 = H) (fun A' Ex Q' h => ?_) fun s2 H2 xs g hr' => ?_
  · have q := hb s us KX (by rw [List.append_nil, ← r.length]; exact hl)
    rw [List.append_nil] at q
    exact q _ _ _ _ (h s H vs us e0 Un.refl rfl (fun _ _ z => z) r hl ⟨rfl, rfl⟩)
  · obtain ⟨rfl, rfl⟩ := g
    exact body cdv A outer s2 _ _ Q E hg hr' hsp
end
structure CalG (CX : CXT) (P : Program) (w : World) (K : PySem.W.Frag) (mg : Str → Option Value) (base : Heap) (k : Nat) (x : Str) (sp : Sp) : Prop where
  ex : ∃ (f : Addr), FnG P w K mg base CX k f sp ∧ mg x = some (.ref f) ∧ PySem.W.keepIn K (.ref f) = true
section
variable {P : Program} {w : World} {K : PySem.W.Frag} {mg : Str → Option Value} {base : Heap} {CX : CXT}
theorem Def.okG {x : Str} {st : Stmt} {N ps : List Str} {k : Nat} {sp : Sp} (D : Def K mg x st ps) (S : FnScope N ps (defScope st)) (len : ∀ vs H Q E, sp vs H Q E → vs.length = ps.length)
    (body : ∀ (f : Addr) (cdv : Value) (A : Around) (outer : List Env) (s : Shared) (H : Hp) (vs : List V) (Q : VK) (E : XK), (A.deeper (PyProof.Rows.envOfC x (defScope st) s.heap.objs.size f cdv)).guards = some [] →
      Room k (A.deeper (PyProof.Rows.envOfC x (defScope st) s.heap.objs.size f cdv)) → sp vs H Q E →
      ∃ t, PSs (cxOf CX P w K mg base N x (defScope st) f cdv A outer s H E) (defBody st) t ∧ t { nx := fun _ H' => Q .non H', rt := Q } (start N vs) H) : CalG CX P w K mg base (k + 1) x sp := by
  obtain ⟨f, fd, F, hm, b⟩ := D.ex
  exact ⟨f, fn_g F b S len (fun cdv => body f cdv), hm, F.kp⟩
theorem Def.okG0 {x : Str} {st : Stmt} {N ps : List Str} {k : Nat} {sp : Sp} (D : Def K mg x st ps) (S : FnScope N ps (defScope st)) (len : ∀ vs H Q E, sp vs H Q E → vs.length = ps.length)
    (body : ∀ (f : Addr) (cdv : Value) (A : Around) (outer : List Env) (s : Shared) (H : Hp) (vs : List V) (Q : VK) (E : XK), (A.deeper (PyProof.Rows.envOfC x (defScope st) s.heap.objs.size f cdv)).guards = some [] →
      Room k (A.deeper (PyProof.Rows.envOfC x (defScope st) s.heap.objs.size f cdv)) → sp vs H Q E →
      ∃ t, PSs (cxOf CX0 P w K mg base N x (defScope st) f cdv A outer s H E).nox (defBody st) t ∧ t { nx := fun _ H' => Q .non H', rt := Q } (start N vs) H) : CalG CX0 P w K mg base (k + 1) x sp := by
  refine D.okG S len fun f cdv A outer s H vs Q E hg hr h => ?_
  obtain ⟨t, a, b⟩ := body f cdv A outer s H vs Q E hg hr h
  exact ⟨t, a.nox, b⟩
end
section
variable {CX : CXT} {X : Cx} {E : XK} {k j : Nat} {x : Str} {sp : Sp} {p pos : Pos} {e : Expr} {es : List Expr} {t : TA}
theorem pe_clG (c : CalG CX X.prog X.w X.K X.mg X.base k x sp) (hg : X.A.guards = some []) (hr : Room j X.A) (hx : Passes CX X E) (ha : PA X (e :: es) t) (hk : k ≤ j := by decide) (hgl : Gl X x := by rfl)
    (hdb : (x == ("__debug__" : Str)) = false := by decide) (he : starEach (e :: es) X.env = (false, eval e X.env) :: starEach es X.env := by rfl) (hpl : (backTo pos (starEach es X.env)).any (·.1) = false := by rfl) :
    PE X (.Call (.Name x p) (e :: es) [] pos) (tCall sp [] E t) := by
  obtain ⟨f, F, hm, kp⟩ := c.ex
  constructor
  intro pins s σ H Q I h
  refine PySem.wpAny_Call_Name_kw (ld_glob I hgl hm ?_ hdb)
  refine PySem.W.callWith_K (h₀ := X.base) I.ok.mod.kin kp (thn (ha.run pos pins s σ H _ I h) fun us s1 hh => ?_) he hpl
  obtain ⟨vs, H1, I1, r, q⟩ := hh
  rw [List.append_nil] at q
  refine ⟨I1.kIn, wpAny_call (codeAny_mono (F X.A X.stack s1 H1 us vs Q E (hr.mono hk) hg I1.env0 r q) fun z s' hq => ?_)⟩
  cases z with
  | error u => exact hx pins σ H1 s1 u s' I1 hq
  | ok fl => cases fl with
    | ret u => exact I1.after hq
    | _ => exact hq.elim
end
/-! data of this kind hold no dicts -/
mutual
theorem dp_noDict {K : PySem.W.Frag} {H : Hp} : ∀ (d : PyData) (v : V), Dp K H v d → d.hasDict = false
  | .none, _, _ => by simp only [PyData.hasDict]
  | .bool _, _, _ => by simp only [PyData.hasDict]
  | .int _, _, _ => by simp only [PyData.hasDict]
  | .str _, _, _ => by simp only [PyData.hasDict]
  | .list ds, _, h => by
    cases h with
    | lst _ h2 => simp only [PyData.hasDict]; exact dp_noDictAll ds _ h2
  | .tuple ds, _, h => by
    cases h with
    | tup _ h2 => simp only [PyData.hasDict]; exact dp_noDictAll ds _ h2
  | .dict _, _, h => by cases h
theorem dp_noDictAll {K : PySem.W.Frag} {H : Hp} : ∀ (ds : List PyData) (vs : List V), DpAll K H vs ds → PyData.hasDictAll ds = false
  | [], _, _ => by simp only [PyData.hasDictAll]
  | d :: ds, _, h => by
    cases h with
    | cons h1 h2 => simp only [PyData.hasDictAll, dp_noDict d _ h1, dp_noDictAll ds _ h2, Bool.or_self]
end
/-! repr of data -/
section
variable {X : Cx}
def rRepr (K : PySem.W.Frag) : List V → Hp → VK → Prop := fun xs H Q => ∃ (x : V) (d : PyData), xs = [x] ∧ Dp K H x d ∧ d.showable = true ∧ d.shown.length ≤ sizeLine ∧ d.depth ≤ 180 ∧ Q (.str d.shown) H
theorem call_repr (hg : X.A.guards = some []) (hu : X.A.units + 200 < cLine) : CallR X (.builtin "repr") (rRepr X.K) := by
  intro pins s σ H xs us Q I r h
  obtain ⟨x, d, rfl, hd, hs, hz, hp, q⟩ := h
  obtain ⟨u, rfl, ru⟩ := vals1 r
  cases hd with
  | non => cases ru; exact PySem.P.repr_of_none ⟨.str _, H, I.tok _, ⟨_, rfl⟩, q⟩
  | bl b => cases ru; exact PySem.P.repr_of_bool ⟨.str _, H, I.tok _, ⟨_, rfl⟩, by cases b <;> exact q⟩
  | int i =>
    obtain ⟨t, rfl⟩ := ru
    exact PySem.P.repr_of_int (of_decide_eq_true hs) ⟨.str _, H, I.tok _, ⟨_, rfl⟩, q⟩
  | str z =>
    obtain ⟨t, rfl⟩ := ru
    exact PySem.P.repr_of_str ⟨.str _, H, I.tok _, ⟨_, rfl⟩, q⟩ hz
  | lst h1 h2 =>
    obtain ⟨as, rd⟩ := Dp.reads I _ _ _ (Dp.lst h1 h2) ru
    cases ru
    refine PySem.repr_of_reads' rd hs ?_ hg (by omega) (fun _ _ e => e) (fun h' t tk hk => ⟨.str _, H, I.kept hk, ⟨_, rfl⟩, q⟩) hz
    exact PyData.noDict_hsm (dp_noDict _ _ (Dp.lst h1 h2))
  | tup h1 h2 =>
    obtain ⟨as, rd⟩ := Dp.reads I _ _ _ (Dp.tup h1 h2) ru
    cases ru
    refine PySem.repr_of_reads' rd hs ?_ hg (by omega) (fun _ _ e => e) (fun h' t tk hk => ⟨.str _, H, I.kept hk, ⟨_, rfl⟩, q⟩) hz
    exact PyData.noDict_hsm (dp_noDict _ _ (Dp.tup h1 h2))
end
/-! loops over range(n) -/
theorem for_rng {n : Nat} {g : TG} {tb : TS} {D : Ends} {σ : St} {H : Hp} (Pv : Nat → St → Hp → Prop) (h0 : Pv 0 σ H)
    (hs : ∀ (i : Nat) σ H, i < n → Pv i σ H → g (.int (i : Int)) σ H fun σ2 H2 => tb { D with nx := Pv (i + 1), ct := Pv (i + 1), bk := D.nx } σ2 H2) (hd : ∀ σ H, Pv n σ H → D.nx σ H) :
    ∃ W : Nat → Nat → St → Hp → Prop, (∃ m, W 0 m σ H) ∧ ∀ i m σ H, W i m σ H →
      ((Itr 0 n).stop i H ∧ D.nx σ H) ∨ ((Itr 0 n).go i H ∧ ∃ N : St → Hp → Prop, (∀ σ' H', N σ' H' → ∃ m', m' < m ∧ W (i + 1) m' σ' H') ∧ ∀ x H', (Itr 0 n).yld i H x H' → g x σ H' fun σ2 H2 => tb { D with nx := N, ct := N, bk := D.nx } σ2 H2) :=
  for_range Pv h0 (fun i σ H hi p => by rw [Int.zero_add]; exact hs i σ H hi p) hd
theorem lc_rng {n : Nat} {g : TG} {tt : TT} {te : TE} {vs : List Nat} {σ : St} {H1 : Hp} {D : Addr} {Qd : Hp → Prop} (Pv : Nat → Hp → Prop) (h0 : Pv 0 (upd H1 D (.lst [])))
    (hs : ∀ (i : Nat) H, i < n → Pv i H → g (.int (i : Int)) (wipe σ vs) H fun σ2 H2 => wipe σ2 vs = wipe σ vs ∧ tt σ2 H2 fun b H3 =>
      if b = true then te σ2 H3 fun y H4 => ∃ acc, H4 D = some (.lst acc) ∧ acc.length < sizeLine ∧ Pv (i + 1) (upd H4 D (.lst (acc ++ [y]))) else Pv (i + 1) H3) (hd : ∀ H, Pv n H → Qd H) :
    ∃ W : Nat → Nat → Hp → Prop, (∃ m, W 0 m (upd H1 D (.lst []))) ∧ ∀ i m H, W i m H →
      ((Itr 0 n).stop i H ∧ Qd H) ∨ ((Itr 0 n).go i H ∧ ∃ Nx : Hp → Prop, (∀ H', Nx H' → ∃ m', m' < m ∧ W (i + 1) m' H') ∧ ∀ x H', (Itr 0 n).yld i H x H' → g x (wipe σ vs) H' fun σ2 H2 => wipe σ2 vs = wipe σ vs ∧ tt σ2 H2 fun b H3 =>
        if b = true then te σ2 H3 fun y H4 => ∃ acc, H4 D = some (.lst acc) ∧ acc.length < sizeLine ∧ Nx (upd H4 D (.lst (acc ++ [y]))) else Nx H3) :=
  lc_range Pv h0 (fun i H hi p => by rw [Int.zero_add]; exact hs i H hi p) hd
/-! how long a text repr gives -/
structure Sh (d : PyData) (n k : Nat) : Prop where
  so : d.showable = true
  le : d.shown.length ≤ n
  dp : d.depth ≤ k
structure ShAll (ds : List PyData) (n k : Nat) : Prop where
  so : PyData.showableAll ds = true
  le : ((PyData.shownAll ds).map (·.length)).sum + 2 * ds.length ≤ n
  dp : PyData.depthAll ds ≤ k
theorem Sh.mono {d : PyData} {n k n' k' : Nat} (h : Sh d n k) (hn : n ≤ n') (hk : k ≤ k') : Sh d n' k' := ⟨h.so, Nat.le_trans h.le hn, Nat.le_trans h.dp hk⟩
theorem ShAll.mono {d : List PyData} {n k n' k' : Nat} (h : ShAll d n k) (hn : n ≤ n') (hk : k ≤ k') : ShAll d n' k' := ⟨h.so, Nat.le_trans h.le hn, Nat.le_trans h.dp hk⟩
theorem Sh.none : Sh .none 4 0 := ⟨rfl, by decide, Nat.le_refl _⟩
theorem Sh.bool (b : Bool) : Sh (.bool b) 5 0 := ⟨rfl, by cases b <;> decide, Nat.le_refl _⟩
theorem Sh.int {i : Int} (h : i.natAbs < 10 ^ 60) : Sh (.int i) 61 0 := by
  refine ⟨?_, ?_, Nat.le_refl _⟩
  · have h2 : i.natAbs < 2 ^ 200 := Nat.lt_of_lt_of_le h (by decide)
    have h3 := PySem.Flt.log2_lt_of (show 0 < 200 by decide) h2
    simp only [PyData.showable]
    exact decide_eq_true (by omega)
  · have e := int_text_length_le10 (k := 60) (by decide) h
    show (Str.ofString (toString i)).length ≤ 61
    rw [ofString_length]
    exact e
theorem Sh.str {x : Str} (h : ∀ c ∈ x.cps.toList, c < 16 ^ 8) : Sh (.str x) (10 * x.length + 2) 0 := by
  refine ⟨rfl, ?_, Nat.le_refl _⟩
  simp only [PyData.shown]
  exact StrLaws.reprText_len x h
theorem shownAll_len : ∀ ds : List PyData, (PyData.shownAll ds).length = ds.length
  | [] => by simp only [PyData.shownAll, List.length_nil]
  | d :: ds => by simp only [PyData.shownAll, List.length_cons, shownAll_len ds]
theorem ShAll.nil {k : Nat} : ShAll [] 0 k := ⟨by simp only [PyData.showableAll], by simp only [PyData.shownAll, List.map_nil, List.sum_nil, List.length_nil]; omega, by simp only [PyData.depthAll]; omega⟩
theorem ShAll.cons {d : PyData} {ds : List PyData} {n m k : Nat} (a : Sh d n k) (b : ShAll ds m k) : ShAll (d :: ds) (n + 2 + m) k := by
  refine ⟨by simp only [PyData.showableAll, a.so, b.so, Bool.and_self], ?_, ?_⟩
  · have h1 := a.le
    have h2 := b.le
    simp only [PyData.shownAll, List.map_cons, List.sum_cons, List.length_cons]
    omega
  · have h1 := a.dp
    have h2 := b.dp
    simp only [PyData.depthAll]
    omega
theorem ShAll.of {n k : Nat} : ∀ ds : List PyData, (∀ d ∈ ds, Sh d n k) → ShAll ds (ds.length * (n + 2)) k
  | [], _ => ShAll.nil.mono (Nat.zero_le _) (Nat.le_refl _)
  | d :: ds, h => (ShAll.cons (h d List.mem_cons_self) (ShAll.of ds fun e he => h e (List.mem_cons_of_mem _ he))).mono (by rw [List.length_cons, Nat.succ_mul]; omega) (Nat.le_refl _)
theorem Sh.list {ds : List PyData} {n k : Nat} (h : ShAll ds n k) : Sh (.list ds) (n + 3) (k + 1) := by
  refine ⟨by simp only [PyData.showable, h.so], ?_, by simp only [PyData.depth]; have := h.dp; omega⟩
  have h1 := listText_len_le (PyData.shownAll ds)
  have h2 := h.le
  rw [shownAll_len] at h1
  simp only [PyData.shown]
  omega
theorem Sh.tuple {ds : List PyData} {n k : Nat} (h : ShAll ds n k) : Sh (.tuple ds) (n + 3) (k + 1) := by
  refine ⟨by simp only [PyData.showable, h.so], ?_, by simp only [PyData.depth]; have := h.dp; omega⟩
  have h1 := tupleText_len_le (PyData.shownAll ds)
  have h2 := h.le
  rw [shownAll_len] at h1
  simp only [PyData.shown]
  omega
def rRepr2 (K : PySem.W.Frag) : List V → Hp → VK → Prop := fun xs H Q => ∃ (x : V) (d : PyData) (n k : Nat), xs = [x] ∧ Dp K H x d ∧ Sh d n k ∧ n ≤ sizeLine ∧ k ≤ 180 ∧ Q (.str d.shown) H
theorem call_reprD {X : Cx} (hg : X.A.guards = some []) (hu : X.A.units + 200 < cLine) : CallR X (.builtin "repr") (rRepr2 X.K) := fun pins s σ H xs us Q I r h => by
  obtain ⟨x, d, n, k, e, hd, hs, hn, hk, q⟩ := h
  exact call_repr hg hu pins s σ H xs us Q I r ⟨x, d, e, hd, hs.so, Nat.le_trans hs.le hn, Nat.le_trans hs.dp hk, q⟩
/-! list(text) -/
theorem paired_get {α β : Type} {R : α → β → Prop} : ∀ (xs : List α) (ys : List β), xs.length = ys.length → (∀ (j : Nat) a b, xs[j]? = some a → ys[j]? = some b → R a b) → Paired R xs ys
  | [], [], _, _ => .nil
  | [], _ :: _, h, _ => by cases h
  | _ :: _, [], h, _ => by cases h
  | x :: xs, y :: ys, h, k => .cons (k 0 x y rfl rfl) (paired_get xs ys (Nat.succ.inj h) fun j a b p q => k (j + 1) a b p q)
abbrev sgn (c : Nat) : V := .str ⟨#[c]⟩
theorem call_list_txt {X : Cx} (hc : X.calm = true) : CallR X (.type "list") (fun xs H Q => ∃ x : Str, xs = [.str x] ∧ x.length ≤ sizeLine ∧ ∀ l, H l = none → Q (.ref l) (upd H l (.lst (x.cps.toList.map sgn)))) := by
  intro pins s σ H xs us Q I r h
  obtain ⟨x, rfl, hz, q⟩ := h
  obtain ⟨u, rfl, t, rfl⟩ := vals1 r
  refine PySem.call_list_str (I.ok.hd hc) x t (hn := hz) fun h' tk acc c hk hS hacc => ?_
  have rel : Vals (x.cps.toList.map sgn) acc.toList := paired_get _ _ (by simp [hacc.1]) fun j a b p p' => by
    obtain ⟨cc, uu, e1, rfl⟩ := hacc.2 j b (by simpa using p')
    have p2 : (x.cps[j]?).map sgn = some a := by simpa using p
    rw [e1] at p2
    obtain rfl : sgn cc = a := Option.some.inj p2
    exact ⟨uu, rfl⟩
  refine ⟨.ref s.heap.objs.size, _, I.laid (t' := tk) hk (Nat.le_refl _) (show ObjOk X.prog X.w _ h' _ (.lst (x.cps.toList.map sgn)) from ⟨?_, acc.toList, c, rel, ?_⟩), rfl, q _ (I.hok.fresh (Nat.le_refl _))⟩
  · rw [List.length_map]; exact hz
  · simpa using hS
theorem _root_.L2.Room.units2 {k : Nat} {A : Around} (r : Room k A) : A.units + 200 < cLine := by have := r.un; omega
/-! the end of a law whose promise is told of a def that may call repr -/
section
open PySem.W PyProof.Rows
variable {P : Program} {w : World} {K : PySem.W.Frag} {mg mb : Str → Option Value} {CX : CXT} {k : Nat} {fa a : Addr} {sp : Sp} {s₁ : Shared} {vs : List Value} {ns : List Int}
theorem lawG (KX : K.In s₁.heap) (hns : s₁.heap.Ns mainGlobals mg) (hb : s₁.heap.Ns builtinsNs mb) (hbb : ∀ x : Str, x ≠ "__name__" → mb x = bootBuiltins x) (hlim : s₁.heap.NoLimit) (hg : s₁.gens = #[])
    (ha : s₁.heap.get? a = some { cls := .type "list", data := .seq vs.toArray }) (hi : IntsAre vs ns) (hl : ns.length ≤ sizeLine) (hr : Room k callerA)
    (F : ∀ base : Heap, K.In base → base.Ns mainGlobals mg → FnG P w K mg base CX k fa sp)
    (hsp : ∀ H : Hp, Only H → SqL K H a (ns.map V.int) → sp [.ref a] H (fun v _ => v = .bl true) fun _ _ _ => False)
    (hCX : ∀ H e s', CX [] H s₁ (fun _ _ _ => False) e s' → False) :
    codeAny (model P w) callerA (.call (.ref fa) ⟨[.ref a], []⟩) (fun r s' => r = .ok (.ret (.bool true)) ∧ OldK s₁.heap s'.heap ∧ s'.os = s₁.os ∧ AllBare s'.gens) s₁ := by
  -- one abstract heap that tracks at most the script
  suffices core : ∀ H : Hp, Only H → SqL K H a (ns.map V.int) → HOk P w H s₁.heap → (∀ b u, H b = some u → b = a ∧ K.lookup a = none) → _ by
    cases hk : K.lookup a with
    | some o =>
      obtain rfl : o = { cls := .type "list", data := .seq vs.toArray } := by have e := KX a o hk; rw [ha] at e; cases e; rfl
      refine core (fun _ => none) (fun _ => .inl rfl) (.inr ⟨_, vs.toArray, _, hk, rfl, rfl, rfl, ?_, ?_⟩) (fun b u z => ?_) fun b u z => ?_
      · rw [List.size_toArray, hi.length]; exact hl
      · simpa using vals_ints hi
      · cases (show (none : Option HO) = some u from z)
      · cases (show (none : Option HO) = some u from z)
    | none =>
      let G : Hp := fun b => if b = a then some (.frz { cls := .type "list", data := .seq vs.toArray } (.lst (ns.map V.int))) else none
      have gy : G a = some (.frz { cls := .type "list", data := .seq vs.toArray } (.lst (ns.map V.int))) := if_pos rfl
      have gn : ∀ b, b ≠ a → G b = none := fun b n => if_neg n
      refine core G (fun b => ?_) (.inl (.inr ⟨_, gy⟩)) (fun b u z => ?_) fun b u z => ?_
      · rcases Nat.decEq b a with n | n
        · exact .inl (gn b n)
        · subst n; exact .inr ⟨_, _, gy⟩
      · rcases Nat.decEq b a with n | n
        · rw [gn b n] at z; cases z
        · subst n; rw [gy] at z; cases z
          exact ⟨ha, by rw [List.length_map]; exact hl, vs, _, vals_ints hi, ha⟩
      · rcases Nat.decEq b a with n | n
        · rw [gn b n] at z; cases z
        · exact ⟨n, hk⟩
  intro H hO hS hok hA
  have off : ∀ {b : Addr} {o : Obj}, s₁.heap.get? b = some o → (b = a → K.lookup a = none → False) → H b = none := fun {b o} e n => by
    cases q : H b with
    | none => rfl
    | some u => exact (n (hA b u q).1 (hA b u q).2).elim
  have nsK : ∀ {b : Addr} {m : Str → Option Value}, s₁.heap.Ns b m → (hidT s₁.heap H).Ns b m := fun {b m} z => by
    obtain ⟨o, es, ep, e, d, r⟩ := z
    refine ⟨o, es, ep, hidT_get e (off e fun q _ => ?_), d, r⟩
    subst q
    rw [ha] at e; cases e
    cases (show Data.seq vs.toArray _ = Data.dict es ep from d)
  have kin : K.In (hidT s₁.heap H) := fun b o e => hidT_get (KX b o e) (off (KX b o e) fun q n => by
    subst q; rw [n] at e; cases e)
  have md : Mod K mg (hidT s₁.heap H) := by
    obtain ⟨mc, h1, h2⟩ := hlim
    exact ⟨kin, nsK hns, ⟨mb, nsK hb, hbb⟩, mc, nsK h1, h2⟩
  have e0 : Env0 P w K mg (hidT s₁.heap H) callerA [] s₁ H :=
    { frames := rfl, mod := md, bs := fun b o e => of_hidT e, bsz := Nat.le_of_eq (hidT_size _ _), funs := trivial
      frf := fun b z => absurd (show b ∈ ([] : List Addr) from z) List.not_mem_nil
      hok := hok
      bare := .of_eq hg }
  have run := F _ kin (nsK hns) callerA [] s₁ H [.ref a] [.ref a] _ _ hr rfl e0 (.cons rfl .nil) (hsp H hO hS)
  refine codeAny_mono run fun z s' h => ?_
  cases z with
  | error e => exact (hCX H e s' h).elim
  | ok fl => cases fl with
    | ret u =>
      obtain ⟨v, H', os, bare, un, hok', r', q⟩ := h
      obtain rfl : v = V.bl true := q
      obtain rfl : u = Value.bool true := r'
      refine ⟨rfl, OldK.of_keep fun b o e => ?_, os, bare⟩
      cases q : H b with
      | none => exact un.keep b o e q (fun z => absurd (show b ∈ ([] : List Addr) from z) List.not_mem_nil) List.not_mem_nil
      | some u =>
        rcases hO b with z | ⟨ob, xs, z⟩
        · rw [q] at z; cases z
        · have e1 := (hok b _ z).1
          have e2 := (hok' b _ (un.frzs b ob _ z)).1
          rw [e] at e1; cases e1
          exact e2
    | _ => exact h.elim
theorem walkG {l : OpenLaw} {n k : Nat} {q : Program} {loose : List Str} {XP : (Str → Option Value) → Heap → Prop} {YP : World → Heap → Prop} {d : DefRec} {K : Params → Frag} {CX : World → CXT} {sp : World → Sp}
    (hn : l.most = some n) (hn2 : n ≤ sizeLine) (hdf : d.params.defaults = []) (hr : Room k callerA) (hY : ∀ (w : World) (h : Heap), YP w h → (K w.params).In h)
    (F : ∀ (w : World) (mg : Str → Option Value) (fa : Addr) (h : Heap), (K w.params).In h → h.Ns mainGlobals mg → mg d.name = some (.ref fa) →
      ∀ base : Heap, (K w.params).In base → base.Ns mainGlobals mg → FnG l.prog w (K w.params) mg base (CX w) k fa (sp w))
    (hsp : ∀ (w : World) (H : Hp) (a : Addr) (ns : List Int), ns.length ≤ n → (∀ z ∈ ns, Builtin.Int.intBits z ≤ 1048576) → Only H → SqL (K w.params) H a (ns.map V.int) → sp w [.ref a] H (fun v _ => v = .bl true) fun _ _ _ => False)
    (hCX : ∀ (w : World) (H : Hp) (s : Shared) (e : Value) (s' : Shared), CX w [] H s (fun _ _ _ => False) e s' → False) : WalkO q loose XP YP l.row.toRowW d [] (fun f vs => PySem.call f vs) := by
  refine Att.attach_callB hn hdf fun w s₀ s₁ mg mb fa o pm cd doc a vs ns G Y ho hd hcd hmg hobj hints hlen hbits hg => ?_
  have kx := hY w _ Y
  exact lawG kx G.T.g G.T.b G.T.builtins G.T.nolimit hg hobj hints (Nat.le_trans hlen hn2) hr (F w mg fa _ kx G.T.g hmg) (fun H z => hsp w H a ns hlen hbits z) fun H => hCX w H s₁
end
end TT
namespace TT
open PySem L2
local macro_rules | `(tactic| wtm_at "as") => `(tactic| with_reducible assumption)
local macro_rules | `(tactic| wtm_at "ne0") => `(tactic| first
  | wtm_at "as"
  | (apply Ne.symm; wtm_at "as"))
local macro_rules | `(tactic| wtm_at "nin0") => `(tactic| first
  | (with_reducible exact nin0)
  | ((with_reducible apply nin1); wtm_at "ne0")
  | ((with_reducible apply nin2); (case h => wtm_at "ne0"); (case h' => wtm_at "ne0")))
local macro_rules | `(tactic| wtm_at "hp0") => `(tactic| first
  | wtm_at "as"
  | (with_reducible exact upd_same)
  | (with_reducible refine (upd_ne ?h1).trans ?h2; (case h1 => wtm_at "ne0"); (case h2 => wtm_at "hp0"))
  | ((with_reducible apply Kp.get); (case x => wtm_at "as"); (case n => wtm_at "nin0"); (case e => wtm_at "hp0")))
local macro_rules | `(tactic| wtm_at "ne1") => `(tactic| first
  | wtm_at "ne0"
  | ((with_reducible apply ne_new); (case x => wtm_at "as"); (case y => wtm_at "hp0"))
  | (apply Ne.symm; (with_reducible apply ne_new); (case x => wtm_at "as"); (case y => wtm_at "hp0")))
local macro_rules | `(tactic| wtm_at "hp1") => `(tactic| first
  | wtm_at "as"
  | (with_reducible exact upd_same)
  | (with_reducible refine (upd_ne ?h1).trans ?h2; (case h1 => wtm_at "ne1"); (case h2 => wtm_at "hp1"))
  | ((with_reducible apply Kp.get); (case x => wtm_at "as"); (case n => wtm_at "nin0"); (case e => wtm_at "hp1")))
local macro_rules | `(tactic| wtm_at "ne") => `(tactic| first
  | wtm_at "ne0"
  | ((with_reducible apply ne_new); (case x => wtm_at "as"); (case y => wtm_at "hp1"))
  | (apply Ne.symm; (with_reducible apply ne_new); (case x => wtm_at "as"); (case y => wtm_at "hp1"))
  | ((with_reducible apply ne_of); (case h => wtm_at "as"); (case h' => wtm_at "as"); (case d => (intro z; cases z))))
local macro_rules | `(tactic| wtm_at "nin") => `(tactic| first
  | (with_reducible exact nin0)
  | ((with_reducible apply nin1); wtm_at "ne")
  | ((with_reducible apply nin2); (case h => wtm_at "ne"); (case h' => wtm_at "ne")))
local macro_rules | `(tactic| wtm_at "hp") => `(tactic| first
  | wtm_at "as"
  | (with_reducible exact upd_same)
  | (with_reducible refine (upd_ne ?h1).trans ?h2; (case h1 => wtm_at "ne"); (case h2 => wtm_at "hp"))
  | ((with_reducible apply Kp.get); (case x => wtm_at "as"); (case n => wtm_at "nin"); (case e => wtm_at "hp")))
local macro_rules | `(tactic| wtm_at "kp") => `(tactic| first
  | wtm_at "as"
  | (with_reducible exact Kp.refl _ _)
  | ((with_reducible apply Kp.new); (case n => wtm_at "as"); (case x => wtm_at "kp"))
  | ((with_reducible refine Kp.put ?h1 in1); wtm_at "kp")
  | ((with_reducible refine Kp.put ?h1 in2); wtm_at "kp")
  | ((with_reducible apply Kp.old); (case n => wtm_at "as"); (case x => wtm_at "kp"))
  | ((with_reducible apply Kp.last); (case y => wtm_at "as"); (case x => wtm_at "kp")))
local macro_rules | `(tactic| wtm_at "sq") => `(tactic| first
  | ((with_reducible show SqL _ _ _ _); wtm_at "as")
  | ((with_reducible show SqT _ _ _ _); wtm_at "as")
  | ((with_reducible apply SqL.of); wtm_at "hp")
  | ((with_reducible apply SqT.of); wtm_at "hp"))
local macro_rules | `(tactic| wtm_at "side") => `(tactic| first
  | rfl
  | wtm_at "as"
  | exact ⟨by wtm_at "as", by wtm_at "as"⟩
  | decide
  | exact ⟨by decide, by decide⟩
  | exact .inr ⟨by decide, by decide⟩
  | exact .inl ⟨by omega, by omega⟩
  | exact .inr ⟨by omega, by omega⟩
  | exact ⟨by omega, by omega⟩
  | (simp only [List.length_cons, List.length_nil]; decide)
  | omega)
local macro_rules | `(tactic| wtm_at "lk") => `(tactic| first
  | wtm_at "as"
  | exact lk_hit
  | ((with_reducible refine (lk_skip ?h1).trans ?h2); (case h1 => decide +kernel); (case h2 => wtm_at "lk"))
  | rfl)
local macro_rules | `(tactic| wtm_at "pf") => `(tactic| first
  | exact put_nil
  | exact put_hit
  | ((with_reducible refine put_skip ?h1 ?h2); (case h1 => decide +kernel); (case h2 => wtm_at "pf")))
local macro_rules | `(tactic| wtm_at "s1") => `(tactic| first
  | refine ⟨_, rfl, ?_⟩
  | refine ⟨_, _, rfl, rfl, ?_⟩
  | refine ⟨_, _, rfl, ?_⟩
  | (refine And.intro ?h1 ?h2; (case h1 => wtm_at "side"))
  | refine Or.inl ⟨_, rfl, ?_⟩
  | refine ⟨_, _, _, _, rfl, rfl, SqL.of (by wtm_at "hp"), rfl, ?_⟩
  | refine ⟨_, _, _, _, rfl, rfl, SqT.of (by wtm_at "hp"), rfl, ?_⟩
  | refine ⟨_, _, _, _, rfl, rfl, (by wtm_at "hp"), rfl, ?_⟩
  | refine ⟨_, _, rfl, (by wtm_at "sq"), ?_⟩
  | refine ⟨_, _, rfl, .inl (by wtm_at "sq"), ?_⟩
  | refine ⟨_, _, rfl, .inr (by wtm_at "sq"), ?_⟩
  | refine ⟨.inl ⟨rfl, _, SqL.of (by wtm_at "hp")⟩, ?_⟩)

def top (i : Nat) : Stmt := PySem.Challenge.pw_tailtables_k08_scripted_worlds.main.body.getD i (.Pass ⟨0, 0, 0, 0⟩)
abbrev s_Scripted___init__ : Stmt := inClass (top 1) 1
theorem sc_Scripted___init__ : FnScope ["self", "bits"] ["self", "bits"] (defScope s_Scripted___init__) := ⟨rfl, rfl, rfl, by decide +kernel, rfl, by decide +kernel, by decide +kernel⟩
abbrev s_Scripted_left : Stmt := inClass (top 1) 2
theorem sc_Scripted_left : FnScope ["self"] ["self"] (defScope s_Scripted_left) := ⟨rfl, rfl, rfl, by decide +kernel, rfl, by decide +kernel, by decide +kernel⟩
abbrev s_Scripted___call__ : Stmt := inClass (top 1) 3
theorem sc_Scripted___call__ : FnScope ["self", "kind", "name", "args"] ["self", "kind", "name", "args"] (defScope s_Scripted___call__) := ⟨rfl, rfl, rfl, by decide +kernel, rfl, by decide +kernel, by decide +kernel⟩
abbrev s_bag : Stmt := top 3
theorem sc_bag : FnScope ["_law_script", "_law_at", "_law_cell", "_law_mixed", "_law_k", "_law_each"] ["_law_script", "_law_at"] (defScope s_bag) := ⟨rfl, rfl, rfl, by decide +kernel, rfl, by decide +kernel, by decide +kernel⟩
abbrev s_take : Stmt := top 4
theorem sc_take : FnScope ["_law_bag_here", "_law_many", "_law_digit"] ["_law_bag_here", "_law_many"] (defScope s_take) := ⟨rfl, rfl, rfl, by decide +kernel, rfl, by decide +kernel, by decide +kernel⟩
abbrev s_number : Stmt := top 5
theorem sc_number : FnScope ["_law_bag_here", "_law_limit", "_law_kind"] ["_law_bag_here", "_law_limit"] (defScope s_number) := ⟨rfl, rfl, rfl, by decide +kernel, rfl, by decide +kernel, by decide +kernel⟩
abbrev s_names : Stmt := top 6
theorem sc_names : FnScope ["_law_bag_here", "_law_many", "_law_left", "_law_found", "_law_stem", "_law_turn", "_law_is_ahead", "_law_letter"] ["_law_bag_here", "_law_many"] (defScope s_names) := ⟨rfl, rfl, rfl, by decide +kernel, rfl, by decide +kernel, by decide +kernel⟩
abbrev s_law : Stmt := top 7
theorem sc_law : FnScope ["_law_script", "_law_at", "_law_bag_here", "_law_many", "_law_bits", "_law_names_here", "_law_given", "_law_teller", "_law_other", "_law_asked", "_law_used", "_law_more", "_law_turn", "_law_args", "_law_found", "_law_due", "_law_k"] ["_law_script"] (defScope s_law) := ⟨rfl, rfl, rfl, by decide +kernel, rfl, by decide +kernel, by decide +kernel⟩
/-! the draws -/
def BagAt (H : Hp) (b : Addr) : Prop := ∃ c x : Int, H b = some (.lst [.int c, .int x]) ∧ 0 ≤ c ∧ 0 ≤ x ∧ x < 2147483647
theorem BagAt.at {H : Hp} {b : Addr} (h : BagAt H b) : ∃ xs, H b = some (.lst xs) := by
  obtain ⟨c, x, e, _⟩ := h
  exact ⟨_, e⟩
theorem BagAt.keep {S : List Addr} {H H' : Hp} {b : Addr} (h : BagAt H b) (k : Kp S H H') (n : b ∉ S) : BagAt H' b := by
  obtain ⟨c, x, e, r⟩ := h
  exact ⟨c, x, k _ _ n e, r⟩
def spTake : Sp := fun vs H Q _ => ∃ (b : Addr) (m : Int), vs = [.ref b, .int m] ∧ BagAt H b ∧ 0 < m ∧ m.natAbs.log2 < 9000 ∧
  ∀ (d : Int) (H' : Hp), 0 ≤ d → d < m → BagAt H' b → Kp [b] H H' → Q (.int d) H'
def spNumber : Sp := fun vs H Q _ => ∃ (b : Addr) (l : Int), vs = [.ref b, .int l] ∧ BagAt H b ∧ 3 ≤ l ∧ l ≤ 10 ^ 40 ∧
  ∀ (d : Int) (H' : Hp), -l ≤ d → d ≤ l → BagAt H' b → Kp [b] H H' → Q (.int d) H'
def spBag (K : PySem.W.Frag) : Sp := fun vs H Q _ => ∃ (a : Addr) (at_ : Nat) (ns : List Int), vs = [.ref a, .int (at_ : Int)] ∧ SqL K H a (ns.map V.int) ∧ ns.length ≤ 63 ∧ at_ ≤ 63 ∧
  ∀ (b : Addr) (H' : Hp), H b = none → BagAt H' b → Kp [] H H' → Q (.ref b) H'
/-! names: one letter, ahead of a stem or behind it -/
def nm (ah : Bool) (stem : List Nat) (c : Nat) : Str := ⟨(if ah = true then c :: stem else stem ++ [c]).toArray⟩
def abc : List Nat := [97, 98, 99, 100, 101, 102, 103, 104, 105, 106, 107, 108, 109, 110, 111, 112, 113, 114, 115, 116, 117, 118, 119, 120, 121, 122]
def Names (ns : List Str) (n : Nat) : Prop := ∃ (ah : Bool) (stem used rem : List Nat), ns = used.map (nm ah stem) ∧ used.length = n ∧ stem.length ≤ 7 ∧ (∀ c ∈ stem, 97 ≤ c ∧ c ≤ 122) ∧ (used ++ rem).Perm abc
def spNames : Sp := fun vs H Q _ => ∃ (b : Addr) (n : Nat), vs = [.ref b, .int (n : Int)] ∧ BagAt H b ∧ n ≤ 26 ∧
  ∀ (p : Addr) (ns : List Str) (H' : Hp), Names ns n → BagAt H' b → Kp [b] H H' → H p = none → H' p = some (.lst (ns.map V.str)) → Q (.ref p) H'
structure Txt (K : PySem.W.Frag) (mg : Str → Option Value) : Prop where
  n_len : mg "len" = none
  n_int : mg "int" = none
  n_abs : mg "abs" = none
  n_enumerate : mg "enumerate" = none
  n_list : mg "list" = none
  n_tuple : mg "tuple" = none
  n_range : mg "range" = none
  n_min : mg "min" = none
  n_max : mg "max" = none
  n_repr : mg "repr" = none
section
variable {P : Program} {w : World} {K : PySem.W.Frag} {mg : Str → Option Value} {base : Heap}
theorem c_take (D : Def K mg "_law_take" s_take ["_law_bag_here", "_law_many"]) (T : Txt K mg) : Cal CX0 P w K mg base 1 "_law_take" spTake := by
  refine D.ok sc_take (fun vs H Q E h => ?_) (fun f cdv A outer s H vs Q E hr h => ?_)
  · obtain ⟨b, m, rfl, _⟩ := h
    rfl
  · obtain ⟨b, m, rfl, ⟨c, x, hb, c0, x0, x1⟩, m0, m1, k⟩ := h
    refine ⟨_, (pss_cons (ps_if (pt_cmpR op_gt (pe_ix ix_list (pv 0) pe_int (fun _ _ => rfl)) pe_int (nomark _)) 
      (pss_cons (ps_set (i := 2) sc_take.nd rfl (Or.inl rfl) (pe_op op_mod (pe_callTy call_int1 (by rfl) T.n_int (by decide +kernel) (pa_cons (pe_ix ix_list (pv 0) pe_int (fun _ _ => rfl)) pa_nil)) (pv 1)))
        (pss_cons (ps_asg (pe_op op_fdivW (pe_ix ix_list (pv 0) pe_int (fun _ _ => rfl)) (pv 1)) (pg_sub (pv 0) pe_int set_list))
        (pss_one (ps_ret (pv 2)))))
      pss_nil)
      (pss_cons (ps_asg (pe_op op_mod (pe_callTy call_int1 (by rfl) T.n_int (by decide +kernel) (pa_cons (pe_op op_add (pe_op op_mul (pe_ix ix_list (pv 0) pe_int (fun _ _ => rfl)) pe_int) pe_int) pa_nil)) pe_int) (pg_sub (pv 0) pe_int set_list))
      (pss_one (ps_ret (pe_op op_mod (pe_op op_fdiv (pe_op op_mod (pe_callTy call_int1 (by rfl) T.n_int (by decide +kernel) (pa_cons (pe_op op_mul (pe_op op_fdiv (pe_ix ix_list (pv 0) pe_int (fun _ _ => rfl)) pe_int) pe_int) pa_nil)) pe_int) pe_int) (pv 1)))))), ?_⟩
    repeat wtm_at "s1"
    refine ite2 (fun c1 => ?_) (fun c1 => ?_)
    · have c2 : 0 < c := of_decide_eq_true c1
      repeat wtm_at "s1"
      exact k _ _ (Int.emod_nonneg _ (by omega)) (Int.emod_lt_of_pos _ m0) ⟨c / m, x, upd_same, Int.ediv_nonneg c0 (by omega), x0, x1⟩ (by wtm_at "kp")
    · repeat wtm_at "s1"
      exact k _ _ (Int.emod_nonneg _ (by omega)) (Int.emod_lt_of_pos _ m0) ⟨c, _, upd_same, c0, Int.emod_nonneg _ (by decide), Int.emod_lt_of_pos _ (by decide)⟩ (by wtm_at "kp")
theorem log9 {m : Int} (h0 : 0 < m) (h : m < 2 ^ 200) : m.natAbs.log2 < 9000 := by
  have : m.natAbs < 2 ^ 200 := by omega
  exact Nat.lt_of_lt_of_le (PySem.Flt.log2_lt_of (by decide) this) (by decide)
theorem c_number (D : Def K mg "_law_number" s_number ["_law_bag_here", "_law_limit"]) (T : Txt K mg) (cTake : Cal CX0 P w K mg base 1 "_law_take" spTake) : Cal CX0 P w K mg base 2 "_law_number" spNumber := by
  refine D.ok sc_number (fun vs H Q E h => ?_) (fun f cdv A outer s H vs Q E hr h => ?_)
  · obtain ⟨b, m, rfl, _⟩ := h
    rfl
  · obtain ⟨b, l, rfl, B, l3, l40, k⟩ := h
    refine ⟨_, (pss_cons (ps_set (i := 2) sc_number.nd rfl (Or.inl rfl) (pe_cl cTake hr pass0 (pa_cons (pv 0) (pa_cons pe_int pa_nil))))
      (pss_cons (ps_if (pt_cmpR op_lt (pv 2) pe_int (nomark _)) 
      (pss_one (ps_ret (pe_op op_sub (pe_cl cTake hr pass0 (pa_cons (pv 0) (pa_cons pe_int pa_nil))) pe_int)))
      pss_nil)
      (pss_cons (ps_if (pt_cmpR op_eq (pv 2) pe_int (nomark _)) 
      (pss_one (ps_ret (pe_op op_sub (pv 1) (pe_op op_mul (pe_op op_mul pe_int (pv 1)) (pe_cl cTake hr pass0 (pa_cons (pv 0) (pa_cons pe_int pa_nil)))))))
      pss_nil)
      (pss_one (ps_ret (pe_op op_sub (pe_cl cTake hr pass0 (pa_cons (pv 0) (pa_cons (pe_op op_add (pe_op op_mul pe_int (pv 1)) pe_int) pa_nil))) (pv 1))))))), ?_⟩
    repeat wtm_at "s1"
    intro d H1 d0 d1 B1 K1
    repeat wtm_at "s1"
    refine ite2 (fun c1 => ?_) (fun c1 => ?_)
    · repeat wtm_at "s1"
      intro e H2 e0 e1 B2 K2
      repeat wtm_at "s1"
      exact k _ _ (by omega) (by omega) B2 (by wtm_at "kp")
    · repeat wtm_at "s1"
      refine ite2 (fun c2 => ?_) (fun c2 => ?_)
      · repeat wtm_at "s1"
        intro e H2 e0 e1 B2 K2
        repeat wtm_at "s1"
        refine k _ _ ?_ ?_ B2 (by wtm_at "kp")
        · rcases (by omega : e = 0 ∨ e = 1) with z | z <;> rw [z] <;> omega
        · rcases (by omega : e = 0 ∨ e = 1) with z | z <;> rw [z] <;> omega
      · repeat wtm_at "s1"
        refine ⟨log9 (by omega) (by omega), fun e H2 e0 e1 B2 K2 => ?_⟩
        repeat wtm_at "s1"
        exact k _ _ (by omega) (by omega) B2 (by wtm_at "kp")
theorem str_snoc (l : List Nat) (c : Nat) : (⟨l.toArray⟩ : Str) ++ (⟨#[c]⟩ : Str) = ⟨(l ++ [c]).toArray⟩ := by
  show (⟨l.toArray ++ #[c]⟩ : Str) = _
  simp
theorem str_cons (l : List Nat) (c : Nat) : (⟨#[c]⟩ : Str) ++ (⟨l.toArray⟩ : Str) = ⟨(c :: l).toArray⟩ := by
  show (⟨#[c] ++ l.toArray⟩ : Str) = _
  simp
theorem len_mk (l : List Nat) : (⟨l.toArray⟩ : Str).length = l.length := by
  show l.toArray.size = _
  simp
theorem ixN_nat {n j : Nat} (h : j < n) : ixN n (j : Int) = some j := by
  unfold ixN
  rw [if_pos (by omega), if_pos (by omega)]
  simp
theorem erase_perm {α : Type} : ∀ (l : List α) (j : Nat) (h : j < l.length), (l[j] :: l.eraseIdx j).Perm l
  | [], _, h => absurd h (Nat.not_lt_zero _)
  | _ :: _, 0, _ => List.Perm.refl _
  | a :: l, j + 1, h => ((List.Perm.swap a _ _).trans ((erase_perm l j (Nat.lt_of_succ_lt_succ h)).cons a))
theorem erase_map {α β : Type} (f : α → β) : ∀ (l : List α) (j : Nat), (l.map f).eraseIdx j = (l.eraseIdx j).map f
  | [], _ => rfl
  | _ :: _, 0 => rfl
  | a :: l, j + 1 => congrArg (f a :: ·) (erase_map f l j)
theorem c_names (D : Def K mg "_law_names" s_names ["_law_bag_here", "_law_many"]) (T : Txt K mg) (cTake : Cal CX0 P w K mg base 1 "_law_take" spTake) : Cal CX0 P w K mg base 2 "_law_names" spNames := by
  refine D.ok sc_names (fun vs H Q E h => ?_) (fun f cdv A outer s H vs Q E hr h => ?_)
  · obtain ⟨b, m, rfl, _⟩ := h
    rfl
  · obtain ⟨b, n, rfl, B, n26, k⟩ := h
    refine ⟨_, (pss_cons (ps_par3 (i := 2) (j := 3) (l := 4) (by rfl) sc_names.nd rfl rfl rfl (by decide) (by decide) (by decide) rfl rfl rfl (pa_cons (pe_callTy (call_list_txt rfl) (by rfl) T.n_list (by decide +kernel) (pa_cons pe_str pa_nil)) (pa_cons (pe_lst pa_nil) (pa_cons pe_str pa_nil))) (by rfl))
      (pss_cons (ps_for PassesOwn.never rfl (pi_range1 (by rfl) T.n_range (pa_cons (pe_cl cTake hr pass0 (pa_cons (pv 0) (pa_cons pe_int pa_nil))) pa_nil)) (pg_name (i := 5) sc_names.nd rfl (by first | exact Or.inl rfl | exact Or.inr rfl))
      (pss_one (ps_set (i := 4) sc_names.nd rfl (Or.inl rfl) (pe_op op_add_str (pv 4) (pe_ix ix_str pe_str (pe_cl cTake hr pass0 (pa_cons (pv 0) (pa_cons pe_int pa_nil))) (fun _ _ => rfl))))))
      (pss_cons (ps_set (i := 6) sc_names.nd rfl (Or.inl rfl) (pe_cmpR op_eq (pe_cl cTake hr pass0 (pa_cons (pv 0) (pa_cons pe_int pa_nil))) pe_int (nomark _)))
      (pss_cons (ps_for PassesOwn.never rfl (pi_range1 (by rfl) T.n_range (pa_cons (pv 1) pa_nil)) (pg_name (i := 5) sc_names.nd rfl (by first | exact Or.inl rfl | exact Or.inr rfl))
      (pss_cons (ps_set (i := 7) sc_names.nd rfl (Or.inl rfl) (pe_bm PySem.F.plainAttrs_list PySem.F.slot_list_pop PySem.F.type_list_pop mt_popAt (pv 2) (pa_cons (pe_cl cTake hr pass0 (pa_cons (pv 0) (pa_cons (pe_callB call_len_seq (by rfl) T.n_len (by decide +kernel) (pa_cons (pv 2) pa_nil)) pa_nil))) pa_nil)))
        (pss_one (ps_expr (pe_bm PySem.F.plainAttrs_list PySem.F.slot_list_append PySem.F.type_list_append mt_append (pv 3) (pa_cons (pe_ifExp (pt_val (pv 6)) (pe_op op_add_str (pv 7) (pv 4)) (pe_op op_add_str (pv 4) (pv 7))) pa_nil))))))
      (pss_one (ps_ret (pv 3))))))), ?_⟩
    have e26 : (Str.ofString "abcdefghijklmnopqrstuvwxyz").cps.toList = abc := by decide +kernel
    have e4 : (Str.ofString "azmk").cps.toList = [97, 122, 109, 107] := by decide +kernel
    refine ⟨_, rfl, by decide, fun l hl => ⟨Nat.zero_le _, fun p hp => ⟨_, _, _, rfl, ?_⟩⟩⟩
    rw [e26] at hp ⊢
    obtain ⟨c0, x0, eb, _⟩ := id B
    have nlp : l ≠ p := by wtm_at "ne"
    have hp0 : H p = none := by rw [upd_ne nlp.symm] at hp; exact hp
    have B1 : BagAt (upd (upd H l (.lst (abc.map sgn))) p (.lst [])) b := B.keep (S := []) (by wtm_at "kp") nin0
    have K1 : Kp [b] H (upd (upd H l (.lst (abc.map sgn))) p (.lst [])) := by wtm_at "kp"
    have h1l : (upd (upd H l (.lst (abc.map sgn))) p (.lst [])) l = some (.lst (abc.map sgn)) := by wtm_at "hp"
    have h1p : (upd (upd H l (.lst (abc.map sgn))) p (.lst [])) p = some (.lst []) := by wtm_at "hp"
    have nbl : b ≠ l := by wtm_at "ne"
    have nbp : b ≠ p := fun q => by rw [q, hp0] at eb; cases eb
    generalize upd (upd H l (.lst (abc.map sgn))) p (.lst []) = H1 at B1 K1 h1l h1p ⊢
    -- the stem
    repeat wtm_at "s1"
    intro d H2 d0 d1 B2 K2
    repeat wtm_at "s1"
    refine for_range (n := d.toNat) (fun i σ G => ∃ (stem : List Nat) (v : Option V), σ = [some (.ref b), some (.int n), some (.ref l), some (.ref p), some (.str ⟨stem.toArray⟩), v, none, none] ∧ stem.length = i ∧ (∀ c ∈ stem, 97 ≤ c ∧ c ≤ 122) ∧ BagAt G b ∧ Kp [b] H1 G)
      ⟨[], none, rfl, rfl, (fun _ z => absurd z List.not_mem_nil), B2, K2⟩ ?_ ?_
    · rintro i σ G hi ⟨stem, v, rfl, hl, hc, BG, KG⟩
      repeat wtm_at "s1"
      intro e G2 e0 e1 BG2 KG2
      repeat wtm_at "s1"
      obtain ⟨c, hc2, hc3⟩ : ∃ c, atI [97, 122, 109, 107] e = some c ∧ 97 ≤ c ∧ c ≤ 122 := by
        rcases (by omega : e = 0 ∨ e = 1 ∨ e = 2 ∨ e = 3) with z | z | z | z <;> subst z
        · exact ⟨97, rfl, by decide, by decide⟩
        · exact ⟨122, rfl, by decide, by decide⟩
        · exact ⟨109, rfl, by decide, by decide⟩
        · exact ⟨107, rfl, by decide, by decide⟩
      refine ⟨_, _, c, rfl, rfl, by decide, by rw [e4]; exact hc2, _, _, rfl, rfl, ?_, ?_⟩
      · rw [len_mk, hl]
        show i + 1 ≤ 16777216
        omega
      · refine ⟨stem ++ [c], some (.int (0 + (i : Int))), by rw [str_snoc]; rfl, ?_, ?_, BG2, by wtm_at "kp"⟩
        · rw [List.length_append, hl]; rfl
        · intro c' hc'
          rcases List.mem_append.mp hc' with z | z
          · exact hc c' z
          · rw [List.mem_singleton.mp z]; exact hc3
    · rintro σ G ⟨stem, v, rfl, hl, hc, BG, KG⟩
      repeat wtm_at "s1"
      intro e G2 e0 e1 BG2 KG2
      repeat wtm_at "s1"
      generalize hah : decide (V.int e = V.int 0) = ah
      refine for_range (n := n) (fun i σ G' => ∃ (used rem : List Nat) (v v' : Option V), σ = [some (.ref b), some (.int n), some (.ref l), some (.ref p), some (.str ⟨stem.toArray⟩), v, some (.bl ah), v'] ∧ used.length = i ∧ (used ++ rem).Perm abc ∧
          BagAt G' b ∧ Kp [b] H G' ∧ G' l = some (.lst (rem.map sgn)) ∧ G' p = some (.lst ((used.map (nm ah stem)).map V.str)))
        ⟨[], abc, v, none, rfl, rfl, List.Perm.refl _, BG2, by wtm_at "kp", by wtm_at "hp", (show G2 p = some (.lst []) by wtm_at "hp")⟩ ?_ ?_
      · rintro i σ G' hi ⟨used, rem, u1, u2, rfl, hu, hpm, BG', KG', hl', hp'⟩
        have hlen : used.length + rem.length = 26 := by have z := hpm.length_eq; rw [List.length_append] at z; exact z
        repeat wtm_at "s1"
        rw [List.length_map]
        refine ⟨by omega, log9 (by omega) (by omega), fun e2 G3 e20 e21 BG3 KG3 => ?_⟩
        obtain ⟨j, rfl⟩ : ∃ j : Nat, e2 = (j : Int) := ⟨e2.toNat, by omega⟩
        have hj : j < rem.length := by omega
        have hl3 : G3 l = some (.lst (rem.map sgn)) := by wtm_at "hp"
        refine ⟨l, rem.map sgn, _, j, sgn rem[j], rfl, rfl, hl3, by omega, by omega, ?_, ?_, ?_⟩
        · exact (ixN_seq (ixN_nat (by rw [List.length_map]; exact hj))).1
        · simp [hj]
        · repeat wtm_at "s1"
          have pm2 : (used ++ [rem[j]] ++ rem.eraseIdx j).Perm abc := by
            rw [List.append_assoc]
            exact ((List.Perm.append_left used (erase_perm rem j hj)).trans hpm)
          have hp4 : (upd G3 l (.lst ((rem.map sgn).eraseIdx j))) p = some (.lst ((used.map (nm ah stem)).map V.str)) := by wtm_at "hp"
          have B4 : BagAt (upd G3 l (.lst ((rem.map sgn).eraseIdx j))) b := by
            obtain ⟨c, x, e1, r⟩ := BG3
            exact ⟨c, x, (upd_ne nbl).trans e1, r⟩
          have sz : (⟨stem.toArray⟩ : Str).length = stem.length := len_mk stem
          have fin : ∀ z : Str, z = nm ah stem rem[j] → ∃ (u' r' : List Nat) (v v' : Option V), [some (V.ref b), some (.int n), some (.ref l), some (.ref p), some (.str ⟨stem.toArray⟩), some (.int (0 + (i : Int))), some (.bl ah), some (sgn rem[j])] =
              [some (V.ref b), some (.int n), some (.ref l), some (.ref p), some (.str ⟨stem.toArray⟩), v, some (.bl ah), v'] ∧ u'.length = i + 1 ∧ (u' ++ r').Perm abc ∧
              BagAt (upd (upd G3 l (.lst ((rem.map sgn).eraseIdx j))) p (.lst (((used.map (nm ah stem)).map V.str) ++ [.str z]))) b ∧ Kp [b] H (upd (upd G3 l (.lst ((rem.map sgn).eraseIdx j))) p (.lst (((used.map (nm ah stem)).map V.str) ++ [.str z]))) ∧
              (upd (upd G3 l (.lst ((rem.map sgn).eraseIdx j))) p (.lst (((used.map (nm ah stem)).map V.str) ++ [.str z]))) l = some (.lst (r'.map sgn)) ∧
              (upd (upd G3 l (.lst ((rem.map sgn).eraseIdx j))) p (.lst (((used.map (nm ah stem)).map V.str) ++ [.str z]))) p = some (.lst ((u'.map (nm ah stem)).map V.str)) := by
            intro z hz
            refine ⟨used ++ [rem[j]], rem.eraseIdx j, _, _, rfl, ?_, pm2, ?_, ?_, ?_, ?_⟩
            · rw [List.length_append, hu]; rfl
            · obtain ⟨c, x, e1, r⟩ := B4
              exact ⟨c, x, (upd_ne nbp).trans e1, r⟩
            · refine Kp.old (Kp.old ?_ (by wtm_at "as")) hp0
              exact KG'.trans KG3
            · rw [upd_ne nlp, upd_same, erase_map]
            · rw [upd_same, hz]
              simp
          refine ite2 (fun c => ?_) (fun c => ?_)
          · refine ⟨_, rfl, _, rfl, _, _, rfl, rfl, ?_, p, _, _, rfl, rfl, hp4, ?_, fin _ ?_⟩
            · rw [sz]; show 1 + stem.length ≤ 16777216; omega
            · rw [List.length_map, List.length_map]; show used.length < 16777216; omega
            · rw [str_cons]; unfold nm; rw [if_pos c]
          · refine ⟨_, rfl, _, rfl, _, _, rfl, rfl, ?_, p, _, _, rfl, rfl, hp4, ?_, fin _ ?_⟩
            · rw [sz]; show stem.length + 1 ≤ 16777216; omega
            · rw [List.length_map, List.length_map]; show used.length < 16777216; omega
            · rw [str_snoc]; unfold nm; rw [if_neg c]
      · rintro σ G' ⟨used, rem, u1, u2, rfl, hu, hpm, BG', KG', hl', hp'⟩
        repeat wtm_at "s1"
        exact k p _ G' ⟨ah, stem, used, rem, rfl, hu, by omega, hc, hpm⟩ BG' KG' hp0 hp'
theorem atI_ofNat {α : Type} {xs : List α} {j : Nat} (h : j < xs.length) : atI xs (j : Int) = some xs[j] := atI_nat (by simp [h])
theorem atI_ints {ns : List Int} {j : Nat} (h : j < ns.length) : atI (ns.map V.int) (j : Int) = some (.int ns[j]) := atI_nat (by simp [h])
theorem cut_ints (ns : List Int) (lo hi : Option Int) : ∃ ms : List Int, cutV (ns.map V.int) lo hi = ms.map V.int ∧ ms.length ≤ ns.length := by
  unfold cutV
  refine ⟨(ns.drop _).take _, by rw [List.map_take, List.map_drop], ?_⟩
  rw [List.length_take, List.length_drop]
  omega
theorem atI_some {α : Type} {xs : List α} {z : Int} (h0 : 0 ≤ z) (h : z < xs.length) : ∃ v, atI xs z = some v := by
  have e : z = ((z.toNat : Nat) : Int) := by omega
  rw [e]
  exact ⟨_, atI_ofNat (by omega)⟩
theorem ScrAt.keep' {C : Addr} {H H' : Hp} {p l : Addr} {bits : List Int} {u k : Int} : True := trivial
theorem Kp.sq {S : List Addr} {H H' : Hp} {a : Addr} {xs : List V} (k : Kp [] H H') (h : SqL K H a xs) : SqL K H' a xs := k.same.seq h
theorem c_bag (D : Def K mg "_law_bag" s_bag ["_law_script", "_law_at"]) (T : Txt K mg) : Cal CX0 P w K mg base 1 "_law_bag" (spBag K) := by
  refine D.ok sc_bag (fun vs H Q E h => ?_) (fun f cdv A outer s H vs Q E hr h => ?_)
  · obtain ⟨b, m, ns, rfl, _⟩ := h
    rfl
  · obtain ⟨a, at_, ns, rfl, hS, n63, a63, k⟩ := h
    refine ⟨_, (C8.pss_cut (ps_set (i := 2) sc_bag.nd rfl (Or.inl rfl) (pe_ifExp (pt_cmpR op_lt (pv 1) (pe_callB call_len_seq (by rfl) T.n_len (by decide +kernel) (pa_cons (pv 0) pa_nil)) (nomark _)) (pe_callB call_abs (by rfl) T.n_abs (by decide +kernel) (pa_cons (pe_ix ix_list (pv 0) (pv 1) (fun _ _ => rfl)) pa_nil)) pe_int))
      (pss_cons (ps_set (i := 3) sc_bag.nd rfl (Or.inl rfl) (pe_op op_add pe_int (pe_op op_mul pe_int (pv 1))))
      (pss_cons (ps_for PassesOwn.never rfl (pi_enum (by rfl) T.n_enumerate (pa_cons (pe_slice sl_list (pv 0) po_none (po_some pe_int)) pa_nil)) (pg_tup rfl (pgs_cons (pg_name (i := 4) sc_bag.nd rfl (by first | exact Or.inl rfl | exact Or.inr rfl)) (pgs_cons (pg_name (i := 5) sc_bag.nd rfl (by first | exact Or.inl rfl | exact Or.inr rfl)) pgs_nil)))
      (pss_one (ps_set (i := 3) sc_bag.nd rfl (Or.inl rfl) (pe_op op_mod (pe_callTy call_int1 (by rfl) T.n_int (by decide +kernel) (pa_cons (pe_op op_add (pe_op op_add (pe_op op_mul (pv 3) pe_int) (pe_op op_mod (pe_callTy call_int1 (by rfl) T.n_int (by decide +kernel) (pa_cons (pv 5) pa_nil)) pe_int)) (pe_op op_mul pe_int (pv 4))) pa_nil)) pe_int))))
      (pss_one (ps_ret (pe_lst (pa_cons (pe_ifExp (pt_cmpR op_ge (pv 2) (pe_op op_pow pe_int pe_int) (nomark _)) (pv 2) pe_int) (pa_cons (pv 3) pa_nil)))))))), ?_⟩
    refine ⟨fun σ G => G = H ∧ ∃ c : Int, 0 ≤ c ∧ σ = [some (.ref a), some (.int (at_ : Int)), some (.int c), none, none, none], ?_, ?_⟩
    · refine ⟨_, rfl, _, rfl, a, _, rfl, .inl hS, _, _, rfl, rfl, _, rfl, ?_⟩
      rw [List.length_map]
      refine ite2 (fun c1 => ?_) (fun c1 => ?_)
      · have hat : at_ < ns.length := by have := of_decide_eq_true c1; omega
        refine ⟨_, rfl, _, rfl, a, _, _, _, rfl, rfl, hS, atI_ints hat, _, rfl, rfl, _, ?_, rfl⟩
        split <;> omega
      · exact ⟨rfl, 0, by omega, rfl⟩
    · rintro σ G ⟨rfl, c, c0, rfl⟩
      refine ⟨_, rfl, _, _, rfl, rfl, .inl ⟨by decide, by decide⟩, _, _, rfl, rfl, ?_⟩
      refine ⟨_, rfl, _, rfl, a, _, rfl, hS, fun q hq => ?_⟩
      obtain ⟨ms, em, lm⟩ := cut_ints ns none (some 63)
      rw [em]
      refine ⟨q, _, rfl, SqL.of upd_same, for_it (walk_enum (xs := ms.map V.int)) (fun i σ G' => ∃ (x : Int) (v4 v5 : Option V), σ = [some (.ref a), some (.int (at_ : Int)), some (.int c), some (.int x), v4, v5] ∧ 0 ≤ x ∧ x < 2147483647 ∧ Kp [] G G' ∧ G' q = some (.lst (ms.map V.int)))
        ⟨7013 + 5077 * (at_ : Int), none, none, rfl, by omega, by omega, by wtm_at "kp", upd_same⟩ (fun i σ G' _ ⟨_, _, _, _, _, _, _, e⟩ => SqL.of e) ?_ ?_⟩
      · rintro i y σ G' G2 hi ⟨x, v4, v5, rfl, x0, x1, KG, hG⟩ ⟨t, y1, y2, rfl, ht, rfl, e1, e2⟩
        obtain rfl : V.int (i : Int) = y1 := Option.some.inj e1
        obtain ⟨z, hz, rfl⟩ : ∃ z, ms[i]? = some z ∧ V.int z = y2 := by
          have e3 : (ms.map V.int)[i]? = some y2 := e2
          rw [List.getElem?_map] at e3
          exact Option.map_eq_some_iff.mp e3
        refine ⟨t, _, rfl, SqT.of upd_same, rfl, _, _, rfl, _, _, rfl, rfl, ?_⟩
        repeat wtm_at "s1"
        exact ⟨_, _, _, rfl, Int.emod_nonneg _ (by decide), Int.emod_lt_of_pos _ (by decide), by wtm_at "kp", by wtm_at "hp"⟩
      · rintro σ G' ⟨x, v4, v5, rfl, x0, x1, KG, hG⟩
        repeat wtm_at "s1"
        have fin : ∀ z : Int, 0 ≤ z → ∀ p, G' p = none → Q (.ref p) (upd G' p (.lst [.int z, .int x])) := fun z z0 p hp =>
          k p _ (KG.free nin0 hp) ⟨z, x, upd_same, z0, x0, x1⟩ (by wtm_at "kp")
        refine ite2 (fun c1 => ?_) (fun c1 => ?_)
        · exact ⟨_, rfl, _, rfl, by wtm_at "side", fin c c0⟩
        · exact ⟨_, rfl, by wtm_at "side", fin 0 (by omega)⟩
/-! the scripted world -/
def scF (l : Addr) (u k : Int) : List (Str × V) := [("bits", .ref l), ("used", .int u), ("asked", .int k)]
theorem scF_make (l : Addr) : putF "asked" (.int 0) (putF "used" (.int 0) (putF "bits" (.ref l) [])) = scF l 0 0 := by
  have e1 : putF "bits" (.ref l) [] = [((Str.ofString "bits"), V.ref l)] := by wtm_at "pf"
  have e2 : putF "used" (.int 0) [((Str.ofString "bits"), V.ref l)] = [((Str.ofString "bits"), V.ref l), ((Str.ofString "used"), .int 0)] := by wtm_at "pf"
  rw [e1, e2]
  unfold scF
  wtm_at "pf"
theorem scF_used (l : Addr) (u k z : Int) : putF "used" (.int z) (scF l u k) = scF l z k := by unfold scF; wtm_at "pf"
theorem scF_asked (l : Addr) (u k z : Int) : putF "asked" (.int z) (scF l u k) = scF l u z := by unfold scF; wtm_at "pf"
theorem scF_b (l : Addr) (u k : Int) : (scF l u k).lookup ("bits" : Str) = some (.ref l) := by unfold scF; wtm_at "lk"
theorem scF_u (l : Addr) (u k : Int) : (scF l u k).lookup ("used" : Str) = some (.int u) := by unfold scF; wtm_at "lk"
theorem scF_a (l : Addr) (u k : Int) : (scF l u k).lookup ("asked" : Str) = some (.int k) := by unfold scF; wtm_at "lk"
structure Scr (K : PySem.W.Frag) (mg : Str → Option Value) (C : Addr) : Prop where
  cl : Cls K C
  nB : NoAttr K C "bits"
  nU : NoAttr K C "used"
  nA : NoAttr K C "asked"
  g_Scripted : mg "Scripted" = some (.ref C)
  first : ∃ (mc u : Value), ClX.CRead K C mc ∧ ClX.CVal K C mc "FIRST" (.int 100000000000000000000000000000000000) u
/-- a scripted world at p: its bits, how many were used, how many asks were answered -/
def ScrAt (C : Addr) (H : Hp) (p l : Addr) (bits : List Int) (u k : Int) : Prop := (∃ dx, H p = some (.ins C dx (scF l u k))) ∧ H l = some (.lst (bits.map V.int))
def spInit (K : PySem.W.Frag) (C : Addr) : Sp := fun vs H Q _ => ∃ (p q dx : Addr) (bits : List Int), vs = [.ref p, .ref q] ∧ H p = some (.ins C dx []) ∧ (SqL K H q (bits.map V.int) ∨ SqT K H q (bits.map V.int)) ∧
  ∀ (l : Addr) (H' : Hp), H l = none → ScrAt C H' p l bits 0 0 → Kp [p] H H' → Q .non H'
def spLeft (C : Addr) : Sp := fun vs H Q _ => ∃ (p l : Addr) (bits : List Int) (u k : Int), vs = [.ref p] ∧ ScrAt C H p l bits u k ∧ Q (.int (bits.length - u)) H
def spAsk (C : Addr) : Sp := fun vs H Q _ => ∃ (p l : Addr) (kind : Str) (x y : V) (bits : List Int) (u : Nat) (k : Int), vs = [.ref p, .str kind, x, y] ∧ ScrAt C H p l bits u k ∧ u ≤ bits.length ∧
  (kind = "ask" → ∀ H', ScrAt C H' p l bits u (k + 1) → Kp [p] H H' → Q (.int (100000000000000000000000000000000000 + k)) H') ∧
  (¬ kind = "ask" → (u = bits.length → Q .non H) ∧ ∀ z, bits[u]? = some z → ∀ H', ScrAt C H' p l bits (u + 1 : Nat) k → Kp [p] H H' → Q (.int z) H')
theorem m_init {f C : Addr} (D : Mdef K "__init__" "Scripted.__init__" s_Scripted___init__ ["self", "bits"] f) (T : Txt K mg) (S : Scr K mg C) (M : Mk K C f) : Mak CX0 P w K mg base 1 "Scripted" C (spInit K C) := by
  obtain ⟨fd, F, b⟩ := D.ex
  refine ⟨f, fd, _, M, F.ok sc_Scripted___init__ (fun vs H Q E h => ?_) (fun cdv A outer s H vs Q E hr h => ?_), S.g_Scripted, b⟩
  · obtain ⟨p, q, dx, bits, rfl, _⟩ := h
    rfl
  · obtain ⟨p, q, dx, bits, rfl, hp, hq, k⟩ := h
    refine ⟨_, (pss_cons (ps_fld (pv 0) (pe_callTy call_list_of (by rfl) T.n_list (by decide +kernel) (pa_cons (pv 1) pa_nil)) rfl)
      (pss_cons (ps_fld (pv 0) pe_int rfl)
      (pss_one (ps_fld (pv 0) pe_int rfl)))), ?_⟩
    refine ⟨_, rfl, q, _, rfl, hq, fun l hl => ?_⟩
    have npl : p ≠ l := by wtm_at "ne"
    refine ⟨_, rfl, p, C, dx, [], rfl, by wtm_at "hp", S.cl, S.nB, by decide, ?_⟩
    refine ⟨_, rfl, p, C, dx, _, rfl, upd_same, S.cl, S.nU, (show 1 < 1000 by decide), ?_⟩
    refine ⟨_, rfl, p, C, dx, _, rfl, upd_same, S.cl, S.nA, ?_, ?_⟩
    · exact Nat.lt_of_le_of_lt (Nat.le_refl 2) (by decide)
    · refine k l _ hl ⟨⟨dx, ?_⟩, ?_⟩ ?_
      · rw [upd_same, scF_make]
      · wtm_at "hp"
      · wtm_at "kp"
theorem m_left {f C : Addr} (D : Mdef K "left" "Scripted.left" s_Scripted_left ["self"] f) (T : Txt K mg) (S : Scr K mg C) : ∃ fd, FnOk P w K mg base CX0 1 f fd ["self"] (spLeft C) ∧ Binds K fd ["self"] [] := by
  obtain ⟨fd, F, b⟩ := D.ex
  refine ⟨fd, F.ok sc_Scripted_left (fun vs H Q E h => ?_) (fun cdv A outer s H vs Q E hr h => ?_), b⟩
  · obtain ⟨p, l, bits, u, k, rfl, _⟩ := h
    rfl
  · obtain ⟨p, l, bits, u, k, rfl, ⟨⟨dx, hp⟩, hl⟩, q⟩ := h
    refine ⟨_, (pss_one (ps_ret (pe_op op_sub (pe_callB call_len_seq (by rfl) T.n_len (by decide +kernel) (pa_cons (pe_fld (pv 0) rfl) pa_nil)) (pe_fld (pv 0) rfl)))), ?_⟩
    refine ⟨_, rfl, p, C, dx, _, _, rfl, hp, S.cl, S.nB, scF_b _ _ _, l, _, rfl, .inl (SqL.of hl), _, rfl, p, C, dx, _, _, rfl, hp, S.cl, S.nU, scF_u _ _ _, _, _, rfl, rfl, ?_⟩
    rw [List.length_map]
    exact q
theorem m_ask {f C : Addr} (D : Mdef K "__call__" "Scripted.__call__" s_Scripted___call__ ["self", "kind", "name", "args"] f) (T : Txt K mg) (S : Scr K mg C) : FnR P w K mg base CX0 1 f (spAsk C) := by
  obtain ⟨fd, F, b⟩ := D.ex
  have G : FnOk P w K mg base CX0 1 f fd ["self", "kind", "name", "args"] (spAsk C) := by
    refine F.ok sc_Scripted___call__ (fun vs H Q E h => ?_) (fun cdv A outer s H vs Q E hr h => ?_)
    · obtain ⟨p, l, kind, x, y, bits, u, k, rfl, _⟩ := h
      rfl
    · obtain ⟨p, l, kind, x, y, bits, u, k, rfl, ⟨⟨dx, hp⟩, hl⟩, ub, q1, q2⟩ := h
      obtain ⟨mc, uf, rd, cv⟩ := S.first
      have npl : p ≠ l := by wtm_at "ne"
      refine ⟨_, (pss_cons (ps_if (pt_cmpR op_eq (pv 1) pe_str (nomark _)) 
      (pss_cons (ps_fldaug (pv 0) pe_int in_add)
        (pss_one (ps_ret (pe_op op_sub (pe_op op_add (ClX.pe_cval (pe_glob (v := .ref C) rfl S.g_Scripted rfl)) (pe_fld (pv 0) rfl)) pe_int))))
      pss_nil)
      (pss_cons (ps_if (pt_cmpR op_eq (pe_fld (pv 0) rfl) (pe_callB call_len_seq (by rfl) T.n_len (by decide +kernel) (pa_cons (pe_fld (pv 0) rfl) pa_nil)) (nomark _)) 
      (pss_one (ps_ret pe_non))
      pss_nil)
      (pss_cons (ps_fldaug (pv 0) pe_int in_add)
      (pss_one (ps_ret (pe_ix ix_list (pe_fld (pv 0) rfl) (pe_op op_sub (pe_fld (pv 0) rfl) pe_int) (fun _ _ => rfl))))))), ?_⟩
      refine ⟨_, rfl, rfl, _, rfl, ?_⟩
      refine ite2 (fun c1 => ?_) (fun c1 => ?_)
      · have ek : kind = "ask" := by have := of_decide_eq_true c1; cases this; rfl
        refine ⟨_, rfl, p, C, dx, _, _, rfl, hp, S.cl, S.nA, scF_a _ _ _, _, _, rfl, rfl, dx, _, hp, (show 3 < 1000 by decide), ?_⟩
        rw [scF_asked]
        refine ⟨C, mc, _, uf, rfl, rd, cv, _, rfl, p, C, dx, _, _, rfl, upd_same, S.cl, S.nA, scF_a _ _ _, _, _, rfl, rfl, _, _, rfl, rfl, ?_⟩
        have e : (100000000000000000000000000000000000 + (k + 1) - 1 : Int) = 100000000000000000000000000000000000 + k := by omega
        show Q (.int (100000000000000000000000000000000000 + (k + 1) - 1)) _
        rw [e]
        exact q1 ek _ ⟨⟨dx, upd_same⟩, by wtm_at "hp"⟩ (by wtm_at "kp")
      · have ek : ¬ kind = "ask" := fun z => c1 (decide_eq_true (by rw [z]))
        refine ⟨_, rfl, p, C, dx, _, _, rfl, hp, S.cl, S.nU, scF_u _ _ _, _, rfl, p, C, dx, _, _, rfl, hp, S.cl, S.nB, scF_b _ _ _, l, _, rfl, .inl (SqL.of hl), rfl, _, rfl, ?_⟩
        rw [List.length_map]
        refine ite2 (fun c2 => ?_) (fun c2 => ?_)
        · exact (q2 ek).1 (by have := of_decide_eq_true c2; cases this; rfl)
        · have hu : ¬ u = bits.length := fun z => c2 (decide_eq_true (by rw [z]))
          have hu2 : u < bits.length := by omega
          refine ⟨_, rfl, p, C, dx, _, _, rfl, hp, S.cl, S.nU, scF_u _ _ _, _, _, rfl, rfl, dx, _, hp, (show 3 < 1000 by decide), ?_⟩
          rw [scF_used]
          refine ⟨_, rfl, p, C, dx, _, _, rfl, upd_same, S.cl, S.nB, scF_b _ _ _, _, rfl, p, C, dx, _, _, rfl, upd_same, S.cl, S.nU, scF_u _ _ _, _, _, rfl, rfl, l, _, _, .int bits[u], rfl, rfl, SqL.of (by wtm_at "hp"), ?_, ?_⟩
          · have e : ((u : Int) + 1 - 1) = ((u : Nat) : Int) := by omega
            show atI (bits.map V.int) ((u : Int) + 1 - 1) = some (.int bits[u])
            rw [e]
            exact atI_ints (by omega)
          · exact (q2 ek).2 _ (by simp) _ ⟨⟨dx, upd_same⟩, by wtm_at "hp"⟩ (by wtm_at "kp")
  exact (G.raw b .nil).imp fun vs H Q E h => by rw [List.append_nil]; exact h
def spLaw (K : PySem.W.Frag) : Sp := fun vs H Q _ => ∃ (a : Addr) (ns : List Int), vs = [.ref a] ∧ SqL K H a (ns.map V.int) ∧ ns.length ≤ 63 ∧ ∀ H', Q (.bl true) H'
set_option maxHeartbeats 1000000 in
theorem c_law {C p0 fl fA : Addr} {fdl : FuncData} (D : Def K mg "law" s_law ["_law_script"]) (T : Txt K mg) (S : Scr K mg C) (cTake : Cal CX0 P w K mg base 1 "_law_take" spTake) (cNumber : Cal CX0 P w K mg base 2 "_law_number" spNumber)
    (cNames : Cal CX0 P w K mg base 2 "_law_names" spNames) (cBag : Cal CX0 P w K mg base 1 "_law_bag" (spBag K)) (cScr : Mak CX0 P w K mg base 1 "Scripted" C (spInit K C))
    (pl : PropOf K C "left" p0 fl) (cLeft : FnOk P w K mg base CX0 1 fl fdl ["self"] (spLeft C)) (bLeft : Binds K fdl ["self"] []) (cA : StX.CallO K C fA) (cAsk : FnR P w K mg base CX0 1 fA (spAsk C)) : CalG CX0 P w K mg base 4 "law" (spLaw K) := by
  refine D.okG0 sc_law (fun vs H Q E h => ?_) (fun f cdv A outer s H vs Q E hg hr h => ?_)
  · obtain ⟨a, ns, rfl, _⟩ := h
    rfl
  · obtain ⟨a, ns, rfl, hS, n63, k⟩ := h
    obtain ⟨mc, uf, rd, cv⟩ := S.first
    have hr1 : Room 2 _ := hr.mono (by decide)
    have hr2 : Room 1 _ := hr.mono (by decide)
    refine ⟨_, (pss_cons (ps_if (pt_cmpR op_ne (pe_callB (call_reprD hg hr.units2) (by rfl) T.n_repr (by decide +kernel) (pa_cons (ClX.pe_cval (pe_glob (v := .ref C) rfl S.g_Scripted rfl)) pa_nil)) (pe_callB (call_reprD hg hr.units2) (by rfl) T.n_repr (by decide +kernel) (pa_cons (pe_op op_pow pe_int pe_int) pa_nil)) (nomark _)) 
      (pss_one (ps_ret pe_bl))
      pss_nil)
      (pss_cons (ps_for PassesOwn.never rfl (pi_range1 (by rfl) T.n_range (pa_cons (pe_callB (call_max2 rfl) (by rfl) T.n_max (by decide +kernel) (pa_cons pe_int (pa_cons (pe_callB (call_min2 rfl) (by rfl) T.n_min (by decide +kernel) (pa_cons pe_int (pa_cons (pe_callB call_len_seq (by rfl) T.n_len (by decide +kernel) (pa_cons (pv 0) pa_nil)) pa_nil))) pa_nil))) pa_nil)) (pg_name (i := 1) sc_law.nd rfl (by first | exact Or.inl rfl | exact Or.inr rfl))
      (pss_cons (ps_set (i := 2) sc_law.nd rfl (Or.inr rfl) (pe_cl cBag hr pass0 (pa_cons (pv 0) (pa_cons (pv 1) pa_nil))))
        (C8.pss_cut (ps_set (i := 3) sc_law.nd rfl (Or.inl rfl) (pe_ifExp (pt_cmpR op_gt (pe_cl cTake hr pass0 (pa_cons (pv 2) (pa_cons pe_int pa_nil))) pe_int (nomark _)) (pe_cl cTake hr pass0 (pa_cons (pv 2) (pa_cons pe_int pa_nil))) (pe_cl cTake hr pass0 (pa_cons (pv 2) (pa_cons pe_int pa_nil)))))
        (pss_cons (ps_par (i := 4) (j := 5) (by rfl) sc_law.nd rfl rfl (by decide) rfl rfl (pa_cons (pe_lc (own := [("_law_k", 16)]) (g := gName 16) (tt := tYes) rfl sc_law.nd (pi_range1 (by rfl) T.n_range (pa_cons (pv 3) pa_nil)) (blkOk_by (own := [("_law_k", 16)]) (N := ["_law_script", "_law_at", "_law_bag_here", "_law_many", "_law_bits", "_law_names_here", "_law_given", "_law_teller", "_law_other", "_law_asked", "_law_used", "_law_more", "_law_turn", "_law_args", "_law_found", "_law_due", "_law_k"]) (sc := defScope s_law) (by decide +kernel)) (fun _ _ _ _ _ => (pg_name (i := 16) sc_law.nd rfl (by first | exact Or.inl rfl | exact Or.inr rfl))) (fun _ _ _ _ _ => pts_nil) (fun _ _ _ _ _ => (pe_cl cTake hr pass0 (pa_cons (pv 2) (pa_cons pe_int pa_nil))))) (pa_cons (pe_cl cNames hr pass0 (pa_cons (pv 2) (pa_cons pe_int pa_nil))) pa_nil)) (by rfl))
        (pss_cons (ps_set (i := 6) sc_law.nd rfl (Or.inl rfl) (pe_callTy call_list_of (by rfl) T.n_list (by decide +kernel) (pa_cons (pv 4) pa_nil)))
        (pss_cons (ps_par (i := 7) (j := 8) (by rfl) sc_law.nd rfl rfl (by decide) rfl rfl (pa_cons (pe_mkc cScr hr pass0 (pa_cons (pv 6) pa_nil)) (pa_cons (pe_mkc cScr hr pass0 (pa_cons (pe_callTy call_tuple_of (by rfl) T.n_tuple (by decide +kernel) (pa_cons (pe_slice sl_list (pv 4) (po_some pe_int) po_none) pa_nil)) pa_nil)) pa_nil)) (by rfl))
        (pss_cons (ps_expr (pe_bm0 PySem.F.plainAttrs_list PySem.F.slot_list_clear PySem.F.type_list_clear mt_clear (pv 6)))
        (pss_cons (ps_asg (pe_tup (pa_cons pe_int (pa_cons pe_int (pa_cons pe_int pa_nil)))) (pg_tup rfl (pgs_cons (pg_name (i := 9) sc_law.nd rfl (by first | exact Or.inl rfl | exact Or.inr rfl)) (pgs_cons (pg_name (i := 10) sc_law.nd rfl (by first | exact Or.inl rfl | exact Or.inr rfl)) (pgs_cons (pg_name (i := 11) sc_law.nd rfl (by first | exact Or.inl rfl | exact Or.inr rfl)) pgs_nil)))))
        (pss_one (ps_for PassesOwn.never rfl (pi_range1 (by rfl) T.n_range (pa_cons (pe_op op_add (pv 3) (pe_cl cTake hr pass0 (pa_cons (pv 2) (pa_cons pe_int pa_nil)))) pa_nil)) (pg_name (i := 12) sc_law.nd rfl (by first | exact Or.inl rfl | exact Or.inr rfl))
        (pss_cons (ps_set (i := 13) sc_law.nd rfl (Or.inl rfl) (pe_callTy call_tuple_of (by rfl) T.n_tuple (by decide +kernel) (pa_cons (pe_lc (own := [("_law_k", 16)]) (g := gName 16) (tt := tYes) rfl sc_law.nd (pi_range1 (by rfl) T.n_range (pa_cons (pe_cl cTake hr pass0 (pa_cons (pv 2) (pa_cons pe_int pa_nil))) pa_nil)) (blkOk_by (own := [("_law_k", 16)]) (N := ["_law_script", "_law_at", "_law_bag_here", "_law_many", "_law_bits", "_law_names_here", "_law_given", "_law_teller", "_law_other", "_law_asked", "_law_used", "_law_more", "_law_turn", "_law_args", "_law_found", "_law_due", "_law_k"]) (sc := defScope s_law) (by decide +kernel)) (fun _ _ _ _ _ => (pg_name (i := 16) sc_law.nd rfl (by first | exact Or.inl rfl | exact Or.inr rfl))) (fun _ _ _ _ _ => pts_nil) (fun _ _ _ _ _ => (pe_cl cNumber hr pass0 (pa_cons (pv 2) (pa_cons (pe_op op_pow pe_int pe_int) pa_nil))))) pa_nil)))
          (C8.pss_cut (ps_if (pt_cmpR op_eq (pe_cl cTake hr pass0 (pa_cons (pv 2) (pa_cons pe_int pa_nil))) pe_int (nomark _)) 
          (pss_cons (ps_par (i := 14) (j := 15) (by rfl) sc_law.nd rfl rfl (by decide) rfl rfl (pa_cons (StX.pe_callO (pv 7) cA cAsk hr2 pass0 (pa_cons pe_str (pa_cons (pe_ix ix_list (pv 5) (pe_op op_mod (pv 12) pe_int) (fun _ _ => rfl)) (pa_cons (pv 13) pa_nil)))) (pa_cons (pe_op op_add (pe_op op_pow pe_int pe_int) (pv 9)) pa_nil)) (by rfl))
            (pss_one (ps_set (i := 9) sc_law.nd rfl (Or.inl rfl) (pe_op op_add (pv 9) pe_int))))
          (pss_cons (ps_par (i := 14) (j := 15) (by rfl) sc_law.nd rfl rfl (by decide) rfl rfl (pa_cons (StX.pe_callO (pv 7) cA cAsk hr2 pass0 (pa_cons pe_str (pa_cons (pe_ix ix_list (pv 5) (pe_op op_mod (pv 12) pe_int) (fun _ _ => rfl)) (pa_cons (pv 13) pa_nil)))) (pa_cons (pe_ifExp (pt_cmpR op_lt (pv 10) (pv 3) (nomark _)) (pe_ix ix_list (pv 4) (pv 10) (fun _ _ => rfl)) pe_non) pa_nil)) (by rfl))
            (pss_one (ps_set (i := 10) sc_law.nd rfl (Or.inl rfl) (pe_callB (call_min2 rfl) (by rfl) T.n_min (by decide +kernel) (pa_cons (pv 3) (pa_cons (pe_op op_add (pv 10) pe_int) pa_nil)))))))
          (pss_cons (ps_if (PW.pt (pw_or (pt_cmpR op_ne (pe_callB (call_reprD hg hr.units2) (by rfl) T.n_repr (by decide +kernel) (pa_cons (pv 14) pa_nil)) (pe_callB (call_reprD hg hr.units2) (by rfl) T.n_repr (by decide +kernel) (pa_cons (pv 15) pa_nil)) (nomark _)) (pw_or1 (pt_cmpR op_ne (pe_callB (call_reprD hg hr.units2) (by rfl) T.n_repr (by decide +kernel) (pa_cons (pe_prop (pv 7) S.cl pl cLeft hr1 bLeft .nil pass0 rfl) pa_nil)) (pe_callB (call_reprD hg hr.units2) (by rfl) T.n_repr (by decide +kernel) (pa_cons (pe_op op_sub (pv 3) (pv 10)) pa_nil)) (nomark _))))) 
          (pss_one (ps_ret pe_bl))
          pss_nil)
          (pss_one (ps_if (pt_cmpR op_eq (pe_cl cTake hr pass0 (pa_cons (pv 2) (pa_cons pe_int pa_nil))) pe_int (nomark _)) 
          (pss_cons (ps_if (pt_cmpR op_ne (pe_callB (call_reprD hg hr.units2) (by rfl) T.n_repr (by decide +kernel) (pa_cons (pe_lst (pa_cons (StX.pe_callO (pv 8) cA cAsk hr2 pass0 (pa_cons pe_str (pa_cons pe_str (pa_cons (pe_tup pa_nil) pa_nil)))) (pa_cons (pe_prop (pv 8) S.cl pl cLeft hr1 bLeft .nil pass0 rfl) pa_nil))) pa_nil)) (pe_callB (call_reprD hg hr.units2) (by rfl) T.n_repr (by decide +kernel) (pa_cons (pe_lst (pa_cons (pe_op op_add (pe_op op_pow pe_int pe_int) (pv 11)) (pa_cons (pe_callB call_len_seq (by rfl) T.n_len (by decide +kernel) (pa_cons (pe_slice sl_list (pv 4) (po_some pe_int) po_none) pa_nil)) pa_nil))) pa_nil)) (nomark _)) 
            (pss_one (ps_ret pe_bl))
            pss_nil)
            (pss_one (ps_set (i := 11) sc_law.nd rfl (Or.inl rfl) (pe_op op_add (pv 11) pe_int))))
          pss_nil)))))))))))))))
      (pss_one (ps_ret pe_bl)))), ?_⟩
    refine ⟨C, mc, _, uf, rfl, rd, cv, _, _, _, _, rfl, Dp.int _, Sh.int (by decide), by decide, by decide, ?_⟩
    refine ⟨_, _, rfl, rfl, ⟨by decide, by decide, by decide⟩, _, _, _, _, rfl, Dp.int _, Sh.int (by decide), by decide, by decide, ?_⟩
    refine ⟨rfl, _, rfl, ?_⟩
    refine iteNS (by decide +kernel) ?_
    refine ⟨_, rfl, a, _, rfl, .inl hS, _, _, rfl, _, _, rfl, _, rfl, ?_, ?_, ?_⟩
    · split <;> split <;> omega
    · rw [List.length_map]; split <;> split <;> omega
    refine for_rng (fun i σ G => ∃ v1 v2 v3 v4 v5 v6 v7 v8 v9 v10 v11 v12 v13 v14 v15 v16 : Option V, σ = [some (.ref a), v1, v2, v3, v4, v5, v6, v7, v8, v9, v10, v11, v12, v13, v14, v15, v16] ∧ Kp [] H G)
      ⟨_, _, _, _, _, _, _, _, _, _, _, _, _, _, _, _, rfl, Kp.refl _ _⟩ ?_ ?_
    · rintro i σ G hi ⟨v1, v2, v3, v4, v5, v6, v7, v8, v9, v10, v11, v12, v13, v14, v15, v16, rfl, KG⟩
      have hi6 : i ≤ 63 := by
        rw [List.length_map] at hi
        have : i < 6 := by
          refine Nat.lt_of_lt_of_le hi ?_
          split <;> split <;> omega
        omega
      refine ⟨_, rfl, _, rfl, a, i, ns, rfl, KG.same.seq hS, n63, hi6, fun b G1 nb B1 K1 => ?_⟩
      have K1b : Kp [b] G G1 := K1.more _
      refine ⟨fun σ X => ∃ m : Nat, m ≤ 200 ∧ σ = [some (.ref a), some (.int (i : Int)), some (.ref b), some (.int (m : Int)), v4, v5, v6, v7, v8, v9, v10, v11, v12, v13, v14, v15, v16] ∧ BagAt X b ∧ Kp [b] G X, ?_, ?_⟩
      · repeat wtm_at "s1"
        intro d X d0 d1 BX KX
        repeat wtm_at "s1"
        refine ite2 (fun c1 => ?_) (fun c1 => ?_)
        · repeat wtm_at "s1"
          intro e Y e0 e1 BY KY
          exact ⟨e.toNat, by omega, by rw [Int.toNat_of_nonneg e0]; rfl, BY, by wtm_at "kp"⟩
        · repeat wtm_at "s1"
          intro e Y e0 e1 BY KY
          exact ⟨e.toNat, by omega, by rw [Int.toNat_of_nonneg e0]; rfl, BY, by wtm_at "kp"⟩
      · rintro σ G2 ⟨m, m200, rfl, B2, K2⟩
        -- the bits, the names
        refine ⟨_, rfl, _, rfl, by omega, by omega, fun L hL => ?_⟩
        have nLb : b ≠ L := by obtain ⟨xs, e⟩ := B2.at; wtm_at "ne"
        have hLG : G L = none := K2.free (nin1 nLb.symm) hL
        refine lc_rng (fun j X => ∃ bits : List Int, bits.length = j ∧ (∀ z ∈ bits, 0 ≤ z ∧ z < 2) ∧ X L = some (.lst (bits.map V.int)) ∧ BagAt X b ∧ Kp [b] G X)
          ⟨[], rfl, (fun _ z => absurd z List.not_mem_nil), upd_same, ?_, ?_⟩ ?_ ?_
        · obtain ⟨c, x, e, r⟩ := B2
          exact ⟨c, x, (upd_ne nLb).trans e, r⟩
        · wtm_at "kp"
        · rintro j X hj ⟨bits, hb, h01, hX, BX, KX⟩
          refine ⟨rfl, ?_⟩
          repeat wtm_at "s1"
          intro d Y d0 d1 BY KY
          refine ⟨_, KY.get (nin1 nLb.symm) hX, ?_, bits ++ [d], ?_, ?_, ?_, ?_, ?_⟩
          · rw [List.length_map, hb]; show j < 16777216; omega
          · rw [List.length_append, hb]; rfl
          · intro z hz
            rcases List.mem_append.mp hz with q | q
            · exact h01 z q
            · rw [List.mem_singleton.mp q]; exact ⟨d0, d1⟩
          · rw [upd_same, List.map_append]; rfl
          · obtain ⟨c, x, e, r⟩ := BY
            exact ⟨c, x, (upd_ne nLb).trans e, r⟩
          · wtm_at "kp"
        · rintro X ⟨bits, hb, h01, hX, BX, KX'⟩
          refine ⟨_, rfl, b, 3, rfl, BX, by decide, fun N nms G3 hN B3 K3 nN h3N => ?_⟩
          have h3L : G3 L = some (.lst (bits.map V.int)) := K3.get (nin1 nLb.symm) hX
          have K3b : Kp [b] G G3 := by wtm_at "kp"
          obtain ⟨c3, x3, e3, r3⟩ := id B3
          obtain ⟨ms, em, _⟩ := cut_ints bits (some 1) none
          refine ⟨_, _, rfl, _, rfl, L, _, rfl, .inl (SqL.of h3L), fun gv hgv => ?_⟩
          refine ⟨_, rfl, fun te dt nte ndt nne => ?_⟩
          have ng : gv ≠ te := by wtm_at "ne"
          have ng2 : gv ≠ dt := by wtm_at "ne"
          refine ⟨te, gv, dt, bits, rfl, upd_same, .inl (SqL.of (by wtm_at "hp")), fun l1 G5 hl1 S5 K5 => ⟨rfl, ?_⟩⟩
          have nLt : L ≠ te := by wtm_at "ne"
          have nLd : L ≠ dt := by wtm_at "ne"
          have nLg : L ≠ gv := by wtm_at "ne"
          have h5L : G5 L = some (.lst (bits.map V.int)) := by wtm_at "hp"
          have nNL : N ≠ L := by wtm_at "ne"
          have h5N : G5 N = some (.lst (nms.map V.str)) := by
            have q1 : N ≠ te := by wtm_at "ne"
            have q2 : N ≠ dt := by wtm_at "ne"
            have q3 : N ≠ gv := by wtm_at "ne"
            wtm_at "hp"
          have nbt : b ≠ te := by wtm_at "ne"
          have nbd : b ≠ dt := by wtm_at "ne"
          have nbg : b ≠ gv := by wtm_at "ne"
          have e5 : G5 b = some (.lst [.int c3, .int x3]) := by wtm_at "hp"
          have h5g : G5 gv = some (.lst (bits.map V.int)) := by wtm_at "hp"
          have gt : G te = none := K3b.free (nin1 nbt.symm) (by rw [upd_ne ng.symm] at nte; exact nte)
          have gd : G dt = none := K3b.free (nin1 nbd.symm) (by rw [upd_ne ng2.symm] at ndt; exact ndt)
          have gg : G gv = none := K3b.free (nin1 nbg.symm) hgv
          have K5b : Kp [b] G G5 := by
            intro x o hx e
            have nx : x ≠ te := fun q => by rw [q, gt] at e; cases e
            exact K5 x o (nin1 nx) ((upd_ne nx).trans ((upd_ne (fun q => by rw [q, gd] at e; cases e)).trans ((upd_ne (fun q => by rw [q, gg] at e; cases e)).trans (K3b x o hx e))))
          obtain ⟨⟨dt', h5t⟩, h5l⟩ := id S5
          have l1g : gv ≠ l1 := by wtm_at "ne"
          have l1b : b ≠ l1 := by wtm_at "ne"
          have nNb : b ≠ N := fun z => by
            obtain ⟨xs, e⟩ := BX.at
            rw [z, nN] at e
            cases e
          clear nte ndt nne hl1 K5
          -- the other one
          refine ⟨_, rfl, _, rfl, L, _, rfl, SqL.of h5L, fun q hq => ?_⟩
          rw [em]
          refine ⟨q, _, rfl, .inl ⟨SqL.of upd_same, fun t ht => ?_⟩⟩
          have nqt : q ≠ t := by wtm_at "ne"
          have ht5 : G5 t = none := by rw [upd_ne nqt.symm] at ht; exact ht
          intro ot dd not_ nd_ nne
          have n1 : q ≠ ot := by wtm_at "ne"
          have n2 : q ≠ dd := by wtm_at "ne"
          have n3 : t ≠ ot := by wtm_at "ne"
          have n4 : t ≠ dd := by wtm_at "ne"
          have o5 : G5 ot = none := by rw [upd_ne n3.symm, upd_ne n1.symm] at not_; exact not_
          have d5 : G5 dd = none := by rw [upd_ne n4.symm, upd_ne n2.symm] at nd_; exact nd_
          refine ⟨ot, t, dd, ms, rfl, upd_same, .inr (SqT.of (by wtm_at "hp")), fun l2 G6 hl2 S6 K6 => ⟨rfl, ?_⟩⟩
          have up : ∀ x o, G5 x = some o → G6 x = some o := fun x o e => by
            have nx : x ≠ ot := fun z => by rw [z, o5] at e; cases e
            exact K6 x o (nin1 nx) ((upd_ne nx).trans ((upd_ne (fun z => by rw [z, d5] at e; cases e)).trans ((upd_ne (fun z => by rw [z, ht5] at e; cases e)).trans ((upd_ne (fun z => by rw [z, hq] at e; cases e)).trans e))))
          have nto : te ≠ ot := fun z => by rw [z, o5] at h5t; cases h5t
          obtain ⟨⟨do', h6o⟩, h6l⟩ := id S6
          have nbo : b ≠ ot := fun z => by rw [z, o5] at e5; cases e5
          have l2b : b ≠ l2 := fun z => by
            rw [← z, upd_ne nbo, upd_ne (fun y => by rw [y, d5] at e5; cases e5), upd_ne (fun y => by rw [y, ht5] at e5; cases e5), upd_ne (fun y => by rw [y, hq] at e5; cases e5), e5] at hl2
            cases hl2
          have l2g : gv ≠ l2 := fun z => by
            rw [← z, upd_ne (fun y => by rw [y, o5] at h5g; cases h5g), upd_ne (fun y => by rw [y, d5] at h5g; cases h5g), upd_ne (fun y => by rw [y, ht5] at h5g; cases h5g), upd_ne (fun y => by rw [y, hq] at h5g; cases h5g), h5g] at hl2
            cases hl2
          have g6 := up _ _ h5g
          refine ⟨_, _, rfl, _, rfl, .inl ⟨rfl, _, SqL.of g6⟩, gv, _, rfl, rfl, g6, ?_⟩
          refine ⟨by decide, fun t0 ht0 => ⟨t0, _, rfl, SqT.of upd_same, rfl, _, _, rfl, _, _, rfl, _, _, rfl, rfl, ?_⟩⟩
          have up7 : ∀ x o, x ≠ gv → G6 x = some o → (upd (upd G6 gv (.lst [])) t0 (.tup [.int 0, .int 0, .int 0])) x = some o := fun x o hx e => by
            have e2 := (upd_ne (H := G6) (o := .lst []) hx).trans e
            exact (upd_ne (fun z => by rw [z, ht0] at e2; cases e2)).trans e2
          have S7 : ScrAt C (upd (upd G6 gv (.lst [])) t0 (.tup [.int 0, .int 0, .int 0])) te l1 bits ((0 : Nat) : Int) ((0 : Nat) : Int) := ⟨⟨_, up7 _ _ ng.symm (up _ _ h5t)⟩, up7 _ _ l1g.symm (up _ _ h5l)⟩
          have T7 : ScrAt C (upd (upd G6 gv (.lst [])) t0 (.tup [.int 0, .int 0, .int 0])) ot l2 ms ((0 : Nat) : Int) ((0 : Nat) : Int) := ⟨⟨_, up7 _ _ (fun z => by rw [z, h5g] at o5; cases o5) h6o⟩, up7 _ _ l2g.symm h6l⟩
          have h7L := up7 _ _ nLg (up _ _ h5L)
          have h7N := up7 _ _ (fun z => by rw [z, hgv] at h3N; cases h3N) (up _ _ h5N)
          have B7 : BagAt (upd (upd G6 gv (.lst [])) t0 (.tup [.int 0, .int 0, .int 0])) b   := ⟨c3, x3, up7 _ _ nbg (up _ _ e5), r3⟩
          have K7 : Kp [b] G (upd (upd G6 gv (.lst [])) t0 (.tup [.int 0, .int 0, .int 0])) := fun x o hx e => up7 x o (fun z => by rw [z, gg] at e; cases e) (up x o (K5b x o hx e))
          generalize upd (upd G6 gv (.lst [])) t0 (.tup [.int 0, .int 0, .int 0]) = G7 at S7 T7 h7L h7N B7 K7 ⊢
          clear up7 ht0 g6 h6o h6l up K6 hl2 S6
          repeat wtm_at "s1"
          intro d8 G8 d80 d81 B8 K8
          repeat wtm_at "s1"
          have hn3 : nms.length = 3 := by
            obtain ⟨_, _, us, _, e, hl, _⟩ := hN
            rw [e, List.length_map, hl]
          refine for_rng (fun j σ X => ∃ (used asked more : Nat) (v12 v13 v14 v15 v16 : Option V), σ = [some (.ref a), some (.int (i : Int)), some (.ref b), some (.int (m : Int)), some (.ref L), some (.ref N), some (.ref gv), some (.ref te), some (.ref ot),
              some (.int (asked : Int)), some (.int (used : Int)), some (.int (more : Int)), v12, v13, v14, v15, v16] ∧ used ≤ m ∧ asked ≤ j ∧ more ≤ j ∧ ScrAt C X te l1 bits (used : Int) (asked : Int) ∧ ScrAt C X ot l2 ms ((0 : Nat) : Int) (more : Int) ∧
              X L = some (.lst (bits.map V.int)) ∧ X N = some (.lst (nms.map V.str)) ∧ BagAt X b ∧ Kp [b] G X)
            ⟨0, 0, 0, _, _, _, _, _, rfl, Nat.zero_le _, Nat.le_refl _, Nat.le_refl _, ?_, ?_, by wtm_at "hp", by wtm_at "hp", B8, by wtm_at "kp"⟩ ?_ ?_
          · obtain ⟨⟨d', z1⟩, z2⟩ := S7
            exact ⟨⟨d', by wtm_at "hp"⟩, by wtm_at "hp"⟩
          · obtain ⟨⟨d', z1⟩, z2⟩ := T7
            exact ⟨⟨d', by wtm_at "hp"⟩, by wtm_at "hp"⟩
          · rintro j σ X hj ⟨used, asked, more, v12, v13, v14, v15, v16, rfl, um, aj, mj, SX, TX, hXL, hXN, BX, KX⟩
            have gL : G L = none := hLG
            have gN : G N = none := by
              have := KX'.free (nin1 nNb.symm) nN
              exact this
            -- the arguments
            refine ⟨_, rfl, b, 5, rfl, BX, by decide, by decide, fun d9 X1 d90 d91 B1' K1' => ?_⟩
            refine ⟨_, rfl, by omega, by omega, fun D1 hD1 => ?_⟩
            have nbD : b ≠ D1 := by obtain ⟨xs, e⟩ := B1'.at; wtm_at "ne"
            have K9 : Kp [b] X X1 := K1'
            refine lc_rng (fun q Y => ∃ zs : List Int, zs.length = q ∧ Y D1 = some (.lst (zs.map V.int)) ∧ BagAt Y b ∧ Kp [b] X Y) ⟨[], rfl, upd_same, ?_, ?_⟩ ?_ ?_
            · obtain ⟨c, x, e, r⟩ := B1'
              exact ⟨c, x, (upd_ne nbD).trans e, r⟩
            · have : X D1 = none := K9.free (nin1 nbD.symm) hD1
              exact Kp.old K9 this
            · rintro q Y hq' ⟨zs, hz, hY, BY, KY⟩
              refine ⟨rfl, ?_⟩
              repeat wtm_at "s1"
              intro d Y2 d0 d1 BY2 KY2
              refine ⟨_, KY2.get (nin1 nbD.symm) hY, ?_, zs ++ [d], ?_, ?_, ?_, ?_⟩
              · rw [List.length_map, hz]; show q < 16777216; omega
              · rw [List.length_append, hz]; rfl
              · rw [upd_same, List.map_append]; rfl
              · obtain ⟨c, x, e, r⟩ := BY2
                exact ⟨c, x, (upd_ne nbD).trans e, r⟩
              · have : X D1 = none := K9.free (nin1 nbD.symm) hD1
                exact Kp.old (KY.trans KY2) this
            · rintro Y ⟨zs, hz, hY, BY, KY⟩
              refine ⟨D1, _, rfl, .inl ⟨SqL.of hY, fun tp htp => ?_⟩⟩
              have K10 : Kp [b] X (upd Y tp (.tup (zs.map V.int))) := by wtm_at "kp"
              have B10 : BagAt (upd Y tp (.tup (zs.map V.int))) b := by
                obtain ⟨c, x, e, r⟩ := BY
                exact ⟨c, x, (upd_ne (fun z => by rw [z, htp] at e; cases e)).trans e, r⟩
              generalize upd Y tp (.tup (zs.map V.int)) = Z at K10 B10 ⊢
              have keep : ∀ (W : Hp), Kp [b] X W → ScrAt C W te l1 bits (used : Int) (asked : Int) ∧ ScrAt C W ot l2 ms ((0 : Nat) : Int) (more : Int) ∧ W L = some (.lst (bits.map V.int)) ∧ W N = some (.lst (nms.map V.str)) := fun W KW => by
                obtain ⟨⟨z1, z2⟩, z3⟩ := SX
                obtain ⟨⟨z4, z5⟩, z6⟩ := TX
                exact ⟨⟨⟨z1, KW.get (nin1 nbt.symm) z2⟩, KW.get (nin1 l1b.symm) z3⟩, ⟨⟨z4, KW.get (nin1 nbo.symm) z5⟩, KW.get (nin1 l2b.symm) z6⟩, KW.get (nin1 nLb.symm) hXL, KW.get (nin1 nNb.symm) hXN⟩
              refine ⟨fun σ W => Stop (∃ (us as : Nat) (x : V), (x = .non ∨ ∃ z : Int, x = .int z ∧ z.natAbs < 10 ^ 60) ∧ σ = [some (.ref a), some (.int (i : Int)), some (.ref b), some (.int (m : Int)), some (.ref L), some (.ref N), some (.ref gv), some (.ref te), some (.ref ot),
                some (.int (as : Int)), some (.int (us : Int)), some (.int (more : Int)), some (.int (j : Int)), some (.ref tp), some x, some x, v16] ∧ us ≤ m ∧ as ≤ j + 1 ∧ ScrAt C W te l1 bits (us : Int) (as : Int) ∧ ScrAt C W ot l2 ms ((0 : Nat) : Int) (more : Int) ∧
                W L = some (.lst (bits.map V.int)) ∧ W N = some (.lst (nms.map V.str)) ∧ BagAt W b ∧ Kp [b] G W), ?_, ?_⟩
              · refine ⟨_, rfl, b, 3, rfl, B10, by decide, by decide, fun e Z1 e0 e1 BZ KZ => ?_⟩
                have KXZ : Kp [b] X Z1 := K10.trans KZ
                obtain ⟨SZ, TZ, hZL, hZN⟩ := keep Z1 KXZ
                obtain ⟨⟨dd1, zt⟩, zl⟩ := id SZ
                have KGZ : Kp [b] G Z1 := KX.trans KXZ
                obtain ⟨nv, hnv⟩ := atI_some (xs := nms.map V.str) (z := (j : Int) % 3) (by omega) (by rw [List.length_map, hn3]; omega)
                -- what is left untouched by a question to the teller
                have keep2 : ∀ W : Hp, Kp [te] Z1 W → ScrAt C W ot l2 ms ((0 : Nat) : Int) (more : Int) ∧ W L = some (.lst (bits.map V.int)) ∧ W N = some (.lst (nms.map V.str)) ∧ BagAt W b ∧ Kp [b] G W := fun W KW => by
                  obtain ⟨⟨z4, z5⟩, z6⟩ := TZ
                  have q1 : l2 ≠ te := ne_of z6 zt (by intro z; cases z)
                  have q2 : N ≠ te := ne_of hZN zt (by intro z; cases z)
                  exact ⟨⟨⟨z4, KW.get (nin1 nto.symm) z5⟩, KW.get (nin1 q1) z6⟩, KW.get (nin1 nLt) hZL, KW.get (nin1 q2) hZN, BZ.keep KW (nin1 nbt), KGZ.side gt KW⟩
                refine ⟨rfl, _, rfl, ?_⟩
                refine ite2 (fun c1 => ?_) (fun c1 => ?_)
                · refine ⟨_, rfl, te, rfl, _, rfl, _, rfl, _, _, rfl, rfl, (by show (0 : Int) < 3; decide), N, _, _, nv, rfl, rfl, SqL.of hZN, hnv, _, rfl, .inr ⟨dd1, _, zt⟩, ?_⟩
                  refine ⟨te, l1, _, _, _, bits, used, asked, rfl, SZ, by omega, fun _ W SW KW => ?_, fun z => absurd rfl z⟩
                  obtain ⟨k1, k2, k3, k4, k5⟩ := keep2 W KW
                  repeat wtm_at "s1"
                  exact .a ⟨used, asked + 1, _, .inr ⟨_, rfl, by omega⟩, rfl, um, by omega, SW, k1, k2, k3, k4, k5⟩
                · refine ⟨_, rfl, te, rfl, _, rfl, _, rfl, _, _, rfl, rfl, (by show (0 : Int) < 3; decide), N, _, _, nv, rfl, rfl, SqL.of hZN, hnv, _, rfl, .inr ⟨dd1, _, zt⟩, ?_⟩
                  refine ⟨te, l1, _, _, _, bits, used, asked, rfl, SZ, by omega, fun z => absurd z (by decide +kernel), fun _ => ⟨fun hu => ?_, fun z hz W SW KW => ?_⟩⟩
                  · refine ⟨_, rfl, _, rfl, _, _, rfl, rfl, _, rfl, ?_⟩
                    have : ¬ (used : Int) < (m : Int) := by omega
                    refine ite2 (fun c => absurd (of_decide_eq_true c) this) (fun _ => ?_)
                    repeat wtm_at "s1"
                    have e : (if (used : Int) + 1 < (m : Int) then (used : Int) + 1 else (m : Int)) = ((used : Nat) : Int) := by split <;> omega
                    rw [e]
                    obtain ⟨k1, k2, k3, k4, k5⟩ := keep2 Z1 (Kp.refl _ _)
                    exact .a ⟨used, asked, _, .inl rfl, rfl, um, by omega, SZ, k1, k2, k3, k4, k5⟩
                  · have hu : used < bits.length := (List.getElem?_eq_some_iff.mp hz).1
                    refine ⟨_, rfl, _, rfl, _, _, rfl, rfl, _, rfl, ?_⟩
                    have c0 : (used : Int) < (m : Int) := by omega
                    refine ite2 (fun _ => ?_) (fun c => absurd (decide_eq_true c0) c)
                    obtain ⟨k1, k2, k3, k4, k5⟩ := keep2 W KW
                    have ez : bits[used] = z := by rw [List.getElem?_eq_getElem hu] at hz; exact Option.some.inj hz
                    refine ⟨_, rfl, _, rfl, L, _, _, _, rfl, rfl, SqL.of k2, atI_ints hu, ?_⟩
                    rw [ez]
                    repeat wtm_at "s1"
                    have e : (if (used : Int) + 1 < (m : Int) then (used : Int) + 1 else (m : Int)) = ((used + 1 : Nat) : Int) := by split <;> omega
                    rw [e]
                    have hz01 := h01 z (List.mem_of_getElem? hz)
                    exact .a ⟨used + 1, asked, _, .inr ⟨_, rfl, by omega⟩, rfl, by omega, by omega, SW, k1, k2, k3, k4, k5⟩
              · intro σ W hW
                obtain ⟨us, as, x, hx, rfl, usm, asj, SW, TW, hWL, hWN, BW, KW⟩ := hW.get
                obtain ⟨dx0, nx0, kx0, Dx, Shx, nx1, kx1⟩ : ∃ (d : PyData) (n k : Nat), Dp K W x d ∧ Sh d n k ∧ n ≤ sizeLine ∧ k ≤ 180 := by
                  rcases hx with rfl | ⟨z, rfl, hz⟩
                  · exact ⟨_, _, _, Dp.non, Sh.none, by decide, by decide⟩
                  · exact ⟨_, _, _, Dp.int z, Sh.int hz, by decide, by decide⟩
                have hbm : (bits.length : Int) = (m : Int) := by omega
                obtain ⟨⟨dt1, zt1⟩, zl1⟩ := id SW
                obtain ⟨⟨do1, zo1⟩, zl2⟩ := id TW
                refine ⟨_, rfl, x, dx0, nx0, kx0, rfl, Dx, Shx, nx1, kx1, _, rfl, x, dx0, nx0, kx0, rfl, Dx, Shx, nx1, kx1, rfl, _, rfl, ?_⟩
                refine iteNS rfl ?_
                refine ⟨_, rfl, te, dt1, _, rfl, zt1, te, l1, bits, _, _, rfl, SW, ?_⟩
                refine ⟨_, _, _, _, rfl, Dp.int _, Sh.int (by omega), by decide, by decide, _, rfl, _, rfl, _, _, rfl, rfl, _, _, _, _, rfl, Dp.int _, Sh.int (by omega), by decide, by decide, rfl, _, rfl, ?_⟩
                refine iteNS (by rw [hbm]) ?_
                refine ⟨_, rfl, b, 4, rfl, BW, by decide, by decide, fun e W1 e0 e1 BW1 KW1 => ?_⟩
                obtain ⟨dz1, dz2, dz3, dz4⟩ : W1 te = some (.ins C dt1 (scF l1 us as)) ∧ W1 ot = some (.ins C do1 (scF l2 ((0 : Nat) : Int) more)) ∧ W1 l1 = some (.lst (bits.map V.int)) ∧ W1 l2 = some (.lst (ms.map V.int)) :=
                  ⟨KW1.get (nin1 nbt.symm) zt1, KW1.get (nin1 nbo.symm) zo1, KW1.get (nin1 l1b.symm) zl1, KW1.get (nin1 l2b.symm) zl2⟩
                have wL := KW1.get (nin1 nLb.symm) hWL
                have wN := KW1.get (nin1 nNb.symm) hWN
                refine ⟨rfl, _, rfl, ?_⟩
                refine ite2 (fun c1 => ?_) (fun c1 => ?_)
                · refine ⟨_, rfl, ot, rfl, by decide, fun et het => ?_⟩
                  have oe : (upd W1 et (.tup [])) ot = some (.ins C do1 (scF l2 ((0 : Nat) : Int) more)) := by wtm_at "hp"
                  have le : (upd W1 et (.tup [])) l2 = some (.lst (ms.map V.int)) := by wtm_at "hp"
                  refine ⟨.inr ⟨do1, _, oe⟩, ot, l2, _, _, _, ms, 0, more, rfl, ⟨⟨_, oe⟩, le⟩, Nat.zero_le _, fun _ W2 SW2 KW2 => ?_, fun z => absurd rfl z⟩
                  obtain ⟨⟨do2, zo2⟩, zl3⟩ := id SW2
                  refine ⟨_, rfl, ot, do2, _, rfl, zo2, ot, l2, ms, _, _, rfl, SW2, ?_⟩
                  refine ⟨by wtm_at "side", fun p1 hp1 => ?_⟩
                  have net : ∀ x o, W1 x = some o → x ≠ et := fun x o e z => by rw [z, het] at e; cases e
                  have up2 : ∀ x o, x ≠ ot → W1 x = some o → W2 x = some o := fun x o hx e => KW2 x o (nin1 hx) ((upd_ne (net x o e)).trans e)
                  have w2L := up2 L _ (ne_of wL dz2 (by intro z; cases z)) wL
                  have w2N := up2 N _ (ne_of wN dz2 (by intro z; cases z)) wN
                  have w2t := up2 te _ nto dz1
                  have w2l := up2 l1 _ (ne_of dz3 dz2 (by intro z; cases z)) dz3
                  have got : G ot = none := K5b.free (nin1 nbo.symm) o5
                  have K2b : Kp [b] G W2 := Kp.side (t := ot) (Z := upd W1 et (.tup [])) (Kp.new (KW.trans KW1) het) got KW2
                  have B2b : BagAt W2 b := by
                    obtain ⟨c, x, e, r⟩ := BW1
                    exact ⟨c, x, up2 b _ nbo e, r⟩
                  have hms : ms.length ≤ 200 := by
                    have z : (cutV (bits.map V.int) (some 1) none).length = ms.length := by rw [em, List.length_map]
                    unfold cutV at z
                    rw [List.length_take, List.length_drop, List.length_map] at z
                    omega
                  refine ⟨_, _, _, _, rfl, Dp.lst (SqL.of upd_same) (.cons (Dp.int _) (.cons (Dp.int _) .nil)), Sh.list (.cons (Sh.int (by omega)) (.cons (Sh.int (by omega)) .nil)), by decide, by decide, ?_⟩
                  refine ⟨_, _, rfl, rfl, ⟨by decide, by decide, by decide⟩, _, rfl, _, _, rfl, rfl, _, rfl, _, rfl, L, _, rfl, SqL.of (by wtm_at "hp"), fun q1 hq1 => ?_⟩
                  rw [em]
                  refine ⟨q1, _, rfl, .inl (SqL.of upd_same), by wtm_at "side", fun p2 hp2 => ?_⟩
                  rw [List.length_map]
                  have e35 : (10 : Int) ^ Int.toNat 35 = 100000000000000000000000000000000000 := by decide
                  refine ⟨_, _, _, _, rfl, Dp.lst (SqL.of upd_same) (.cons (Dp.int _) (.cons (Dp.int _) .nil)), Sh.list (.cons (Sh.int (by rw [e35]; omega)) (.cons (Sh.int (by omega)) .nil)), by decide, by decide, rfl, _, rfl, ?_⟩
                  refine iteNS ?_ ?_
                  · have e : ((ms.length : Int) - ((0 : Nat) : Int)) = (ms.length : Int) := by omega
                    rw [e, e35]
                  · have fin : ∀ Z : Hp, (∀ x o, W2 x = some o → Z x = some o) → ∃ (used asked more' : Nat) (v12 v13 v14 v15 v16' : Option V), [some (V.ref a), some (.int (i : Int)), some (.ref b), some (.int (m : Int)), some (.ref L), some (.ref N), some (.ref gv), some (.ref te), some (.ref ot),
                        some (.int (as : Int)), some (.int (us : Int)), some (.int ((more : Int) + 1)), some (.int (j : Int)), some (.ref tp), some x, some x, v16] =
                        [some (V.ref a), some (.int (i : Int)), some (.ref b), some (.int (m : Int)), some (.ref L), some (.ref N), some (.ref gv), some (.ref te), some (.ref ot),
                        some (.int (asked : Int)), some (.int (used : Int)), some (.int (more' : Int)), v12, v13, v14, v15, v16'] ∧ used ≤ m ∧ asked ≤ j + 1 ∧ more' ≤ j + 1 ∧ ScrAt C Z te l1 bits (used : Int) (asked : Int) ∧ ScrAt C Z ot l2 ms ((0 : Nat) : Int) (more' : Int) ∧
                        Z L = some (.lst (bits.map V.int)) ∧ Z N = some (.lst (nms.map V.str)) ∧ BagAt Z b ∧ Kp [b] G Z := fun Z hZ => by
                      obtain ⟨c, x', e, r⟩ := B2b
                      exact ⟨us, as, more + 1, _, _, _, _, _, rfl, usm, by omega, by omega, ⟨⟨_, hZ _ _ w2t⟩, hZ _ _ w2l⟩, ⟨⟨_, hZ _ _ zo2⟩, hZ _ _ zl3⟩, hZ _ _ w2L, hZ _ _ w2N, ⟨c, x', hZ _ _ e, r⟩, fun y o hy ey => hZ _ _ (K2b y o hy ey)⟩
                    refine ⟨_, rfl, _, _, rfl, rfl, fin _ fun y o ey => ?_⟩
                    refine Kp.get (S := []) (H := W2) ?_ nin0 ey
                    wtm_at "kp"
                · exact ⟨us, as, more, _, _, _, _, _, rfl, usm, by omega, by omega, ⟨⟨_, dz1⟩, dz3⟩, ⟨⟨_, dz2⟩, dz4⟩, wL, wN, BW1, KW.trans KW1⟩
          · rintro σ X ⟨used, asked, more, v12, v13, v14, v15, v16, rfl, um, aj, mj, SX, TX, hXL, hXN, BX, KX⟩
            exact ⟨_, _, _, _, _, _, _, _, _, _, _, _, _, _, _, _, rfl, KG.trans (KX.drop nb)⟩
    · rintro σ G ⟨v1, v2, v3, v4, v5, v6, v7, v8, v9, v10, v11, v12, v13, v14, v15, v16, rfl, KG⟩
      exact k _
end
theorem all_mk {l : PySem.W.OpenLaw} {w : World} {K : PySem.W.Frag} {h : Heap} {mg : Str → Option Value} {fa f_take f_number f_names f_bag f_law C_Scripted f_init f_left p_left f_ask : Addr} (X : K.In h) (G : h.Ns mainGlobals mg) (hfa : mg "law" = some (.ref fa))
    {od_take an_take : Option Addr} {sl_take : Array (Option Value)} {oc_take kV_take dc_take pm_take cd_take ct_take : Value}
    {od_number an_number : Option Addr} {sl_number : Array (Option Value)} {oc_number kV_number dc_number pm_number cd_number ct_number : Value}
    {od_names an_names : Option Addr} {sl_names : Array (Option Value)} {oc_names kV_names dc_names pm_names cd_names ct_names : Value}
    {od_bag an_bag : Option Addr} {sl_bag : Array (Option Value)} {oc_bag kV_bag dc_bag pm_bag cd_bag ct_bag : Value}
    {od_law an_law : Option Addr} {sl_law : Array (Option Value)} {oc_law kV_law dc_law pm_law cd_law ct_law : Value}
    {od_init an_init : Option Addr} {sl_init : Array (Option Value)} {oc_init kV_init dc_init pm_init cd_init ct_init : Value}
    {od_left an_left : Option Addr} {sl_left : Array (Option Value)} {oc_left kV_left dc_left pm_left cd_left ct_left : Value}
    {rc_left : List Value}
    {od_ask an_ask : Option Addr} {sl_ask : Array (Option Value)} {oc_ask kV_ask dc_ask pm_ask cd_ask ct_ask : Value}
    {u_Scripted_FIRST : Value}
    (a_take : PySem.W.nsIn K mainGlobals "_law_take" = some (some (.ref f_take)))
    (l_take : K.lookup f_take = some ⟨oc_take, od_take, .func (PySem.W.fnOf "_law_take" "_law_take" (defArgs s_take) (defBody s_take) (defScope s_take) .none kV_take dc_take pm_take an_take cd_take ct_take), sl_take⟩)
    (hc_take : PySem.W.codeIn K cd_take "_law_take" = true)
    (k_take : PySem.W.keepIn K (.ref f_take) = true)
    (a_number : PySem.W.nsIn K mainGlobals "_law_number" = some (some (.ref f_number)))
    (l_number : K.lookup f_number = some ⟨oc_number, od_number, .func (PySem.W.fnOf "_law_number" "_law_number" (defArgs s_number) (defBody s_number) (defScope s_number) .none kV_number dc_number pm_number an_number cd_number ct_number), sl_number⟩)
    (hc_number : PySem.W.codeIn K cd_number "_law_number" = true)
    (k_number : PySem.W.keepIn K (.ref f_number) = true)
    (a_names : PySem.W.nsIn K mainGlobals "_law_names" = some (some (.ref f_names)))
    (l_names : K.lookup f_names = some ⟨oc_names, od_names, .func (PySem.W.fnOf "_law_names" "_law_names" (defArgs s_names) (defBody s_names) (defScope s_names) .none kV_names dc_names pm_names an_names cd_names ct_names), sl_names⟩)
    (hc_names : PySem.W.codeIn K cd_names "_law_names" = true)
    (k_names : PySem.W.keepIn K (.ref f_names) = true)
    (a_bag : PySem.W.nsIn K mainGlobals "_law_bag" = some (some (.ref f_bag)))
    (l_bag : K.lookup f_bag = some ⟨oc_bag, od_bag, .func (PySem.W.fnOf "_law_bag" "_law_bag" (defArgs s_bag) (defBody s_bag) (defScope s_bag) .none kV_bag dc_bag pm_bag an_bag cd_bag ct_bag), sl_bag⟩)
    (hc_bag : PySem.W.codeIn K cd_bag "_law_bag" = true)
    (k_bag : PySem.W.keepIn K (.ref f_bag) = true)
    (a_law : PySem.W.nsIn K mainGlobals "law" = some (some (.ref f_law)))
    (l_law : K.lookup f_law = some ⟨oc_law, od_law, .func (PySem.W.fnOf "law" "law" (defArgs s_law) (defBody s_law) (defScope s_law) .none kV_law dc_law pm_law an_law cd_law ct_law), sl_law⟩)
    (hc_law : PySem.W.codeIn K cd_law "law" = true)
    (k_law : PySem.W.keepIn K (.ref f_law) = true)
    (aC_Scripted : PySem.W.nsIn K mainGlobals "Scripted" = some (some (.ref C_Scripted)))
    (pg_Scripted : PySem.W.plainGet K C_Scripted Str.empty = true)
    (hd_Scripted : PySem.W.hasDictIn K C_Scripted = true)
    (po_Scripted : PySem.W.plainOver K C_Scripted = true)
    (sa_Scripted : PySem.W.findIn K (.ref C_Scripted) "__setattr__" = some (some (.builtin "object.__setattr__")))
    (mk_Scripted : PySem.W.makesIn K C_Scripted = true)
    (kc_Scripted : PySem.W.keepIn K (.ref C_Scripted) = true)
    (a_init : PySem.W.findIn K (.ref C_Scripted) "__init__" = some (some (.ref f_init)))
    (l_init : K.lookup f_init = some ⟨oc_init, od_init, .func (PySem.W.fnOf "__init__" "Scripted.__init__" (defArgs s_Scripted___init__) (defBody s_Scripted___init__) (defScope s_Scripted___init__) .none kV_init dc_init pm_init an_init cd_init ct_init), sl_init⟩)
    (hc_init : PySem.W.codeIn K cd_init "Scripted.__init__" = true)
    (k_init : PySem.W.keepIn K (.ref f_init) = true)
    (i_init : PySem.W.isFn K (.ref f_init) = true)
    (a_left : PySem.W.findIn K (.ref C_Scripted) "left" = some (some (.ref p_left)))
    (g_left : PySem.W.specialIn K (.ref p_left) "__get__" = some (some (.builtin "property.__get__")))
    (t_left : PySem.W.takesIn K (.ref p_left) = some true)
    (r_left : PySem.W.recIn K p_left "property" = some (.ref f_left :: rc_left))
    (l_left : K.lookup f_left = some ⟨oc_left, od_left, .func (PySem.W.fnOf "left" "Scripted.left" (defArgs s_Scripted_left) (defBody s_Scripted_left) (defScope s_Scripted_left) .none kV_left dc_left pm_left an_left cd_left ct_left), sl_left⟩)
    (hc_left : PySem.W.codeIn K cd_left "Scripted.left" = true)
    (k_left : PySem.W.keepIn K (.ref f_left) = true)
    (a_ask : PySem.W.findIn K (.ref C_Scripted) "__call__" = some (some (.ref f_ask)))
    (l_ask : K.lookup f_ask = some ⟨oc_ask, od_ask, .func (PySem.W.fnOf "__call__" "Scripted.__call__" (defArgs s_Scripted___call__) (defBody s_Scripted___call__) (defScope s_Scripted___call__) .none kV_ask dc_ask pm_ask an_ask cd_ask ct_ask), sl_ask⟩)
    (hc_ask : PySem.W.codeIn K cd_ask "Scripted.__call__" = true)
    (k_ask : PySem.W.keepIn K (.ref f_ask) = true)
    (i_ask : PySem.W.isFn K (.ref f_ask) = true)
    (n_ask : PySem.W.fnIn K f_ask = true)
    (no_Scripted_bits : PySem.W.findIn K (.ref C_Scripted) "bits" = some none)
    (no_Scripted_used : PySem.W.findIn K (.ref C_Scripted) "used" = some none)
    (no_Scripted_asked : PySem.W.findIn K (.ref C_Scripted) "asked" = some none)
    (rd_Scripted : PySem.W.readsIn K C_Scripted (.type "type") = true)
    (ga_Scripted : PySem.W.specialIn K (.ref C_Scripted) "__getattribute__" = some (some (.builtin "type.__getattribute__")))
    (cv_Scripted_FIRST : PySem.W.findCls K (.ref C_Scripted) (.type "type") "FIRST" = some (.val u_Scripted_FIRST))
    (rv_Scripted_FIRST : RelV (.int 100000000000000000000000000000000000) u_Scripted_FIRST)
    (z_len : PySem.W.nsIn K mainGlobals "len" = some none)
    (z_int : PySem.W.nsIn K mainGlobals "int" = some none)
    (z_abs : PySem.W.nsIn K mainGlobals "abs" = some none)
    (z_enumerate : PySem.W.nsIn K mainGlobals "enumerate" = some none)
    (z_list : PySem.W.nsIn K mainGlobals "list" = some none)
    (z_tuple : PySem.W.nsIn K mainGlobals "tuple" = some none)
    (z_range : PySem.W.nsIn K mainGlobals "range" = some none)
    (z_min : PySem.W.nsIn K mainGlobals "min" = some none)
    (z_max : PySem.W.nsIn K mainGlobals "max" = some none)
    (z_repr : PySem.W.nsIn K mainGlobals "repr" = some none) :
    ∀ base : Heap, K.In base → base.Ns mainGlobals mg → FnG l.prog w K mg base CX0 4 fa (spLaw K) := by
  have D_take : Def K mg "_law_take" s_take ["_law_bag_here", "_law_many"] := ⟨f_take, _, fun_mk (st := s_take) l_take hc_take k_take, PySem.W.mg_of X G a_take, (fun_mk (st := s_take) l_take hc_take k_take).binds fun _ _ _ _ _ _ us hl => match us, hl with | [_, _], _ => rfl⟩
  have D_number : Def K mg "_law_number" s_number ["_law_bag_here", "_law_limit"] := ⟨f_number, _, fun_mk (st := s_number) l_number hc_number k_number, PySem.W.mg_of X G a_number, (fun_mk (st := s_number) l_number hc_number k_number).binds fun _ _ _ _ _ _ us hl => match us, hl with | [_, _], _ => rfl⟩
  have D_names : Def K mg "_law_names" s_names ["_law_bag_here", "_law_many"] := ⟨f_names, _, fun_mk (st := s_names) l_names hc_names k_names, PySem.W.mg_of X G a_names, (fun_mk (st := s_names) l_names hc_names k_names).binds fun _ _ _ _ _ _ us hl => match us, hl with | [_, _], _ => rfl⟩
  have D_bag : Def K mg "_law_bag" s_bag ["_law_script", "_law_at"] := ⟨f_bag, _, fun_mk (st := s_bag) l_bag hc_bag k_bag, PySem.W.mg_of X G a_bag, (fun_mk (st := s_bag) l_bag hc_bag k_bag).binds fun _ _ _ _ _ _ us hl => match us, hl with | [_, _], _ => rfl⟩
  have D_law : Def K mg "law" s_law ["_law_script"] := ⟨f_law, _, fun_mk (st := s_law) l_law hc_law k_law, PySem.W.mg_of X G a_law, (fun_mk (st := s_law) l_law hc_law k_law).binds fun _ _ _ _ _ _ us hl => match us, hl with | [_], _ => rfl⟩
  have cl_Scripted : Cls K C_Scripted := ⟨pg_Scripted, hd_Scripted, po_Scripted, sa_Scripted⟩
  have mgC_Scripted := PySem.W.mg_of X G aC_Scripted
  have D_init : Mdef K "__init__" "Scripted.__init__" s_Scripted___init__ ["self", "bits"] f_init := ⟨_, fun_mk (st := s_Scripted___init__) l_init hc_init k_init, (fun_mk (st := s_Scripted___init__) l_init hc_init k_init).binds fun _ _ _ _ _ _ us hl => match us, hl with | [_, _], _ => rfl⟩
  have M_init : Mk K C_Scripted f_init := ⟨mk_Scripted, a_init, i_init, kc_Scripted⟩
  have D_left : Mdef K "left" "Scripted.left" s_Scripted_left ["self"] f_left := ⟨_, fun_mk (st := s_Scripted_left) l_left hc_left k_left, (fun_mk (st := s_Scripted_left) l_left hc_left k_left).binds fun _ _ _ _ _ _ us hl => match us, hl with | [_], _ => rfl⟩
  have P_left : PropOf K C_Scripted "left" p_left f_left := ⟨a_left, g_left, t_left, _, r_left⟩
  have D_ask : Mdef K "__call__" "Scripted.__call__" s_Scripted___call__ ["self", "kind", "name", "args"] f_ask := ⟨_, fun_mk (st := s_Scripted___call__) l_ask hc_ask k_ask, (fun_mk (st := s_Scripted___call__) l_ask hc_ask k_ask).binds fun _ _ _ _ _ _ us hl => match us, hl with | [_, _, _, _], _ => rfl⟩
  have O_ask : StX.CallO K C_Scripted f_ask := ⟨a_ask, i_ask, n_ask⟩
  have T : Txt K mg := ⟨PySem.W.mg_none_of X G z_len, PySem.W.mg_none_of X G z_int, PySem.W.mg_none_of X G z_abs, PySem.W.mg_none_of X G z_enumerate, PySem.W.mg_none_of X G z_list, PySem.W.mg_none_of X G z_tuple, PySem.W.mg_none_of X G z_range, PySem.W.mg_none_of X G z_min, PySem.W.mg_none_of X G z_max, PySem.W.mg_none_of X G z_repr⟩
  have S : Scr K mg C_Scripted := ⟨cl_Scripted, no_Scripted_bits, no_Scripted_used, no_Scripted_asked, mgC_Scripted, _, _, ⟨rd_Scripted, ga_Scripted⟩, ⟨cv_Scripted_FIRST, rv_Scripted_FIRST⟩⟩
  intro base KB GB
  have cTake : Cal CX0 l.prog w K mg base 1 "_law_take" spTake := c_take D_take T
  have cNumber : Cal CX0 l.prog w K mg base 2 "_law_number" spNumber := c_number D_number T cTake
  have cNames : Cal CX0 l.prog w K mg base 2 "_law_names" spNames := c_names D_names T cTake
  have cBag : Cal CX0 l.prog w K mg base 1 "_law_bag" (spBag K) := c_bag D_bag T
  have cScr : Mak CX0 l.prog w K mg base 1 "Scripted" C_Scripted (spInit K C_Scripted) := m_init D_init T S M_init
  obtain ⟨fdl, cLeft, bLeft⟩ := m_left (P := l.prog) (w := w) (base := base) D_left T S
  have cAsk : FnR l.prog w K mg base CX0 1 f_ask (spAsk C_Scripted) := m_ask D_ask T S
  have cc_law : CalG CX0 l.prog w K mg base 4 "law" (spLaw K) := c_law D_law T S cTake cNumber cNames cBag cScr P_left cLeft bLeft O_ask cAsk
  obtain ⟨fz, FZ, mz, _⟩ := cc_law.ex
  have ez := hfa.symm.trans mz
  cases ez
  exact FZ
end TT
open PySem PySem.W PyProof.Rows in
set_option maxRecDepth 100000 in
set_option maxHeartbeats 0 in
theorem PySem.Challenge.cw_tailtables_k08_scripted_worlds_holds : PySem.Challenge.rw_tailtables_k08_scripted_worlds.Holds := by
  w_on; o_law; k_head; (case hw => w_witness2)
  k_fill
  refine TT.walkG (l := PySem.Challenge.rw_tailtables_k08_scripted_worlds) (n := 63) (k := 4) (CX := fun _ => L2.CX0) (sp := fun w => TT.spLaw _) rfl (by decide) rfl ⟨rfl, by decide, by decide⟩ (fun w h Y => PySem.W.kIn_of Y) ?F (fun _ _ a ns hl hb _ hS => ⟨a, ns, rfl, hS, hl, fun _ => rfl⟩) fun _ _ _ _ _ z => z
  case F =>
    intro w mg fa h KX G hmg
    refine' TT.all_mk KX G hmg ?a_take ?l_take ?hc_take ?k_take ?a_number ?l_number ?hc_number ?k_number ?a_names ?l_names ?hc_names ?k_names ?a_bag ?l_bag ?hc_bag ?k_bag ?a_law ?l_law ?hc_law ?k_law ?aC_Scripted ?pg_Scripted ?hd_Scripted ?po_Scripted ?sa_Scripted ?mk_Scripted ?kc_Scripted ?a_init ?l_init ?hc_init ?k_init ?i_init ?a_left ?g_left ?t_left ?r_left ?l_left ?hc_left ?k_left ?a_ask ?l_ask ?hc_ask ?k_ask ?i_ask ?n_ask ?no_Scripted_bits ?no_Scripted_used ?no_Scripted_asked ?rd_Scripted ?ga_Scripted ?cv_Scripted_FIRST ?rv_Scripted_FIRST ?z_len ?z_int ?z_abs ?z_enumerate ?z_list ?z_tuple ?z_range ?z_min ?z_max ?z_repr
    (case a_take => first | k_is | exact ⟨_, rfl⟩ | rfl)
    (case l_take => first | k_is | exact ⟨_, rfl⟩ | rfl)
    (case hc_take => first | k_is | exact ⟨_, rfl⟩ | rfl)
    (case k_take => first | k_is | exact ⟨_, rfl⟩ | rfl)
    (case a_number => first | k_is | exact ⟨_, rfl⟩ | rfl)
    (case l_number => first | k_is | exact ⟨_, rfl⟩ | rfl)
    (case hc_number => first | k_is | exact ⟨_, rfl⟩ | rfl)
    (case k_number => first | k_is | exact ⟨_, rfl⟩ | rfl)
    (case a_names => first | k_is | exact ⟨_, rfl⟩ | rfl)
    (case l_names => first | k_is | exact ⟨_, rfl⟩ | rfl)
    (case hc_names => first | k_is | exact ⟨_, rfl⟩ | rfl)
    (case k_names => first | k_is | exact ⟨_, rfl⟩ | rfl)
    (case a_bag => first | k_is | exact ⟨_, rfl⟩ | rfl)
    (case l_bag => first | k_is | exact ⟨_, rfl⟩ | rfl)
    (case hc_bag => first | k_is | exact ⟨_, rfl⟩ | rfl)
    (case k_bag => first | k_is | exact ⟨_, rfl⟩ | rfl)
    (case a_law => first | k_is | exact ⟨_, rfl⟩ | rfl)
    (case l_law => first | k_is | exact ⟨_, rfl⟩ | rfl)
    (case hc_law => first | k_is | exact ⟨_, rfl⟩ | rfl)
    (case k_law => first | k_is | exact ⟨_, rfl⟩ | rfl)
    (case aC_Scripted => first | k_is | exact ⟨_, rfl⟩ | rfl)
    (case pg_Scripted => first | k_is | exact ⟨_, rfl⟩ | rfl)
    (case hd_Scripted => first | k_is | exact ⟨_, rfl⟩ | rfl)
    (case po_Scripted => first | k_is | exact ⟨_, rfl⟩ | rfl)
    (case sa_Scripted => first | k_is | exact ⟨_, rfl⟩ | rfl)
    (case mk_Scripted => first | k_is | exact ⟨_, rfl⟩ | rfl)
    (case kc_Scripted => first | k_is | exact ⟨_, rfl⟩ | rfl)
    (case a_init => first | k_is | exact ⟨_, rfl⟩ | rfl)
    (case l_init => first | k_is | exact ⟨_, rfl⟩ | rfl)
    (case hc_init => first | k_is | exact ⟨_, rfl⟩ | rfl)
    (case k_init => first | k_is | exact ⟨_, rfl⟩ | rfl)
    (case i_init => first | k_is | exact ⟨_, rfl⟩ | rfl)
    (case a_left => first | k_is | exact ⟨_, rfl⟩ | rfl)
    (case g_left => first | k_is | exact ⟨_, rfl⟩ | rfl)
    (case t_left => first | k_is | exact ⟨_, rfl⟩ | rfl)
    (case r_left => first | k_is | exact ⟨_, rfl⟩ | rfl)
    (case l_left => first | k_is | exact ⟨_, rfl⟩ | rfl)
    (case hc_left => first | k_is | exact ⟨_, rfl⟩ | rfl)
    (case k_left => first | k_is | exact ⟨_, rfl⟩ | rfl)
    (case a_ask => first | k_is | exact ⟨_, rfl⟩ | rfl)
    (case l_ask => first | k_is | exact ⟨_, rfl⟩ | rfl)
    (case hc_ask => first | k_is | exact ⟨_, rfl⟩ | rfl)
    (case k_ask => first | k_is | exact ⟨_, rfl⟩ | rfl)
    (case i_ask => first | k_is | exact ⟨_, rfl⟩ | rfl)
    (case n_ask => first | k_is | exact ⟨_, rfl⟩ | rfl)
    (case no_Scripted_bits => first | k_is | exact ⟨_, rfl⟩ | rfl)
    (case no_Scripted_used => first | k_is | exact ⟨_, rfl⟩ | rfl)
    (case no_Scripted_asked => first | k_is | exact ⟨_, rfl⟩ | rfl)
    (case rd_Scripted => first | k_is | exact ⟨_, rfl⟩ | rfl)
    (case ga_Scripted => first | k_is | exact ⟨_, rfl⟩ | rfl)
    (case cv_Scripted_FIRST => first | k_is | exact ⟨_, rfl⟩ | rfl)
    (case rv_Scripted_FIRST => first | k_is | exact ⟨_, rfl⟩ | rfl)
    (case z_len => first | k_is | exact ⟨_, rfl⟩ | rfl)
    (case z_int => first | k_is | exact ⟨_, rfl⟩ | rfl)
    (case z_abs => first | k_is | exact ⟨_, rfl⟩ | rfl)
    (case z_enumerate => first | k_is | exact ⟨_, rfl⟩ | rfl)
    (case z_list => first | k_is | exact ⟨_, rfl⟩ | rfl)
    (case z_tuple => first | k_is | exact ⟨_, rfl⟩ | rfl)
    (case z_range => first | k_is | exact ⟨_, rfl⟩ | rfl)
    (case z_min => first | k_is | exact ⟨_, rfl⟩ | rfl)
    (case z_max => first | k_is | exact ⟨_, rfl⟩ | rfl)
    (case z_repr => first | k_is | exact ⟨_, rfl⟩ | rfl)
