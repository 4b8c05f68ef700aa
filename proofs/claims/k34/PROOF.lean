import PyProof.Rows.All
import Wide.All
import OpenK.AllK
import Wide.FinOn
import HandS.ForMost
import HandS.Wide
import HandS.EndBits
import HandS.Star
import HandS.ClsMeth
import HandS.Property
import HandS.RaiseMore
import HandS.Style
import HandS.TupAny
import HandS.Walk
import HandS.Codes
import HandS.IsInst
import HandS.TupLe
import KE.LtData
import PyProof.ListStr
import PyProof.ReprRoads
import PyProof.ReprLen
import HandS.Flow
import HandS.TryMany
import HandS.ExcInit
import HandS.Lambda
import PyProof.Rows.MatchSeqLen
import HandS.ExcField
import HandS.ExcIs
import KE.SortKeyHeap
import HandS.ExcValue
import HandS.Dict
import HandS.Deep
import HandS.Iter
import HandS.SortKw
import KE.DatumOrd
import HandS.DictComp
import HandS.SetKeys
import HandS.Defaults
import KE.KNestM
import HandS.EndTab
import HandS.TryOnly
import HandS.Strs
import HandS.GenYield
import HandS.TupMul
import PyProof.ListMulRight
import HandS.DictEq
import HandS.SetFor
import HandS.SetTxt0
import PyProof.Rows.SortShellAny
import HandS.Set
import PyProof.Rows.StrMeet
import KE.DataMinMax
import HandS.Text
import HandS.IterVal
import KE.KOwnIter
import HandS.Records
import PySem.Challenge.RW_tailtables_k34_scripts_made
set_option Elab.async false
set_option linter.all false
set_option maxRecDepth 100000
set_option exponentiation.threshold 20000
namespace TT
open PySem L2
structure Kp (S : List Addr) (H H' : Hp) : Prop where
  at_ : ∀ a o, a ∉ S → H a = some o → H' a = some o
  tup : ∀ a xs, H a = some (.tup xs) → H' a = some (.tup xs)
theorem Kp.refl (S : List Addr) (H : Hp) : Kp S H H := ⟨fun _ _ _ e => e, fun _ _ e => e⟩
theorem Kp.trans {S : List Addr} {H H1 H2 : Hp} (x : Kp S H H1) (y : Kp S H1 H2) : Kp S H H2 := ⟨fun a o n e => y.at_ a o n (x.at_ a o n e), fun a xs e => y.tup a xs (x.tup a xs e)⟩
theorem Kp.get {S : List Addr} {H H' : Hp} {a : Addr} {o : HO} (x : Kp S H H') (n : a ∉ S) (e : H a = some o) : H' a = some o := x.at_ a o n e
theorem Kp.new {S : List Addr} {H H' : Hp} {p : Addr} {o : HO} (x : Kp S H H') (n : H' p = none) : Kp S H (upd H' p o) :=
  ⟨fun a u h e => (upd_ne (fun q => by have z := x.at_ a u h e; rw [q, n] at z; cases z)).trans (x.at_ a u h e),
   fun a xs e => (upd_ne (fun q => by have z := x.tup a xs e; rw [q, n] at z; cases z)).trans (x.tup a xs e)⟩
/-- what is not a tuple -/
def NoTup : HO → Prop
  | .tup _ => False
  | _ => True
theorem Kp.put {S : List Addr} {H H' : Hp} {p : Addr} {o u : HO} (x : Kp S H H') (n : p ∈ S) (e : H' p = some u) (t : NoTup u) : Kp S H (upd H' p o) :=
  ⟨fun a v h q => (upd_ne (fun z => h (by rw [z]; exact n))).trans (x.at_ a v h q),
   fun a xs q => (upd_ne (fun z => by have y := x.tup a xs q; rw [z, e] at y; cases y; exact t)).trans (x.tup a xs q)⟩
theorem Kp.mono {S S' : List Addr} {H H' : Hp} (x : Kp S H H') (h : ∀ a ∈ S, a ∈ S') : Kp S' H H' := ⟨fun a o n e => x.at_ a o (fun z => n (h a z)) e, x.tup⟩
theorem Kp.drop {S : List Addr} {H H' : Hp} {b : Addr} (x : Kp (b :: S) H H') (n : H b = none) : Kp S H H' := ⟨fun a o h e => x.at_ a o (fun z => by
  rcases List.mem_cons.mp z with q | q
  · rw [q, n] at e; cases e
  · exact h q) e, x.tup⟩
theorem Kp.side {S : List Addr} {G Z W : Hp} {t : Addr} (x : Kp S G Z) (n : G t = none) (y : Kp [t] Z W) : Kp S G W := ⟨fun a o h e =>
  y.at_ a o (fun z => by rw [List.mem_singleton.mp z, n] at e; cases e) (x.at_ a o h e), fun a xs e => y.tup a xs (x.tup a xs e)⟩
theorem Kp.same {H H' : Hp} (x : Kp [] H H') : Same H H' := fun a o e => x.at_ a o (fun z => nomatch z) e
theorem Kp.free {S : List Addr} {H H' : Hp} {p : Addr} (x : Kp S H H') (n : p ∉ S) (e : H' p = none) : H p = none := by
  cases q : H p with
  | none => rfl
  | some o => rw [x.at_ p o n q] at e; cases e
theorem in1 {a : Addr} {l : List Addr} : a ∈ a :: l := List.mem_cons_self
/-- a place where the stepping stops -/
inductive Stop (p : Prop) : Prop
  | a (h : p) : Stop p
  | b (h : p) : Stop p
theorem Stop.get {p : Prop} : Stop p → p
  | .a h => h
  | .b h => h
/-- a method (or any def of a class's text) at f -/
structure Mdef (K : PySem.W.Frag) (x qual : Str) (st : Stmt) (ps : List Str) (f : Addr) : Prop where
  ex : ∃ fd : FuncData, Fun K x qual st f fd ∧ Binds K fd ps []
structure Cal (CX : CXT) (P : Program) (w : World) (K : PySem.W.Frag) (mg : Str → Option Value) (base : Heap) (k : Nat) (x : Str) (sp : Sp) : Prop where
  ex : ∃ (f : Addr) (fd : FuncData) (ps : List Str), FnOk P w K mg base CX k f fd ps sp ∧ mg x = some (.ref f) ∧ PySem.W.keepIn K (.ref f) = true ∧ Binds K fd ps []
/-- the def of the text, under its name -/
structure Def (K : PySem.W.Frag) (mg : Str → Option Value) (x : Str) (st : Stmt) (ps : List Str) : Prop where
  ex : ∃ (f : Addr) (fd : FuncData), Fun K x x st f fd ∧ mg x = some (.ref f) ∧ Binds K fd ps []
section
variable {P : Program} {w : World} {K : PySem.W.Frag} {mg : Str → Option Value} {base : Heap}
theorem Def.ok {x : Str} {st : Stmt} {N ps : List Str} {k : Nat} {sp : Sp} (D : Def K mg x st ps) (S : FnScope N ps (defScope st)) (len : ∀ vs H Q E, sp vs H Q E → vs.length = ps.length)
    (body : ∀ (f : Addr) (cdv : Value) (A : Around) (outer : List Env) (s : Shared) (H : Hp) (vs : List V) (Q : VK) (E : XK), Room k (A.deeper (PyProof.Rows.envOfC x (defScope st) s.heap.objs.size f cdv)) → sp vs H Q E →
      ∃ t, PSs (cxOf CX0 P w K mg base N x (defScope st) f cdv A outer s H E).nox (defBody st) t ∧ t { nx := fun _ H' => Q .non H', rt := Q } (start N vs) H) : Cal CX0 P w K mg base (k + 1) x sp := by
  obtain ⟨f, fd, F, hm, b⟩ := D.ex
  exact ⟨f, fd, ps, F.ok S len (fun cdv => body f cdv), hm, F.kp, b⟩
end
def FnG (P : Program) (w : World) (K : PySem.W.Frag) (mg : Str → Option Value) (base : Heap) (CX : CXT) (k : Nat) (f : Addr) (sp : Sp) : Prop :=
  ∀ (A : Around) (outer : List Env) (s : Shared) (H : Hp) (us : List Value) (vs : List V) (Q : VK) (E : XK), Room k A → A.guards = some [] →
    Env0 P w K mg base A outer s H → Vals vs us → sp vs H Q E → codeAny (model P w) A (.call (.ref f) ⟨us, []⟩) (CR CX outer P w H s Q E) s
section
variable {P : Program} {w : World} {K : PySem.W.Frag} {mg : Str → Option Value} {base : Heap} {CX : CXT} {k : Nat} {f : Addr} {sp : Sp}
theorem fn_g {x qual : Str} {st : Stmt} {fd : FuncData} {N ps : List Str} (F : Fun K x qual st f fd) (hb : Binds K fd ps []) (S : FnScope N ps (defScope st))
    (len : ∀ vs H Q E, sp vs H Q E → vs.length = ps.length)
    (body : ∀ (cdv : Value) (A : Around) (outer : List Env) (s : Shared) (H : Hp) (vs : List V) (Q : VK) (E : XK), (A.deeper (PyProof.Rows.envOfC qual (defScope st) s.heap.objs.size f cdv)).guards = some [] →
      Room k (A.deeper (PyProof.Rows.envOfC qual (defScope st) s.heap.objs.size f cdv)) → sp vs H Q E →
      ∃ t, PSs (cxOf CX P w K mg base N qual (defScope st) f cdv A outer s H E) (defBody st) t ∧ t { nx := fun _ H' => Q .non H', rt := Q } (start N vs) H) : FnG P w K mg base CX (k + 1) f sp := by
  obtain ⟨oc, od, kV, doc, pm, an, cdv, ct, osl, rfl, lk, hcd⟩ := F.ex
  intro A outer s H us vs Q E hr hg e0 r hsp
  have hl : vs.length = ps.length := len _ _ _ _ hsp
  have KX : K.In s.heap := e0.mod.kin.keeps fun b o e => (e0.bs b o e).1
  refine StX.run_bnd lk hcd S hr e0 (G := fun xs H2 => xs = vs ∧ H2 = H) (fun A' Ex Q' h => ?_) fun s2 H2 xs g hr' => ?_
  · have q := hb s us KX (by rw [List.append_nil, ← r.length]; exact hl)
    rw [List.append_nil] at q
    exact q _ _ _ _ (h s H vs us e0 Un.refl rfl (fun _ _ z => z) r hl ⟨rfl, rfl⟩)
  · obtain ⟨rfl, rfl⟩ := g
    exact body cdv A outer s2 _ _ Q E hg hr' hsp
end
structure CalG (CX : CXT) (P : Program) (w : World) (K : PySem.W.Frag) (mg : Str → Option Value) (base : Heap) (k : Nat) (x : Str) (sp : Sp) : Prop where
  ex : ∃ (f : Addr), FnG P w K mg base CX k f sp ∧ mg x = some (.ref f) ∧ PySem.W.keepIn K (.ref f) = true
section
variable {P : Program} {w : World} {K : PySem.W.Frag} {mg : Str → Option Value} {base : Heap} {CX : CXT}
theorem Def.okG {x : Str} {st : Stmt} {N ps : List Str} {k : Nat} {sp : Sp} (D : Def K mg x st ps) (S : FnScope N ps (defScope st)) (len : ∀ vs H Q E, sp vs H Q E → vs.length = ps.length)
    (body : ∀ (f : Addr) (cdv : Value) (A : Around) (outer : List Env) (s : Shared) (H : Hp) (vs : List V) (Q : VK) (E : XK), (A.deeper (PyProof.Rows.envOfC x (defScope st) s.heap.objs.size f cdv)).guards = some [] →
      Room k (A.deeper (PyProof.Rows.envOfC x (defScope st) s.heap.objs.size f cdv)) → sp vs H Q E →
      ∃ t, PSs (cxOf CX P w K mg base N x (defScope st) f cdv A outer s H E) (defBody st) t ∧ t { nx := fun _ H' => Q .non H', rt := Q } (start N vs) H) : CalG CX P w K mg base (k + 1) x sp := by
  obtain ⟨f, fd, F, hm, b⟩ := D.ex
  exact ⟨f, fn_g F b S len (fun cdv => body f cdv), hm, F.kp⟩
end
mutual
theorem dp_noDict {K : PySem.W.Frag} {H : Hp} : ∀ (d : PyData) (v : V), Dp K H v d → d.hasDict = false
  | .none, _, _ => by simp only [PyData.hasDict]
  | .bool _, _, _ => by simp only [PyData.hasDict]
  | .int _, _, _ => by simp only [PyData.hasDict]
  | .str _, _, _ => by simp only [PyData.hasDict]
  | .list ds, _, h => by
    cases h with
    | lst _ h2 => simp only [PyData.hasDict]; exact dp_noDictAll ds _ h2
  | .tuple ds, _, h => by
    cases h with
    | tup _ h2 => simp only [PyData.hasDict]; exact dp_noDictAll ds _ h2
  | .dict _, _, h => by cases h
theorem dp_noDictAll {K : PySem.W.Frag} {H : Hp} : ∀ (ds : List PyData) (vs : List V), DpAll K H vs ds → PyData.hasDictAll ds = false
  | [], _, _ => by simp only [PyData.hasDictAll]
  | d :: ds, _, h => by
    cases h with
    | cons h1 h2 => simp only [PyData.hasDictAll, dp_noDict d _ h1, dp_noDictAll ds _ h2, Bool.or_self]
end
section
variable {X : Cx}
def rRepr (K : PySem.W.Frag) : List V → Hp → VK → Prop := fun xs H Q => ∃ (x : V) (d : PyData), xs = [x] ∧ Dp K H x d ∧ d.showable = true ∧ d.shown.length ≤ sizeLine ∧ d.depth ≤ 180 ∧ Q (.str d.shown) H
theorem call_repr (hg : X.A.guards = some []) (hu : X.A.units + 200 < cLine) : CallR X (.builtin "repr") (rRepr X.K) := by
  intro pins s σ H xs us Q I r h
  obtain ⟨x, d, rfl, hd, hs, hz, hp, q⟩ := h
  obtain ⟨u, rfl, ru⟩ := vals1 r
  cases hd with
  | non => cases ru; exact PySem.P.repr_of_none ⟨.str _, H, I.tok _, ⟨_, rfl⟩, q⟩
  | bl b => cases ru; exact PySem.P.repr_of_bool ⟨.str _, H, I.tok _, ⟨_, rfl⟩, by cases b <;> exact q⟩
  | int i =>
    obtain ⟨t, rfl⟩ := ru
    exact PySem.P.repr_of_int (of_decide_eq_true hs) ⟨.str _, H, I.tok _, ⟨_, rfl⟩, q⟩
  | str z =>
    obtain ⟨t, rfl⟩ := ru
    exact PySem.P.repr_of_str ⟨.str _, H, I.tok _, ⟨_, rfl⟩, q⟩ hz
  | lst h1 h2 =>
    obtain ⟨as, rd⟩ := Dp.reads I _ _ _ (Dp.lst h1 h2) ru
    cases ru
    refine PySem.repr_of_reads' rd hs ?_ hg (by omega) (fun _ _ e => e) (fun h' t tk hk => ⟨.str _, H, I.kept hk, ⟨_, rfl⟩, q⟩) hz
    exact PyData.noDict_hsm (dp_noDict _ _ (Dp.lst h1 h2))
  | tup h1 h2 =>
    obtain ⟨as, rd⟩ := Dp.reads I _ _ _ (Dp.tup h1 h2) ru
    cases ru
    refine PySem.repr_of_reads' rd hs ?_ hg (by omega) (fun _ _ e => e) (fun h' t tk hk => ⟨.str _, H, I.kept hk, ⟨_, rfl⟩, q⟩) hz
    exact PyData.noDict_hsm (dp_noDict _ _ (Dp.tup h1 h2))
end
mutual
inductive Pd (H : Hp) : V → PyData → Prop
  | non : Pd H .non .none
  | bl (b : Bool) : Pd H (.bl b) (.bool b)
  | int (i : Int) : Pd H (.int i) (.int i)
  | str (x : Str) : Pd H (.str x) (.str x)
  | tup {a : Addr} {xs : List V} {ds : List PyData} : H a = some (.tup xs) → PdAll H xs ds → Pd H (.ref a) (.tuple ds)
inductive PdAll (H : Hp) : List V → List PyData → Prop
  | nil : PdAll H [] []
  | cons {v : V} {vs : List V} {d : PyData} {ds : List PyData} : Pd H v d → PdAll H vs ds → PdAll H (v :: vs) (d :: ds)
end
mutual
theorem Pd.keep {H H' : Hp} (k : ∀ a xs, H a = some (.tup xs) → H' a = some (.tup xs)) : ∀ (d : PyData) (v : V), Pd H v d → Pd H' v d
  | .none, _, h => by cases h; exact .non
  | .bool b, _, h => by cases h; exact .bl b
  | .int i, _, h => by cases h; exact .int i
  | .str x, _, h => by cases h; exact .str x
  | .tuple ds, _, h => by
    cases h with
    | tup e r => exact .tup (k _ _ e) (PdAll.keep k ds _ r)
  | .list _, _, h => by cases h
  | .dict _, _, h => by cases h
theorem PdAll.keep {H H' : Hp} (k : ∀ a xs, H a = some (.tup xs) → H' a = some (.tup xs)) : ∀ (ds : List PyData) (vs : List V), PdAll H vs ds → PdAll H' vs ds
  | [], _, h => by cases h; exact .nil
  | d :: ds, _, h => by
    cases h with
    | cons a b => exact .cons (Pd.keep k d _ a) (PdAll.keep k ds _ b)
end
mutual
theorem Pd.dp {K : PySem.W.Frag} {H : Hp} : ∀ (d : PyData) (v : V), Pd H v d → Dp K H v d
  | .none, _, h => by cases h; exact .non
  | .bool b, _, h => by cases h; exact .bl b
  | .int i, _, h => by cases h; exact .int i
  | .str x, _, h => by cases h; exact .str x
  | .tuple ds, _, h => by
    cases h with
    | tup e r => exact .tup (SqT.of e) (PdAll.dp ds _ r)
  | .list _, _, h => by cases h
  | .dict _, _, h => by cases h
theorem PdAll.dp {K : PySem.W.Frag} {H : Hp} : ∀ (ds : List PyData) (vs : List V), PdAll H vs ds → DpAll K H vs ds
  | [], _, h => by cases h; exact .nil
  | d :: ds, _, h => by
    cases h with
    | cons a b => exact .cons (Pd.dp d _ a) (PdAll.dp ds _ b)
end
theorem PdAll.snoc {H : Hp} {v : V} {d : PyData} : ∀ {vs : List V} {ds : List PyData}, PdAll H vs ds → Pd H v d → PdAll H (vs ++ [v]) (ds ++ [d])
  | _, _, .nil, h => .cons h .nil
  | _, _, .cons a b, h => .cons a (PdAll.snoc b h)
theorem PdAll.len {H : Hp} : ∀ {vs : List V} {ds : List PyData}, PdAll H vs ds → vs.length = ds.length
  | _, _, .nil => rfl
  | _, _, .cons _ b => congrArg (· + 1) (PdAll.len b)
structure Sh (d : PyData) (n k : Nat) : Prop where
  so : d.showable = true
  le : d.shown.length ≤ n
  dp : d.depth ≤ k
structure ShAll (ds : List PyData) (n k : Nat) : Prop where
  so : PyData.showableAll ds = true
  le : ((PyData.shownAll ds).map (·.length)).sum + 2 * ds.length ≤ n
  dp : PyData.depthAll ds ≤ k
theorem Sh.mono {d : PyData} {n k n' k' : Nat} (h : Sh d n k) (hn : n ≤ n') (hk : k ≤ k') : Sh d n' k' := ⟨h.so, Nat.le_trans h.le hn, Nat.le_trans h.dp hk⟩
theorem ShAll.mono {d : List PyData} {n k n' k' : Nat} (h : ShAll d n k) (hn : n ≤ n') (hk : k ≤ k') : ShAll d n' k' := ⟨h.so, Nat.le_trans h.le hn, Nat.le_trans h.dp hk⟩
theorem Sh.none : Sh .none 4 0 := ⟨rfl, by decide, Nat.le_refl _⟩
theorem Sh.bool (b : Bool) : Sh (.bool b) 5 0 := ⟨rfl, by cases b <;> decide, Nat.le_refl _⟩
theorem Sh.int {i : Int} (h : i.natAbs < 10 ^ 60) : Sh (.int i) 61 0 := by
  refine ⟨?_, ?_, Nat.le_refl _⟩
  · have h2 : i.natAbs < 2 ^ 200 := Nat.lt_of_lt_of_le h (by decide)
    have h3 := PySem.Flt.log2_lt_of (show 0 < 200 by decide) h2
    simp only [PyData.showable]
    exact decide_eq_true (by omega)
  · have e := int_text_length_le10 (k := 60) (by decide) h
    show (Str.ofString (toString i)).length ≤ 61
    rw [ofString_length]
    exact e
theorem Sh.str {x : Str} (h : ∀ c ∈ x.cps.toList, c < 16 ^ 8) : Sh (.str x) (10 * x.length + 2) 0 := by
  refine ⟨rfl, ?_, Nat.le_refl _⟩
  simp only [PyData.shown]
  exact StrLaws.reprText_len x h
theorem shownAll_len : ∀ ds : List PyData, (PyData.shownAll ds).length = ds.length
  | [] => by simp only [PyData.shownAll, List.length_nil]
  | d :: ds => by simp only [PyData.shownAll, List.length_cons, shownAll_len ds]
theorem ShAll.nil {k : Nat} : ShAll [] 0 k := ⟨by simp only [PyData.showableAll], by simp only [PyData.shownAll, List.map_nil, List.sum_nil, List.length_nil]; omega, by simp only [PyData.depthAll]; omega⟩
theorem ShAll.cons {d : PyData} {ds : List PyData} {n m k : Nat} (a : Sh d n k) (b : ShAll ds m k) : ShAll (d :: ds) (n + 2 + m) k := by
  refine ⟨by simp only [PyData.showableAll, a.so, b.so, Bool.and_self], ?_, ?_⟩
  · have h1 := a.le
    have h2 := b.le
    simp only [PyData.shownAll, List.map_cons, List.sum_cons, List.length_cons]
    omega
  · have h1 := a.dp
    have h2 := b.dp
    simp only [PyData.depthAll]
    omega
theorem ShAll.of {n k : Nat} : ∀ ds : List PyData, (∀ d ∈ ds, Sh d n k) → ShAll ds (ds.length * (n + 2)) k
  | [], _ => ShAll.nil.mono (Nat.zero_le _) (Nat.le_refl _)
  | d :: ds, h => (ShAll.cons (h d List.mem_cons_self) (ShAll.of ds fun e he => h e (List.mem_cons_of_mem _ he))).mono (by rw [List.length_cons, Nat.succ_mul]; omega) (Nat.le_refl _)
theorem Sh.list {ds : List PyData} {n k : Nat} (h : ShAll ds n k) : Sh (.list ds) (n + 3) (k + 1) := by
  refine ⟨by simp only [PyData.showable, h.so], ?_, by simp only [PyData.depth]; have := h.dp; omega⟩
  have h1 := listText_len_le (PyData.shownAll ds)
  have h2 := h.le
  rw [shownAll_len] at h1
  simp only [PyData.shown]
  omega
theorem Sh.tuple {ds : List PyData} {n k : Nat} (h : ShAll ds n k) : Sh (.tuple ds) (n + 3) (k + 1) := by
  refine ⟨by simp only [PyData.showable, h.so], ?_, by simp only [PyData.depth]; have := h.dp; omega⟩
  have h1 := tupleText_len_le (PyData.shownAll ds)
  have h2 := h.le
  rw [shownAll_len] at h1
  simp only [PyData.shown]
  omega
theorem _root_.L2.Room.units2 {k : Nat} {A : Around} (r : Room k A) : A.units + 200 < cLine := by have := r.un; omega
end TT
namespace TT
open PySem L2
/-- the tables of code objects that stand in the heap, each with the name that its code objects bear -/
class TB where
  T : List (Addr × Str)
variable [TB]
inductive D where
  | non | bl (b : Bool) | int (i : Int) | str (x : Str) | ty (n : String) | gl (a : Addr)
  | tup (xs : List D) | lst (xs : List D) | fl (xs : List D) | dK (kvs : List (Key × D)) | dT (kvs : List (List Key × D)) | obj (C : Addr) (fs : List (Str × D))
  | exn (a d C : Addr) (fs : List (Str × D)) | err (C : Addr) (fs : List (Str × D))
  /-- a tuple whose object is known: methods of it may be called -/
  | nt (xs : List D)
  /-- a dict whose object is known: it may be walked -/
  | nK (kvs : List (Key × D))
  /-- a value of which nothing is told -/
  | any
/-- what a name holds: data, or an object that may change -/
inductive MV where
  | d (x : D) | ref (n : Nat)
/-- an object that may change -/
inductive MO where
  | lst (xs : List D) | dK (kvs : List (Key × D)) | dT (kvs : List (List Key × D)) | ins (C : Addr) (fs : List (Str × MV))
  /-- a dict whose values may be objects that change -/
  | dM (kvs : List (Key × MV))
mutual
inductive DR (K : PySem.W.Frag) (F : Hp) : D → V → Prop
  | non : DR K F .non .non
  | bl (b : Bool) : DR K F (.bl b) (.bl b)
  | int (i : Int) : DR K F (.int i) (.int i)
  | str (x : Str) : DR K F (.str x) (.str x)
  | ty (n : String) : DR K F (.ty n) (.ty n)
  | gl (a : Addr) : DR K F (.gl a) (.ref a)
  | tup {a : Addr} {xs : List D} {vs : List V} : F a = some (.tup vs) → DRs K F xs vs → DR K F (.tup xs) (.ref a)
  | lst {a : Addr} {xs : List D} {vs : List V} : F a = some (.lst vs) → DRs K F xs vs → DR K F (.lst xs) (.ref a)
  | fl {a : Addr} {xs : List D} {vs : List V} : SqL K F a vs → DRs K F xs vs → DR K F (.fl xs) (.ref a)
  | dK {a : Addr} {xs : List (Key × D)} {vs : List (Key × V)} : F a = some (.dK vs) → DRk K F xs vs → DR K F (.dK xs) (.ref a)
  | dT {a : Addr} {xs : List (List Key × D)} {vs : List (List Key × V)} : F a = some (.dT vs) → DRt K F xs vs → DR K F (.dT xs) (.ref a)
  | obj {a C dx : Addr} {xs : List (Str × D)} {vs : List (Str × V)} : F a = some (.ins C dx vs) → DRf K F xs vs → DR K F (.obj C xs) (.ref a)
  | exn {a d C : Addr} {xs : List (Str × D)} {vs : List (Str × V)} : F d = some (.xd vs) → DRf K F xs vs → DR K F (.exn a d C xs) (.ref a)
  | err {a dx C : Addr} {xs : List (Str × D)} {vs : List (Str × V)} : F a = some (exo a C (some dx)) → F dx = some (exd dx vs) → DRf K F xs vs → DR K F (.err C xs) (.ref a)
  | nt {a : Addr} {xs : List D} {vs : List V} {o : Obj} : F a = some (.frz o (.tup vs)) → o.dict = none → DRs K F xs vs → DR K F (.nt xs) (.ref a)
  | nK {a : Addr} {xs : List (Key × D)} {vs : List (Key × V)} {o : Obj} : F a = some (.frz o (.dK vs)) → DRk K F xs vs → DR K F (.nK xs) (.ref a)
  | any {v : V} : DR K F .any v
inductive DRs (K : PySem.W.Frag) (F : Hp) : List D → List V → Prop
  | nil : DRs K F [] []
  | cons {d : D} {v : V} {ds : List D} {vs : List V} : DR K F d v → DRs K F ds vs → DRs K F (d :: ds) (v :: vs)
inductive DRk (K : PySem.W.Frag) (F : Hp) : List (Key × D) → List (Key × V) → Prop
  | nil : DRk K F [] []
  | cons {k : Key} {d : D} {v : V} {ds : List (Key × D)} {vs : List (Key × V)} : DR K F d v → DRk K F ds vs → DRk K F ((k, d) :: ds) ((k, v) :: vs)
inductive DRt (K : PySem.W.Frag) (F : Hp) : List (List Key × D) → List (List Key × V) → Prop
  | nil : DRt K F [] []
  | cons {k : List Key} {d : D} {v : V} {ds : List (List Key × D)} {vs : List (List Key × V)} : DR K F d v → DRt K F ds vs → DRt K F ((k, d) :: ds) ((k, v) :: vs)
inductive DRf (K : PySem.W.Frag) (F : Hp) : List (Str × D) → List (Str × V) → Prop
  | nil : DRf K F [] []
  | cons {k : Str} {d : D} {v : V} {ds : List (Str × D)} {vs : List (Str × V)} : DR K F d v → DRf K F ds vs → DRf K F ((k, d) :: ds) ((k, v) :: vs)
end
theorem same_t {K : PySem.W.Frag} {H H' : Hp} {a : Addr} {xs : List V} (e : Same H H') (h : SqT K H a xs) : SqT K H' a xs := by
  rcases h with (h | ⟨o, h⟩) | h
  · exact .inl (.inl (e a _ h))
  · exact .inl (.inr ⟨o, e a _ h⟩)
  · exact .inr h
section
variable {K : PySem.W.Frag} {F F' : Hp}
mutual
theorem DR.mono (e : Same F F') : ∀ (d : D) (v : V), DR K F d v → DR K F' d v
  | .non, _, h => by cases h; exact .non
  | .bl b, _, h => by cases h; exact .bl b
  | .int i, _, h => by cases h; exact .int i
  | .str x, _, h => by cases h; exact .str x
  | .ty n, _, h => by cases h; exact .ty n
  | .gl n, _, h => by cases h; exact .gl n
  | .tup xs, _, h => by cases h with | tup q r => exact .tup (e _ _ q) (DRs.mono e xs _ r)
  | .lst xs, _, h => by cases h with | lst q r => exact .lst (e _ _ q) (DRs.mono e xs _ r)
  | .fl xs, _, h => by cases h with | fl q r => exact .fl (e.seq q) (DRs.mono e xs _ r)
  | .dK xs, _, h => by cases h with | dK q r => exact .dK (e _ _ q) (DRk.mono e xs _ r)
  | .dT xs, _, h => by cases h with | dT q r => exact .dT (e _ _ q) (DRt.mono e xs _ r)
  | .obj C xs, _, h => by cases h with | obj q r => exact .obj (e _ _ q) (DRf.mono e xs _ r)
  | .exn a d C xs, _, h => by cases h with | exn q r => exact .exn (e _ _ q) (DRf.mono e xs _ r)
  | .err C xs, _, h => by cases h with | err q1 q2 r => exact .err (e _ _ q1) (e _ _ q2) (DRf.mono e xs _ r)
  | .nt xs, _, h => by cases h with | nt q n r => exact .nt (e _ _ q) n (DRs.mono e xs _ r)
  | .nK xs, _, h => by cases h with | nK q r => exact .nK (e _ _ q) (DRk.mono e xs _ r)
  | .any, _, h => .any
theorem DRs.mono (e : Same F F') : ∀ (d : List D) (v : List V), DRs K F d v → DRs K F' d v
  | [], _, h => by cases h; exact .nil
  | d :: ds, _, h => by cases h with | cons a b => exact .cons (DR.mono e d _ a) (DRs.mono e ds _ b)
theorem DRk.mono (e : Same F F') : ∀ (d : List (Key × D)) (v : List (Key × V)), DRk K F d v → DRk K F' d v
  | [], _, h => by cases h; exact .nil
  | (_, d) :: ds, _, h => by cases h with | cons a b => exact .cons (DR.mono e d _ a) (DRk.mono e ds _ b)
theorem DRt.mono (e : Same F F') : ∀ (d : List (List Key × D)) (v : List (List Key × V)), DRt K F d v → DRt K F' d v
  | [], _, h => by cases h; exact .nil
  | (_, d) :: ds, _, h => by cases h with | cons a b => exact .cons (DR.mono e d _ a) (DRt.mono e ds _ b)
theorem DRf.mono (e : Same F F') : ∀ (d : List (Str × D)) (v : List (Str × V)), DRf K F d v → DRf K F' d v
  | [], _, h => by cases h; exact .nil
  | (_, d) :: ds, _, h => by cases h with | cons a b => exact .cons (DR.mono e d _ a) (DRf.mono e ds _ b)
end
end
/-- no table -/
def NT : HO → Prop
  | .tbl _ => False
  | _ => True
open Classical in
noncomputable def mask (H : Hp) (Z : List Addr) : Hp := fun a => if a ∈ Z ∨ ∃ ps, H a = some (.tbl ps) then none else H a
theorem mask_in {H : Hp} {Z : List Addr} {a : Addr} {o : HO} (n : a ∉ Z) (e : H a = some o) (t : NT o := by exact True.intro) : mask H Z a = some o := by
  unfold mask
  rw [if_neg]
  · exact e
  · rintro (q | ⟨ps, q⟩)
    · exact n q
    · rw [e] at q; cases q; exact t
theorem of_mask {H : Hp} {Z : List Addr} {a : Addr} {o : HO} (e : mask H Z a = some o) : a ∉ Z ∧ H a = some o := by
  unfold mask at e
  split at e
  · cases e
  · rename_i n; exact ⟨fun q => n (.inl q), e⟩
theorem mask_nt {H : Hp} {Z : List Addr} {a : Addr} {o : HO} (e : mask H Z a = some o) : NT o := by
  unfold mask at e
  split at e
  · cases e
  · rename_i n
    cases o with
    | tbl ps => exact (n (.inr ⟨ps, e⟩)).elim
    | _ => exact True.intro
theorem mask_same (H : Hp) (Z : List Addr) : Same (mask H Z) H := fun a o e => (of_mask e).2
inductive RM (K : PySem.W.Frag) (F : Hp) (ι : List Addr) : MV → V → Prop
  | d {x : D} {v : V} : DR K F x v → RM K F ι (.d x) v
  | ref {n : Nat} {a : Addr} : ι[n]? = some a → RM K F ι (.ref n) (.ref a)
inductive RMf (K : PySem.W.Frag) (F : Hp) (ι : List Addr) : List (Str × MV) → List (Str × V) → Prop
  | nil : RMf K F ι [] []
  | cons {k : Str} {d : MV} {v : V} {ds : List (Str × MV)} {vs : List (Str × V)} : RM K F ι d v → RMf K F ι ds vs → RMf K F ι ((k, d) :: ds) ((k, v) :: vs)
inductive RMk (K : PySem.W.Frag) (F : Hp) (ι : List Addr) : List (Key × MV) → List (Key × V) → Prop
  | nil : RMk K F ι [] []
  | cons {k : Key} {d : MV} {v : V} {ds : List (Key × MV)} {vs : List (Key × V)} : RM K F ι d v → RMk K F ι ds vs → RMk K F ι ((k, d) :: ds) ((k, v) :: vs)
inductive RO (K : PySem.W.Frag) (F : Hp) (ι : List Addr) : MO → HO → Prop
  | lst {xs : List D} {vs : List V} : DRs K F xs vs → RO K F ι (.lst xs) (.lst vs)
  | dK {xs : List (Key × D)} {vs : List (Key × V)} : DRk K F xs vs → RO K F ι (.dK xs) (.dK vs)
  | dT {xs : List (List Key × D)} {vs : List (List Key × V)} : DRt K F xs vs → RO K F ι (.dT xs) (.dT vs)
  | ins {C dx : Addr} {xs : List (Str × MV)} {vs : List (Str × V)} : RMf K F ι xs vs → RO K F ι (.ins C xs) (.ins C dx vs)
  | dM {xs : List (Key × MV)} {vs : List (Key × V)} : RMk K F ι xs vs → RO K F ι (.dM xs) (.dK vs)
theorem RO.nt {K : PySem.W.Frag} {F : Hp} {ι : List Addr} {m : MO} {v : HO} (h : RO K F ι m v) : NT v := by cases h <;> exact True.intro
def Pre (ι ι' : List Addr) : Prop := ∀ (n : Nat) a, ι[n]? = some a → ι'[n]? = some a
theorem RM.mono {K : PySem.W.Frag} {F F' : Hp} {ι ι' : List Addr} (e : Same F F') (p : Pre ι ι') {m : MV} {v : V} (h : RM K F ι m v) : RM K F' ι' m v := by
  cases h with
  | d h => exact .d (DR.mono e _ _ h)
  | ref h => exact .ref (p _ _ h)
theorem RMf.mono {K : PySem.W.Frag} {F F' : Hp} {ι ι' : List Addr} (e : Same F F') (p : Pre ι ι') : ∀ {m : List (Str × MV)} {v : List (Str × V)}, RMf K F ι m v → RMf K F' ι' m v
  | _, _, .nil => .nil
  | _, _, .cons a b => .cons (a.mono e p) (RMf.mono e p b)
theorem RMk.mono {K : PySem.W.Frag} {F F' : Hp} {ι ι' : List Addr} (e : Same F F') (p : Pre ι ι') : ∀ {m : List (Key × MV)} {v : List (Key × V)}, RMk K F ι m v → RMk K F' ι' m v
  | _, _, .nil => .nil
  | _, _, .cons a b => .cons (a.mono e p) (RMk.mono e p b)
theorem RO.mono {K : PySem.W.Frag} {F F' : Hp} {ι ι' : List Addr} (e : Same F F') (p : Pre ι ι') {m : MO} {v : HO} (h : RO K F ι m v) : RO K F' ι' m v := by
  cases h with
  | lst h => exact .lst (DRs.mono e _ _ h)
  | dK h => exact .dK (DRk.mono e _ _ h)
  | dT h => exact .dT (DRt.mono e _ _ h)
  | ins h => exact .ins (h.mono e p)
  | dM h => exact .dM (h.mono e p)
/-- the store -/
structure Sta (K : PySem.W.Frag) (Z ι : List Addr) (μ : List MO) (H : Hp) : Prop where
  sub : ∀ a ∈ ι, a ∈ Z
  nd : ι.Nodup
  len : ι.length = μ.length
  trk : ∀ a ∈ Z, ∃ o, H a = some o
  tab : LamX.Tabs TB.T H
  obj : ∀ (n : Nat) a o, ι[n]? = some a → μ[n]? = some o → ∃ ho, H a = some ho ∧ RO K (mask H Z) ι o ho
structure Ext (Z ι : List Addr) (H : Hp) (Z' ι' : List Addr) (H' : Hp) : Prop where
  sub : ∀ a ∈ ι, a ∈ Z
  z : ∀ a ∈ Z, a ∈ Z'
  i : Pre ι ι'
  keep : ∀ a o, a ∉ ι → NT o → H a = some o → H' a = some o
  tb : ∀ a ps, H a = some (.tbl ps) → ∃ qs, H' a = some (.tbl qs)
  new : ∀ a ∈ Z', a ∈ Z ∨ H a = none
  newi : ∀ a ∈ ι', a ∈ ι ∨ H a = none
theorem Ext.refl {Z ι : List Addr} {H : Hp} (s : ∀ a ∈ ι, a ∈ Z) : Ext Z ι H Z ι H := ⟨s, fun _ h => h, fun _ _ h => h, fun _ _ _ _ h => h, fun _ ps h => ⟨ps, h⟩, fun _ h => .inl h, fun _ h => .inl h⟩
theorem nt_or (o : HO) : NT o ∨ ∃ ps, o = .tbl ps := by
  cases o with
  | tbl ps => exact .inr ⟨ps, rfl⟩
  | _ => exact .inl True.intro
theorem Ext.free {Z ι Z' ι' : List Addr} {H H' : Hp} (x : Ext Z ι H Z' ι' H') {a : Addr} (n : a ∉ ι) (h : H' a = none) : H a = none := by
  cases e : H a with
  | none => rfl
  | some o =>
    rcases nt_or o with t | ⟨ps, rfl⟩
    · rw [x.keep a o n t e] at h; cases h
    · obtain ⟨qs, z⟩ := x.tb a ps e; rw [z] at h; cases h
theorem Ext.trans {Z ι Z1 ι1 Z2 ι2 : List Addr} {H H1 H2 : Hp} (x : Ext Z ι H Z1 ι1 H1) (y : Ext Z1 ι1 H1 Z2 ι2 H2) : Ext Z ι H Z2 ι2 H2 := by
  have b : ∀ a, H1 a = none → a ∈ ι ∨ H a = none := fun a h => by
    by_cases q : a ∈ ι
    · exact .inl q
    · cases e : H a with
      | none => exact .inr rfl
      | some o => exact .inr (e.symm.trans (x.free q h))
  refine ⟨x.sub, fun a h => y.z a (x.z a h), fun n a h => y.i n a (x.i n a h), fun a o n t e => y.keep a o (fun q => ?_) t (x.keep a o n t e), fun a ps e => ?_, fun a h => ?_, fun a h => ?_⟩
  · rcases x.newi a q with r | r
    · exact n r
    · rw [r] at e; cases e
  · obtain ⟨qs, z⟩ := x.tb a ps e
    exact y.tb a qs z
  · rcases y.new a h with r | r
    · exact x.new a r
    · rcases b a r with q | q
      · exact .inl (x.sub a q)
      · exact .inr q
  · rcases y.newi a h with r | r
    · exact x.newi a r
    · exact b a r
theorem Ext.same {Z ι Z' ι' : List Addr} {H H' : Hp} (x : Ext Z ι H Z' ι' H') : Same (mask H Z) (mask H' Z') := fun a o e => by
  have t := mask_nt e
  obtain ⟨n, e⟩ := of_mask e
  refine mask_in (fun q => ?_) (x.keep a o (fun q => n (x.sub a q)) t e) t
  rcases x.new a q with r | r
  · exact n r
  · rw [r] at e; cases e
/-- the heap grows, the store stays -/
theorem Sta.grow {K : PySem.W.Frag} {Z ι : List Addr} {μ : List MO} {H H' : Hp} (s : Sta K Z ι μ H) (e : Same H H') : Sta K Z ι μ H' ∧ Ext Z ι H Z ι H' := by
  have x : Ext Z ι H Z ι H' := ⟨s.sub, fun _ h => h, fun _ _ h => h, fun a o _ _ h => e a o h, fun a ps h => ⟨ps, e a _ h⟩, fun _ h => .inl h, fun _ h => .inl h⟩
  refine ⟨⟨s.sub, s.nd, s.len, fun a h => ?_, s.tab.ext e, fun n a o h1 h2 => ?_⟩, x⟩
  · obtain ⟨o, h⟩ := s.trk a h
    exact ⟨o, e a o h⟩
  · obtain ⟨ho, h, r⟩ := s.obj n a o h1 h2
    exact ⟨ho, e a ho h, r.mono x.same x.i⟩
inductive Res (α : Type) where
  | ok (a : α) (μ : List MO) | exc (C : Addr) (fs : List (Str × D)) (μ : List MO) | bad
def Res.bind {α β : Type} : Res α → (α → List MO → Res β) → Res β
  | .ok a μ, k => k a μ
  | .exc C fs μ, _ => .exc C fs μ
  | .bad, _ => .bad
@[simp] theorem Res.bind_ok {α β : Type} (a : α) (μ : List MO) (k : α → List MO → Res β) : (Res.ok a μ).bind k = k a μ := rfl
@[simp] theorem Res.bind_exc {α β : Type} (C : Addr) (fs : List (Str × D)) (μ : List MO) (k : α → List MO → Res β) : (Res.exc C fs μ : Res α).bind k = .exc C fs μ := rfl
@[simp] theorem Res.bind_bad {α β : Type} (k : α → List MO → Res β) : (Res.bad : Res α).bind k = .bad := rfl
abbrev En := List (Option MV)
abbrev ME := En → List MO → Res MV
abbrev MT := En → List MO → Res Bool
abbrev MA := En → List MO → Res (List MV)
inductive RSo (K : PySem.W.Frag) (F : Hp) (ι : List Addr) : Option MV → Option V → Prop
  | none {v : Option V} : RSo K F ι none v
  | some {m : MV} {v : V} : RM K F ι m v → RSo K F ι (some m) (some v)
abbrev RS (K : PySem.W.Frag) (F : Hp) (ι : List Addr) : En → St → Prop := Paired (RSo K F ι)
theorem RS.mono {K : PySem.W.Frag} {F F' : Hp} {ι ι' : List Addr} (e : Same F F') (p : Pre ι ι') {m : En} {v : St} (h : RS K F ι m v) : RS K F' ι' m v :=
  Paired.mapP h fun a b r => by
    cases r with
    | none => exact .none
    | some r => exact .some (r.mono e p)
theorem RS.get {K : PySem.W.Frag} {F : Hp} {ι : List Addr} : ∀ {ρ : En} {σ : St}, RS K F ι ρ σ → ∀ {i : Nat} {m : MV}, ρ[i]? = some (some m) → ∃ v, σ[i]? = some (some v) ∧ RM K F ι m v
  | _, _, .nil, i, m, h => by simp at h
  | _, _, .cons r t, 0, m, h => by
    simp at h
    subst h
    cases r with
    | some r => exact ⟨_, rfl, r⟩
  | _, _, .cons r t, i + 1, m, h => by
    obtain ⟨v, h1, h2⟩ := RS.get t (i := i) (m := m) (by simpa using h)
    exact ⟨v, by simpa using h1, h2⟩
theorem RS.set {K : PySem.W.Frag} {F : Hp} {ι : List Addr} {m : MV} {v : V} (r : RM K F ι m v) : ∀ {ρ : En} {σ : St}, RS K F ι ρ σ → ∀ (i : Nat), RS K F ι (ρ.set i (some m)) (σ.set i (some v))
  | _, _, .nil, _ => .nil
  | _, _, .cons _ t, 0 => .cons (.some r) t
  | _, _, .cons q t, i + 1 => .cons q (RS.set r t i)
structure Rel (K : PySem.W.Frag) (Z ι : List Addr) (ρ : En) (μ : List MO) (σ : St) (H : Hp) : Prop where
  sta : Sta K Z ι μ H
  rs : RS K (mask H Z) ι ρ σ
theorem Rel.ext {K : PySem.W.Frag} {Z ι Z' ι' : List Addr} {ρ : En} {μ μ' : List MO} {σ : St} {H H' : Hp} (R : Rel K Z ι ρ μ σ H) (x : Ext Z ι H Z' ι' H') (s : Sta K Z' ι' μ' H') : Rel K Z' ι' ρ μ' σ H' := ⟨s, R.rs.mono x.same x.i⟩
def Out (K : PySem.W.Frag) (W : WX) (σ : St) (Z ι : List Addr) (H : Hp) {α : Type} (r : Res α) (P : α → List Addr → List Addr → Hp → Prop) : Prop :=
  match r with
  | .ok v μ' => ∀ Z' ι' H', Ext Z ι H Z' ι' H' → Sta K Z' ι' μ' H' → P v Z' ι' H'
  | .exc C fs μ' => ∀ Z' ι' H' d fs', Ext Z ι H Z' ι' H' → Sta K Z' ι' μ' H' → H' d = some (.xd fs') → d ∉ Z' → DRf K (mask H' Z') fs fs' → W (.ref C) (some d) σ H'
  | .bad => False
section
variable {K : PySem.W.Frag} {W : WX} {σ : St} {Z ι Z' ι' : List Addr} {H H' : Hp} {α β : Type}
theorem Out.base {r : Res α} {P : α → List Addr → List Addr → Hp → Prop} (o : Out K W σ Z ι H r P) (x : Ext Z ι H Z' ι' H') : Out K W σ Z' ι' H' r P := by
  cases r with
  | ok v μ' => exact fun Z2 ι2 H2 x2 s2 => o Z2 ι2 H2 (x.trans x2) s2
  | exc C fs μ' => exact fun Z2 ι2 H2 d fs' x2 s2 => o Z2 ι2 H2 d fs' (x.trans x2) s2
  | bad => exact o
end
def Val (K : PySem.W.Frag) (Q : VK) : MV → List Addr → List Addr → Hp → Prop := fun v Z ι H => ∀ x, RM K (mask H Z) ι v x → Q x H
inductive RMs (K : PySem.W.Frag) (F : Hp) (ι : List Addr) : List MV → List V → Prop
  | nil : RMs K F ι [] []
  | cons {m : MV} {v : V} {ms : List MV} {vs : List V} : RM K F ι m v → RMs K F ι ms vs → RMs K F ι (m :: ms) (v :: vs)
theorem RMs.mono {K : PySem.W.Frag} {F F' : Hp} {ι ι' : List Addr} (e : Same F F') (p : Pre ι ι') : ∀ {m : List MV} {v : List V}, RMs K F ι m v → RMs K F' ι' m v
  | _, _, .nil => .nil
  | _, _, .cons a b => .cons (a.mono e p) (RMs.mono e p b)
def Vals' (K : PySem.W.Frag) (Q : List V → Hp → Prop) : List MV → List Addr → List Addr → Hp → Prop := fun v Z ι H => ∀ x, RMs K (mask H Z) ι v x → Q x H
def tM (K : PySem.W.Frag) (W : WX) (m : ME) : TE := fun σ H Q => ∃ Z ι ρ μ, Rel K Z ι ρ μ σ H ∧ Out K W σ Z ι H (m ρ μ) (Val K Q)
def tMT (K : PySem.W.Frag) (W : WX) (m : MT) : TT := fun σ H Q => ∃ Z ι ρ μ, Rel K Z ι ρ μ σ H ∧ Out K W σ Z ι H (m ρ μ) (fun b _ _ H' => Q b H')
def tMA (K : PySem.W.Frag) (W : WX) (m : MA) : TA := fun σ H Q => ∃ Z ι ρ μ, Rel K Z ι ρ μ σ H ∧ Out K W σ Z ι H (m ρ μ) (Vals' K Q)
abbrev FE (X : Cx) (W : WX) (e : Expr) (m : ME) : Prop := PE X e (tM X.K W m)
abbrev FT (X : Cx) (W : WX) (e : Expr) (m : MT) : Prop := PT X e (tMT X.K W m)
abbrev FA (X : Cx) (W : WX) (e : List Expr) (m : MA) : Prop := PA X e (tMA X.K W m)
section
variable {X : Cx}
theorem pe_imp {e : Expr} {t t' : TE} (h : PE X e t) (i : ∀ σ H Q, t' σ H Q → t σ H Q) : PE X e t' := ⟨fun pins s σ H Q I w => h.run pins s σ H Q I (i σ H Q w)⟩
theorem pt_imp {e : Expr} {t t' : TT} (h : PT X e t) (i : ∀ σ H Q, t' σ H Q → t σ H Q) : PT X e t' := ⟨fun pins s σ H Q I w => h.run pins s σ H Q I (i σ H Q w)⟩
theorem pw_imp {e : Expr} {t t' : TT} (h : PW X e t) (i : ∀ σ H Q, t' σ H Q → t σ H Q) : PW X e t' := ⟨fun wh pins s σ H Q I w => h.run wh pins s σ H Q I (i σ H Q w)⟩
theorem pa_imp {e : List Expr} {t t' : TA} (h : PA X e t) (i : ∀ σ H Q, t' σ H Q → t σ H Q) : PA X e t' := ⟨fun p pins s σ H Q I w => h.run p pins s σ H Q I (i σ H Q w)⟩
theorem ps_imp {e : Stmt} {t t' : TS} (h : PS X e t) (i : ∀ D σ H, t' D σ H → t D σ H) : PS X e t' := ⟨fun pins s σ H D I w => h.run pins s σ H D I (i D σ H w)⟩
theorem pss_imp {e : List Stmt} {t t' : TS} (h : PSs X e t) (i : ∀ D σ H, t' D σ H → t D σ H) : PSs X e t' := ⟨fun pins s σ H D I w => h.run pins s σ H D I (i D σ H w)⟩
end
section
variable {K : PySem.W.Frag} {W : WX} {σ : St} {Z ι Z' ι' : List Addr} {ρ : En} {μ : List MO} {H H' : Hp} {α β : Type}
/-- one expression, then the rest -/
theorem tM_bind {m : ME} {k : MV → List MO → Res β} {P : β → List Addr → List Addr → Hp → Prop} {Q : VK} (R : Rel K Z ι ρ μ σ H) (o : Out K W σ Z ι H ((m ρ μ).bind k) P)
    (h : ∀ v μ' Z' ι' H' x, Ext Z ι H Z' ι' H' → Rel K Z' ι' ρ μ' σ H' → RM K (mask H' Z') ι' v x → Out K W σ Z' ι' H' (k v μ') P → Q x H') : tM K W m σ H Q := by
  refine ⟨Z, ι, ρ, μ, R, ?_⟩
  cases e : m ρ μ with
  | ok v μ' =>
    rw [e] at o
    exact fun Z2 ι2 H2 x2 s2 x r => h v μ' Z2 ι2 H2 x x2 (R.ext x2 s2) r (Out.base o x2)
  | exc C fs μ' =>
    rw [e] at o
    exact o
  | bad =>
    rw [e] at o
    exact o
theorem tMT_bind {m : MT} {k : Bool → List MO → Res β} {P : β → List Addr → List Addr → Hp → Prop} {Q : Bool → Hp → Prop} (R : Rel K Z ι ρ μ σ H) (o : Out K W σ Z ι H ((m ρ μ).bind k) P)
    (h : ∀ v μ' Z' ι' H', Ext Z ι H Z' ι' H' → Rel K Z' ι' ρ μ' σ H' → Out K W σ Z' ι' H' (k v μ') P → Q v H') : tMT K W m σ H Q := by
  refine ⟨Z, ι, ρ, μ, R, ?_⟩
  cases e : m ρ μ with
  | ok v μ' =>
    rw [e] at o
    exact fun Z2 ι2 H2 x2 s2 => h v μ' Z2 ι2 H2 x2 (R.ext x2 s2) (Out.base o x2)
  | exc C fs μ' =>
    rw [e] at o
    exact o
  | bad =>
    rw [e] at o
    exact o
theorem tMA_bind {m : MA} {k : List MV → List MO → Res β} {P : β → List Addr → List Addr → Hp → Prop} {Q : List V → Hp → Prop} (R : Rel K Z ι ρ μ σ H) (o : Out K W σ Z ι H ((m ρ μ).bind k) P)
    (h : ∀ v μ' Z' ι' H' x, Ext Z ι H Z' ι' H' → Rel K Z' ι' ρ μ' σ H' → RMs K (mask H' Z') ι' v x → Out K W σ Z' ι' H' (k v μ') P → Q x H') : tMA K W m σ H Q := by
  refine ⟨Z, ι, ρ, μ, R, ?_⟩
  cases e : m ρ μ with
  | ok v μ' =>
    rw [e] at o
    exact fun Z2 ι2 H2 x2 s2 x r => h v μ' Z2 ι2 H2 x x2 (R.ext x2 s2) r (Out.base o x2)
  | exc C fs μ' =>
    rw [e] at o
    exact o
  | bad =>
    rw [e] at o
    exact o
/-- the end: a value that stands -/
theorem Out.ret {v : MV} {Q : VK} {x : V} (s : Sta K Z ι μ H) (o : Out K W σ Z ι H (.ok v μ) (Val K Q)) (r : RM K (mask H Z) ι v x) : Q x H := o Z ι H (Ext.refl s.sub) s x r
/-- .. in a heap that has grown -/
theorem Out.new {v : MV} {Q : VK} {x : V} (s : Sta K Z ι μ H) (o : Out K W σ Z ι H (.ok v μ) (Val K Q)) (e : Same H H') (r : RM K (mask H' Z) ι v x) : Q x H' :=
  o Z ι H' (s.grow e).2 (s.grow e).1 x r
end
def view (μ : List MO) : MV → Option D
  | .d x => some x
  | .ref n => match μ[n]? with
    | some (.lst xs) => some (.lst xs)
    | some (.dK xs) => some (.dK xs)
    | some (.dT xs) => some (.dT xs)
    | _ => none
inductive DV (K : PySem.W.Frag) (Z : List Addr) (H : Hp) : D → V → Prop
  | d {x : D} {v : V} : DR K (mask H Z) x v → DV K Z H x v
  | lst {a : Addr} {xs : List D} {vs : List V} : H a = some (.lst vs) → DRs K (mask H Z) xs vs → DV K Z H (.lst xs) (.ref a)
  | dK {a : Addr} {xs : List (Key × D)} {vs : List (Key × V)} : H a = some (.dK vs) → DRk K (mask H Z) xs vs → DV K Z H (.dK xs) (.ref a)
  | dT {a : Addr} {xs : List (List Key × D)} {vs : List (List Key × V)} : H a = some (.dT vs) → DRt K (mask H Z) xs vs → DV K Z H (.dT xs) (.ref a)
theorem view_ok {K : PySem.W.Frag} {Z ι : List Addr} {μ : List MO} {H : Hp} (s : Sta K Z ι μ H) {m : MV} {v : V} {x : D} (r : RM K (mask H Z) ι m v) (e : view μ m = some x) : DV K Z H x v := by
  cases r with
  | d r => cases e; exact .d r
  | ref r =>
    rename_i n a
    unfold view at e
    simp only at e
    split at e
    · rename_i xs q; cases e
      obtain ⟨ho, h1, h2⟩ := s.obj _ _ _ r q
      cases h2 with | lst h2 => exact .lst h1 h2
    · rename_i xs q; cases e
      obtain ⟨ho, h1, h2⟩ := s.obj _ _ _ r q
      cases h2 with | dK h2 => exact .dK h1 h2
    · rename_i xs q; cases e
      obtain ⟨ho, h1, h2⟩ := s.obj _ _ _ r q
      cases h2 with | dT h2 => exact .dT h1 h2
    · cases e
section
variable {K : PySem.W.Frag} {Z : List Addr} {H : Hp} {v : V}
theorem DV.int {i : Int} (h : DV K Z H (.int i) v) : v = .int i := by cases h with | d h => cases h; rfl
theorem DV.str {i : Str} (h : DV K Z H (.str i) v) : v = .str i := by cases h with | d h => cases h; rfl
theorem DV.bl {i : Bool} (h : DV K Z H (.bl i) v) : v = .bl i := by cases h with | d h => cases h; rfl
theorem DV.non (h : DV K Z H .non v) : v = .non := by cases h with | d h => cases h; rfl
theorem DV.tup {xs : List D} (h : DV K Z H (.tup xs) v) : ∃ a vs, v = .ref a ∧ H a = some (.tup vs) ∧ DRs K (mask H Z) xs vs := by
  cases h with | d h => cases h with | tup q r => exact ⟨_, _, rfl, mask_same _ _ _ _ q, r⟩
theorem DV.ntp {xs : List D} (h : DV K Z H (.nt xs) v) : ∃ a vs o, v = .ref a ∧ H a = some (.frz o (.tup vs)) ∧ o.dict = none ∧ DRs K (mask H Z) xs vs := by
  cases h with | d h => cases h with | nt q n r => exact ⟨_, _, _, rfl, mask_same _ _ _ _ q, n, r⟩
theorem DV.list {xs : List D} (h : DV K Z H (.lst xs) v) : ∃ a vs, v = .ref a ∧ H a = some (.lst vs) ∧ DRs K (mask H Z) xs vs := by
  cases h with
  | d h => cases h with | lst q r => exact ⟨_, _, rfl, mask_same _ _ _ _ q, r⟩
  | lst q r => exact ⟨_, _, rfl, q, r⟩
theorem DV.flist {xs : List D} (h : DV K Z H (.fl xs) v) : ∃ a vs, v = .ref a ∧ SqL K H a vs ∧ DRs K (mask H Z) xs vs := by
  cases h with
  | d h => cases h with | fl q r => exact ⟨_, _, rfl, (mask_same _ _).seq q, r⟩
end
theorem DRs.len {K : PySem.W.Frag} {F : Hp} : ∀ {xs : List D} {vs : List V}, DRs K F xs vs → xs.length = vs.length
  | _, _, .nil => rfl
  | _, _, .cons _ b => congrArg (· + 1) (DRs.len b)
theorem DRs.get {K : PySem.W.Frag} {F : Hp} : ∀ {xs : List D} {vs : List V}, DRs K F xs vs → ∀ {i : Nat} {d : D}, xs[i]? = some d → ∃ v, vs[i]? = some v ∧ DR K F d v
  | _, _, .nil, i, d, h => by simp at h
  | _, _, .cons a b, 0, d, h => by simp at h; subst h; exact ⟨_, rfl, a⟩
  | _, _, .cons a b, i + 1, d, h => by
    obtain ⟨v, h1, h2⟩ := DRs.get b (i := i) (d := d) (by simpa using h)
    exact ⟨v, by simpa using h1, h2⟩
theorem DRs.append {K : PySem.W.Frag} {F : Hp} {ys : List D} {ws : List V} (h2 : DRs K F ys ws) : ∀ {xs : List D} {vs : List V}, DRs K F xs vs → DRs K F (xs ++ ys) (vs ++ ws)
  | _, _, .nil => h2
  | _, _, .cons a b => .cons a (DRs.append h2 b)
/-- a new tuple, a new list -/
theorem new_tup {K : PySem.W.Frag} {Z : List Addr} {H : Hp} {p : Addr} {xs : List D} {vs : List V} (t : ∀ a ∈ Z, ∃ o, H a = some o) (n : H p = none) (r : DRs K (mask H Z) xs vs) :
    Same H (upd H p (.tup vs)) ∧ DR K (mask (upd H p (.tup vs)) Z) (.tup xs) (.ref p) := by
  have np : p ∉ Z := fun q => by obtain ⟨o, e⟩ := t p q; rw [n] at e; cases e
  have s : Same H (upd H p (.tup vs)) := fun a o e => (upd_ne (ne_of_none e n)).trans e
  refine ⟨s, .tup (mask_in np upd_same) (r.mono (fun a o e => ?_) _ _)⟩
  obtain ⟨n1, e1⟩ := of_mask e
  exact mask_in n1 (s a o e1) (mask_nt e)
theorem new_lst {K : PySem.W.Frag} {Z : List Addr} {H : Hp} {p : Addr} {xs : List D} {vs : List V} (t : ∀ a ∈ Z, ∃ o, H a = some o) (n : H p = none) (r : DRs K (mask H Z) xs vs) :
    Same H (upd H p (.lst vs)) ∧ DR K (mask (upd H p (.lst vs)) Z) (.lst xs) (.ref p) := by
  have np : p ∉ Z := fun q => by obtain ⟨o, e⟩ := t p q; rw [n] at e; cases e
  have s : Same H (upd H p (.lst vs)) := fun a o e => (upd_ne (ne_of_none e n)).trans e
  refine ⟨s, .lst (mask_in np upd_same) (r.mono (fun a o e => ?_) _ _)⟩
  obtain ⟨n1, e1⟩ := of_mask e
  exact mask_in n1 (s a o e1) (mask_nt e)
end TT
namespace TT
open PySem L2
variable [TB]
def Trk (Z : List Addr) (H : Hp) : Prop := ∀ a ∈ Z, ∃ o, H a = some o
/-- what an operator upon values asks, answered by data -/
def OpD (K : PySem.W.Frag) (r : R2) (g : D → D → Option D) : Prop :=
  ∀ (Z : List Addr) (H : Hp) (a b c : D) (x y : V) (Q : VK), Trk Z H → DV K Z H a x → DV K Z H b y → g a b = some c → (∀ H' z, Same H H' → DR K (mask H' Z) c z → Q z H') → r x y H Q
def UnD (K : PySem.W.Frag) (r : V → Hp → VK → Prop) (g : D → Option D) : Prop :=
  ∀ (Z : List Addr) (H : Hp) (a c : D) (x : V) (Q : VK), Trk Z H → DV K Z H a x → g a = some c → (∀ H' z, Same H H' → DR K (mask H' Z) c z → Q z H') → r x H Q
inductive DVs (K : PySem.W.Frag) (Z : List Addr) (H : Hp) : List D → List V → Prop
  | nil : DVs K Z H [] []
  | cons {d : D} {v : V} {ds : List D} {vs : List V} : DV K Z H d v → DVs K Z H ds vs → DVs K Z H (d :: ds) (v :: vs)
def CallD (K : PySem.W.Frag) (r : List V → Hp → VK → Prop) (g : List D → Option D) : Prop :=
  ∀ (Z : List Addr) (H : Hp) (as : List D) (c : D) (xs : List V) (Q : VK), Trk Z H → DVs K Z H as xs → g as = some c → (∀ H' z, Same H H' → DR K (mask H' Z) c z → Q z H') → r xs H Q
def op1 (g : D → Option D) (a : MV) (μ : List MO) : Res MV :=
  match view μ a with
  | some x => match g x with
    | some z => .ok (.d z) μ
    | none => .bad
  | none => .bad
def op2 (g : D → D → Option D) (a b : MV) (μ : List MO) : Res MV :=
  match view μ a with
  | some x => match view μ b with
    | some y => match g x y with
      | some z => .ok (.d z) μ
      | none => .bad
    | none => .bad
  | none => .bad
def views (μ : List MO) : List MV → Option (List D)
  | [] => some []
  | a :: as => match view μ a with
    | some x => match views μ as with
      | some xs => some (x :: xs)
      | none => none
    | none => none
def opN (g : List D → Option D) (as : List MV) (μ : List MO) : Res MV :=
  match views μ as with
  | some xs => match g xs with
    | some z => .ok (.d z) μ
    | none => .bad
  | none => .bad
def mVar (i : Nat) : ME := fun ρ μ => match ρ[i]? with
  | some (some v) => .ok v μ
  | _ => .bad
def mC (x : D) : ME := fun _ μ => .ok (.d x) μ
def mUn (g : D → Option D) (ma : ME) : ME := fun ρ μ => (ma ρ μ).bind (op1 g)
def mBin (g : D → D → Option D) (ma mb : ME) : ME := fun ρ μ => (ma ρ μ).bind fun a μ1 => (mb ρ μ1).bind fun b μ2 => op2 g a b μ2
def mNil : MA := fun _ μ => .ok [] μ
def mCons (ma : ME) (mr : MA) : MA := fun ρ μ => (ma ρ μ).bind fun a μ1 => (mr ρ μ1).bind fun as μ2 => .ok (a :: as) μ2
def mN (g : List D → Option D) (ms : MA) : ME := fun ρ μ => (ms ρ μ).bind (opN g)
section
variable {K : PySem.W.Frag} {Z ι : List Addr} {μ : List MO} {H : Hp} {W : WX} {σ : St}
theorem views_ok (s : Sta K Z ι μ H) : ∀ {ms : List MV} {vs : List V} {xs : List D}, RMs K (mask H Z) ι ms vs → views μ ms = some xs → DVs K Z H xs vs
  | _, _, _, .nil, e => by cases e; exact .nil
  | _, _, _, .cons (m := m) (ms := ms) a b, e => by
    unfold views at e
    split at e
    · rename_i x h1
      split at e
      · rename_i ys h2
        cases e
        exact .cons (view_ok s a h1) (views_ok s b h2)
      · cases e
    · cases e
theorem op1_ok {r : V → Hp → VK → Prop} {g : D → Option D} (h : UnD K r g) {a : MV} {x : V} {Q : VK} (s : Sta K Z ι μ H) (ra : RM K (mask H Z) ι a x) (o : Out K W σ Z ι H (op1 g a μ) (Val K Q)) : r x H Q := by
  unfold op1 at o
  split at o
  · rename_i d hd
    split at o
    · rename_i z hz
      exact h Z H d z x Q s.trk (view_ok s ra hd) hz fun H' y e r => Out.new s o e (.d r)
    · exact o.elim
  · exact o.elim
theorem op2_ok {r : R2} {g : D → D → Option D} (h : OpD K r g) {a b : MV} {x y : V} {Q : VK} (s : Sta K Z ι μ H) (ra : RM K (mask H Z) ι a x) (rb : RM K (mask H Z) ι b y) (o : Out K W σ Z ι H (op2 g a b μ) (Val K Q)) : r x y H Q := by
  unfold op2 at o
  split at o
  · rename_i d hd
    split at o
    · rename_i e he
      split at o
      · rename_i z hz
        exact h Z H d e z x y Q s.trk (view_ok s ra hd) (view_ok s rb he) hz fun H' y e r => Out.new s o e (.d r)
      · exact o.elim
    · exact o.elim
  · exact o.elim
theorem opN_ok {r : List V → Hp → VK → Prop} {g : List D → Option D} (h : CallD K r g) {as : List MV} {xs : List V} {Q : VK} (s : Sta K Z ι μ H) (ra : RMs K (mask H Z) ι as xs) (o : Out K W σ Z ι H (opN g as μ) (Val K Q)) : r xs H Q := by
  unfold opN at o
  split at o
  · rename_i ds hd
    split at o
    · rename_i z hz
      exact h Z H ds z xs Q s.trk (views_ok s ra hd) hz fun H' y e r => Out.new s o e (.d r)
    · exact o.elim
  · exact o.elim
end
section
variable {X : Cx} {W : WX} {a b c e : Expr} {es : List Expr} {pos : Pos} {ma mb mc : ME} {ms : MA}
theorem fe_var {i : Nat} {x : Str} (hN : X.N[i]? = some x) (hv : Vis X.env.scope x) (hd : (x == ("__debug__" : Str)) = false := by decide) (hcd : (x == ("__classdict__" : Str)) = false := by decide) : FE X W (.Name x pos) (mVar i) := by
  refine pe_imp (pe_var (i := i) hN hv hd hcd) fun σ H Q ⟨Z, ι, ρ, μ, R, o⟩ => ?_
  unfold mVar at o
  split at o
  · rename_i v h
    obtain ⟨x, h1, h2⟩ := RS.get R.rs h
    exact ⟨x, h1, Out.ret R.sta o h2⟩
  · exact o.elim
theorem fe_c {v : V} {d : D} (h : PE X e (tC v)) (r : ∀ F, DR X.K F d v) : FE X W e (mC d) := pe_imp h fun σ H Q ⟨Z, ι, ρ, μ, R, o⟩ => Out.ret R.sta o (.d (r _))
theorem fe_int {i j} : FE X W (.Constant (.int i) j pos) (mC (.int i)) := fe_c pe_int fun _ => .int i
theorem fe_bl {i j} : FE X W (.Constant (.bool i) j pos) (mC (.bl i)) := fe_c pe_bl fun _ => .bl i
theorem fe_non {j} : FE X W (.Constant .none j pos) (mC .non) := fe_c pe_non fun _ => .non
theorem fe_str {i j} : FE X W (.Constant (.str i) j pos) (mC (.str i)) := fe_c pe_str fun _ => .str i
theorem fe_un {op : UnaryOp} {r : V → Hp → VK → Prop} {g : D → Option D} (ho : UnR X (unaryOp op) r) (hg : UnD X.K r g) (ha : FE X W a ma) : FE X W (.UnaryOp op a pos) (mUn g ma) := by
  refine pe_imp (pe_un ho ha) fun σ H Q ⟨Z, ι, ρ, μ, R, o⟩ => ?_
  exact tM_bind R o fun v μ' Z' ι' H' x x1 R1 r1 o1 => op1_ok hg R1.sta r1 o1
theorem fe_op {op : Operator} {r : R2} {g : D → D → Option D} (ho : OpR X (binaryOp op) r) (hg : OpD X.K r g) (ha : FE X W a ma) (hb : FE X W b mb) : FE X W (.BinOp a op b pos) (mBin g ma mb) := by
  refine pe_imp (pe_op ho ha hb) fun σ H Q ⟨Z, ι, ρ, μ, R, o⟩ => ?_
  exact tM_bind R o fun v μ' Z' ι' H' x x1 R1 r1 o1 => tM_bind R1 o1 fun v2 μ2 Z2 ι2 H2 y x2 R2 r2 o2 => op2_ok hg R2.sta (r1.mono x2.same x2.i) r2 o2
theorem fe_cmp {op : CmpOp} {r : R2} {g : D → D → Option D} (ho : OpR X (compareOp op) r) (hg : OpD X.K r g) (ha : FE X W a ma) (hb : FE X W b mb) (hm : behindInMarks op b = false) : FE X W (.Compare a [op] [b] pos) (mBin g ma mb) := by
  refine pe_imp (pe_cmpR ho ha hb hm) fun σ H Q ⟨Z, ι, ρ, μ, R, o⟩ => ?_
  exact tM_bind R o fun v μ' Z' ι' H' x x1 R1 r1 o1 => tM_bind R1 o1 fun v2 μ2 Z2 ι2 H2 y x2 R2 r2 o2 => op2_ok hg R2.sta (r1.mono x2.same x2.i) r2 o2
theorem fe_ix {r : R2} {g : D → D → Option D} (hr : IxR X r) (hg : OpD X.K r g) (ha : FE X W a ma) (hb : FE X W b mb) (hs : PlainIx b) : FE X W (.Subscript a b pos) (mBin g ma mb) := by
  refine pe_imp (pe_ix hr ha hb hs) fun σ H Q ⟨Z, ι, ρ, μ, R, o⟩ => ?_
  exact tM_bind R o fun v μ' Z' ι' H' x x1 R1 r1 o1 => tM_bind R1 o1 fun v2 μ2 Z2 ι2 H2 y x2 R2 r2 o2 => op2_ok hg R2.sta (r1.mono x2.same x2.i) r2 o2
theorem fa_nil : FA X W [] mNil := pa_imp pa_nil fun σ H Q ⟨Z, ι, ρ, μ, R, o⟩ => o Z ι H (Ext.refl R.sta.sub) R.sta [] .nil
theorem fa_cons (ha : FE X W e ma) (hr : FA X W es ms) (hs : starEach (e :: es) X.env = (false, eval e X.env) :: starEach es X.env := by rfl) : FA X W (e :: es) (mCons ma ms) := by
  refine pa_imp (pa_cons ha hr hs) fun σ H Q ⟨Z, ι, ρ, μ, R, o⟩ => ?_
  exact tM_bind R o fun v μ' Z' ι' H' x x1 R1 r1 o1 => tMA_bind R1 o1 fun vs μ2 Z2 ι2 H2 xs x2 R2 r2 o2 => o2 Z2 ι2 H2 (Ext.refl R2.sta.sub) R2.sta _ (.cons (r1.mono x2.same x2.i) r2)
theorem fe_callB {x : Str} {p : Pos} {id : String} {r : List V → Hp → VK → Prop} {g : List D → Option D} (hc : CallR X (.builtin id) r) (hg : CallD X.K r g) (hgl : Gl X x) (hm : X.mg x = none) (hv : bootBuiltins x = some (.builtin id)) (ha : FA X W (e :: es) ms)
    (hn : x ≠ "__name__" := by decide) (hdb : (x == ("__debug__" : Str)) = false := by decide) (he : starEach (e :: es) X.env = (false, eval e X.env) :: starEach es X.env := by rfl) (hpl : (backTo pos (starEach es X.env)).any (·.1) = false := by rfl) :
    FE X W (.Call (.Name x p) (e :: es) [] pos) (mN g ms) := by
  refine pe_imp (pe_callB hc hgl hm hv ha hn hdb he hpl) fun σ H Q ⟨Z, ι, ρ, μ, R, o⟩ => ?_
  exact tMA_bind R o fun v μ' Z' ι' H' x x1 R1 r1 o1 => opN_ok hg R1.sta r1 o1
theorem fe_callTy {x : Str} {p : Pos} {T : String} {r : List V → Hp → VK → Prop} {g : List D → Option D} (hc : CallR X (.type T) r) (hg : CallD X.K r g) (hgl : Gl X x) (hm : X.mg x = none) (hv : bootBuiltins x = some (.type T)) (ha : FA X W (e :: es) ms)
    (hn : x ≠ "__name__" := by decide) (hdb : (x == ("__debug__" : Str)) = false := by decide) (he : starEach (e :: es) X.env = (false, eval e X.env) :: starEach es X.env := by rfl) (hpl : (backTo pos (starEach es X.env)).any (·.1) = false := by rfl) :
    FE X W (.Call (.Name x p) (e :: es) [] pos) (mN g ms) := by
  refine pe_imp (pe_callTy hc hgl hm hv ha hn hdb he hpl) fun σ H Q ⟨Z, ι, ρ, μ, R, o⟩ => ?_
  exact tMA_bind R o fun v μ' Z' ι' H' x x1 R1 r1 o1 => opN_ok hg R1.sta r1 o1
def datas : List MV → Option (List D)
  | [] => some []
  | .d x :: as => match datas as with
    | some xs => some (x :: xs)
    | none => none
  | .ref _ :: _ => none
theorem datas_ok {K : PySem.W.Frag} {F : Hp} {ι : List Addr} : ∀ {ms : List MV} {vs : List V} {xs : List D}, RMs K F ι ms vs → datas ms = some xs → DRs K F xs vs
  | _, _, _, .nil, e => by cases e; exact .nil
  | _, _, _, .cons (.d r) b, e => by
    unfold datas at e
    split at e
    · rename_i ys h
      cases e
      exact .cons r (datas_ok b h)
    · cases e
  | _, _, _, .cons (.ref r) b, e => by cases e
def mkTup (as : List MV) (μ : List MO) : Res MV :=
  match datas as with
  | some xs => if xs.length ≤ sizeLine then .ok (.d (.tup xs)) μ else .bad
  | none => .bad
def mTup (ms : MA) : ME := fun ρ μ => (ms ρ μ).bind mkTup
theorem fe_tup {x1} (h : FA X W es ms) : FE X W (.Tuple es x1 pos) (mTup ms) := by
  refine pe_imp (pe_tup h) fun σ H Q ⟨Z, ι, ρ, μ, R, o⟩ => ?_
  refine tMA_bind R o fun v μ' Z' ι' H' x x1 R1 r1 o1 => ?_
  unfold mkTup at o1
  split at o1
  · rename_i xs hx
    have hd := datas_ok r1 hx
    split at o1
    · rename_i hl
      refine ⟨by rw [← hd.len]; exact hl, fun p hp => ?_⟩
      obtain ⟨s, r⟩ := new_tup R1.sta.trk hp hd
      exact Out.new R1.sta o1 s (.d r)
    · exact o1.elim
  · exact o1.elim
def truD : D → Option Bool
  | .non => some false
  | .bl b => some b
  | .int i => some (i != 0)
  | .str y => if y.length ≤ sizeLine then some ((y.length : Int) != 0) else none
  | .tup xs => some (!xs.isEmpty)
  | .lst xs => some (!xs.isEmpty)
  | .fl xs => some (!xs.isEmpty)
  | .dK xs => some (!xs.isEmpty)
  | _ => none
theorem DRs.emp {K : PySem.W.Frag} {F : Hp} {xs : List D} {vs : List V} (h : DRs K F xs vs) : (!xs.isEmpty) = !vs.isEmpty := by cases h <;> rfl
theorem truD_ok {K : PySem.W.Frag} {Z : List Addr} {H : Hp} {d : D} {x : V} {b : Bool} (h : DV K Z H d x) (e : truD d = some b) : TruV K x H b := by
  cases d with
  | non => rw [h.non]; cases e; rfl
  | bl b => rw [h.bl]; cases e; rfl
  | int i => rw [h.int]; cases e; rfl
  | str y =>
    rw [h.str]
    simp only [truD] at e
    split at e
    · rename_i hl; cases e; exact ⟨hl, rfl⟩
    · cases e
  | tup xs => obtain ⟨a, vs, rfl, q, r⟩ := h.tup; cases e; exact .inr (.inl ⟨vs, SqT.of q, r.emp⟩)
  | lst xs => obtain ⟨a, vs, rfl, q, r⟩ := h.list; cases e; exact .inl ⟨vs, SqL.of q, r.emp⟩
  | fl xs => obtain ⟨a, vs, rfl, q, r⟩ := h.flist; cases e; exact .inl ⟨vs, q, r.emp⟩
  | dK xs =>
    cases e
    cases h with
    | d h => cases h with | dK q r => exact .inr (.inr ⟨_, mask_same _ _ _ _ q, by cases r <;> rfl⟩)
    | dK q r => exact .inr (.inr ⟨_, q, by cases r <;> rfl⟩)
  | _ => cases e
def tru (v : MV) (μ : List MO) : Res Bool :=
  match view μ v with
  | some x => match truD x with
    | some b => .ok b μ
    | none => .bad
  | none => .bad
def mT (m : ME) : MT := fun ρ μ => (m ρ μ).bind tru
theorem tru_rule {K : PySem.W.Frag} {Z ι : List Addr} {μ : List MO} {H : Hp} {σ : St} {v : MV} {x : V} {Q : Bool → Hp → Prop} (s : Sta K Z ι μ H) (r : RM K (mask H Z) ι v x) (o : Out K W σ Z ι H (tru v μ) (fun b _ _ H' => Q b H')) :
    ∃ k, TruV K x H k ∧ Q k H := by
  unfold tru at o
  split at o
  · rename_i d hd
    split at o
    · rename_i b hb
      exact ⟨b, truD_ok (view_ok s r hd) hb, o Z ι H (Ext.refl s.sub) s⟩
    · exact o.elim
  · exact o.elim
theorem ft_truth (ha : FE X W a ma) (he : ∀ whole, isTrue a X.env whole = (do let v ← whole; standAt a.pos; holding [v] (truthy v)) := by intro _; rfl) : FT X W a (mT ma) := by
  refine pt_imp (pt_truth ha he) fun σ H Q ⟨Z, ι, ρ, μ, R, o⟩ => ?_
  exact tM_bind R o fun v μ' Z' ι' H' x x1 R1 r1 o1 => tru_rule R1.sta r1 o1
/-- a comparison as a test -/
def bool? (v : MV) (μ : List MO) : Res Bool :=
  match v with
  | .d (.bl b) => .ok b μ
  | _ => .bad
def mB (m : ME) : MT := fun ρ μ => (m ρ μ).bind bool?
theorem bool_rule {K : PySem.W.Frag} {Z ι : List Addr} {μ : List MO} {H : Hp} {σ : St} {v : MV} {x : V} {Q : Bool → Hp → Prop} (s : Sta K Z ι μ H) (r : RM K (mask H Z) ι v x) (o : Out K W σ Z ι H (bool? v μ) (fun b _ _ H' => Q b H')) :
    ∃ k, x = .bl k ∧ Q k H := by
  cases r with
  | ref r => exact o.elim
  | d r => cases r with
    | bl b => exact ⟨b, rfl, o Z ι H (Ext.refl s.sub) s⟩
    | _ => exact o.elim
/-- the same, after an operation -/
theorem op2_bool {K : PySem.W.Frag} {Z ι : List Addr} {μ : List MO} {H : Hp} {σ : St} {r : R2} {g : D → D → Option D} (h : OpD K r g) {a b : MV} {x y : V} {Q : Bool → Hp → Prop} (s : Sta K Z ι μ H) (ra : RM K (mask H Z) ι a x) (rb : RM K (mask H Z) ι b y)
    (o : Out K W σ Z ι H ((op2 g a b μ).bind bool?) (fun b _ _ H' => Q b H')) : r x y H (fun z H3 => ∃ k, z = .bl k ∧ Q k H3) := by
  unfold op2 at o
  split at o
  · rename_i d hd
    split at o
    · rename_i e he
      split at o
      · rename_i z hz
        refine h Z H d e z x y _ s.trk (view_ok s ra hd) (view_ok s rb he) hz fun H' y e r => ?_
        cases r with
        | bl b => exact ⟨b, rfl, o Z ι H' (s.grow e).2 (s.grow e).1⟩
        | _ => exact o.elim
      · exact o.elim
    · exact o.elim
  · exact o.elim
theorem ft_cmp {op : CmpOp} {r : R2} {g : D → D → Option D} (ho : OpR X (compareOp op) r) (hg : OpD X.K r g) (ha : FE X W a ma) (hb : FE X W b mb) (hm : behindInMarks op b = false) : FT X W (.Compare a [op] [b] pos) (mB (mBin g ma mb)) := by
  refine pt_imp (pt_cmpR ho ha hb hm) fun σ H Q ⟨Z, ι, ρ, μ, R, o⟩ => ?_
  have e : ∀ ρ μ, mB (mBin g ma mb) ρ μ = (ma ρ μ).bind fun a μ1 => (mb ρ μ1).bind fun b μ2 => (op2 g a b μ2).bind bool? := fun ρ μ => by
    unfold mB mBin
    cases ma ρ μ with
    | ok v μ' => simp only [Res.bind_ok]; cases mb ρ μ' <;> rfl
    | exc C fs μ' => rfl
    | bad => rfl
  rw [e] at o
  exact tM_bind R o fun v μ' Z' ι' H' x x1 R1 r1 o1 => tM_bind R1 o1 fun v2 μ2 Z2 ι2 H2 y x2 R2 r2 o2 => op2_bool hg R2.sta (r1.mono x2.same x2.i) r2 o2
abbrev FW (X : Cx) (W : WX) (e : Expr) (m : MT) : Prop := PW X e (tMT X.K W m)
variable {mA mB' : MT} {rest : List Expr}
def mAnd (m n : MT) : MT := fun ρ μ => (m ρ μ).bind fun c μ1 => if c = true then n ρ μ1 else .ok false μ1
def mOr (m n : MT) : MT := fun ρ μ => (m ρ μ).bind fun c μ1 => if c = true then .ok true μ1 else n ρ μ1
def mNot (m : MT) : MT := fun ρ μ => (m ρ μ).bind fun c μ1 => .ok (!c) μ1
theorem fw_or1 (ha : FT X W a mA) : FW X W (.BoolOp .Or [a] pos) mA := pw_or1 ha
theorem fw_or (ha : FT X W a mA) (hb : FW X W (.BoolOp .Or (b :: rest) pos) mB') : FW X W (.BoolOp .Or (a :: b :: rest) pos) (mOr mA mB') := by
  refine pw_imp (pw_or ha hb) fun σ H Q ⟨Z, ι, ρ, μ, R, o⟩ => ?_
  refine tMT_bind R o fun v μ' Z' ι' H' x1 R1 o1 => ?_
  cases v with
  | false => exact ⟨Z', ι', ρ, μ', R1, o1⟩
  | true => exact o1 Z' ι' H' (Ext.refl R1.sta.sub) R1.sta
theorem ft_not (ha : FT X W a mA) : FT X W (.UnaryOp .Not a pos) (mNot mA) := by
  refine pt_imp (pt_not ha) fun σ H Q ⟨Z, ι, ρ, μ, R, o⟩ => ?_
  exact tMT_bind R o fun v μ' Z' ι' H' x1 R1 o1 => o1 Z' ι' H' (Ext.refl R1.sta.sub) R1.sta
def mIf (c : MT) (m n : ME) : ME := fun ρ μ => (c ρ μ).bind fun k μ1 => if k = true then m ρ μ1 else n ρ μ1
theorem fe_ifExp (hc : FT X W c mA) (ha : FE X W a ma) (hb : FE X W b mb) : FE X W (.IfExp c a b pos) (mIf mA ma mb) := by
  refine pe_imp (pe_ifExp hc ha hb) fun σ H Q ⟨Z, ι, ρ, μ, R, o⟩ => ?_
  refine tMT_bind R o fun v μ' Z' ι' H' x1 R1 o1 => ?_
  cases v with
  | true => exact ⟨Z', ι', ρ, μ', R1, o1⟩
  | false => exact ⟨Z', ι', ρ, μ', R1, o1⟩
/-- as values: what stands ahead is True or False -/
def mAndV (m n : ME) : ME := fun ρ μ => (m ρ μ).bind fun v μ1 => match v with
  | .d (.bl true) => n ρ μ1
  | .d (.bl false) => .ok (.d (.bl false)) μ1
  | _ => .bad
def mOrV (m n : ME) : ME := fun ρ μ => (m ρ μ).bind fun v μ1 => match v with
  | .d (.bl true) => .ok (.d (.bl true)) μ1
  | .d (.bl false) => n ρ μ1
  | _ => .bad
def notD : D → Option D
  | .bl b => some (.bl !b)
  | d => match truD d with
    | some b => some (.bl !b)
    | none => none
theorem fe_one {op} (h : FE X W a ma) : FE X W (.BoolOp op [a] pos) ma := pe_one h
theorem fe_and (ha : FE X W a ma) (hb : FE X W (.BoolOp .And (b :: rest) pos) mb) : FE X W (.BoolOp .And (a :: b :: rest) pos) (mAndV ma mb) := by
  refine pe_imp (pe_and ha hb) fun σ H Q ⟨Z, ι, ρ, μ, R, o⟩ => ?_
  refine tM_bind R o fun v μ' Z' ι' H' x x1 R1 r1 o1 => ?_
  cases r1 with
  | ref r => exact o1.elim
  | d r => cases r with
    | bl c =>
      refine ⟨c, rfl, ?_⟩
      cases c with
      | true => exact ⟨Z', ι', ρ, μ', R1, o1⟩
      | false => exact Out.ret R1.sta o1 (.d (.bl false))
    | _ => exact o1.elim
theorem fe_not (ha : FE X W a ma) : FE X W (.UnaryOp .Not a pos) (mUn notD ma) := by
  refine pe_imp (pe_notT ha) fun σ H Q ⟨Z, ι, ρ, μ, R, o⟩ => ?_
  refine tM_bind R o fun v μ' Z' ι' H' x x1 R1 r1 o1 => ?_
  refine op1_ok (r := fun x H1 Q => ∃ k, TruV X.K x H1 k ∧ Q (.bl !k) H1) (fun Z H a c x Q t h e q => ?_) R1.sta r1 o1
  have key : ∀ b, truD a = some b → c = .bl !b → ∃ k, TruV X.K x H k ∧ Q (.bl !k) H := fun b hb hc => ⟨b, truD_ok h hb, q H _ (Same.refl _) (by rw [hc]; exact .bl _)⟩
  unfold notD at e
  split at e
  · cases e; exact key _ rfl rfl
  · split at e
    · rename_i b hb; cases e; exact key _ hb rfl
    · cases e
/-- a < b < c -/
def mChain (g g' : D → D → Option D) (ma mb mc : ME) : ME := fun ρ μ => (ma ρ μ).bind fun a μ1 => (mb ρ μ1).bind fun b μ2 => (op2 g a b μ2).bind fun k μ3 => match k with
  | .d (.bl true) => (mc ρ μ3).bind fun c μ4 => op2 g' b c μ4
  | .d (.bl false) => .ok (.d (.bl false)) μ3
  | _ => .bad
end
end TT
namespace TT
open PySem L2
variable [TB]
inductive SR where
  | nx (ρ : En) (μ : List MO) | rt (v : MV) (μ : List MO) | bk (ρ : En) (μ : List MO) | ct (ρ : En) (μ : List MO) | exc (C : Addr) (fs : List (Str × D)) (ρ : En) (μ : List MO) | bad
abbrev MS := En → List MO → SR
def OutS (K : PySem.W.Frag) (W : WX) (Z ι : List Addr) (H : Hp) (r : SR) (E : Ends) : Prop :=
  match r with
  | .nx ρ' μ' => ∀ Z' ι' H' σ', Ext Z ι H Z' ι' H' → Rel K Z' ι' ρ' μ' σ' H' → E.nx σ' H'
  | .bk ρ' μ' => ∀ Z' ι' H' σ', Ext Z ι H Z' ι' H' → Rel K Z' ι' ρ' μ' σ' H' → E.bk σ' H'
  | .ct ρ' μ' => ∀ Z' ι' H' σ', Ext Z ι H Z' ι' H' → Rel K Z' ι' ρ' μ' σ' H' → E.ct σ' H'
  | .rt v μ' => ∀ Z' ι' H', Ext Z ι H Z' ι' H' → Sta K Z' ι' μ' H' → Val K E.rt v Z' ι' H'
  | .exc C fs ρ' μ' => ∀ Z' ι' H' σ' d fs', Ext Z ι H Z' ι' H' → Rel K Z' ι' ρ' μ' σ' H' → H' d = some (.xd fs') → d ∉ Z' → DRf K (mask H' Z') fs fs' → W (.ref C) (some d) σ' H'
  | .bad => False
def tMS (K : PySem.W.Frag) (W : WX) (m : MS) : TS := fun E σ H => ∃ Z ι ρ μ, Rel K Z ι ρ μ σ H ∧ OutS K W Z ι H (m ρ μ) E
abbrev FS (X : Cx) (W : WX) (st : Stmt) (m : MS) : Prop := PS X st (tMS X.K W m)
abbrev FSs (X : Cx) (W : WX) (st : List Stmt) (m : MS) : Prop := PSs X st (tMS X.K W m)
section
variable {K : PySem.W.Frag} {W : WX} {Z ι Z' ι' : List Addr} {H H' : Hp} {E : Ends}
theorem OutS.base {r : SR} (o : OutS K W Z ι H r E) (x : Ext Z ι H Z' ι' H') : OutS K W Z' ι' H' r E := by
  cases r with
  | nx ρ μ => exact fun Z2 ι2 H2 σ2 x2 R2 => o Z2 ι2 H2 σ2 (x.trans x2) R2
  | bk ρ μ => exact fun Z2 ι2 H2 σ2 x2 R2 => o Z2 ι2 H2 σ2 (x.trans x2) R2
  | ct ρ μ => exact fun Z2 ι2 H2 σ2 x2 R2 => o Z2 ι2 H2 σ2 (x.trans x2) R2
  | rt v μ => exact fun Z2 ι2 H2 x2 s2 => o Z2 ι2 H2 (x.trans x2) s2
  | exc C fs ρ μ => exact fun Z2 ι2 H2 σ2 d fs' x2 R2 => o Z2 ι2 H2 σ2 d fs' (x.trans x2) R2
  | bad => exact o
end
/-- an expression's end within a statement -/
def Res.stm {α : Type} (r : Res α) (ρ : En) (k : α → List MO → SR) : SR :=
  match r with
  | .ok a μ => k a μ
  | .exc C fs μ => .exc C fs ρ μ
  | .bad => .bad
@[simp] theorem Res.stm_ok {α : Type} (a : α) (μ : List MO) (ρ : En) (k : α → List MO → SR) : (Res.ok a μ).stm ρ k = k a μ := rfl
@[simp] theorem Res.stm_exc {α : Type} (C : Addr) (fs : List (Str × D)) (μ : List MO) (ρ : En) (k : α → List MO → SR) : (Res.exc C fs μ : Res α).stm ρ k = .exc C fs ρ μ := rfl
@[simp] theorem Res.stm_bad {α : Type} (ρ : En) (k : α → List MO → SR) : (Res.bad : Res α).stm ρ k = .bad := rfl
section
variable {K : PySem.W.Frag} {W : WX} {σ : St} {Z ι Z' ι' : List Addr} {ρ : En} {μ : List MO} {H H' : Hp} {E : Ends}
theorem Out.exc_of {β : Type} {C : Addr} {fs : List (Str × D)} {P : β → List Addr → List Addr → Hp → Prop} (R : Rel K Z ι ρ μ σ H) {μ' : List MO} (o : OutS K W Z ι H (.exc C fs ρ μ') E) : Out K W σ Z ι H (.exc C fs μ' : Res β) P :=
  fun Z2 ι2 H2 d fs' x2 s2 => o Z2 ι2 H2 σ d fs' x2 (R.ext x2 s2)
theorem tM_stm {m : ME} {k : MV → List MO → SR} {Q : VK} (R : Rel K Z ι ρ μ σ H) (o : OutS K W Z ι H ((m ρ μ).stm ρ k) E)
    (h : ∀ v μ' Z' ι' H' x, Ext Z ι H Z' ι' H' → Rel K Z' ι' ρ μ' σ H' → RM K (mask H' Z') ι' v x → OutS K W Z' ι' H' (k v μ') E → Q x H') : tM K W m σ H Q := by
  refine ⟨Z, ι, ρ, μ, R, ?_⟩
  cases e : m ρ μ with
  | ok v μ' =>
    rw [e] at o
    exact fun Z2 ι2 H2 x2 s2 x r => h v μ' Z2 ι2 H2 x x2 (R.ext x2 s2) r (OutS.base o x2)
  | exc C fs μ' => rw [e] at o; exact Out.exc_of R o
  | bad => rw [e] at o; exact o
theorem tMT_stm {m : MT} {k : Bool → List MO → SR} {Q : Bool → Hp → Prop} (R : Rel K Z ι ρ μ σ H) (o : OutS K W Z ι H ((m ρ μ).stm ρ k) E)
    (h : ∀ v μ' Z' ι' H', Ext Z ι H Z' ι' H' → Rel K Z' ι' ρ μ' σ H' → OutS K W Z' ι' H' (k v μ') E → Q v H') : tMT K W m σ H Q := by
  refine ⟨Z, ι, ρ, μ, R, ?_⟩
  cases e : m ρ μ with
  | ok v μ' =>
    rw [e] at o
    exact fun Z2 ι2 H2 x2 s2 => h v μ' Z2 ι2 H2 x2 (R.ext x2 s2) (OutS.base o x2)
  | exc C fs μ' => rw [e] at o; exact Out.exc_of R o
  | bad => rw [e] at o; exact o
theorem tMA_stm {m : MA} {k : List MV → List MO → SR} {Q : List V → Hp → Prop} (R : Rel K Z ι ρ μ σ H) (o : OutS K W Z ι H ((m ρ μ).stm ρ k) E)
    (h : ∀ v μ' Z' ι' H' x, Ext Z ι H Z' ι' H' → Rel K Z' ι' ρ μ' σ H' → RMs K (mask H' Z') ι' v x → OutS K W Z' ι' H' (k v μ') E → Q x H') : tMA K W m σ H Q := by
  refine ⟨Z, ι, ρ, μ, R, ?_⟩
  cases e : m ρ μ with
  | ok v μ' =>
    rw [e] at o
    exact fun Z2 ι2 H2 x2 s2 x r => h v μ' Z2 ι2 H2 x x2 (R.ext x2 s2) r (OutS.base o x2)
  | exc C fs μ' => rw [e] at o; exact Out.exc_of R o
  | bad => rw [e] at o; exact o
theorem OutS.next (R : Rel K Z ι ρ μ σ H) (o : OutS K W Z ι H (.nx ρ μ) E) : E.nx σ H := o Z ι H σ (Ext.refl R.sta.sub) R
end
section
variable {X : Cx} {W : WX} {a b c e : Expr} {es : List Expr} {pos : Pos} {ma mb mc : ME} {ms : MA} {st : Stmt} {rest : List Stmt} {m n : MS}
def mNext : MS := fun ρ μ => .nx ρ μ
def mSeq (m n : MS) : MS := fun ρ μ => match m ρ μ with
  | .nx ρ' μ' => n ρ' μ'
  | r => r
theorem fss_nil : FSs X W [] mNext := pss_imp pss_nil fun E σ H ⟨Z, ι, ρ, μ, R, o⟩ => o.next R
theorem fss_one (h : FS X W st m) : FSs X W [st] m := pss_one h
theorem fss_cons (h1 : FS X W st m) (h2 : FSs X W rest n) : FSs X W (st :: rest) (mSeq m n) := by
  refine pss_imp (pss_cons h1 h2) fun E σ H ⟨Z, ι, ρ, μ, R, o⟩ => ⟨Z, ι, ρ, μ, R, ?_⟩
  unfold mSeq at o
  cases e : m ρ μ with
  | nx ρ' μ' =>
    rw [e] at o
    exact fun Z2 ι2 H2 σ2 x2 R2 => ⟨Z2, ι2, ρ', μ', R2, OutS.base o x2⟩
  | bk ρ' μ' => rw [e] at o; exact o
  | ct ρ' μ' => rw [e] at o; exact o
  | rt ρ' μ' => rw [e] at o; exact o
  | exc C fs ρ' μ' => rw [e] at o; exact o
  | bad => rw [e] at o; exact o
def mExpr (ma : ME) : MS := fun ρ μ => (ma ρ μ).stm ρ fun _ μ1 => .nx ρ μ1
theorem fs_expr (he : FE X W e ma) (hs : swapsWith e none pos.line X.env = pure false := by rfl) : FS X W (.Expr e pos) (mExpr ma) :=
  ps_imp (ps_expr he hs) fun E σ H ⟨Z, ι, ρ, μ, R, o⟩ => tM_stm R o fun v μ' Z' ι' H' x x1 R1 r1 o1 => o1.next R1
def mRet (ma : ME) : MS := fun ρ μ => (ma ρ μ).stm ρ fun v μ1 => .rt v μ1
theorem fs_ret (he : FE X W e ma) : FS X W (.Return (some e) pos) (mRet ma) :=
  ps_imp (ps_ret he) fun E σ H ⟨Z, ι, ρ, μ, R, o⟩ => tM_stm R o fun v μ' Z' ι' H' x x1 R1 r1 o1 => o1 Z' ι' H' (Ext.refl R1.sta.sub) R1.sta x r1
def mRetN : MS := fun _ μ => .rt (.d .non) μ
def mIfS (c : MT) (m n : MS) : MS := fun ρ μ => (c ρ μ).stm ρ fun k μ1 => if k = true then m ρ μ1 else n ρ μ1
theorem fs_if {p q : List Stmt} {mt : MT} (hc : FT X W c mt) (ha : FSs X W p m) (hb : FSs X W q n) : FS X W (.If c p q pos) (mIfS mt m n) := by
  refine ps_imp (ps_if hc ha hb) fun E σ H ⟨Z, ι, ρ, μ, R, o⟩ => tMT_stm R o fun v μ' Z' ι' H' x1 R1 o1 => ?_
  cases v with
  | true => exact ⟨Z', ι', ρ, μ', R1, o1⟩
  | false => exact ⟨Z', ι', ρ, μ', R1, o1⟩
/-- names and tuples of them -/
abbrev MG := MV → En → Option En
abbrev MGs := List D → En → Option En
def tMG (K : PySem.W.Frag) (g : MG) : TG := fun v σ H Q => ∃ Z ι ρ μ x ρ', Rel K Z ι ρ μ σ H ∧ RM K (mask H Z) ι x v ∧ g x ρ = some ρ' ∧ ∀ σ', Rel K Z ι ρ' μ σ' H → Q σ' H
def tMGs (K : PySem.W.Frag) (g : MGs) : TGs := fun vs σ H Q => ∃ Z ι ρ μ xs ρ', Rel K Z ι ρ μ σ H ∧ DRs K (mask H Z) xs vs ∧ g xs ρ = some ρ' ∧ ∀ σ', Rel K Z ι ρ' μ σ' H → Q σ' H
abbrev FG (X : Cx) (tg : Expr) (g : MG) : Prop := PG X tg (tMG X.K g)
abbrev FGs (X : Cx) (tg : List Expr) (g : MGs) : Prop := PGs X tg (tMGs X.K g)
theorem pg_imp {tg : Expr} {t t' : TG} (h : PG X tg t) (i : ∀ v σ H Q, t' v σ H Q → t v σ H Q) : PG X tg t' := ⟨fun pins s σ H v u Q I r w => h.run pins s σ H v u Q I r (i v σ H Q w)⟩
theorem pgs_imp {tg : List Expr} {t t' : TGs} (h : PGs X tg t) (i : ∀ v σ H Q, t' v σ H Q → t v σ H Q) : PGs X tg t' := ⟨fun pins s σ H v u Q I r w => h.run pins s σ H v u Q I r (i v σ H Q w)⟩
def gN (i : Nat) : MG := fun v ρ => some (ρ.set i (some v))
def gE : MGs := fun xs ρ => match xs with
  | [] => some ρ
  | _ => none
def gC (g : MG) (gs : MGs) : MGs := fun xs ρ => match xs with
  | x :: r => match g (.d x) ρ with
    | some ρ1 => gs r ρ1
    | none => none
  | _ => none
def gT (n : Nat) (gs : MGs) : MG := fun v ρ => match v with
  | .d (.tup xs) => if xs.length = n then gs xs ρ else none
  | _ => none
theorem fg_name {i : Nat} {x : Str} (hN : X.N.Nodup) (hi : X.N[i]? = some x) (hx : Loc X.env.scope x) (hf : X.fn x = true ∨ X.env.scope.names.lookup x = some .local := by first | exact .inl rfl | exact .inr rfl | assumption) : FG X (.Name x pos) (gN i) := by
  refine pg_imp (pg_name (i := i) hN hi hx hf) fun v σ H Q ⟨Z, ι, ρ, μ, x, ρ', R, r, e, h⟩ => ?_
  cases e
  exact h _ ⟨R.sta, R.rs.set r i⟩
theorem fgs_nil : FGs X [] gE := by
  refine pgs_imp pgs_nil fun v σ H Q ⟨Z, ι, ρ, μ, xs, ρ', R, r, e, h⟩ => ?_
  cases r with
  | nil => cases e; exact ⟨rfl, h _ R⟩
  | cons a b => cases e
theorem fgs_cons {e : Expr} {es : List Expr} {g : MG} {gs : MGs} (h1 : FG X e g) (h2 : FGs X es gs) (hs : (assignEach (e :: es) X.env).map (·.2) = assign e X.env :: (assignEach es X.env).map (·.2) := by rfl) : FGs X (e :: es) (gC g gs) := by
  refine pgs_imp (pgs_cons h1 h2 hs) fun v σ H Q ⟨Z, ι, ρ, μ, xs, ρ', R, r, e, h⟩ => ?_
  cases r with
  | nil => cases e
  | cons a b =>
    simp only [gC] at e
    split at e
    · rename_i ρ1 h3
      exact ⟨_, _, rfl, Z, ι, ρ, μ, _, ρ1, R, .d a, h3, fun σ' R' => ⟨Z, ι, ρ1, μ, _, ρ', R', b, e, h⟩⟩
    · cases e
theorem fg_tup {es : List Expr} {k : Nat} {gs : MGs} {n : Nat} (hc : X.calm = true) (h : FGs X es gs) (hn : (assignEach es X.env).length = n := by rfl) (hst : (assignEach es X.env).findIdx? (·.1) = none := by rfl) : FG X (.Tuple es k pos) (gT n gs) := by
  refine pg_imp (pg_tup hc h hn hst) fun v σ H Q ⟨Z, ι, ρ, μ, x, ρ', R, r, e, q⟩ => ?_
  cases r with
  | ref r => cases e
  | d r => cases r with
    | tup h1 h2 =>
      simp only [gT] at e
      split at e
      · rename_i hl
        exact ⟨_, _, rfl, SqT.of (mask_same _ _ _ _ h1), by rw [← h2.len]; exact hl, Z, ι, ρ, μ, _, ρ', R, h2, e, q⟩
      · cases e
    | _ => cases e
def mAsg (ma : ME) (g : MG) : MS := fun ρ μ => (ma ρ μ).stm ρ fun v μ1 => match g v ρ with
  | some ρ' => .nx ρ' μ1
  | none => .bad
theorem asg_rule {K : PySem.W.Frag} {Z ι : List Addr} {ρ : En} {μ : List MO} {σ : St} {H : Hp} {E : Ends} {v : MV} {x : V} {g : MG} (R : Rel K Z ι ρ μ σ H) (r : RM K (mask H Z) ι v x)
    (o : OutS K W Z ι H (match g v ρ with | some ρ' => .nx ρ' μ | none => .bad) E) : tMG K g x σ H E.nx := by
  split at o
  · rename_i ρ' h
    exact ⟨Z, ι, ρ, μ, v, ρ', R, r, h, fun σ' R' => o Z ι H σ' (Ext.refl R.sta.sub) R'⟩
  · exact o.elim
theorem fs_set {i : Nat} {x : Str} {pos' : Pos} (hN : X.N.Nodup) (hi : X.N[i]? = some x) (hx : Loc X.env.scope x) (he : FE X W e ma) (hs : swapsWith e (some (.Name x pos')) pos.line X.env = pure false := by rfl)
    (hf : X.fn x = true ∨ X.env.scope.names.lookup x = some .local := by first | exact .inl rfl | exact .inr rfl | assumption) : FS X W (.Assign [.Name x pos'] e pos) (mAsg ma (gN i)) := by
  refine ps_imp (ps_set (i := i) hN hi hx he hs hf) fun E σ H ⟨Z, ι, ρ, μ, R, o⟩ => tM_stm R o fun v μ' Z' ι' H' x x1 R1 r1 o1 => ?_
  exact o1 Z' ι' H' _ (Ext.refl R1.sta.sub) ⟨R1.sta, R1.rs.set r1 i⟩
theorem fs_asg {tg : Expr} {g : MG} (he : FE X W e ma) (hg : FG X tg g) (hs : swapsWithSole [tg] e pos.line X.env = pure false := by rfl) (hw : swappedStores [tg] e X.env = pure none := by rfl)
    (h1 : (assignEach [tg] X.env).map (·.2) = [assign tg X.env] := by rfl) : FS X W (.Assign [tg] e pos) (mAsg ma g) := by
  refine ps_imp (ps_asg he hg hs hw h1) fun E σ H ⟨Z, ι, ρ, μ, R, o⟩ => tM_stm R o fun v μ' Z' ι' H' x x1 R1 r1 o1 => asg_rule R1 r1 o1
/-- a, b = x, y -/
def mPar2 (i j : Nat) (ms : MA) : MS := fun ρ μ => (ms ρ μ).stm ρ fun vs μ1 => match vs with
  | [v, w] => .nx ((ρ.set i (some v)).set j (some w)) μ1
  | _ => .bad
theorem fs_par {i j : Nat} {x y : Str} {px py pt : Pos} {kt k2 pt2} (hc : X.calm = true) (hN : X.N.Nodup) (hi : X.N[i]? = some x) (hj : X.N[j]? = some y) (hij : i ≠ j)
    (hx : X.env.scope.names.lookup x = some .local) (hy : X.env.scope.names.lookup y = some .local) (ha : FA X W [a, b] ms)
    (hw : swappedStores [.Tuple [.Name x px, .Name y py] kt pt] (.Tuple [a, b] k2 pt2) X.env = pure (some [x, y]))
    (hs : swapsWithSole [.Tuple [.Name x px, .Name y py] kt pt] (.Tuple [a, b] k2 pt2) pos.line X.env = pure false := by rfl) : FS X W (.Assign [.Tuple [.Name x px, .Name y py] kt pt] (.Tuple [a, b] k2 pt2) pos) (mPar2 i j ms) := by
  refine ps_imp (ps_par (i := i) (j := j) hc hN hi hj hij hx hy ha hw hs) fun E σ H ⟨Z, ι, ρ, μ, R, o⟩ => tMA_stm R o fun v μ' Z' ι' H' x x1 R1 r1 o1 => ?_
  cases r1 with
  | nil => exact o1.elim
  | cons r1 rr => cases rr with
    | nil => exact o1.elim
    | cons r2 rr => cases rr with
      | cons _ _ => exact o1.elim
      | nil => exact ⟨_, _, rfl, o1 Z' ι' H' _ (Ext.refl R1.sta.sub) ⟨R1.sta, (R1.rs.set r1 i).set r2 j⟩⟩
def mPar3 (i j l : Nat) (ms : MA) : MS := fun ρ μ => (ms ρ μ).stm ρ fun vs μ1 => match vs with
  | [v, w, z] => .nx (((ρ.set i (some v)).set j (some w)).set l (some z)) μ1
  | _ => .bad
/-- x op= e -/
def mAug (i : Nat) (g : D → D → Option D) (ma : ME) : MS := fun ρ μ => match ρ[i]? with
  | some (some x) => (ma ρ μ).stm ρ fun y μ1 => (op2 g x y μ1).stm ρ fun z μ2 => .nx (ρ.set i (some z)) μ2
  | _ => .bad
/-- items, and the store's list that they are of -/
abbrev MI := En → List MO → Res (List D × Option Nat)
open Classical in
noncomputable def chk (q : List D × Option Nat) (μ : List MO) : Bool := match q.2 with
  | none => true
  | some n => decide (μ[n]? = some (.lst q.1))
/-- .. stands while the store bears it -/
def Its (K : PySem.W.Frag) (R : It → Hp → Prop) : List D × Option Nat → List Addr → List Addr → Hp → Prop := fun q Z ι H =>
  ∀ J G Y, Walk J q.1.length G Y → (∀ Z2 ι2 μ2 H2, Ext Z ι H Z2 ι2 H2 → Sta K Z2 ι2 μ2 H2 → chk q μ2 = true → G H2) →
    (∀ Z2 ι2 μ2 H2 i d x H3, Ext Z ι H Z2 ι2 H2 → Sta K Z2 ι2 μ2 H2 → chk q μ2 = true → q.1[i]? = some d → Y i H2 x H3 → Same H2 H3 ∧ DR K (mask H3 Z2) d x) → R J H
def tMI (K : PySem.W.Frag) (W : WX) (m : MI) : TI := fun σ H R => ∃ Z ι ρ μ, Rel K Z ι ρ μ σ H ∧ Out K W σ Z ι H (m ρ μ) (Its K R)
abbrev FI (X : Cx) (W : WX) (tg e : Expr) (m : MI) : Prop := PI X tg e (tMI X.K W m)
theorem pi_imp {tg e : Expr} {t t' : TI} (h : PI X tg e t) (i : ∀ σ H R, t' σ H R → t σ H R) : PI X tg e t' := ⟨fun pins s σ H R I w => h.run pins s σ H R I (i σ H R w)⟩
noncomputable def forD (q : List D × Option Nat) (g : MG) (b : MS) : List D → En → List MO → SR
  | [], ρ, μ => if chk q μ = true then .nx ρ μ else .bad
  | x :: xs, ρ, μ => if chk q μ = true then (match g (.d x) ρ with
    | none => .bad
    | some ρ1 => match b ρ1 μ with
      | .nx ρ2 μ2 => forD q g b xs ρ2 μ2
      | .ct ρ2 μ2 => forD q g b xs ρ2 μ2
      | .bk ρ2 μ2 => .nx ρ2 μ2
      | r => r) else .bad
noncomputable def mFor (mi : MI) (g : MG) (b : MS) : MS := fun ρ μ => (mi ρ μ).stm ρ fun q μ1 => forD q g b q.1 ρ μ1
theorem forD_chk {K : PySem.W.Frag} {Z ι : List Addr} {H : Hp} {E : Ends} {q : List D × Option Nat} {g : MG} {b : MS} {xs : List D} {ρ : En} {μ : List MO} (o : OutS K W Z ι H (forD q g b xs ρ μ) E) : chk q μ = true := by
  cases xs <;> (unfold forD at o; split at o; assumption; exact o.elim)
theorem fs_for {iter tg : Expr} {body : List Stmt} {mi : MI} {g : MG} (hp : PassesOwn (model X.prog X.w) X.A X.env X.xe) (hc : X.calm = true) (hi : FI X W tg iter mi) (hg : FG X tg g) (hb : FSs X W body m)
    (hs : ∀ x, foldedSetIterable iter X.env x = pure x := by intro _; rfl) : FS X W (.For tg iter body [] pos) (mFor mi g m) := by
  refine ps_imp (ps_for hp hc hi hg hb hs) fun E σ H ⟨Z, ι, ρ, μ, R, o⟩ => ⟨Z, ι, ρ, μ, R, ?_⟩
  unfold mFor at o
  cases eq : mi ρ μ with
  | exc C fs μ' => rw [eq] at o; exact Out.exc_of R o
  | bad => rw [eq] at o; exact o
  | ok q μ' =>
    rw [eq] at o
    intro Z1 ι1 H1 x1 s1 J G Y w hG hY
    have R1 := R.ext x1 s1
    have o1 : OutS X.K W Z1 ι1 H1 (forD q g m q.1 ρ μ') E := OutS.base o x1
    refine for_it w (fun i σ H2 => ∃ Z2 ι2 ρ2 μ2, Ext Z1 ι1 H1 Z2 ι2 H2 ∧ Rel X.K Z2 ι2 ρ2 μ2 σ H2 ∧ OutS X.K W Z2 ι2 H2 (forD q g m (q.1.drop i) ρ2 μ2) E) ⟨Z1, ι1, ρ, μ', Ext.refl s1.sub, R1, o1⟩ ?_ ?_ ?_
    · rintro i σ2 H2 hi ⟨Z2, ι2, ρ2, μ2, x2, R2, o2⟩
      exact hG Z2 ι2 μ2 H2 x2 R2.sta (forD_chk o2)
    · rintro i x σ2 H2 H3 hi ⟨Z2, ι2, ρ2, μ2, x2, R2, o2⟩ hy
      have hx : q.1[i]? = some q.1[i] := by simp [hi]
      obtain ⟨sm, dr⟩ := hY Z2 ι2 μ2 H2 i _ x H3 x2 R2.sta (forD_chk o2) hx hy
      rw [List.drop_eq_getElem_cons hi] at o2
      have hck := forD_chk o2
      unfold forD at o2
      rw [if_pos hck] at o2
      obtain ⟨s3, x3⟩ := R2.sta.grow sm
      have R3 := R2.ext x3 s3
      split at o2
      · exact o2.elim
      · rename_i ρ3 hg3
        refine ⟨Z2, ι2, ρ2, μ2, _, ρ3, R3, .d dr, hg3, fun σ4 R4 => ⟨Z2, ι2, ρ3, μ2, R4, ?_⟩⟩
        have o3 := OutS.base o2 x3
        cases eb : m ρ3 μ2 with
        | nx ρ5 μ5 => rw [eb] at o3; exact fun Z5 ι5 H5 σ5 x5 R5 => ⟨Z5, ι5, ρ5, μ5, (x2.trans x3).trans x5, R5, OutS.base o3 x5⟩
        | ct ρ5 μ5 => rw [eb] at o3; exact fun Z5 ι5 H5 σ5 x5 R5 => ⟨Z5, ι5, ρ5, μ5, (x2.trans x3).trans x5, R5, OutS.base o3 x5⟩
        | bk ρ5 μ5 => rw [eb] at o3; exact o3
        | rt ρ5 μ5 => rw [eb] at o3; exact o3
        | exc C fs ρ5 μ5 => rw [eb] at o3; exact o3
        | bad => rw [eb] at o3; exact o3
    · rintro σ2 H2 ⟨Z2, ι2, ρ2, μ2, x2, R2, o2⟩
      rw [List.drop_length] at o2
      have hck := forD_chk o2
      unfold forD at o2
      rw [if_pos hck] at o2
      exact o2.next R2
end
end TT
namespace TT
open PySem L2
variable [TB]
/-- a place that bears no table and no code object is written -/
theorem tabs_upd {T : List (Addr × Str)} {H : Hp} (t : LamX.Tabs T H) {a : Addr} {u o : HO} (e : H a = some u) (n1 : ∀ ps, u ≠ .tbl ps) (n2 : ∀ c q, u ≠ LamX.CodeO c q) : LamX.Tabs T (upd H a o) := fun p hp => by
  obtain ⟨ps, h1, h2, h3⟩ := t p hp
  have ne : p.1 ≠ a := fun z => by rw [z, e] at h1; cases h1; exact n1 _ rfl
  refine ⟨ps, (upd_ne ne).trans h1, h2, fun pos cv hc => ?_⟩
  obtain ⟨c, e1, e2⟩ := h3 pos cv hc
  refine ⟨c, e1, (upd_ne fun z => ?_).trans e2⟩
  rw [z, e] at e2
  exact n2 _ _ (Option.some.inj e2)
abbrev ML := En → List MO → Res (List D)
def tFr (K : PySem.W.Frag) (W : WX) (m : ML) : TE := fun σ H Q => ∃ Z ι ρ μ, Rel K Z ι ρ μ σ H ∧ Out K W σ Z ι H (m ρ μ) (fun xs Z' ι' H' => ∀ a vs, H a = none → a ∈ Z' → a ∉ ι' → H' a = some (.lst vs) → DRs K (mask H' Z') xs vs → Q (.ref a) H')
abbrev FL (X : Cx) (W : WX) (e : Expr) (m : ML) : Prop := PE X e (tFr X.K W m)
def mFz (m : ML) : ME := fun ρ μ => (m ρ μ).bind fun xs μ1 => .ok (.d (.lst xs)) μ1
def mOwn (m : ML) : ME := fun ρ μ => (m ρ μ).bind fun xs μ1 => .ok (.ref μ1.length) (μ1 ++ [.lst xs])
theorem mask_less {H : Hp} {Z Z' : List Addr} (h : ∀ a ∈ Z', a ∈ Z) : Same (mask H Z) (mask H Z') := fun a o e => by
  have t := mask_nt e
  obtain ⟨n, e⟩ := of_mask e
  exact mask_in (fun q => n (h a q)) e t
section
variable {K : PySem.W.Frag} {W : WX} {σ : St} {Z ι Z' ι' : List Addr} {ρ : En} {μ μ' : List MO} {H H' : Hp}
/-- a place leaves those that may change -/
theorem Sta.freeze (s : Sta K Z ι μ H) {a : Addr} (n : a ∉ ι) : Sta K (Z.filter (· ≠ a)) ι μ H := by
  have m : ∀ b ∈ Z.filter (· ≠ a), b ∈ Z := fun b h => (List.mem_filter.mp h).1
  refine ⟨fun b h => List.mem_filter.mpr ⟨s.sub b h, decide_eq_true fun q => n (by rw [← q]; exact h)⟩, s.nd, s.len, fun b h => s.trk b (m b h), s.tab, fun k b o h1 h2 => ?_⟩
  obtain ⟨ho, h3, h4⟩ := s.obj k b o h1 h2
  exact ⟨ho, h3, h4.mono (mask_less m) (fun _ _ h => h)⟩
theorem Ext.freeze (x : Ext Z ι H Z' ι' H') (t : ∀ a ∈ Z, ∃ o, H a = some o) {a : Addr} (h : H a = none) : Ext Z ι H (Z'.filter (· ≠ a)) ι' H' := by
  refine ⟨x.sub, fun b hb => List.mem_filter.mpr ⟨x.z b hb, decide_eq_true fun q => ?_⟩, x.i, x.keep, x.tb, fun b hb => x.new b (List.mem_filter.mp hb).1, x.newi⟩
  obtain ⟨o, e⟩ := t b hb
  rw [q, h] at e; cases e
/-- a place comes to the store -/
theorem Sta.own (s : Sta K Z ι μ H) {a : Addr} {o : MO} {ho : HO} (hz : a ∈ Z) (n : a ∉ ι) (e : H a = some ho) (r : RO K (mask H Z) ι o ho) : Sta K Z (ι ++ [a]) (μ ++ [o]) H := by
  have p : Pre ι (ι ++ [a]) := fun n b h => by
    have := (List.getElem?_eq_some_iff.mp h).1
    rw [List.getElem?_append_left this]; exact h
  refine ⟨fun b h => ?_, ?_, by simp [s.len], s.trk, s.tab, fun k b o' h1 h2 => ?_⟩
  · rcases List.mem_append.mp h with h | h
    · exact s.sub b h
    · rw [List.mem_singleton.mp h]; exact hz
  · rw [List.nodup_append]
    refine ⟨s.nd, by simp, fun b hb c hc => ?_⟩
    rw [List.mem_singleton.mp hc]
    intro q
    exact n (by rw [← q]; exact hb)
  · by_cases hk : k < ι.length
    · rw [List.getElem?_append_left hk] at h1
      rw [List.getElem?_append_left (by rw [← s.len]; exact hk)] at h2
      obtain ⟨ho, h3, h4⟩ := s.obj k b o' h1 h2
      exact ⟨ho, h3, h4.mono (Same.refl _) p⟩
    · have hk2 : k = ι.length := by
        have := (List.getElem?_eq_some_iff.mp h1).1
        rw [List.length_append] at this
        have : k < ι.length + 1 := this
        omega
      subst hk2
      rw [List.getElem?_concat_length] at h1
      rw [s.len, List.getElem?_concat_length] at h2
      cases h1
      cases h2
      exact ⟨ho, e, r.mono (Same.refl _) p⟩
theorem Ext.own (x : Ext Z ι H Z' ι' H') {a : Addr} (h : H a = none) : Ext Z ι H Z' (ι' ++ [a]) H' := by
  refine ⟨x.sub, x.z, fun n b hb => ?_, x.keep, x.tb, x.new, fun b hb => ?_⟩
  · have := x.i n b hb
    rw [List.getElem?_append_left (List.getElem?_eq_some_iff.mp this).1]; exact this
  · rcases List.mem_append.mp hb with q | q
    · exact x.newi b q
    · rw [List.mem_singleton.mp q]; exact .inr h
theorem tFr_bind {m : ML} {β : Type} {k : List D → List MO → Res β} {P : β → List Addr → List Addr → Hp → Prop} {Q : VK} (R : Rel K Z ι ρ μ σ H) (o : Out K W σ Z ι H ((m ρ μ).bind k) P)
    (h : ∀ xs μ' Z' ι' H' a vs, Ext Z ι H Z' ι' H' → Sta K Z' ι' μ' H' → H a = none → a ∈ Z' → a ∉ ι' → H' a = some (.lst vs) → DRs K (mask H' Z') xs vs → Out K W σ Z ι H (k xs μ') P → Q (.ref a) H') : tFr K W m σ H Q := by
  refine ⟨Z, ι, ρ, μ, R, ?_⟩
  cases e : m ρ μ with
  | ok xs μ' =>
    rw [e] at o
    exact fun Z2 ι2 H2 x2 s2 a vs h1 h2 h3 h4 h5 => h xs μ' Z2 ι2 H2 a vs x2 s2 h1 h2 h3 h4 h5 o
  | exc C fs μ' => rw [e] at o; exact o
  | bad => rw [e] at o; exact o
end
section
variable {X : Cx} {W : WX} {a b c e : Expr} {es : List Expr} {pos : Pos} {ma mb mc : ME} {ms : MA} {ml : ML}
theorem fe_fz (h : FL X W e ml) : FE X W e (mFz ml) := by
  refine pe_imp h fun σ H Q ⟨Z, ι, ρ, μ, R, o⟩ => tFr_bind R o fun xs μ' Z' ι' H' a vs x s h1 h2 h3 h4 h5 o1 => ?_
  refine o1 _ ι' H' (x.freeze R.sta.trk h1) (s.freeze h3) _ (.d (.lst (mask_in (fun q => ?_) h4) (h5.mono (mask_less fun b hb => (List.mem_filter.mp hb).1) _ _)))
  exact of_decide_eq_true (List.mem_filter.mp q).2 rfl
theorem fe_own (h : FL X W e ml) : FE X W e (mOwn ml) := by
  refine pe_imp h fun σ H Q ⟨Z, ι, ρ, μ, R, o⟩ => tFr_bind R o fun xs μ' Z' ι' H' a vs x s h1 h2 h3 h4 h5 o1 => ?_
  refine o1 Z' (ι' ++ [a]) H' (x.own h1) (s.own h2 h3 h4 (.lst h5)) _ (.ref ?_)
  rw [← s.len, List.getElem?_concat_length]
/-- a heap in which a new list stands -/
theorem fr_new {K : PySem.W.Frag} {σ : St} {Z ι Z' ι' : List Addr} {μ' : List MO} {H H' : Hp} {xs : List D} {vs : List V} {Q : VK} (x : Ext Z ι H Z' ι' H') (s : Sta K Z' ι' μ' H') (d : DRs K (mask H' Z') xs vs)
    (o : Out K W σ Z ι H (.ok xs μ') (fun xs Z' ι' H' => ∀ a vs, H a = none → a ∈ Z' → a ∉ ι' → H' a = some (.lst vs) → DRs K (mask H' Z') xs vs → Q (.ref a) H')) {p : Addr} (hp : H' p = none) : Q (.ref p) (upd H' p (.lst vs)) := by
  have sm : Same H' (upd H' p (.lst vs)) := fun b o e => (upd_ne (ne_of_none e hp)).trans e
  obtain ⟨s2, x2⟩ := s.grow sm
  have np : p ∉ Z' := fun q => by obtain ⟨o, e⟩ := s.trk p q; rw [hp] at e; cases e
  have hH : H p = none := by
    cases q : H p with
    | none => rfl
    | some o1 =>
      by_cases h2 : p ∈ ι
      · exact (np (x.z p (x.sub p h2))).elim
      · exact q.symm.trans (x.free h2 hp)
  have ms : Same (mask H' Z') (mask (upd H' p (.lst vs)) (p :: Z')) := fun b o e => by
    have t := mask_nt e
    obtain ⟨n, e⟩ := of_mask e
    refine mask_in (fun q => ?_) (sm b o e) t
    rcases List.mem_cons.mp q with z | z
    · rw [z, hp] at e; cases e
    · exact n z
  refine o (p :: Z') ι' _ ⟨x.sub, fun b hb => List.mem_cons_of_mem _ (x.z b hb), x.i, fun b o n t e => sm b o (x.keep b o n t e), fun b ps e => (let ⟨qs, z⟩ := x.tb b ps e; ⟨qs, sm b _ z⟩), fun b hb => ?_, x.newi⟩ ⟨fun b hb => List.mem_cons_of_mem _ (s.sub b hb), s.nd, s.len, fun b hb => ?_, s.tab.ext sm, fun k b o h1 h2 => ?_⟩ p vs hH List.mem_cons_self
    (fun q => np (s.sub p q)) upd_same (d.mono ms _ _)
  · rcases List.mem_cons.mp hb with z | z
    · rw [z]; exact .inr hH
    · exact x.new b z
  · rcases List.mem_cons.mp hb with z | z
    · rw [z]; exact ⟨_, upd_same⟩
    · obtain ⟨o, e⟩ := s.trk b z; exact ⟨o, sm b o e⟩
  · obtain ⟨ho, h3, h4⟩ := s.obj k b o h1 h2
    exact ⟨ho, sm b ho h3, h4.mono ms (fun _ _ h => h)⟩
/-- [a, b] -/
def mLst (ms : MA) : ML := fun ρ μ => (ms ρ μ).bind fun as μ1 => match datas as with
  | some xs => if xs.length ≤ sizeLine then .ok xs μ1 else .bad
  | none => .bad
theorem fl_lst (h : FA X W es ms) : FL X W (.List es pos) (mLst ms) := by
  refine pe_imp (pe_lst h) fun σ H Q ⟨Z, ι, ρ, μ, R, o⟩ => ?_
  refine ⟨Z, ι, ρ, μ, R, ?_⟩
  unfold mLst at o
  cases q : ms ρ μ with
  | exc C fs μ' => rw [q] at o; exact o
  | bad => rw [q] at o; exact o
  | ok as μ' =>
    rw [q] at o
    intro Z1 ι1 H1 x1 s1 vs rv
    simp only [Res.bind_ok] at o
    split at o
    · rename_i xs hx
      have hd := datas_ok rv hx
      split at o
      · rename_i hl
        exact ⟨by rw [← hd.len]; exact hl, fun p hp => fr_new x1 s1 hd o hp⟩
      · exact o.elim
    · exact o.elim
/-- an operation that gives a new list -/
def op2L (g : D → D → Option (List D)) (a b : MV) (μ : List MO) : Res (List D) :=
  match view μ a with
  | some x => match view μ b with
    | some y => match g x y with
      | some z => .ok z μ
      | none => .bad
    | none => .bad
  | none => .bad
def opNL (g : List D → Option (List D)) (as : List MV) (μ : List MO) : Res (List D) :=
  match views μ as with
  | some xs => match g xs with
    | some z => .ok z μ
    | none => .bad
  | none => .bad
def mBinL (g : D → D → Option (List D)) (ma mb : ME) : ML := fun ρ μ => (ma ρ μ).bind fun a μ1 => (mb ρ μ1).bind fun b μ2 => op2L g a b μ2
def mNL (g : List D → Option (List D)) (ms : MA) : ML := fun ρ μ => (ms ρ μ).bind (opNL g)
def OpL (K : PySem.W.Frag) (r : R2) (g : D → D → Option (List D)) : Prop :=
  ∀ (Z : List Addr) (H : Hp) (a b : D) (c : List D) (x y : V) (Q : VK), Trk Z H → DV K Z H a x → DV K Z H b y → g a b = some c → (∀ p vs, H p = none → DRs K (mask H Z) c vs → Q (.ref p) (upd H p (.lst vs))) → r x y H Q
def CallL (K : PySem.W.Frag) (r : List V → Hp → VK → Prop) (g : List D → Option (List D)) : Prop :=
  ∀ (Z : List Addr) (H : Hp) (as : List D) (c : List D) (xs : List V) (Q : VK), Trk Z H → DVs K Z H as xs → g as = some c → (∀ p vs, H p = none → DRs K (mask H Z) c vs → Q (.ref p) (upd H p (.lst vs))) → r xs H Q
theorem fl_callTy {x : Str} {p : Pos} {T : String} {r : List V → Hp → VK → Prop} {g : List D → Option (List D)} (hc : CallR X (.type T) r) (hg : CallL X.K r g) (hgl : Gl X x) (hm : X.mg x = none) (hv : bootBuiltins x = some (.type T)) (ha : FA X W (e :: es) ms)
    (hn : x ≠ "__name__" := by decide) (hdb : (x == ("__debug__" : Str)) = false := by decide) (he : starEach (e :: es) X.env = (false, eval e X.env) :: starEach es X.env := by rfl) (hpl : (backTo pos (starEach es X.env)).any (·.1) = false := by rfl) :
    FL X W (.Call (.Name x p) (e :: es) [] pos) (mNL g ms) := by
  refine pe_imp (pe_callTy hc hgl hm hv ha hn hdb he hpl) fun σ H Q ⟨Z, ι, ρ, μ, R, o⟩ => ⟨Z, ι, ρ, μ, R, ?_⟩
  unfold mNL at o
  cases q : ms ρ μ with
  | exc C fs μ' => rw [q] at o; exact o
  | bad => rw [q] at o; exact o
  | ok as μ' =>
    rw [q] at o
    intro Z1 ι1 H1 x1 s1 vs rv
    simp only [Res.bind_ok, opNL] at o
    split at o
    · rename_i xs hx
      split at o
      · rename_i z hz
        exact hg Z1 H1 xs z vs Q s1.trk (views_ok s1 rv hx) hz fun p vs hp d => fr_new x1 s1 d o hp
      · exact o.elim
    · exact o.elim
end
def Res.calm {α : Type} : Res α → Res α
  | .exc _ _ _ => .bad
  | r => r
@[simp] theorem Res.calm_ok {α : Type} (a : α) (μ : List MO) : (Res.ok a μ).calm = .ok a μ := rfl
@[simp] theorem Res.calm_bad {α : Type} : (Res.bad : Res α).calm = .bad := rfl
abbrev W0 : WX := fun _ _ _ _ => False
def wipeM (ρ : En) : List Nat → En
  | [] => ρ
  | v :: vs => (wipeM ρ vs).set v none
theorem RS.setN {K : PySem.W.Frag} {F : Hp} {ι : List Addr} : ∀ {ρ : En} {σ : St}, RS K F ι ρ σ → ∀ (i : Nat) (v : Option V), RS K F ι (ρ.set i none) (σ.set i v)
  | _, _, .nil, _, _ => .nil
  | _, _, .cons _ t, 0, _ => .cons .none t
  | _, _, .cons q t, i + 1, v => .cons q (RS.setN t i v)
theorem RS.wipe {K : PySem.W.Frag} {F : Hp} {ι : List Addr} {ρ : En} {σ : St} (h : RS K F ι ρ σ) : ∀ vs : List Nat, RS K F ι (wipeM ρ vs) (L2.wipe σ vs)
  | [] => h
  | v :: vs => (RS.wipe h vs).setN v none
noncomputable def lcD (q : List D × Option Nat) (g : MG) (c : MT) (el : ME) (ρ : En) : List D → List D → List MO → Res (List D)
  | [], acc, μ => if chk q μ = true then .ok acc μ else .bad
  | x :: xs, acc, μ => if chk q μ = true then (match g (.d x) ρ with
    | none => .bad
    | some ρ1 => (c ρ1 μ).calm.bind fun k μ1 => if k = true then (el ρ1 μ1).calm.bind fun v μ2 => (match v with
        | .d y => lcD q g c el ρ xs (acc ++ [y]) μ2
        | .ref _ => .bad) else lcD q g c el ρ xs acc μ1) else .bad
noncomputable def mLC (mi : MI) (g : MG) (c : MT) (el : ME) (vs : List Nat) : ML := fun ρ μ => (mi ρ μ).bind fun q μ1 => if q.1.length ≤ sizeLine then lcD q g c el (wipeM ρ vs) q.1 [] μ1 else .bad
/-- a target that stores names at vs alone -/
def GOk (K : PySem.W.Frag) (g : TG) (gm : MG) (vs : List Nat) : Prop := ∀ Z ι ρ μ σ H x v ρ' (Q : St → Hp → Prop), Rel K Z ι ρ μ σ H → RM K (mask H Z) ι x v → gm x ρ = some ρ' → (∀ σ', Rel K Z ι ρ' μ σ' H → wipe σ' vs = wipe σ vs → Q σ' H) → g v σ H Q
theorem set_wipe {v : Option V} : ∀ {vs : List Nat} {σ : St} {i : Nat}, i ∈ vs → wipe (σ.set i v) vs = wipe σ vs
  | [], _, _, h => by cases h
  | w :: vs, σ, i, h => by
    unfold wipe
    by_cases e : i ∈ vs
    · rw [set_wipe e]
    · have hw : i = w := by
        rcases List.mem_cons.mp h with q | q
        · exact q
        · exact (e q).elim
      subst hw
      have : ∀ (us : List Nat) (τ : St), i ∉ us → wipe (τ.set i v) us = (wipe τ us).set i v := by
        intro us
        induction us with
        | nil => intro τ _; rfl
        | cons u us ih =>
          intro τ hn
          unfold wipe
          rw [ih τ (fun q => hn (List.mem_cons_of_mem _ q)), List.set_comm _ _ (fun q => hn (by rw [q]; exact List.mem_cons_self))]
      rw [this vs σ e, List.set_set]
section
variable {K : PySem.W.Frag} {vs : List Nat}
theorem cg_name {i : Nat} (h : i ∈ vs) : GOk K (gName i) (gN i) vs := fun Z ι ρ μ σ H x v ρ' Q R r e q => by
  cases e
  exact q _ ⟨R.sta, R.rs.set r i⟩ (set_wipe h)
end
section
variable {X : Cx} {W : WX}
def mYes : MT := fun _ μ => .ok true μ
abbrev FTs (X : Cx) (W : WX) (ifs : List Expr) (m : MT) : Prop := PTs X ifs (tMT X.K W m)
theorem fts_nil : FTs X W [] mYes := ⟨fun pins s σ H Q I ⟨Z, ι, ρ, μ, R, o⟩ => pts_nil.run pins s σ H Q I (o Z ι H (Ext.refl R.sta.sub) R.sta)⟩
theorem lcD_chk {K : PySem.W.Frag} {σ : St} {Z ι : List Addr} {H : Hp} {P : List D → List Addr → List Addr → Hp → Prop} {q : List D × Option Nat} {g : MG} {c : MT} {el : ME} {ρ : En} {xs acc : List D} {μ : List MO} (o : Out K W σ Z ι H (lcD q g c el ρ xs acc μ) P) : chk q μ = true := by
  cases xs <;> (unfold lcD at o; split at o; assumption; exact o.elim)
/-- a place within Z that is no object of the store is written -/
theorem Sta.side {K : PySem.W.Frag} {Z ι : List Addr} {μ : List MO} {H : Hp} (s : Sta K Z ι μ H) {a : Addr} {o : HO} {as : List V} (he : H a = some (.lst as)) (hz : a ∈ Z) (n : a ∉ ι) : Sta K Z ι μ (upd H a o) := by
  have ms : Same (mask H Z) (mask (upd H a o) Z) := fun b u e => by
    obtain ⟨n1, e1⟩ := of_mask e
    exact mask_in n1 ((upd_ne fun q => n1 (by rw [q]; exact hz)).trans e1) (mask_nt e)
  refine ⟨s.sub, s.nd, s.len, fun b hb => ?_, tabs_upd s.tab he (fun ps z => by cases z) (fun c q z => by cases z), fun k b o' h1 h2 => ?_⟩
  · by_cases q : b = a
    · rw [q]; exact ⟨o, upd_same⟩
    · obtain ⟨u, e⟩ := s.trk b hb; exact ⟨u, (upd_ne q).trans e⟩
  · obtain ⟨ho, h3, h4⟩ := s.obj k b o' h1 h2
    refine ⟨ho, (upd_ne fun q => n ?_).trans h3, h4.mono ms (fun _ _ h => h)⟩
    rw [← q]
    exact List.mem_of_getElem? h1
theorem lc_read {K : PySem.W.Frag} {mi : MI} {g : TG} {gm : MG} {c : MT} {el : ME} {vs0 : List Nat} (hgo : GOk K g gm vs0) {σ : St} {H : Hp} {Q : VK} (h : tFr K W (mLC mi gm c el vs0) σ H Q) : tLc (tMI K W mi) g (tMT K W0 c) (tM K W0 el) vs0 σ H Q := by
  obtain ⟨Z, ι, ρ, μ, R, o⟩ := h
  refine ⟨Z, ι, ρ, μ, R, ?_⟩
  unfold mLC at o
  cases eq : mi ρ μ with
  | exc C fs μ' => rw [eq] at o; exact o
  | bad => rw [eq] at o; exact o
  | ok q μ1 =>
    rw [eq] at o
    simp only [Res.bind_ok] at o
    split at o
    · rename_i hsz
      intro Z1 ι1 H1 x1 s1 J G Y w hG hY L hL
      have R1 := R.ext x1 s1
      have nL : L ∉ Z1 := fun z => by obtain ⟨u, e⟩ := s1.trk L z; rw [hL] at e; cases e
      have nH : H L = none := by
        cases qq : H L with
        | none => rfl
        | some u =>
          by_cases h2 : L ∈ ι
          · exact (nL (x1.z L (x1.sub L h2))).elim
          · exact qq.symm.trans (x1.free h2 hL)
      generalize vs0 = vs at o hgo ⊢
      refine lc_it w (fun i H2 => ∃ Z2 ι2 μ2 acc as, Ext Z1 ι1 H1 Z2 ι2 H2 ∧ Sta K Z2 ι2 μ2 H2 ∧ L ∈ Z2 ∧ L ∉ ι2 ∧ H2 L = some (.lst as) ∧ DRs K (mask H2 Z2) acc as ∧ acc.length ≤ i ∧
          Out K W σ Z ι H (lcD q gm c el (wipeM ρ vs) (q.1.drop i) acc μ2) (fun xs Z' ι' H' => ∀ a vs, H a = none → a ∈ Z' → a ∉ ι' → H' a = some (.lst vs) → DRs K (mask H' Z') xs vs → Q (.ref a) H')) ?_ ?_ ?_ ?_
      · have sm : Same H1 (upd H1 L (.lst [])) := fun b o e => (upd_ne (ne_of_none e hL)).trans e
        have ms : Same (mask H1 Z1) (mask (upd H1 L (.lst [])) (L :: Z1)) := fun b o e => by
          have t := mask_nt e
          obtain ⟨n, e⟩ := of_mask e
          refine mask_in (fun q => ?_) (sm b o e) t
          rcases List.mem_cons.mp q with z | z
          · rw [z, hL] at e; cases e
          · exact n z
        refine ⟨L :: Z1, ι1, μ1, [], [], ⟨s1.sub, fun b hb => List.mem_cons_of_mem _ hb, fun _ _ h => h, fun b o _ _ e => sm b o e, fun b ps e => ⟨ps, sm b _ e⟩, fun b hb => ?_, fun b hb => .inl hb⟩, ⟨fun b hb => List.mem_cons_of_mem _ (s1.sub b hb), s1.nd, s1.len, fun b hb => ?_, s1.tab.ext sm, fun k b o' h1 h2 => ?_⟩,
          List.mem_cons_self, fun z => nL (s1.sub L z), upd_same, .nil, Nat.le_refl _, o⟩
        · rcases List.mem_cons.mp hb with z | z
          · rw [z]; exact .inr hL
          · exact .inl z
        · rcases List.mem_cons.mp hb with z | z
          · rw [z]; exact ⟨_, upd_same⟩
          · obtain ⟨u, e⟩ := s1.trk b z; exact ⟨u, sm b u e⟩
        · obtain ⟨ho, h3, h4⟩ := s1.obj k b o' h1 h2
          exact ⟨ho, sm b ho h3, h4.mono ms (fun _ _ h => h)⟩
      · rintro i H2 hi ⟨Z2, ι2, μ2, acc, as, x2, s2, l1, l2, l3, l4, l5, o2⟩
        exact hG Z2 ι2 μ2 H2 x2 s2 (lcD_chk o2)
      · rintro i x H2 H3 hi ⟨Z2, ι2, μ2, acc, as, x2, s2, l1, l2, l3, l4, l5, o2⟩ hy
        have hx : q.1[i]? = some q.1[i] := by simp [hi]
        obtain ⟨sm, dr⟩ := hY Z2 ι2 μ2 H2 i _ x H3 x2 s2 (lcD_chk o2) hx hy
        rw [List.drop_eq_getElem_cons hi] at o2
        have hck := lcD_chk o2
        unfold lcD at o2
        rw [if_pos hck] at o2
        obtain ⟨s3, x3⟩ := s2.grow sm
        split at o2
        · exact o2.elim
        · rename_i ρ1 hg1
          have R3 : Rel K Z2 ι2 (wipeM ρ vs) μ2 (wipe σ vs) H3 := ⟨s3, ((R1.rs.mono x2.same x2.i).mono x3.same x3.i).wipe vs⟩
          refine hgo Z2 ι2 _ μ2 _ H3 _ x ρ1 _ R3 (.d dr) hg1 fun σ4 R4 w4 => ⟨?_, Z2, ι2, ρ1, μ2, R4, ?_⟩
          · rw [w4]
            -- wiping twice
            have ww : ∀ (us : List Nat) (τ : St), wipe (wipe τ us) us = wipe τ us := by
              intro us τ
              have key : ∀ (ws : List Nat) (τ : St) (i : Nat), i ∈ ws → (wipe τ ws).set i none = wipe τ ws := by
                intro ws
                induction ws with
                | nil => intro τ i h; cases h
                | cons u us ih =>
                  intro τ i h
                  unfold wipe
                  by_cases e : i = u
                  · subst e; rw [List.set_set]
                  · have h2 : i ∈ us := by
                      rcases List.mem_cons.mp h with z | z
                      · exact (e z).elim
                      · exact z
                    rw [List.set_comm _ _ (fun z => e z.symm), ih τ i h2]
              have key2 : ∀ (ws us : List Nat) (τ : St), (∀ i ∈ ws, i ∈ us) → wipe (wipe τ us) ws = wipe τ us := by
                intro ws
                induction ws with
                | nil => intro us τ _; rfl
                | cons u ws ih =>
                  intro us τ h
                  show (wipe (wipe τ us) ws).set u none = wipe τ us
                  rw [ih us τ fun i hi => h i (List.mem_cons_of_mem _ hi), key us τ u (h u List.mem_cons_self)]
              exact key2 us us τ fun _ h => h
            exact ww vs σ
          · cases ec : c ρ1 μ2 with
            | exc C fs μ' => rw [ec] at o2; exact o2.elim
            | bad => rw [ec] at o2; exact o2
            | ok k μ3 =>
              rw [ec] at o2
              simp only [Res.calm_ok, Res.bind_ok] at o2
              intro Z4 ι4 H4 x4 s4
              have xa : Ext Z1 ι1 H1 Z4 ι4 H4 := (x2.trans x3).trans x4
              have l4' : DRs K (mask H4 Z4) acc as := (l4.mono x3.same _ _).mono x4.same _ _
              have l3' : H4 L = some (.lst as) := x4.keep L _ l2 True.intro (sm L _ l3)
              have l2' : L ∉ ι4 := fun z => by
                rcases x4.newi L z with z | z
                · exact l2 z
                · rw [sm L _ l3] at z; cases z
              cases k with
              | false => exact ⟨Z4, ι4, μ3, acc, as, xa, s4, x4.z L l1, l2', l3', l4', by omega, o2⟩
              | true =>
                refine ⟨Z4, ι4, ρ1, μ3, R4.ext x4 s4, ?_⟩
                simp only [if_true] at o2
                cases ee : el ρ1 μ3 with
                | exc C fs μ' => rw [ee] at o2; exact o2.elim
                | bad => rw [ee] at o2; exact o2
                | ok v μ5 =>
                  rw [ee] at o2
                  simp only [Res.calm_ok, Res.bind_ok] at o2
                  intro Z5 ι5 H5 x5 s5 y ry
                  cases ry with
                  | ref r => exact o2.elim
                  | d ry =>
                    have m5 : H5 L = some (.lst as) := x5.keep L _ l2' True.intro l3'
                    have n5 : L ∉ ι5 := fun z => by
                      rcases x5.newi L z with z | z
                      · exact l2' z
                      · rw [l3'] at z; cases z
                    have z5 : L ∈ Z5 := x5.z L (x4.z L l1)
                    have xb : Ext Z1 ι1 H1 Z5 ι5 H5 := xa.trans x5
                    refine ⟨as, m5, ?_, Z5, ι5, μ5, acc ++ [_], as ++ [y], ⟨xb.sub, xb.z, xb.i, fun b u n t e => ?_, fun b ps e => ?_, xb.new, xb.newi⟩, s5.side m5 z5 n5, z5, n5, upd_same, ?_, ?_, o2⟩
                    · rw [← l4'.len]; omega
                    · rw [upd_ne (ne_of_none e hL)]; exact xb.keep b u n t e
                    · obtain ⟨qs, z⟩ := xb.tb b ps e
                      exact ⟨qs, (upd_ne (ne_of_none e hL)).trans z⟩
                    · have ms : Same (mask H5 Z5) (mask (upd H5 L (.lst (as ++ [y]))) Z5) := fun b u e => by
                        obtain ⟨n1, e1⟩ := of_mask e
                        exact mask_in n1 ((upd_ne fun q => n1 (by rw [q]; exact z5)).trans e1) (mask_nt e)
                      exact DRs.append (.cons (DR.mono ms _ _ ry) .nil) ((l4'.mono x5.same _ _).mono ms _ _)
                    · rw [List.length_append]; show acc.length + 1 ≤ i + 1; omega
      · rintro H2 ⟨Z2, ι2, μ2, acc, as, x2, s2, l1, l2, l3, l4, l5, o2⟩
        rw [List.drop_length] at o2
        have hck := lcD_chk o2
        unfold lcD at o2
        rw [if_pos hck] at o2
        exact o2 Z2 ι2 H2 (x1.trans x2) s2 L as nH l1 l2 l3 l4
    · exact o.elim
theorem fl_lc {elt tg iter : Expr} {ifs : List Expr} {scope : Scope} {own : List (Str × Nat)} {pos : Pos} {mi : MI} {g : TG} {gm : MG} {c : MT} {el : ME} (hc : X.calm = true) (hN : X.N.Nodup) (hi : FI X W tg iter mi) (ok : BlkOk X.N X.env.scope scope own)
    (hgo : GOk X.K g gm (own.map (·.2)))
    (hg : ∀ (s : Shared) (H : Hp) (C : Addr) (cl : List (Str × Addr)) (fp : List Addr), PG (X.blk s H scope (compEnvC scope cl C X.env) fp) tg g)
    (ht : ∀ (s : Shared) (H : Hp) (C : Addr) (cl : List (Str × Addr)) (fp : List Addr), FTs (X.blk s H scope (compEnvC scope cl C X.env) fp) W0 ifs c)
    (he : ∀ (s : Shared) (H : Hp) (C : Addr) (cl : List (Str × Addr)) (fp : List Addr), FE (X.blk s H scope (compEnvC scope cl C X.env) fp) W0 elt el) (hs : ∀ x, foldedSetIterable iter X.env x = pure x := by intro _; rfl) :
    FL X W (.ListComp elt [⟨tg, iter, ifs, 0⟩] scope pos) (mLC mi gm c el (own.map (·.2))) :=
  pe_imp (pe_lc (g := g) (tt := tMT X.K W0 c) (te := tM X.K W0 el) hc hN hi ok hg ht he hs) fun σ H Q h => lc_read hgo h
/-- y = [..] on one line -/
theorem setLc {i : Nat} {y : Str} {py : Pos} {elt tg iter : Expr} {ifs : List Expr} {scope : Scope} {own : List (Str × Nat)} {pos spos : Pos} {mi : MI} {g : TG} {gm : MG} {c : MT} {el : ME} (hc : X.calm = true) (hN : X.N.Nodup) (hy : X.N[i]? = some y) (hyl : X.env.scope.names.lookup y = some .local)
    (hsw : swapsWith (.ListComp elt [⟨tg, iter, ifs, 0⟩] scope pos) (some (.Name y py)) spos.line X.env = pure true) (hi : FI X W tg iter mi) (ok : BlkOk X.N X.env.scope scope own)
    (hgo : GOk X.K g gm (own.map (·.2)))
    (hg : ∀ (s : Shared) (H : Hp) (C : Addr) (cl : List (Str × Addr)) (fp : List Addr), PG (X.blk s H scope (compEnvC scope cl C X.env) fp) tg g)
    (ht : ∀ (s : Shared) (H : Hp) (C : Addr) (cl : List (Str × Addr)) (fp : List Addr), FTs (X.blk s H scope (compEnvC scope cl C X.env) fp) W0 ifs c)
    (he : ∀ (s : Shared) (H : Hp) (C : Addr) (cl : List (Str × Addr)) (fp : List Addr), FE (X.blk s H scope (compEnvC scope cl C X.env) fp) W0 elt el) (hs : ∀ x, foldedSetIterable iter X.env x = pure x := by intro _; rfl) :
    PS X (.Assign [.Name y py] (.ListComp elt [⟨tg, iter, ifs, 0⟩] scope pos) spos) (tAsg (tFr X.K W (mLC mi gm c el (own.map (·.2)))) (gName i)) :=
  ps_imp (ps_setLc (i := i) (g := g) (tt := tMT X.K W0 c) (te := tM X.K W0 el) hc hN hy hyl hsw hi ok hg ht he hs) fun D σ H h => lc_read hgo h
theorem fs_lcF {i : Nat} {st : Stmt} {ml : ML} (h : PS X st (tAsg (tFr X.K W ml) (gName i))) : FS X W st (mAsg (mFz ml) (gN i)) := by
  refine ps_imp h fun E σ H ⟨Z, ι, ρ, μ, R, o⟩ => ⟨Z, ι, ρ, μ, R, ?_⟩
  unfold mAsg mFz at o
  cases q : ml ρ μ with
  | exc C fs μ' => rw [q] at o; exact Out.exc_of R o
  | bad => rw [q] at o; exact o
  | ok xs μ' =>
    rw [q] at o
    intro Z' ι' H' x s a vs h1 h2 h3 h4 h5
    have s2 := s.freeze h3
    have x2 := x.freeze R.sta.trk h1
    have d : DR X.K (mask H' (Z'.filter (· ≠ a))) (.lst xs) (.ref a) := .lst (mask_in (fun q => of_decide_eq_true (List.mem_filter.mp q).2 rfl) h4) (h5.mono (mask_less fun b hb => (List.mem_filter.mp hb).1) _ _)
    exact o _ ι' H' _ x2 ⟨s2, (R.ext x2 s2).rs.set (.d d) i⟩
end
end TT
namespace TT
open PySem L2
variable [TB]
section
variable {X : Cx} {W : WX} {tg a b c e : Expr} {es : List Expr} {pos : Pos} {ma mb mc : ME} {ms : MA}
theorem pi_or {t t' : TI} (h : PI X tg e t) (h' : PI X tg e t') : PI X tg e (fun σ H R => t σ H R ∨ t' σ H R) := ⟨fun pins s σ H R I w => w.elim (h.run pins s σ H R I) (h'.run pins s σ H R I)⟩
def chars (z : Str) : List D := z.cps.toList.map fun c => .str ⟨#[c]⟩
def itemsOf (v : MV) (μ : List MO) : Res (List D × Option Nat) := match v with
  | .d (.lst xs) => .ok (xs, none) μ
  | .d (.tup xs) => .ok (xs, none) μ
  | .d (.fl xs) => .ok (xs, none) μ
  | .d (.str z) => .ok (chars z, none) μ
  | .ref n => match μ[n]? with
    | some (.lst xs) => .ok (xs, some n) μ
    | _ => .bad
  | _ => .bad
def mIt (ma : ME) : MI := fun ρ μ => (ma ρ μ).bind itemsOf
theorem its_list {K : PySem.W.Frag} {Z ι : List Addr} {μ : List MO} {H : Hp} {σ : St} {a : Addr} {xs : List D} {vs : List V} {R : It → Hp → Prop} (s : Sta K Z ι μ H) (h : SqL K (mask H Z) a vs) (d : DRs K (mask H Z) xs vs)
    (o : Out K W σ Z ι H (.ok (xs, none) μ) (Its K R)) : R (Itl K a) H := by
  refine o Z ι H (Ext.refl s.sub) s (Itl K a) _ _ (by rw [show xs.length = vs.length from d.len]; exact walk_list) (fun Z2 ι2 μ2 H2 x2 s2 _ => (mask_same _ _).seq (x2.same.seq h)) fun Z2 ι2 μ2 H2 i d' x H3 x2 s2 _ hd hy => ?_
  obtain ⟨rfl, hx⟩ := hy
  obtain ⟨v, h1, h2⟩ := d.get hd
  rw [hx] at h1
  cases h1
  exact ⟨Same.refl _, DR.mono x2.same _ _ h2⟩
theorem its_tup {K : PySem.W.Frag} {Z ι : List Addr} {μ : List MO} {H : Hp} {σ : St} {a : Addr} {xs : List D} {vs : List V} {R : It → Hp → Prop} (s : Sta K Z ι μ H) (h : SqT K (mask H Z) a vs) (d : DRs K (mask H Z) xs vs)
    (o : Out K W σ Z ι H (.ok (xs, none) μ) (Its K R)) : R (Itt K a) H := by
  refine o Z ι H (Ext.refl s.sub) s (Itt K a) _ _ (by rw [show xs.length = vs.length from d.len]; exact walk_tup) (fun Z2 ι2 μ2 H2 x2 s2 _ => same_t (mask_same _ _) (same_t x2.same h)) fun Z2 ι2 μ2 H2 i d' x H3 x2 s2 _ hd hy => ?_
  obtain ⟨rfl, hx⟩ := hy
  obtain ⟨v, h1, h2⟩ := d.get hd
  rw [hx] at h1
  cases h1
  exact ⟨Same.refl _, DR.mono x2.same _ _ h2⟩
theorem its_str {K : PySem.W.Frag} {Z ι : List Addr} {μ : List MO} {H : Hp} {σ : St} {z : Str} {R : It → Hp → Prop} (s : Sta K Z ι μ H) (o : Out K W σ Z ι H (.ok (chars z, none) μ) (Its K R)) : R (L2.Its z) H := by
  refine o Z ι H (Ext.refl s.sub) s (L2.Its z) _ _ (by rw [show (chars z).length = z.cps.size by simp [chars]]; exact walk_str) (fun _ _ _ _ _ _ _ => trivial) fun Z2 ι2 μ2 H2 i d' x H3 x2 s2 _ hd hy => ?_
  obtain ⟨rfl, c, hc, rfl⟩ := hy
  refine ⟨Same.refl _, ?_⟩
  simp only [chars, List.getElem?_map, Array.getElem?_toList, hc, Option.map_some, Option.some.injEq] at hd
  subst hd
  exact .str _
theorem its_ref {K : PySem.W.Frag} {Z ι : List Addr} {μ : List MO} {H : Hp} {σ : St} {a : Addr} {n : Nat} {xs : List D} {R : It → Hp → Prop} (s : Sta K Z ι μ H) (h : ι[n]? = some a) (e : μ[n]? = some (.lst xs))
    (o : Out K W σ Z ι H (.ok (xs, some n) μ) (Its K R)) : (∃ vs, SqL K H a vs) ∧ R (Itl K a) H := by
  obtain ⟨ho, h1, h2⟩ := s.obj n a _ h e
  cases h2 with
  | lst d =>
    rename_i vs
    refine ⟨⟨vs, SqL.of h1⟩, ?_⟩
    have key : ∀ Z2 ι2 μ2 H2, Ext Z ι H Z2 ι2 H2 → Sta K Z2 ι2 μ2 H2 → chk (xs, some n) μ2 = true → ∃ ws, H2 a = some (.lst ws) ∧ DRs K (mask H2 Z2) xs ws := fun Z2 ι2 μ2 H2 x2 s2 c => by
      simp only [chk, decide_eq_true_eq] at c
      obtain ⟨ho, h3, h4⟩ := s2.obj n a _ (x2.i n a h) c
      cases h4 with | lst d => exact ⟨_, h3, d⟩
    refine o Z ι H (Ext.refl s.sub) s (Itl K a) (fun H2 => ∃ ws, H2 a = some (.lst ws) ∧ ws.length = xs.length) (fun i H2 x H3 => H3 = H2 ∧ ∃ ws, H2 a = some (.lst ws) ∧ ws[i]? = some x) ?_ ?_ ?_
    · refine ⟨fun i H2 hi ⟨ws, q, hl⟩ => ?_, fun H2 ⟨ws, q, hl⟩ => ?_, fun i H2 x H3 hi ⟨ws, q, hl⟩ y => ?_⟩
      · exact ⟨ws, ws[i]'(by rw [hl]; exact hi), SqL.of q, by simp⟩
      · exact ⟨ws, SqL.of q, by rw [hl]; exact Nat.le_refl _⟩
      · exact ⟨y.1, ws, q, y.2 ws (SqL.of q)⟩
    · intro Z2 ι2 μ2 H2 x2 s2 c
      obtain ⟨ws, q, d2⟩ := key Z2 ι2 μ2 H2 x2 s2 c
      exact ⟨ws, q, d2.len.symm⟩
    · intro Z2 ι2 μ2 H2 i d' x H3 x2 s2 c hd hy
      obtain ⟨ws, q, d2⟩ := key Z2 ι2 μ2 H2 x2 s2 c
      obtain ⟨rfl, ws', q', hx⟩ := hy
      rw [q] at q'
      cases q'
      obtain ⟨v, h1, h2⟩ := d2.get hd
      rw [hx] at h1
      cases h1
      exact ⟨Same.refl _, h2⟩
theorem fi_val (ha : FE X W e ma) : FI X W tg e (mIt ma) := by
  refine pi_imp (pi_or (pi_list ha) (pi_or (pi_tup ha) (pi_str ha))) fun σ H R ⟨Z, ι, ρ, μ, R0, o⟩ => ?_
  unfold mIt at o
  cases q : ma ρ μ with
  | exc C fs μ' => rw [q] at o; exact .inl ⟨Z, ι, ρ, μ, R0, by rw [q]; exact o⟩
  | bad => rw [q] at o; exact o.elim
  | ok v μ1 =>
    rw [q] at o
    simp only [Res.bind_ok] at o
    have go : ∀ {P : V → Hp → Prop}, (∀ Z1 ι1 H1 x, Ext Z ι H Z1 ι1 H1 → Sta X.K Z1 ι1 μ1 H1 → RM X.K (mask H1 Z1) ι1 v x → P x H1) → tM X.K W ma σ H P := fun h => ⟨Z, ι, ρ, μ, R0, by rw [q]; exact fun Z1 ι1 H1 x1 s1 x r => h Z1 ι1 H1 x x1 s1 r⟩
    cases v with
    | ref n =>
      simp only [itemsOf] at o
      split at o
      · rename_i xs hx
        refine .inl (go fun Z1 ι1 H1 x x1 s1 r => ?_)
        cases r with | ref r =>
          obtain ⟨h1, h2⟩ := its_ref s1 r hx (Out.base o x1)
          exact ⟨_, rfl, h1, h2⟩
      · exact o.elim
    | d d => cases d with
      | lst xs =>
        refine .inl (go fun Z1 ι1 H1 x x1 s1 r => ?_)
        cases r with | d r => cases r with | lst h1 h2 => exact ⟨_, rfl, ⟨_, SqL.of (mask_same _ _ _ _ h1)⟩, its_list s1 (SqL.of h1) h2 (Out.base o x1)⟩
      | fl xs =>
        refine .inl (go fun Z1 ι1 H1 x x1 s1 r => ?_)
        cases r with | d r => cases r with | fl h1 h2 => exact ⟨_, rfl, ⟨_, (mask_same _ _).seq h1⟩, its_list s1 h1 h2 (Out.base o x1)⟩
      | tup xs =>
        refine .inr (.inl (go fun Z1 ι1 H1 x x1 s1 r => ?_))
        cases r with | d r => cases r with | tup h1 h2 => exact ⟨_, rfl, ⟨_, SqT.of (mask_same _ _ _ _ h1)⟩, its_tup s1 (SqT.of h1) h2 (Out.base o x1)⟩
      | str z =>
        refine .inr (.inr (go fun Z1 ι1 H1 x x1 s1 r => ?_))
        cases r with | d r => cases r with | str => exact ⟨_, rfl, its_str s1 (Out.base o x1)⟩
      | _ => exact o.elim
def intsD (lo : Int) (n : Nat) : List D := (List.range n).map fun (i : Nat) => D.int (lo + (i : Int))
theorem ints_len (lo : Int) (n : Nat) : (intsD lo n).length = n := by simp [intsD]
theorem ints_get {lo : Int} {n i : Nat} {d : D} (h : (intsD lo n)[i]? = some d) : d = .int (lo + (i : Int)) := by
  simp only [intsD, List.getElem?_map, Option.map_eq_some_iff] at h
  obtain ⟨j, h1, h2⟩ := h
  obtain ⟨_, h3⟩ := List.getElem?_eq_some_iff.mp h1
  simp at h3
  rw [← h2, ← h3]
def rng1 (as : List MV) (μ : List MO) : Res (List D × Option Nat) := match as with
  | [.d (.int j)] => if -(2 ^ 62) ≤ j ∧ j < 2 ^ 62 then .ok (intsD 0 j.toNat, none) μ else .bad
  | _ => .bad
def mItA (k : List MV → List MO → Res (List D × Option Nat)) (ms : MA) : MI := fun ρ μ => (ms ρ μ).bind k
theorem tMA_it {K : PySem.W.Frag} {Z ι : List Addr} {ρ : En} {μ : List MO} {σ : St} {H : Hp} {k : List MV → List MO → Res (List D × Option Nat)} {Q : List V → Hp → Prop} {R : It → Hp → Prop} (R0 : Rel K Z ι ρ μ σ H) (o : Out K W σ Z ι H ((ms ρ μ).bind k) (Its K R))
    (h : ∀ v μ' Z' ι' H' x, Ext Z ι H Z' ι' H' → Rel K Z' ι' ρ μ' σ H' → RMs K (mask H' Z') ι' v x → Out K W σ Z' ι' H' (k v μ') (Its K R) → Q x H') : tMA K W ms σ H Q := tMA_bind R0 o h
theorem its_rng {K : PySem.W.Frag} {Z ι : List Addr} {μ : List MO} {H : Hp} {σ : St} {lo : Int} {n : Nat} {R : It → Hp → Prop} (s : Sta K Z ι μ H) (o : Out K W σ Z ι H (.ok (intsD lo n, none) μ) (Its K R)) : R (Itr lo n) H := by
  refine o Z ι H (Ext.refl s.sub) s (Itr lo n) _ _ (by rw [show (intsD lo n, (none : Option Nat)).1.length = n from ints_len lo n]; exact walk_range) (fun _ _ _ _ _ _ _ => trivial) fun Z2 ι2 μ2 H2 i d' x H3 x2 s2 _ hd hy => ?_
  obtain ⟨rfl, rfl⟩ := hy
  rw [ints_get hd]
  exact ⟨Same.refl _, .int _⟩
theorem fi_range1 {p : Pos} (hg : Gl X "range") (hm : X.mg "range" = none) (ha : FA X W [a] ms) (hs : starEach [a] X.env = [(false, eval a X.env)] := by rfl) : FI X W tg (.Call (.Name "range" p) [a] [] pos) (mItA rng1 ms) := by
  refine pi_imp (pi_range1 hg hm ha hs) fun σ H R ⟨Z, ι, ρ, μ, R0, o⟩ => tMA_it R0 o fun v μ' Z' ι' H' x x1 R1 r1 o1 => ?_
  unfold rng1 at o1
  split at o1
  · rename_i j
    split at o1
    · rename_i hb
      cases r1 with | cons a b => cases b with | nil => cases a with | d a => cases a with | int => exact ⟨j, rfl, hb.1, hb.2, its_rng R1.sta o1⟩
    · exact o1.elim
  · exact o1.elim
end
abbrev MF := List MV → List MO → Res MV
def spF (K : PySem.W.Frag) (n : Nat) (F : MF) : Sp := fun vs H Q E => vs.length = n ∧ ∃ Z ι as μ, Sta K Z ι μ H ∧ RMs K (mask H Z) ι as vs ∧ Out K (fun c d _ H' => E c d H') [] Z ι H (F as μ) (Val K Q)
theorem RS.start {K : PySem.W.Frag} {F : Hp} {ι : List Addr} (k : Nat) : ∀ {as : List MV} {vs : List V}, RMs K F ι as vs → RS K F ι (as.map some ++ List.replicate k none) (vs.map some ++ List.replicate k none)
  | _, _, .nil => by
    induction k with
    | zero => exact .nil
    | succ k ih => exact .cons .none ih
  | _, _, .cons a b => .cons (.some a) (RS.start k b)
theorem RMs.len {K : PySem.W.Frag} {F : Hp} {ι : List Addr} : ∀ {as : List MV} {vs : List V}, RMs K F ι as vs → as.length = vs.length
  | _, _, .nil => rfl
  | _, _, .cons _ b => congrArg (· + 1) (RMs.len b)
end TT
namespace TT
open PySem L2
variable [TB]
def MV.refs : MV → List Nat
  | .ref n => [n]
  | .d _ => []
def fieldRefs : List (Str × MV) → List Nat
  | [] => []
  | (_, v) :: r => v.refs ++ fieldRefs r
def keyRefs : List (Key × MV) → List Nat
  | [] => []
  | (_, v) :: r => v.refs ++ keyRefs r
def MO.refs : MO → List Nat
  | .ins _ fs => fieldRefs fs
  | .dM kvs => keyRefs kvs
  | _ => []
def trimmable (n : Nat) (v : MV) (μ : List MO) : Bool := v.refs.all (fun k => decide (k < n)) && (μ.take n).all fun o => o.refs.all fun k => decide (k < n)
def trim (n : Nat) (v : MV) (μ : List MO) : Res MV := if trimmable n v μ = true then .ok v (μ.take n) else .ok v μ
def trimX (n : Nat) (C : Addr) (fs : List (Str × D)) (μ : List MO) : Res MV := if trimmable n (.d .non) μ = true then .exc C fs (μ.take n) else .exc C fs μ
def trimB (n : Nat) (v : MV) (μ : List MO) : Res MV := if trimmable n v μ = true then .ok v (μ.take n) else .bad
/-- fz: a new list that is returned is data from then on -/
def SR.finT (fz : Bool) (n : Nat) : SR → Res MV
  | .nx _ μ => trim n (.d .non) μ
  | .rt (.d x) μ => trim n (.d x) μ
  | .rt (.ref k) μ => if fz = true ∧ n ≤ k then (match μ[k]? with
    | some (.lst xs) => trimB n (.d (.lst xs)) μ
    | some (.dK xs) => trimB n (.d (.dK xs)) μ
    | some (.dT xs) => trimB n (.d (.dT xs)) μ
    | _ => .bad) else trim n (.ref k) μ
  | .exc C fs _ μ => trimX n C fs μ
  | _ => .bad
def fnT (fz : Bool) (n : Nat) (m : MS) : MF := fun as μ => (m (as.map some ++ List.replicate (n - as.length) none) μ).finT fz μ.length
section
variable {K : PySem.W.Frag} {F : Hp} {ι ι' : List Addr}
theorem RM.cut {n : Nat} (h : ∀ k < n, ∀ a, ι'[k]? = some a → ι[k]? = some a) {v : MV} {x : V} (r : RM K F ι' v x) (t : v.refs.all (fun k => decide (k < n)) = true) : RM K F ι v x := by
  cases r with
  | d r => exact .d r
  | ref r =>
    simp only [MV.refs, List.all_cons, List.all_nil, Bool.and_true, decide_eq_true_eq] at t
    exact .ref (h _ t _ r)
theorem RMf.cut {n : Nat} (h : ∀ k < n, ∀ a, ι'[k]? = some a → ι[k]? = some a) : ∀ {v : List (Str × MV)} {x : List (Str × V)}, RMf K F ι' v x → (fieldRefs v).all (fun k => decide (k < n)) = true → RMf K F ι v x
  | _, _, .nil, _ => .nil
  | _, _, .cons a b, t => by
    simp only [fieldRefs, List.all_append, Bool.and_eq_true] at t
    exact .cons (a.cut h t.1) (RMf.cut h b t.2)
theorem RMk.cut {n : Nat} (h : ∀ k < n, ∀ a, ι'[k]? = some a → ι[k]? = some a) : ∀ {v : List (Key × MV)} {x : List (Key × V)}, RMk K F ι' v x → (keyRefs v).all (fun k => decide (k < n)) = true → RMk K F ι v x
  | _, _, .nil, _ => .nil
  | _, _, .cons a b, t => by
    simp only [keyRefs, List.all_append, Bool.and_eq_true] at t
    exact .cons (a.cut h t.1) (RMk.cut h b t.2)
theorem RO.cut {n : Nat} (h : ∀ k < n, ∀ a, ι'[k]? = some a → ι[k]? = some a) {v : MO} {x : HO} (r : RO K F ι' v x) (t : v.refs.all (fun k => decide (k < n)) = true) : RO K F ι v x := by
  cases r with
  | lst r => exact .lst r
  | dK r => exact .dK r
  | dT r => exact .dT r
  | ins r => exact .ins (r.cut h t)
  | dM r => exact .dM (r.cut h t)
end
/-- the state behind a def that drops its own objects -/
theorem Sta.cut {K : PySem.W.Frag} {Z ι Z' ι' : List Addr} {μ' : List MO} {H H' : Hp} {v : MV} {n : Nat} (x : Ext Z ι H Z' ι' H') (s : Sta K Z' ι' μ' H') (hn : ι.length = n) (t : trimmable n v μ' = true) :
    Sta K Z' ι (μ'.take n) H' ∧ Ext Z ι H Z' ι H' ∧ ∀ w, RM K (mask H' Z') ι' v w → RM K (mask H' Z') ι v w := by
  simp only [trimmable, Bool.and_eq_true] at t
  have hle : n ≤ ι'.length := by
    rw [← hn]
    cases hk : ι.length with
    | zero => exact Nat.zero_le _
    | succ k =>
      have h1 : ι[k]? = some (ι[k]'(by omega)) := by simp
      have := (List.getElem?_eq_some_iff.mp (x.i k _ h1)).1
      omega
  have back : ∀ k < n, ∀ a, ι'[k]? = some a → ι[k]? = some a := fun k hk a e => by
    have h1 : ι[k]? = some (ι[k]'(by omega)) := by simp [show k < ι.length by omega]
    have h2 := x.i k _ h1
    rw [h2] at e
    rw [h1]; exact e
  refine ⟨⟨fun a h => x.z a (x.sub a h), ?_, ?_, s.trk, s.tab, fun k a o h1 h2 => ?_⟩, ⟨x.sub, x.z, fun _ _ h => h, x.keep, x.tb, x.new, fun a h => .inl h⟩, fun w r => r.cut back t.1⟩
  · have e : ι = ι'.take n := by
      apply List.ext_getElem?
      intro k
      by_cases hk : k < n
      · rw [List.getElem?_take_of_lt hk]
        have h1 : ι[k]? = some (ι[k]'(by omega)) := by simp [show k < ι.length by omega]
        rw [h1, x.i k _ h1]
      · rw [List.getElem?_eq_none (by omega), List.getElem?_eq_none (by rw [List.length_take]; omega)]
    rw [e]
    exact s.nd.sublist (List.take_sublist _ _)
  · rw [List.length_take, ← s.len, hn]; omega
  · have hk : k < n := by rw [← hn]; exact (List.getElem?_eq_some_iff.mp h1).1
    rw [List.getElem?_take_of_lt hk] at h2
    obtain ⟨ho, h3, h4⟩ := s.obj k a o (x.i k a h1) h2
    refine ⟨ho, h3, h4.cut back ?_⟩
    have := t.2
    rw [List.all_eq_true] at this
    exact this o (List.mem_of_getElem? (by rw [List.getElem?_take_of_lt hk]; exact h2))
theorem trim_ok {K : PySem.W.Frag} {W : WX} {σ : St} {Z ι : List Addr} {H : Hp} {v : MV} {μ' : List MO} {n : Nat} {Q : VK} (hn : ι.length = n) (o : Out K W σ Z ι H (trim n v μ') (Val K Q)) : Out K W σ Z ι H (.ok v μ') (Val K Q) := by
  unfold trim at o
  split at o
  · rename_i t
    intro Z2 ι2 H2 x2 s2 w r
    obtain ⟨s3, x3, c⟩ := Sta.cut x2 s2 hn t
    exact o Z2 ι H2 x3 s3 w (c w r)
  · exact o
theorem trimX_ok {K : PySem.W.Frag} {W : WX} {σ : St} {Z ι : List Addr} {H : Hp} {C : Addr} {fs : List (Str × D)} {μ' : List MO} {n : Nat} {Q : VK} (hn : ι.length = n) (o : Out K W σ Z ι H (trimX n C fs μ') (Val K Q)) : Out K W σ Z ι H (.exc C fs μ' : Res MV) (Val K Q) := by
  unfold trimX at o
  split at o
  · rename_i t
    intro Z2 ι2 H2 d fs' x2 s2
    obtain ⟨s3, x3, c⟩ := Sta.cut x2 s2 hn t
    exact o Z2 ι H2 d fs' x3 s3
  · exact o
/-- a new list is handed out as data: its place leaves the store -/
theorem Sta.drop {K : PySem.W.Frag} {Z ι Z' ι' : List Addr} {μ' : List MO} {H H' : Hp} {n k : Nat} {a : Addr} {d : D} (x : Ext Z ι H Z' ι' H') (s : Sta K Z' ι' μ' H') (tr : ∀ a ∈ Z, ∃ o, H a = some o) (hn : ι.length = n) (hk : n ≤ k) (ha : ι'[k]? = some a)
    (t : trimmable n (.d d) μ' = true) : Sta K (Z'.filter (· ≠ a)) ι (μ'.take n) H' ∧ Ext Z ι H (Z'.filter (· ≠ a)) ι H' := by
  obtain ⟨s3, x3, _⟩ := Sta.cut x s hn t
  have na : a ∉ ι := fun q => by
    obtain ⟨j, hj, e⟩ := List.mem_iff_getElem.mp q
    have h1 : ι[j]? = some a := by rw [← e]; simp
    have h2 := x.i j a h1
    have := (List.getElem?_inj (List.getElem?_eq_some_iff.mp h2).1 s.nd).mp (h2.trans ha.symm)
    omega
  have hH : H a = none := by
    rcases x.newi a (List.mem_of_getElem? ha) with q | q
    · exact (na q).elim
    · exact q
  exact ⟨s3.freeze na, x3.freeze tr hH⟩
theorem bodyT_ok {K : PySem.W.Frag} {N : List Str} {m : MS} {vs : List V} {H : Hp} {Q : VK} {E : XK} {n : Nat} {fz : Bool} (h : spF K n (fnT fz N.length m) vs H Q E) :
    tMS K (fun c d _ H' => E c d H') m { nx := fun _ H' => Q .non H', rt := Q } (L2.start N vs) H := by
  obtain ⟨hn, Z, ι, as, μ, s, r, o⟩ := h
  refine ⟨Z, ι, as.map some ++ List.replicate (N.length - as.length) none, μ, ⟨s, ?_⟩, ?_⟩
  · unfold L2.start
    rw [← r.len]
    exact RS.start _ r
  · unfold fnT at o
    cases q : m (as.map some ++ List.replicate (N.length - as.length) none) μ with
    | nx ρ' μ' =>
      rw [q] at o
      have o' := trim_ok s.len o
      exact fun Z2 ι2 H2 σ2 x2 R2 => o' Z2 ι2 H2 x2 R2.sta .non (.d .non)
    | rt v μ' =>
      rw [q] at o
      cases v with
      | d x => exact trim_ok s.len o
      | ref k =>
        simp only [SR.finT] at o
        split at o
        · rename_i hk
          intro Z2 ι2 H2 x2 s2 w r2
          cases r2 with
          | ref r2 =>
            rename_i a
            have fin : ∀ d : D, Out K (fun c d _ H' => E c d H') [] Z ι H (trimB μ.length (.d d) μ') (Val K Q) → (∀ Z3, (∀ b ∈ Z3, b ∈ Z2) → a ∉ Z3 → DR K (mask H2 Z3) d (.ref a)) → Q (.ref a) H2 := fun d o hd => by
              unfold trimB at o
              split at o
              · rename_i t
                obtain ⟨s3, x3⟩ := Sta.drop x2 s2 s.trk s.len hk.2 r2 t
                refine o _ ι H2 x3 s3 _ (.d (hd _ (fun b hb => (List.mem_filter.mp hb).1) fun z => ?_))
                exact of_decide_eq_true (List.mem_filter.mp z).2 rfl
              · exact o.elim
            split at o
            · rename_i xs hx
              obtain ⟨ho, h1, h2⟩ := s2.obj _ _ _ r2 hx
              cases h2 with | lst d => exact fin _ o fun Z3 hz na => .lst (mask_in na h1) (d.mono (mask_less hz) _ _)
            · rename_i xs hx
              obtain ⟨ho, h1, h2⟩ := s2.obj _ _ _ r2 hx
              cases h2 with | dK d => exact fin _ o fun Z3 hz na => .dK (mask_in na h1) (d.mono (mask_less hz) _ _)
            · rename_i xs hx
              obtain ⟨ho, h1, h2⟩ := s2.obj _ _ _ r2 hx
              cases h2 with | dT d => exact fin _ o fun Z3 hz na => .dT (mask_in na h1) (d.mono (mask_less hz) _ _)
            · exact o.elim
        · exact trim_ok s.len o
    | exc C fs ρ' μ' =>
      rw [q] at o
      have o' := trimX_ok s.len o
      exact fun Z2 ι2 H2 σ2 d fs' x2 R2 => o' Z2 ι2 H2 d fs' x2 R2.sta
    | bk ρ' μ' => rw [q] at o; exact o.elim
    | ct ρ' μ' => rw [q] at o; exact o.elim
    | bad => rw [q] at o; exact o.elim
def addAll (acc new : List Nat) : List Nat := new.foldl (fun a n => if n ∈ a then a else a ++ [n]) acc
def leads (μ : List MO) : List Nat → List Nat
  | [] => []
  | n :: r => (match μ[n]? with
    | some o => o.refs
    | none => []) ++ leads μ r
def argRefs : List MV → List Nat
  | [] => []
  | v :: r => v.refs ++ argRefs r
def selOf (μ : List MO) (as : List MV) : List Nat :=
  let a := addAll [] (argRefs as)
  let b := addAll a (leads μ a)
  addAll b (leads μ b)
theorem addAll_nodup : ∀ (new acc : List Nat), acc.Nodup → (addAll acc new).Nodup
  | [], acc, h => h
  | n :: new, acc, h => by
    unfold addAll
    rw [List.foldl_cons]
    refine addAll_nodup new _ ?_
    split
    · exact h
    · rename_i hn
      rw [List.nodup_append]
      refine ⟨h, by simp, fun a ha b hb => ?_⟩
      rw [List.mem_singleton.mp hb]
      intro q
      exact hn (by rw [← q]; exact ha)
theorem selOf_nodup (μ : List MO) (as : List MV) : (selOf μ as).Nodup := addAll_nodup _ _ (addAll_nodup _ _ (addAll_nodup _ _ .nil))
def toC (sel : List Nat) : MV → Option MV
  | .d x => some (.d x)
  | .ref n => if n ∈ sel then some (.ref (sel.idxOf n)) else none
def toCs (sel : List Nat) : List MV → Option (List MV)
  | [] => some []
  | v :: r => match toC sel v, toCs sel r with
    | some v', some r' => some (v' :: r')
    | _, _ => none
def toCf (sel : List Nat) : List (Str × MV) → Option (List (Str × MV))
  | [] => some []
  | (f, v) :: r => match toC sel v, toCf sel r with
    | some v', some r' => some ((f, v') :: r')
    | _, _ => none
def toCk (sel : List Nat) : List (Key × MV) → Option (List (Key × MV))
  | [] => some []
  | (f, v) :: r => match toC sel v, toCk sel r with
    | some v', some r' => some ((f, v') :: r')
    | _, _ => none
def toCO (sel : List Nat) : MO → Option MO
  | .ins C fs => match toCf sel fs with
    | some fs' => some (.ins C fs')
    | none => none
  | .dM kvs => match toCk sel kvs with
    | some kvs' => some (.dM kvs')
    | none => none
  | o => some o
def pick (μ : List MO) (sel : List Nat) : List Nat → Option (List MO)
  | [] => some []
  | n :: r => match μ[n]? with
    | some o => match toCO sel o, pick μ sel r with
      | some o', some r' => some (o' :: r')
      | _, _ => none
    | none => none
def back (sel : List Nat) (L : Nat) : MV → MV
  | .d x => .d x
  | .ref k => match sel[k]? with
    | some n => .ref n
    | none => .ref (L + (k - sel.length))
def backF (sel : List Nat) (L : Nat) : List (Str × MV) → List (Str × MV)
  | [] => []
  | (f, v) :: r => (f, back sel L v) :: backF sel L r
def backK (sel : List Nat) (L : Nat) : List (Key × MV) → List (Key × MV)
  | [] => []
  | (f, v) :: r => (f, back sel L v) :: backK sel L r
def backO (sel : List Nat) (L : Nat) : MO → MO
  | .ins C fs => .ins C (backF sel L fs)
  | .dM kvs => .dM (backK sel L kvs)
  | o => o
def putAll (μ : List MO) : List Nat → List MO → List MO
  | n :: sel, o :: os => putAll (μ.set n o) sel os
  | _, _ => μ
def wb (μ : List MO) (sel : List Nat) (os : List MO) : List MO := putAll μ sel (os.map (backO sel μ.length)) ++ (os.drop sel.length).map (backO sel μ.length)
def callF (F : MF) (as : List MV) (μ : List MO) : Res MV :=
  let sel := selOf μ as
  match toCs sel as, pick μ sel sel with
  | some as', some μc => match F as' μc with
    | .ok v os => .ok (back sel μ.length v) (wb μ sel os)
    | .exc C fs os => .exc C fs (wb μ sel os)
    | .bad => .bad
  | _, _ => .bad
theorem putAll_len : ∀ (sel : List Nat) (os μ : List MO), (putAll μ sel os).length = μ.length
  | [], _, _ => by unfold putAll; rfl
  | _ :: _, [], _ => by unfold putAll; rfl
  | n :: sel, o :: os, μ => by unfold putAll; rw [putAll_len sel os]; simp
theorem putAll_out {n : Nat} : ∀ (sel : List Nat) (os μ : List MO), n ∉ sel → (putAll μ sel os)[n]? = μ[n]?
  | [], _, _, _ => by unfold putAll; rfl
  | _ :: _, [], _, _ => by unfold putAll; rfl
  | m :: sel, o :: os, μ, h => by
    unfold putAll
    rw [putAll_out sel os _ fun q => h (List.mem_cons_of_mem _ q), List.getElem?_set_ne fun q => h (by rw [q]; exact List.mem_cons_self)]
theorem putAll_in {n k : Nat} : ∀ (sel : List Nat) (os μ : List MO), sel.Nodup → sel[k]? = some n → n < μ.length → k < os.length → (putAll μ sel os)[n]? = os[k]?
  | [], _, _, _, h, _, _ => by simp at h
  | _ :: _, [], _, _, _, _, h => by simp at h
  | m :: sel, o :: os, μ, nd, h, hl, hk => by
    unfold putAll
    cases k with
    | zero =>
      simp at h
      subst h
      rw [putAll_out sel os _ (List.nodup_cons.mp nd).1]
      simp [hl]
    | succ k =>
      rw [putAll_in sel os _ (List.nodup_cons.mp nd).2 (by simpa using h) (by simpa using hl) (by simpa using hk)]
      simp
section
variable {K : PySem.W.Frag} {F : Hp} {ι ιc ι' : List Addr} {sel : List Nat}
def SelOk (ι : List Addr) (sel : List Nat) (ιc : List Addr) : Prop := ∀ (k n : Nat), sel[k]? = some n → ∃ a, ιc[k]? = some a ∧ ι[n]? = some a
theorem toC_ok (so : SelOk ι sel ιc) {v v' : MV} {x : V} (r : RM K F ι v x) (e : toC sel v = some v') : RM K F ιc v' x := by
  cases r with
  | d r => cases e; exact .d r
  | ref r =>
    rename_i n a0
    simp only [toC] at e
    split at e
    · rename_i hs
      cases e
      obtain ⟨a, h1, h2⟩ := so (sel.idxOf n) n (by rw [List.getElem?_eq_getElem (List.idxOf_lt_length_of_mem hs)]; simp)
      rw [r] at h2
      cases h2
      exact .ref h1
    · cases e
theorem toCs_ok (so : SelOk ι sel ιc) : ∀ {v v' : List MV} {x : List V}, RMs K F ι v x → toCs sel v = some v' → RMs K F ιc v' x
  | _, _, _, .nil, e => by cases e; exact .nil
  | _, _, _, .cons a b, e => by
    unfold toCs at e
    split at e
    · rename_i h1 h2
      cases e
      exact .cons (toC_ok so a h1) (toCs_ok so b h2)
    · cases e
theorem toCf_ok (so : SelOk ι sel ιc) : ∀ {v v' : List (Str × MV)} {x : List (Str × V)}, RMf K F ι v x → toCf sel v = some v' → RMf K F ιc v' x
  | _, _, _, .nil, e => by cases e; exact .nil
  | _, _, _, .cons a b, e => by
    unfold toCf at e
    split at e
    · rename_i h1 h2
      cases e
      exact .cons (toC_ok so a h1) (toCf_ok so b h2)
    · cases e
theorem toCk_ok (so : SelOk ι sel ιc) : ∀ {v v' : List (Key × MV)} {x : List (Key × V)}, RMk K F ι v x → toCk sel v = some v' → RMk K F ιc v' x
  | _, _, _, .nil, e => by cases e; exact .nil
  | _, _, _, .cons a b, e => by
    unfold toCk at e
    split at e
    · rename_i h1 h2
      cases e
      exact .cons (toC_ok so a h1) (toCk_ok so b h2)
    · cases e
theorem toCO_ok (so : SelOk ι sel ιc) {v v' : MO} {x : HO} (r : RO K F ι v x) (e : toCO sel v = some v') : RO K F ιc v' x := by
  cases r with
  | lst r => cases e; exact .lst r
  | dK r => cases e; exact .dK r
  | dT r => cases e; exact .dT r
  | ins r =>
    simp only [toCO] at e
    split at e
    · rename_i fs' h; cases e; exact .ins (toCf_ok so r h)
    · cases e
  | dM r =>
    simp only [toCO] at e
    split at e
    · rename_i fs' h; cases e; exact .dM (toCk_ok so r h)
    · cases e
theorem pick_get {μ : List MO} : ∀ {l : List Nat} {os : List MO}, pick μ sel l = some os → os.length = l.length ∧ ∀ (k n : Nat), l[k]? = some n → ∃ o o', μ[n]? = some o ∧ toCO sel o = some o' ∧ os[k]? = some o'
  | [], os, e => by cases e; exact ⟨rfl, fun k n h => by simp at h⟩
  | m :: l, os, e => by
    unfold pick at e
    split at e
    · rename_i o ho
      split at e
      · rename_i o' r' h1 h2
        cases e
        obtain ⟨hl, hg⟩ := pick_get h2
        refine ⟨by simp [hl], fun k n h => ?_⟩
        cases k with
        | zero => simp at h; subst h; exact ⟨o, o', ho, h1, rfl⟩
        | succ k =>
          obtain ⟨o2, o2', a, b, c⟩ := hg k n (by simpa using h)
          exact ⟨o2, o2', a, b, by simpa using c⟩
      · cases e
    · cases e
def BackOk (sel : List Nat) (L : Nat) (ιc' ι' : List Addr) : Prop := ∀ k a, ιc'[k]? = some a → ι'[match sel[k]? with
  | some n => n
  | none => L + (k - sel.length)]? = some a
theorem back_ok {L : Nat} (bo : BackOk sel L ιc ι') {v : MV} {x : V} (r : RM K F ιc v x) : RM K F ι' (back sel L v) x := by
  cases r with
  | d r => exact .d r
  | ref r =>
    rename_i k a
    have h := bo k a r
    simp only [back]
    cases q : sel[k]? with
    | some n => rw [q] at h; exact .ref h
    | none => rw [q] at h; exact .ref h
theorem backF_ok {L : Nat} (bo : BackOk sel L ιc ι') : ∀ {v : List (Str × MV)} {x : List (Str × V)}, RMf K F ιc v x → RMf K F ι' (backF sel L v) x
  | _, _, .nil => .nil
  | _, _, .cons a b => .cons (back_ok bo a) (backF_ok bo b)
theorem backK_ok {L : Nat} (bo : BackOk sel L ιc ι') : ∀ {v : List (Key × MV)} {x : List (Key × V)}, RMk K F ιc v x → RMk K F ι' (backK sel L v) x
  | _, _, .nil => .nil
  | _, _, .cons a b => .cons (back_ok bo a) (backK_ok bo b)
theorem backO_ok {L : Nat} (bo : BackOk sel L ιc ι') {v : MO} {x : HO} (r : RO K F ιc v x) : RO K F ι' (backO sel L v) x := by
  cases r with
  | lst r => exact .lst r
  | dK r => exact .dK r
  | dT r => exact .dT r
  | ins r => exact .ins (backF_ok bo r)
  | dM r => exact .dM (backK_ok bo r)
end
end TT
namespace TT
open PySem L2
variable [TB]
section
variable {K : PySem.W.Frag} {Z ι : List Addr} {μ μc : List MO} {H : Hp} {sel : List Nat}
theorem nodup_at {l : List Addr} (nd : l.Nodup) {i j : Nat} {a : Addr} (h1 : l[i]? = some a) (h2 : l[j]? = some a) : i = j :=
  (List.getElem?_inj (List.getElem?_eq_some_iff.mp h1).1 nd).mp (h1.trans h2.symm)
theorem frame_in (s : Sta K Z ι μ H) (nd : sel.Nodup) (p : pick μ sel sel = some μc) : ∃ ιc, SelOk ι sel ιc ∧ ιc.length = sel.length ∧ Sta K Z ιc μc H := by
  obtain ⟨hl, hg⟩ := pick_get p
  have lt : ∀ n ∈ sel, n < ι.length := fun n hn => by
    obtain ⟨k, hk, e⟩ := List.mem_iff_getElem.mp hn
    obtain ⟨o, o', h1, _⟩ := hg k n (by rw [← e]; simp)
    rw [s.len]
    exact (List.getElem?_eq_some_iff.mp h1).1
  refine ⟨sel.map fun n => ι.getD n 0, fun k n h => ?_, by simp, ?_⟩
  · have hn := lt n (List.mem_of_getElem? h)
    exact ⟨ι[n], by simp [h, List.getD_eq_getElem?_getD, hn], by simp [hn]⟩
  · have gt : ∀ (k : Nat) a, (sel.map fun n => ι.getD n 0)[k]? = some a → ∃ n, sel[k]? = some n ∧ ι[n]? = some a := fun k a h => by
      rw [List.getElem?_map, Option.map_eq_some_iff] at h
      obtain ⟨n, h1, h2⟩ := h
      have hn := lt n (List.mem_of_getElem? h1)
      refine ⟨n, h1, ?_⟩
      rw [← h2, List.getD_eq_getElem?_getD, List.getElem?_eq_getElem hn]
      rfl
    have so : SelOk ι sel (sel.map fun n => ι.getD n 0) := fun k n h => by
      have hn := lt n (List.mem_of_getElem? h)
      exact ⟨ι[n], by simp [h, List.getD_eq_getElem?_getD, hn], by simp [hn]⟩
    refine ⟨fun a ha => ?_, ?_, by rw [List.length_map, hl], s.trk, s.tab, fun k a o h1 h2 => ?_⟩
    · obtain ⟨k, hk, e⟩ := List.mem_iff_getElem.mp ha
      obtain ⟨n, _, h3⟩ := gt k a (List.getElem?_eq_some_iff.mpr ⟨hk, e⟩)
      exact s.sub a (List.mem_of_getElem? h3)
    · unfold List.Nodup
      rw [List.pairwise_map]
      refine List.Pairwise.imp_of_mem (fun {a b} ha hb hab e => ?_) nd
      have h1 : ι[a]? = some (ι.getD a 0) := by rw [List.getD_eq_getElem?_getD, List.getElem?_eq_getElem (lt a ha)]; rfl
      have h2 : ι[b]? = some (ι.getD b 0) := by rw [List.getD_eq_getElem?_getD, List.getElem?_eq_getElem (lt b hb)]; rfl
      rw [← e] at h2
      exact hab (nodup_at s.nd h1 h2)
    · obtain ⟨n, h3, h4⟩ := gt k a h1
      obtain ⟨o1, o2, h5, h6, h7⟩ := hg k n h3
      rw [h2] at h7
      cases h7
      obtain ⟨ho, h8, h9⟩ := s.obj n a o1 h4 h5
      exact ⟨ho, h8, toCO_ok so h9 h6⟩
theorem frame_out {ιc Z' ιc' : List Addr} {os : List MO} {H' : Hp} (s : Sta K Z ι μ H) (nd : sel.Nodup) (so : SelOk ι sel ιc) (hl : ιc.length = sel.length) (x : Ext Z ιc H Z' ιc' H') (sc : Sta K Z' ιc' os H') :
    ∃ ι', Ext Z ι H Z' ι' H' ∧ Sta K Z' ι' (wb μ sel os) H' ∧ BackOk sel μ.length ιc' ι' := by
  have cin : ∀ a ∈ ιc, ∃ k n, sel[k]? = some n ∧ ιc[k]? = some a ∧ ι[n]? = some a := fun a ha => by
    obtain ⟨k, hk, e⟩ := List.mem_iff_getElem.mp ha
    have h1 : ιc[k]? = some a := by rw [← e]; simp
    have h2 : sel[k]? = some (sel[k]'(by rw [← hl]; exact hk)) := by simp
    obtain ⟨b, h3, h4⟩ := so k _ h2
    rw [h1] at h3; cases h3
    exact ⟨k, _, h2, h1, h4⟩
  have csub : ∀ a ∈ ιc, a ∈ ι := fun a ha => by obtain ⟨k, n, _, _, h⟩ := cin a ha; exact List.mem_of_getElem? h
  have hle : sel.length ≤ ιc'.length := by
    rw [← hl]
    cases hk : ιc.length with
    | zero => exact Nat.zero_le _
    | succ k =>
      have h1 : ιc[k]? = some (ιc[k]'(by omega)) := by simp
      have := (List.getElem?_eq_some_iff.mp (x.i k _ h1)).1
      omega
  have keepι : ∀ a o, a ∉ ι → NT o → H a = some o → H' a = some o := fun a o n t e => x.keep a o (fun q => n (csub a q)) t e
  -- the new ones
  have newH : ∀ a ∈ ιc'.drop sel.length, H a = none := fun a ha => by
    obtain ⟨j, hj, e⟩ := List.mem_iff_getElem.mp ha
    have h1 : ιc'[sel.length + j]? = some a := by rw [← List.getElem?_drop, ← e]; simp
    rcases x.newi a (List.mem_of_getElem? h1) with q | q
    · obtain ⟨k, n, h2, h3, _⟩ := cin a q
      have := nodup_at sc.nd h1 (x.i k a h3)
      have h4 := (List.getElem?_eq_some_iff.mp h2).1
      omega
    · exact q
  have ex : Ext Z ι H Z' (ι ++ ιc'.drop sel.length) H' := by
    refine ⟨s.sub, x.z, fun n a h => ?_, keepι, x.tb, x.new, fun a ha => ?_⟩
    · rw [List.getElem?_append_left (List.getElem?_eq_some_iff.mp h).1]; exact h
    · rcases List.mem_append.mp ha with q | q
      · exact .inl q
      · exact .inr (newH a q)
  have bo : BackOk sel μ.length ιc' (ι ++ ιc'.drop sel.length) := fun k a h => by
    cases q : sel[k]? with
    | some n =>
      obtain ⟨b, h1, h2⟩ := so k n q
      have h3 := x.i k b h1
      rw [h] at h3; cases h3
      show (ι ++ ιc'.drop sel.length)[n]? = some a
      rw [List.getElem?_append_left (List.getElem?_eq_some_iff.mp h2).1]; exact h2
    | none =>
      have hk : sel.length ≤ k := List.getElem?_eq_none_iff.mp q
      show (ι ++ ιc'.drop sel.length)[μ.length + (k - sel.length)]? = some a
      rw [← s.len, List.getElem?_append_right (by omega), List.getElem?_drop, ← h]
      congr 1
      omega
  have hos : os.length = ιc'.length := sc.len.symm
  refine ⟨ι ++ ιc'.drop sel.length, ex, ⟨fun a ha => ?_, ?_, ?_, sc.trk, sc.tab, fun n a o h1 h2 => ?_⟩, bo⟩
  · rcases List.mem_append.mp ha with q | q
    · exact x.z a (s.sub a q)
    · exact sc.sub a (List.mem_of_mem_drop q)
  · rw [List.nodup_append]
    refine ⟨s.nd, sc.nd.sublist (List.drop_sublist _ _), fun a ha b hb e => ?_⟩
    obtain ⟨o, h⟩ := s.trk a (s.sub a ha)
    rw [e, newH b hb] at h
    cases h
  · unfold wb
    rw [List.length_append, List.length_append, putAll_len, List.length_map, List.length_drop, List.length_drop, s.len, hos]
  · unfold wb at h2
    have hpl : (putAll μ sel (os.map (backO sel μ.length))).length = ι.length := by rw [putAll_len, s.len]
    by_cases hn : n < ι.length
    · rw [List.getElem?_append_left hn] at h1
      rw [List.getElem?_append_left (by rw [hpl]; exact hn)] at h2
      by_cases hs : n ∈ sel
      · obtain ⟨k, hk, e⟩ := List.mem_iff_getElem.mp hs
        have h3 : sel[k]? = some n := by rw [← e]; simp
        have hko : k < os.length := by omega
        rw [putAll_in sel _ μ nd h3 (by rw [← s.len]; exact hn) (by simpa using hko), List.getElem?_map, Option.map_eq_some_iff] at h2
        obtain ⟨o', h4, h5⟩ := h2
        obtain ⟨b, h6, h7⟩ := so k n h3
        rw [h1] at h7; cases h7
        obtain ⟨ho, h8, h9⟩ := sc.obj k a o' (x.i k a h6) h4
        rw [← h5]
        exact ⟨ho, h8, backO_ok bo h9⟩
      · rw [putAll_out sel _ μ hs] at h2
        obtain ⟨ho, h8, h9⟩ := s.obj n a o h1 h2
        have na : a ∉ ιc := fun q => by
          obtain ⟨k, m, h3, h4, h5⟩ := cin a q
          have := nodup_at s.nd h1 h5
          subst this
          exact hs (List.mem_of_getElem? h3)
        exact ⟨ho, x.keep a ho na h9.nt h8, h9.mono ex.same ex.i⟩
    · have hn2 : ι.length ≤ n := by omega
      rw [List.getElem?_append_right hn2, List.getElem?_drop] at h1
      rw [List.getElem?_append_right (by rw [hpl]; exact hn2), hpl, List.getElem?_map, Option.map_eq_some_iff] at h2
      obtain ⟨o', h4, h5⟩ := h2
      rw [List.getElem?_drop] at h4
      obtain ⟨ho, h8, h9⟩ := sc.obj _ a o' h1 h4
      rw [← h5]
      exact ⟨ho, h8, backO_ok bo h9⟩
theorem call_frame {W : WX} {σ : St} {F : MF} {as : List MV} {vs : List V} {Q : VK} {n : Nat} (s : Sta K Z ι μ H) (r : RMs K (mask H Z) ι as vs) (hn : vs.length = n) (o : Out K W σ Z ι H (callF F as μ) (Val K Q)) : spF K n F vs H Q (WE W σ) := by
  unfold callF at o
  have nd := selOf_nodup μ as
  generalize selOf μ as = sel at o nd
  simp only at o
  split at o
  · rename_i as' μc h1 h2
    obtain ⟨ιc, so, hl, sc⟩ := frame_in s nd h2
    refine ⟨hn, Z, ιc, as', μc, sc, toCs_ok so r h1, ?_⟩
    cases q : F as' μc with
    | ok v os =>
      rw [q] at o
      intro Z2 ι2 H2 x2 s2 w rw'
      obtain ⟨ι', ex, sw, bo⟩ := frame_out s nd so hl x2 s2
      exact o Z2 ι' H2 ex sw w (back_ok bo rw')
    | exc C fs os =>
      rw [q] at o
      intro Z2 ι2 H2 d fs' x2 s2
      obtain ⟨ι', ex, sw, bo⟩ := frame_out s nd so hl x2 s2
      exact o Z2 ι' H2 d fs' ex sw
    | bad => rw [q] at o; exact o
  · exact o.elim
end
def mCall (F : MF) (n : Nat) (ms : MA) : ME := fun ρ μ => (ms ρ μ).bind fun as μ1 => if as.length = n then callF F as μ1 else .bad
/-- the def under x keeps F, by calls of at most k -/
abbrev Fn (P : Program) (w : World) (K : PySem.W.Frag) (mg : Str → Option Value) (base : Heap) (k : Nat) (x : Str) (n : Nat) (F : MF) : Prop := CalG (L2.CX P w) P w K mg base k x (spF K n F)
section
variable {X : Cx} {W : WX} {k j n : Nat} {x : Str} {F : MF} {p pos : Pos} {e : Expr} {es : List Expr} {ms : MA}
theorem fe_call (c : Fn X.prog X.w X.K X.mg X.base k x n F) (tk : Takes X W) (hg : X.A.guards = some []) (hr : Room j X.A) (ha : FA X W (e :: es) ms) (hk : k ≤ j := by decide) (hgl : Gl X x := by rfl)
    (hdb : (x == ("__debug__" : Str)) = false := by decide) (he : starEach (e :: es) X.env = (false, eval e X.env) :: starEach es X.env := by rfl) (hpl : (backTo pos (starEach es X.env)).any (·.1) = false := by rfl) :
    FE X W (.Call (.Name x p) (e :: es) [] pos) (mCall F n ms) := by
  obtain ⟨f, G, hm, kp⟩ := c.ex
  refine pe_imp (t := tCallS (spF X.K n F) (WE W) (tMA X.K W ms)) ⟨?_⟩ ?_
  · intro pins s σ H Q I h
    refine PySem.wpAny_Call_Name_kw (ld_glob I hgl hm ?_ hdb)
    refine PySem.W.callWith_K (h₀ := X.base) I.ok.mod.kin kp (thn (ha.run pos pins s σ H _ I h) fun us s1 hh => ?_) he hpl
    obtain ⟨vs, H1, I1, r, q⟩ := hh
    refine ⟨I1.kIn, wpAny_call (codeAny_mono (G X.A X.stack s1 H1 us vs Q (WE W σ) (hr.mono hk) hg I1.env0 r q) fun z s' hq => ?_)⟩
    cases z with
    | error u => exact passAt tk σ pins H1 s1 u s' I1 hq
    | ok fl => cases fl with
      | ret u => exact I1.after hq
      | _ => exact hq.elim
  · rintro σ H Q ⟨Z, ι, ρ, μ, R, o⟩
    refine tMA_bind R o fun v μ' Z' ι' H' x x1 R1 r1 o1 => ?_
    split at o1
    · rename_i hl
      exact call_frame R1.sta r1 (by rw [← r1.len]; exact hl) o1
    · exact o1.elim
end
section
variable {P : Program} {w : World} {K : PySem.W.Frag} {mg : Str → Option Value} {base : Heap}
/-- a def of the text, from its body -/
theorem Def.mini {x : Str} {st : Stmt} {N ps : List Str} {k n : Nat} {fz : Bool} {m : MS} (D : Def K mg x st ps) (S : FnScope N ps (defScope st)) (hn : ps.length = n)
    (body : ∀ (f : Addr) (cdv : Value) (A : Around) (outer : List Env) (s : Shared) (H : Hp) (E : XK), (A.deeper (PyProof.Rows.envOfC x (defScope st) s.heap.objs.size f cdv)).guards = some [] →
      Room k (A.deeper (PyProof.Rows.envOfC x (defScope st) s.heap.objs.size f cdv)) →
      FSs (cxOf (L2.CX P w) P w K mg base N x (defScope st) f cdv A outer s H E) (fun c d _ H' => E c d H') (defBody st) m) : Fn P w K mg base (k + 1) x n (fnT fz N.length m) :=
  D.okG S (fun vs H Q E h => h.1.trans hn.symm) fun f cdv A outer s H vs Q E hg hr h => ⟨_, body f cdv A outer s H E hg hr, bodyT_ok h⟩
end
end TT
namespace TT
open PySem L2
variable [TB]
section
variable {K : PySem.W.Frag} {X : Cx}
theorem opd_or {r r' : R2} {g g' : D → D → Option D} (h : OpD K r g) (h' : OpD K r' g') : OpD K (fun x y H Q => r x y H Q ∨ r' x y H Q) (fun a b => (g a b).or (g' a b)) := fun Z H a b c x y Q t ha hb e q => by
  have e : (g a b).or (g' a b) = some c := e
  cases hg : g a b with
  | some z => rw [hg] at e; exact .inl (h Z H a b c x y Q t ha hb (hg.trans e) q)
  | none => rw [hg] at e; exact .inr (h' Z H a b c x y Q t ha hb e q)
theorem same_ok {Z : List Addr} {H : Hp} {c : D} {Q : VK} {z : V} (q : ∀ H' z, Same H H' → DR K (mask H' Z) c z → Q z H') (r : DR K (mask H Z) c z) : Q z H := q H z (Same.refl _) r
def intOp (f : Int → Int → Option D) : D → D → Option D
  | .int i, .int j => f i j
  | _, _ => none
theorem opd_int {C : Int → Int → Prop} [∀ i j, Decidable (C i j)] {g : Int → Int → V} {h : Int → Int → D} (e : ∀ i j F, DR K F (h i j) (g i j)) : OpD K (rI C g) (intOp fun i j => if C i j then some (h i j) else none) := fun Z H a b c x y Q t ha hb eq q => by
  unfold intOp at eq
  split at eq
  · rename_i i j
    simp only at eq
    split at eq
    · rename_i hc
      cases eq
      exact ⟨i, j, ha.int, hb.int, hc, same_ok q (e i j _)⟩
    · cases eq
  · cases eq
theorem opd_int0 {g : Int → Int → V} {h : Int → Int → D} (e : ∀ i j F, DR K F (h i j) (g i j)) : OpD K (rI0 g) (intOp fun i j => some (h i j)) := fun Z H a b c x y Q t ha hb eq q => by
  unfold intOp at eq
  split at eq
  · rename_i i j
    cases eq
    exact ⟨i, j, ha.int, hb.int, same_ok q (e i j _)⟩
  · cases eq
instance : ∀ i j, Decidable (CMul i j) := fun i j => inferInstanceAs (Decidable ((-(2 ^ 64) < i ∧ i < 2 ^ 64) ∨ (-(2 ^ 64) < j ∧ j < 2 ^ 64)))
instance : ∀ i j, Decidable (CPow i j) := fun i j => inferInstanceAs (Decidable (0 ≤ j ∧ j ≤ 1000000 ∧ i.natAbs < 2 ^ 64))
instance : ∀ i j, Decidable (CDivW i j) := fun i j => by unfold CDivW; infer_instance
def mulD : D → D → Option D := intOp fun i j => if CMul i j then some (.int (i * j)) else none
def fdivD : D → D → Option D := intOp fun i j => if CDivW i j then some (.int (i / j)) else none
def modD : D → D → Option D := intOp fun i j => if 0 < j then some (.int (i % j)) else none
def powD : D → D → Option D := intOp fun i j => if CPow i j then some (.int (i ^ j.toNat)) else none
def addI : D → D → Option D := intOp fun i j => some (.int (i + j))
theorem d_mul : OpD K (rI CMul fun i j => .int (i * j)) mulD := opd_int fun i j F => .int _
theorem d_fdiv : OpD K (rI CDivW fun i j => .int (i / j)) fdivD := opd_int fun i j F => .int _
theorem d_mod : OpD K (rI (fun _ j => 0 < j) fun i j => .int (i % j)) modD := opd_int fun i j F => .int _
theorem d_pow : OpD K (rI CPow fun i j => .int (i ^ j.toNat)) powD := opd_int fun i j F => .int _
theorem d_addI : OpD K (rI0 fun i j => .int (i + j)) addI := opd_int0 fun i j F => .int _
def rAddS : R2 := fun x y H Q => ∃ i j, x = .str i ∧ y = .str j ∧ i.length + j.length ≤ sizeLine ∧ Q (.str (i ++ j)) H
def addS : D → D → Option D
  | .str a, .str b => if a.length + b.length ≤ sizeLine then some (.str (a ++ b)) else none
  | _, _ => none
theorem d_addS : OpD K rAddS addS := fun Z H a b c x y Q t ha hb eq q => by
  unfold addS at eq
  split at eq
  · rename_i i j
    split at eq
    · rename_i hc; cases eq; exact ⟨i, j, ha.str, hb.str, hc, same_ok q (.str _)⟩
    · cases eq
  · cases eq
def addT : D → D → Option D
  | .tup a, .tup b => if a.length + b.length ≤ sizeLine then some (.tup (a ++ b)) else none
  | _, _ => none
theorem DV.tupR {Z : List Addr} {H : Hp} {v : V} {xs : List D} (h : DV K Z H (.tup xs) v) : DR K (mask H Z) (.tup xs) v := by cases h with | d h => exact h
theorem d_addT : OpD K (rCatA K) addT := fun Z H a b c x y Q t ha hb eq q => by
  unfold addT at eq
  split at eq
  · rename_i xs ys
    split at eq
    · rename_i hc
      cases eq
      obtain ⟨p, vs, rfl, h1, r1⟩ := ha.tup
      obtain ⟨p2, ws, rfl, h2, r2⟩ := hb.tup
      refine ⟨p, p2, vs, ws, rfl, rfl, SqT.of h1, SqT.of h2, by rw [← r1.len, ← r2.len]; exact hc, fun e => ?_, fun e1 e2 => ?_, fun e1 e2 p hp => ?_⟩
      · subst e; cases r1; exact same_ok q hb.tupR
      · subst e2; cases r2; rw [List.append_nil] at q; exact same_ok q ha.tupR
      · obtain ⟨s, r⟩ := new_tup t hp (DRs.append r2 r1)
        exact q _ _ s r
    · cases eq
  · cases eq
def addLL : D → D → Option (List D)
  | .lst a, .lst b => if a.length + b.length ≤ sizeLine then some (a ++ b) else none
  | _, _ => none
theorem l_add : OpL K rCat addLL := fun Z H a b c x y Q t ha hb eq q => by
  unfold addLL at eq
  split at eq
  · rename_i xs ys
    split at eq
    · rename_i hc
      cases eq
      obtain ⟨p, vs, rfl, h1, r1⟩ := ha.list
      obtain ⟨p2, ws, rfl, h2, r2⟩ := hb.list
      exact ⟨p, p2, vs, ws, rfl, rfl, h1, h2, by rw [← r1.len, ← r2.len]; exact hc, fun p hp => q p _ hp (DRs.append r2 r1)⟩
    · cases eq
  · cases eq
def addL (a b : D) : Option D := (addLL a b).map .lst
theorem d_addL : OpD K rCat addL := fun Z H a b c x y Q t ha hb eq q => by
  unfold addL at eq
  obtain ⟨zs, h1, rfl⟩ := Option.map_eq_some_iff.mp eq
  exact l_add Z H a b zs x y Q t ha hb h1 fun p vs hp r => by
    obtain ⟨s, r⟩ := new_lst t hp r
    exact q _ _ s r
def addD (a b : D) : Option D := (addI a b).or ((addS a b).or ((addT a b).or (addL a b)))
abbrev rAddD (K : PySem.W.Frag) : R2 := fun x y H Q => rI0 (fun i j => .int (i + j)) x y H Q ∨ rAddS x y H Q ∨ rCatA K x y H Q ∨ rCat x y H Q
theorem d_add : OpD K (rAddD K) addD := opd_or d_addI (opd_or d_addS (opd_or d_addT d_addL))
theorem o_add : OpR X (binaryOp .Add) (rAddD X.K) := op_add.or (op_add_str.or (op_catA.or op_cat))
@[simp] theorem addD_int (i j : Int) : addD (.int i) (.int j) = some (.int (i + j)) := rfl
theorem addD_lst {a b : List D} (h : a.length + b.length ≤ sizeLine) : addD (.lst a) (.lst b) = some (.lst (a ++ b)) := by simp [addD, addI, intOp, addS, addT, addL, addLL, h]
def ltI : D → D → Option D := intOp fun i j => some (.bl (decide (i < j)))
def leI : D → D → Option D := intOp fun i j => some (.bl (decide (i ≤ j)))
def gtI : D → D → Option D := intOp fun i j => some (.bl (decide (j < i)))
def geI : D → D → Option D := intOp fun i j => some (.bl (decide (j ≤ i)))
theorem d_lt : OpD K (rI0 fun i j => .bl (decide (i < j))) ltI := opd_int0 fun i j F => .bl _
theorem d_le : OpD K (rI0 fun i j => .bl (decide (i ≤ j))) leI := opd_int0 fun i j F => .bl _
theorem d_gt : OpD K (rI0 fun i j => .bl (decide (j < i))) gtI := opd_int0 fun i j F => .bl _
theorem d_ge : OpD K (rI0 fun i j => .bl (decide (j ≤ i))) geI := opd_int0 fun i j F => .bl _
mutual
def toPy : D → Option PyData
  | .non => some .none
  | .bl b => some (.bool b)
  | .int i => some (.int i)
  | .str x => some (.str x)
  | .tup xs => (toPys xs).map .tuple
  | .lst xs => (toPys xs).map .list
  | .nt xs => (toPys xs).map .tuple
  | _ => none
def toPys : List D → Option (List PyData)
  | [] => some []
  | d :: ds => match toPy d, toPys ds with
    | some p, some ps => some (p :: ps)
    | _, _ => none
end
mutual
theorem DR.dp {F : Hp} : ∀ (d : D) (v : V) (p : PyData), DR K F d v → toPy d = some p → Dp K F v p
  | .non, _, _, h, e => by cases h; cases e; exact .non
  | .bl b, _, _, h, e => by cases h; cases e; exact .bl b
  | .int b, _, _, h, e => by cases h; cases e; exact .int b
  | .str b, _, _, h, e => by cases h; cases e; exact .str b
  | .tup xs, _, _, h, e => by
    cases h with | tup q r =>
      simp only [toPy, Option.map_eq_some_iff] at e
      obtain ⟨ps, h1, rfl⟩ := e
      exact .tup (SqT.of q) (DRs.dp xs _ ps r h1)
  | .lst xs, _, _, h, e => by
    cases h with | lst q r =>
      simp only [toPy, Option.map_eq_some_iff] at e
      obtain ⟨ps, h1, rfl⟩ := e
      exact .lst (SqL.of q) (DRs.dp xs _ ps r h1)
  | .ty _, _, _, _, e => by cases e
  | .gl _, _, _, _, e => by cases e
  | .fl _, _, _, _, e => by cases e
  | .dK _, _, _, _, e => by cases e
  | .dT _, _, _, _, e => by cases e
  | .obj _ _, _, _, _, e => by cases e
  | .exn _ _ _ _, _, _, _, e => by cases e
  | .err _ _, _, _, _, e => by cases e
  | .nK _, _, _, _, e => by cases e
  | .nt xs, _, _, h, e => by
    cases h with | nt q n r =>
      simp only [toPy, Option.map_eq_some_iff] at e
      obtain ⟨ps, h1, rfl⟩ := e
      exact .tup (.inl (.inr ⟨_, q⟩)) (DRs.dp xs _ ps r h1)
theorem DRs.dp {F : Hp} : ∀ (d : List D) (v : List V) (p : List PyData), DRs K F d v → toPys d = some p → DpAll K F v p
  | [], _, _, h, e => by cases h; cases e; exact .nil
  | d :: ds, _, _, h, e => by
    cases h with | cons a b =>
      simp only [toPys] at e
      split at e
      · rename_i p ps h1 h2
        cases e
        exact .cons (DR.dp d _ p a h1) (DRs.dp ds _ ps b h2)
      · cases e
end
mutual
theorem Dp.mono {F F' : Hp} (e : Same F F') : ∀ (p : PyData) (v : V), Dp K F v p → Dp K F' v p
  | .none, _, h => by cases h; exact .non
  | .bool b, _, h => by cases h; exact .bl b
  | .int i, _, h => by cases h; exact .int i
  | .str x, _, h => by cases h; exact .str x
  | .tuple ds, _, h => by cases h with | tup q r => exact .tup (same_t e q) (DpAll.mono e ds _ r)
  | .list ds, _, h => by cases h with | lst q r => exact .lst (e.seq q) (DpAll.mono e ds _ r)
  | .dict _, _, h => by cases h
theorem DpAll.mono {F F' : Hp} (e : Same F F') : ∀ (p : List PyData) (v : List V), DpAll K F v p → DpAll K F' v p
  | [], _, h => by cases h; exact .nil
  | d :: ds, _, h => by cases h with | cons a b => exact .cons (Dp.mono e d _ a) (DpAll.mono e ds _ b)
end
theorem DV.dp {Z : List Addr} {H : Hp} {d : D} {v : V} {p : PyData} (h : DV K Z H d v) (e : toPy d = some p) : Dp K H v p := by
  cases h with
  | d h => exact Dp.mono (mask_same _ _) _ _ (DR.dp d v p h e)
  | lst q r =>
    simp only [toPy, Option.map_eq_some_iff] at e
    obtain ⟨ps, h1, rfl⟩ := e
    exact .lst (SqL.of q) (DpAll.mono (mask_same _ _) _ _ (DRs.dp _ _ ps r h1))
  | dK q r => cases e
  | dT q r => cases e
/-- == -/
def eqL (a b : D) : Option Bool := match toPy a, toPy b with
  | some p, some q => if SeqAt.shaped p = true ∧ SeqAt.shaped q = true then some (PyData.eqv p q) else none
  | _, _ => none
def eqB : D → D → Option Bool
  | .int i, .int j => some (decide (i = j))
  | .str i, .str j => some (decide (i = j))
  | .bl i, .bl j => some (decide (i = j))
  | .non, .non => some true
  | .non, .int _ => some false
  | .int _, .non => some false
  | .non, .str _ => some false
  | .str _, .non => some false
  | .non, .bl _ => some false
  | .bl _, .non => some false
  | .int _, .str _ => some false
  | .str _, .int _ => some false
  | .bl _, .str _ => some false
  | .str _, .bl _ => some false
  | .lst xs, .lst ys => if xs.length = ys.length then eqL (.lst xs) (.lst ys) else some false
  | a, b => eqL a b
def eqD (a b : D) : Option D := (eqB a b).map .bl
def neD (a b : D) : Option D := (eqB a b).map fun b => .bl !b
def rLen (K : PySem.W.Frag) (k : Bool) : R2 := fun x y H Q => ∃ a b xs ys, x = .ref a ∧ y = .ref b ∧ SqL K H a xs ∧ SqL K H b ys ∧ xs.length ≠ ys.length ∧ Q (.bl k) H
theorem len_size {K : PySem.W.Frag} {xs ys : List V} {us vs : List Value} (r1 : Vals xs us) (r2 : Vals ys vs) (h : xs.length ≠ ys.length) : (us.toArray.size != vs.toArray.size) = true := by
  rw [List.size_toArray, List.size_toArray, ← r1.length, ← r2.length]
  simpa using h
theorem op_eqLen (hu : X.A.units + 64 < cLine) : OpR X (compareOp .Eq) (rLen X.K false) := by
  intro pins s σ H x y v u Q I rx ry ⟨a, b, xs, ys, ex, ey, h1, h2, hn, q⟩
  subst ex ey
  cases (show v = Value.ref a from rx)
  cases (show u = Value.ref b from ry)
  obtain ⟨us, r1, p1, _⟩ := I.list h1
  obtain ⟨vs, r2, p2, _⟩ := I.list h2
  exact SeqAt.eq_list_lengthsAt p1.isList p2.isList (len_size (K := X.K) r1 r2 hn) (by omega) ⟨.bl false, H, I, rfl, q⟩
theorem op_neLen (hu : X.A.units + 64 < cLine) : OpR X (compareOp .NotEq) (rLen X.K true) := by
  intro pins s σ H x y v u Q I rx ry ⟨a, b, xs, ys, ex, ey, h1, h2, hn, q⟩
  subst ex ey
  cases (show v = Value.ref a from rx)
  cases (show u = Value.ref b from ry)
  obtain ⟨us, r1, p1, _⟩ := I.list h1
  obtain ⟨vs, r2, p2, _⟩ := I.list h2
  exact SeqAt.RcNeAt.lists_lengths p1.isList p2.isList (len_size (K := X.K) r1 r2 hn) (by omega) _ _ _ _ ⟨.bl true, H, I, rfl, q⟩
theorem eqL_ok {Z : List Addr} {H : Hp} {a b : D} {x y : V} {k : Bool} (ha : DV K Z H a x) (hb : DV K Z H b y) (e : eqL a b = some k) : ∃ d e, Dp K H x d ∧ Dp K H y e ∧ SeqAt.shaped d = true ∧ SeqAt.shaped e = true ∧ PyData.eqv d e = k := by
  unfold eqL at e
  split at e
  · rename_i p q h1 h2
    split at e
    · rename_i hs; cases e; exact ⟨p, q, ha.dp h1, hb.dp h2, hs.1, hs.2, rfl⟩
    · cases e
  · cases e
theorem eqB_ok {Z : List Addr} {H : Hp} {a b : D} {x y : V} {k : Bool} (ha : DV K Z H a x) (hb : DV K Z H b y) (e : eqB a b = some k) : (scal x y = true ∧ decide (x = y) = k) ∨ (∃ d e, Dp K H x d ∧ Dp K H y e ∧ SeqAt.shaped d = true ∧ SeqAt.shaped e = true ∧ PyData.eqv d e = k) ∨
    (k = false ∧ ∃ a b xs ys, x = .ref a ∧ y = .ref b ∧ SqL K H a xs ∧ SqL K H b ys ∧ xs.length ≠ ys.length) := by
  unfold eqB at e
  split at e
  · cases e; rw [ha.int, hb.int]; exact .inl ⟨rfl, by simp⟩
  · cases e; rw [ha.str, hb.str]; exact .inl ⟨rfl, by simp⟩
  · cases e; rw [ha.bl, hb.bl]; exact .inl ⟨rfl, by simp⟩
  · cases e; rw [ha.non, hb.non]; exact .inl ⟨rfl, by simp⟩
  · cases e; rw [ha.non, hb.int]; exact .inl ⟨rfl, by simp⟩
  · cases e; rw [ha.int, hb.non]; exact .inl ⟨rfl, by simp⟩
  · cases e; rw [ha.non, hb.str]; exact .inl ⟨rfl, by simp⟩
  · cases e; rw [ha.str, hb.non]; exact .inl ⟨rfl, by simp⟩
  · cases e; rw [ha.non, hb.bl]; exact .inl ⟨rfl, by simp⟩
  · cases e; rw [ha.bl, hb.non]; exact .inl ⟨rfl, by simp⟩
  · cases e; rw [ha.int, hb.str]; exact .inl ⟨rfl, by simp⟩
  · cases e; rw [ha.str, hb.int]; exact .inl ⟨rfl, by simp⟩
  · cases e; rw [ha.bl, hb.str]; exact .inl ⟨rfl, by simp⟩
  · cases e; rw [ha.str, hb.bl]; exact .inl ⟨rfl, by simp⟩
  · rename_i xs ys
    split at e
    · exact .inr (.inl (eqL_ok ha hb e))
    · rename_i hn
      cases e
      obtain ⟨p, us, rfl, h1, h2⟩ := ha.list
      obtain ⟨q, vs, rfl, h3, h4⟩ := hb.list
      exact .inr (.inr ⟨rfl, p, q, us, vs, rfl, rfl, SqL.of h1, SqL.of h3, by rw [← h2.len, ← h4.len]; exact hn⟩)
  · exact .inr (.inl (eqL_ok ha hb e))
abbrev rEqX (K : PySem.W.Frag) : R2 := fun x y H Q => rEq x y H Q ∨ rEqD K x y H Q ∨ rLen K false x y H Q
abbrev rNeX (K : PySem.W.Frag) : R2 := fun x y H Q => rNe x y H Q ∨ rNeD K x y H Q ∨ rLen K true x y H Q
theorem d_eq : OpD K (rEqX K) eqD := fun Z H a b c x y Q t ha hb eq q => by
  obtain ⟨k, h1, rfl⟩ := Option.map_eq_some_iff.mp eq
  rcases eqB_ok ha hb h1 with ⟨h2, h3⟩ | ⟨d, e, h2, h3, h4, h5, h6⟩ | ⟨rfl, p, r, xs, ys, h2, h3, h4, h5, h6⟩
  · exact .inl ⟨h2, by rw [h3]; exact same_ok q (.bl _)⟩
  · exact .inr (.inl ⟨d, e, h2, h3, h4, h5, by rw [h6]; exact same_ok q (.bl _)⟩)
  · exact .inr (.inr ⟨p, r, xs, ys, h2, h3, h4, h5, h6, same_ok q (.bl _)⟩)
theorem d_ne : OpD K (rNeX K) neD := fun Z H a b c x y Q t ha hb eq q => by
  obtain ⟨k, h1, rfl⟩ := Option.map_eq_some_iff.mp eq
  rcases eqB_ok ha hb h1 with ⟨h2, h3⟩ | ⟨d, e, h2, h3, h4, h5, h6⟩ | ⟨rfl, p, r, xs, ys, h2, h3, h4, h5, h6⟩
  · exact .inl ⟨h2, by rw [h3]; exact same_ok q (.bl _)⟩
  · exact .inr (.inl ⟨d, e, h2, h3, h4, h5, by rw [h6]; exact same_ok q (.bl _)⟩)
  · exact .inr (.inr ⟨p, r, xs, ys, h2, h3, h4, h5, h6, same_ok q (.bl _)⟩)
theorem o_eq (hu : X.A.units + 64 < cLine) : OpR X (compareOp .Eq) (rEqX X.K) := op_eq.or ((op_eqD hu).or (op_eqLen hu))
theorem o_ne (hu : X.A.units + 64 < cLine) : OpR X (compareOp .NotEq) (rNeX X.K) := op_ne.or ((op_neD hu).or (op_neLen hu))
def ixD : D → D → Option D
  | .lst xs, .int i => atI xs i
  | .tup xs, .int i => atI xs i
  | .fl xs, .int i => atI xs i
  | .str z, .int i => if z.length ≤ sizeLine then (atI z.cps.toList i).map fun c => .str ⟨#[c]⟩ else none
  | _, _ => none
theorem DRs.atI {F : Hp} {xs : List D} {vs : List V} (h : DRs K F xs vs) {i : Int} {d : D} (e : atI xs i = some d) : ∃ v, L2.atI vs i = some v ∧ DR K F d v := by
  unfold L2.atI at e ⊢
  rw [← h.len]
  cases q : ixN xs.length i with
  | none => rw [q] at e; cases e
  | some j =>
    rw [q] at e
    obtain ⟨v, h1, h2⟩ := h.get (i := j) e
    exact ⟨v, h1, h2⟩
theorem d_ix : OpD K (rIx K) ixD := fun Z H a b c x y Q t ha hb eq q => by
  unfold ixD at eq
  split at eq
  · rename_i xs i
    obtain ⟨p, vs, rfl, h1, r1⟩ := ha.list
    obtain ⟨v, h2, h3⟩ := r1.atI eq
    exact .inl ⟨p, vs, i, v, rfl, hb.int, SqL.of h1, h2, same_ok q h3⟩
  · rename_i xs i
    obtain ⟨p, vs, rfl, h1, r1⟩ := ha.tup
    obtain ⟨v, h2, h3⟩ := r1.atI eq
    exact .inr (.inl ⟨p, vs, i, v, rfl, hb.int, SqT.of h1, h2, same_ok q h3⟩)
  · rename_i xs i
    obtain ⟨p, vs, rfl, h1, r1⟩ := ha.flist
    obtain ⟨v, h2, h3⟩ := r1.atI eq
    exact .inl ⟨p, vs, i, v, rfl, hb.int, h1, h2, same_ok q h3⟩
  · rename_i z i
    split at eq
    · rename_i hz
      obtain ⟨c, h1, rfl⟩ := Option.map_eq_some_iff.mp eq
      exact .inr (.inr ⟨z, i, c, ha.str, hb.int, hz, h1, same_ok q (.str _)⟩)
    · cases eq
  · cases eq
theorem dvs1 {Z : List Addr} {H : Hp} {a : D} {xs : List V} (h : DVs K Z H [a] xs) : ∃ x, xs = [x] ∧ DV K Z H a x := by
  cases h with | cons h r => cases r; exact ⟨_, rfl, h⟩
theorem dvs2 {Z : List Addr} {H : Hp} {a b : D} {xs : List V} (h : DVs K Z H [a, b] xs) : ∃ x y, xs = [x, y] ∧ DV K Z H a x ∧ DV K Z H b y := by
  cases h with | cons h r => obtain ⟨y, rfl, h2⟩ := dvs1 r; exact ⟨_, y, rfl, h, h2⟩
def one (g : D → Option D) : List D → Option D
  | [a] => g a
  | _ => none
def lenD : D → Option D
  | .str y => if y.length ≤ sizeLine then some (.int y.length) else none
  | .lst xs => some (.int xs.length)
  | .fl xs => some (.int xs.length)
  | .tup xs => some (.int xs.length)
  | .nt xs => some (.int xs.length)
  | _ => none
theorem c_len : CallD K (fun xs H Q => ∃ x n, xs = [x] ∧ LenV K x H n ∧ Q (.int n) H) (one lenD) := fun Z H as c xs Q t ha eq q => by
  unfold one at eq
  split at eq
  · rename_i a
    obtain ⟨x, rfl, h⟩ := dvs1 ha
    cases a with
    | str y =>
      simp only [lenD] at eq
      split at eq
      · rename_i hl; cases eq; exact ⟨x, y.length, rfl, by rw [h.str]; exact ⟨hl, rfl⟩, same_ok q (.int _)⟩
      · cases eq
    | lst ys => obtain ⟨p, vs, rfl, h1, r1⟩ := h.list; cases eq; exact ⟨_, ys.length, rfl, .inl ⟨vs, SqL.of h1, r1.len⟩, same_ok q (.int _)⟩
    | fl ys => obtain ⟨p, vs, rfl, h1, r1⟩ := h.flist; cases eq; exact ⟨_, ys.length, rfl, .inl ⟨vs, h1, r1.len⟩, same_ok q (.int _)⟩
    | tup ys => obtain ⟨p, vs, rfl, h1, r1⟩ := h.tup; cases eq; exact ⟨_, ys.length, rfl, .inr ⟨vs, SqT.of h1, r1.len⟩, same_ok q (.int _)⟩
    | nt ys => obtain ⟨p, vs, o, rfl, h1, _, r1⟩ := h.ntp; cases eq; exact ⟨_, ys.length, rfl, .inr ⟨vs, .inl (.inr ⟨_, h1⟩), r1.len⟩, same_ok q (.int _)⟩
    | _ => cases eq
  · cases eq
def absD : D → Option D
  | .int i => some (.int (if i < 0 then -i else i))
  | _ => none
theorem c_abs : CallD K (fun xs H Q => ∃ i, xs = [.int i] ∧ Q (.int (if i < 0 then -i else i)) H) (one absD) := fun Z H as c xs Q t ha eq q => by
  unfold one at eq
  split at eq
  · rename_i a
    obtain ⟨x, rfl, h⟩ := dvs1 ha
    cases a with
    | int i => cases eq; exact ⟨i, by rw [h.int], same_ok q (.int _)⟩
    | _ => cases eq
  · cases eq
def intD : D → Option D
  | .int i => some (.int i)
  | .bl k => some (.int (if k then 1 else 0))
  | _ => none
theorem c_int : CallD K (fun xs H Q => (∃ i, xs = [.int i] ∧ Q (.int i) H) ∨ ∃ k, xs = [.bl k] ∧ Q (.int (if k then 1 else 0)) H) (one intD) := fun Z H as c xs Q t ha eq q => by
  unfold one at eq
  split at eq
  · rename_i a
    obtain ⟨x, rfl, h⟩ := dvs1 ha
    cases a with
    | int i => cases eq; exact .inl ⟨i, by rw [h.int], same_ok q (.int _)⟩
    | bl i => cases eq; exact .inr ⟨i, by rw [h.bl], same_ok q (.int _)⟩
    | _ => cases eq
  · cases eq
def boolD : D → Option D
  | .int i => some (.bl (i != 0))
  | .bl k => some (.bl k)
  | _ => none
theorem c_bool : CallD K (fun xs H Q => (∃ i, xs = [.int i] ∧ Q (.bl (i != 0)) H) ∨ ∃ k, xs = [.bl k] ∧ Q (.bl k) H) (one boolD) := fun Z H as c xs Q t ha eq q => by
  unfold one at eq
  split at eq
  · rename_i a
    obtain ⟨x, rfl, h⟩ := dvs1 ha
    cases a with
    | int i => cases eq; exact .inl ⟨i, by rw [h.int], same_ok q (.bl _)⟩
    | bl i => cases eq; exact .inr ⟨i, by rw [h.bl], same_ok q (.bl _)⟩
    | _ => cases eq
  · cases eq
def max2 : List D → Option D
  | [.int i, .int j] => some (.int (if j > i then j else i))
  | _ => none
def min2 : List D → Option D
  | [.int i, .int j] => some (.int (if j < i then j else i))
  | _ => none
theorem c_max2 : CallD K (fun xs H Q => ∃ i j, xs = [.int i, .int j] ∧ Q (.int (if j > i then j else i)) H) max2 := fun Z H as c xs Q t ha eq q => by
  unfold max2 at eq
  split at eq
  · rename_i i j
    obtain ⟨x, y, rfl, h1, h2⟩ := dvs2 ha
    cases eq
    exact ⟨i, j, by rw [h1.int, h2.int], same_ok q (.int _)⟩
  · cases eq
theorem c_min2 : CallD K (fun xs H Q => ∃ i j, xs = [.int i, .int j] ∧ Q (.int (if j < i then j else i)) H) min2 := fun Z H as c xs Q t ha eq q => by
  unfold min2 at eq
  split at eq
  · rename_i i j
    obtain ⟨x, y, rfl, h1, h2⟩ := dvs2 ha
    cases eq
    exact ⟨i, j, by rw [h1.int, h2.int], same_ok q (.int _)⟩
  · cases eq
/-- list(..), tuple(..) -/
def listL : List D → Option (List D)
  | [.lst xs] => some xs
  | [.fl xs] => some xs
  | [.tup xs] => some xs
  | _ => none
theorem cl_list : CallL K (fun xs H Q => ∃ p ys, xs = [.ref p] ∧ (SqL K H p ys ∨ SqT K H p ys) ∧ ∀ l, H l = none → Q (.ref l) (upd H l (.lst ys))) listL := fun Z H as c xs Q t ha eq q => by
  unfold listL at eq
  split at eq
  · obtain ⟨x, rfl, h⟩ := dvs1 ha; cases eq; obtain ⟨p, vs, rfl, h1, r1⟩ := h.list; exact ⟨p, vs, rfl, .inl (SqL.of h1), fun l hl => q l vs hl r1⟩
  · obtain ⟨x, rfl, h⟩ := dvs1 ha; cases eq; obtain ⟨p, vs, rfl, h1, r1⟩ := h.flist; exact ⟨p, vs, rfl, .inl h1, fun l hl => q l vs hl r1⟩
  · obtain ⟨x, rfl, h⟩ := dvs1 ha; cases eq; obtain ⟨p, vs, rfl, h1, r1⟩ := h.tup; exact ⟨p, vs, rfl, .inr (SqT.of h1), fun l hl => q l vs hl r1⟩
  · cases eq
def tupD : D → Option D
  | .lst xs => some (.tup xs)
  | .fl xs => some (.tup xs)
  | .tup xs => some (.tup xs)
  | _ => none
theorem c_tuple : CallD K (fun xs H Q => ∃ p ys, xs = [.ref p] ∧ ((SqL K H p ys ∧ ∀ l, H l = none → Q (.ref l) (upd H l (.tup ys))) ∨ (SqT K H p ys ∧ Q (.ref p) H))) (one tupD) := fun Z H as c xs Q t ha eq q => by
  unfold one at eq
  split at eq
  · rename_i a
    obtain ⟨x, rfl, h⟩ := dvs1 ha
    have new : ∀ {vs : List V} {ys : List D}, DRs K (mask H Z) ys vs → c = .tup ys → ∀ l, H l = none → Q (.ref l) (upd H l (.tup vs)) := fun r e l hl => by
      obtain ⟨s, r⟩ := new_tup t hl r
      exact q _ _ s (by rw [e]; exact r)
    cases a with
    | lst ys => cases eq; obtain ⟨p, vs, rfl, h1, r1⟩ := h.list; exact ⟨p, vs, rfl, .inl ⟨SqL.of h1, new r1 rfl⟩⟩
    | fl ys => cases eq; obtain ⟨p, vs, rfl, h1, r1⟩ := h.flist; exact ⟨p, vs, rfl, .inl ⟨h1, new r1 rfl⟩⟩
    | tup ys =>
      cases eq
      have hr := h.tupR
      obtain ⟨p, vs, rfl, h1, r1⟩ := h.tup
      exact ⟨p, vs, rfl, .inr ⟨SqT.of h1, same_ok q hr⟩⟩
    | _ => cases eq
  · cases eq
/-- repr -/
def reprD (d : D) : Option D := match toPy d with
  | some p => if p.showable = true ∧ p.shown.length ≤ sizeLine ∧ p.depth ≤ 180 then some (.str p.shown) else none
  | none => none
theorem c_repr : CallD K (rRepr K) (one reprD) := fun Z H as c xs Q t ha eq q => by
  unfold one at eq
  split at eq
  · rename_i a
    obtain ⟨x, rfl, h⟩ := dvs1 ha
    unfold reprD at eq
    split at eq
    · rename_i p hp
      split at eq
      · rename_i hs; cases eq; exact ⟨x, p, rfl, h.dp hp, hs.1, hs.2.1, hs.2.2, same_ok q (.str _)⟩
      · cases eq
    · cases eq
  · cases eq
/-- isinstance with built-in classes -/
def tyD : D → Option String
  | .non => some "NoneType"
  | .bl _ => some "bool"
  | .int _ => some "int"
  | .str _ => some "str"
  | .tup _ => some "tuple"
  | .lst _ => some "list"
  | .dK _ => some "dict"
  | .dT _ => some "dict"
  | _ => none
def isTy (t n : String) : Bool := t == n || (t == "bool" && n == "int")
def tys : List String := ["NoneType", "bool", "int", "str", "tuple", "list", "dict"]
theorem kit_is : ∀ t ∈ tys, ∀ n ∈ tys, kitB t n = some (isTy t n) := by decide +kernel
theorem tyD_mem {d : D} {t : String} (e : tyD d = some t) : t ∈ tys := by cases d <;> cases e <;> decide
theorem tyD_ok {Z : List Addr} {H : Hp} {d : D} {x : V} {t : String} (h : DV K Z H d x) (e : tyD d = some t) : TyX K H x (.type t) := by
  cases h with
  | d h => cases h with
    | non => cases e; exact .base .non
    | bl b => cases e; exact .base (.bl b)
    | int b => cases e; exact .base (.int b)
    | str b => cases e; exact .base (.str b)
    | tup q r => cases e; exact .base (.tup (mask_same _ _ _ _ q))
    | lst q r => cases e; exact .base (.lst (mask_same _ _ _ _ q))
    | dK q r => cases e; exact .base (.dK (mask_same _ _ _ _ q))
    | dT q r => cases e; exact .base (.dT (mask_same _ _ _ _ q))
    | _ => cases e
  | lst q r => cases e; exact .base (.lst q)
  | dK q r => cases e; exact .base (.dK q)
  | dT q r => cases e; exact .base (.dT q)
def isiD : List D → Option D
  | [d, .ty n] => match tyD d with
    | some t => if n ∈ tys then some (.bl (isTy t n)) else none
    | none => none
  | _ => none
theorem c_isi : CallD K (rIsi K) isiD := fun Z H as c xs Q t ha eq q => by
  unfold isiD at eq
  split at eq
  · rename_i d n
    obtain ⟨x, y, rfl, h1, h2⟩ := dvs2 ha
    split at eq
    · rename_i ty hty
      split at eq
      · rename_i hn
        cases eq
        cases h2 with | d h2 => cases h2 with | ty => exact ⟨x, _, _, _, _, rfl, .ty n, tyD_ok h1 hty, kit_ty (kit_is ty (tyD_mem hty) n hn), same_ok q (.bl _)⟩
      · cases eq
    · cases eq
  · cases eq
/-- .. with a tuple of two -/
def isiD2 : List D → Option D
  | [d, .tup [.ty n, .ty m]] => match tyD d with
    | some t => if n ∈ tys ∧ m ∈ tys then some (.bl (isTy t n || isTy t m)) else none
    | none => none
  | _ => none
theorem c_isi2 : CallD K (rIsiT K) isiD2 := fun Z H as c xs Q t ha eq q => by
  unfold isiD2 at eq
  split at eq
  · rename_i d n m
    obtain ⟨x, y, rfl, h1, h2⟩ := dvs2 ha
    split at eq
    · rename_i ty hty
      split at eq
      · rename_i hn
        cases eq
        obtain ⟨a, vs, rfl, h3, r⟩ := h2.tup
        cases r with | cons r1 r => cases r with | cons r2 r => cases r with | nil => cases r1 with | ty => cases r2 with | ty =>
          refine ⟨x, a, _, _, [.type n, .type m], _, rfl, h3, .cons (.ty n) (.cons (.ty m) .nil), tyD_ok h1 hty, ?_, same_ok q (.bl _)⟩
          refine kitAny_cons (kit_ty (kit_is ty (tyD_mem hty) n hn.1)) (fun e => ?_) (fun e => by rw [e]; rfl)
          rw [e, Bool.false_or]
          exact kitAny_cons (kit_ty (kit_is ty (tyD_mem hty) m hn.2)) (fun e => by rw [e]; rfl) (fun e => e)
      · cases eq
    · cases eq
  · cases eq
/-- all, any, sum of a list -/
def bools : List D → Option (List Bool)
  | [] => some []
  | .bl b :: r => (bools r).map (b :: ·)
  | _ => none
theorem bools_ok {F : Hp} : ∀ {xs : List D} {vs : List V} {bs : List Bool}, DRs K F xs vs → bools xs = some bs → vs = bs.map V.bl
  | _, _, _, .nil, e => by cases e; rfl
  | _, _, _, .cons a b, e => by
    cases a <;> simp only [bools] at e <;> first | cases e | skip
    obtain ⟨r, h1, rfl⟩ := Option.map_eq_some_iff.mp e
    rw [bools_ok b h1]; rfl
def allD : D → Option D
  | .lst xs => (bools xs).map fun bs => .bl (bs.all id)
  | _ => none
theorem c_all : CallD K (rAll K) (one allD) := fun Z H as c xs Q t ha eq q => by
  unfold one at eq
  split at eq
  · rename_i a
    obtain ⟨x, rfl, h⟩ := dvs1 ha
    cases a with
    | lst ys =>
      obtain ⟨p, vs, rfl, h1, r1⟩ := h.list
      obtain ⟨bs, h2, rfl⟩ := Option.map_eq_some_iff.mp eq
      exact ⟨p, bs, rfl, by rw [← bools_ok r1 h2]; exact SqL.of h1, same_ok q (.bl _)⟩
    | _ => cases eq
  · cases eq
def negD : D → Option D
  | .int i => some (.int (-i))
  | _ => none
theorem u_neg : UnD K (rU fun i => .int (-i)) negD := fun Z H a c x Q t ha eq q => by
  cases a with
  | int i => cases eq; exact ⟨i, ha.int, same_ok q (.int _)⟩
  | _ => cases eq
end
end TT
namespace TT
open PySem L2
variable [TB]
inductive Caps (X : Cx) : List Pattern → List Str → List Nat → Prop
  | nil : Caps X [] [] []
  | cons {ps : List Pattern} {ns : List Str} {is : List Nat} {n : Str} {i : Nat} {pos : Pos} : X.N[i]? = some n → Loc X.env.scope n → (X.fn n = true ∨ X.env.scope.names.lookup n = some .local) → Caps X ps ns is → Caps X (.MatchAs none (some n) pos :: ps) (n :: ns) (i :: is)
theorem Caps.len {X : Cx} : ∀ {ps : List Pattern} {ns : List Str} {is : List Nat}, Caps X ps ns is → ns.length = ps.length ∧ is.length = ps.length
  | _, _, _, .nil => ⟨rfl, rfl⟩
  | _, _, _, .cons _ _ _ h => ⟨congrArg (· + 1) h.len.1, congrArg (· + 1) h.len.2⟩
/-- the cases of a match, by the subject -/
abbrev MM := D → MS
section
variable {X : Cx} {W : WX} {body : List Stmt} {m : MS} {r : MM} {rest : List MatchCase}
/-- match e: -/
def mMatch (ma : ME) (r : MM) : MS := fun ρ μ => (ma ρ μ).stm ρ fun v μ1 => match v with
  | .d d => r d ρ μ1
  | .ref _ => .bad
end
end TT
namespace TT
open PySem L2
variable [TB]
theorem Sta.put {K : PySem.W.Frag} {Z ι : List Addr} {μ : List MO} {H : Hp} (s : Sta K Z ι μ H) {n : Nat} {a : Addr} {o : MO} {ho : HO} (h : ι[n]? = some a) (r : RO K (mask H Z) ι o ho) : Sta K Z ι (μ.set n o) (upd H a ho) ∧ Ext Z ι H Z ι (upd H a ho) := by
  have hz : a ∈ Z := s.sub a (List.mem_of_getElem? h)
  have ms : Same (mask H Z) (mask (upd H a ho) Z) := fun b u e => by
    obtain ⟨n1, e1⟩ := of_mask e
    exact mask_in n1 ((upd_ne fun q => n1 (by rw [q]; exact hz)).trans e1) (mask_nt e)
  have hl0 : n < μ.length := by rw [← s.len]; exact (List.getElem?_eq_some_iff.mp h).1
  obtain ⟨o0, ho0⟩ : ∃ o0, μ[n]? = some o0 := ⟨μ[n], by simp [hl0]⟩
  obtain ⟨h0, e0, r0⟩ := s.obj n a o0 h ho0
  refine ⟨⟨s.sub, s.nd, by rw [List.length_set]; exact s.len, fun b hb => ?_, tabs_upd s.tab e0 (fun ps z => ?_) (fun c q z => ?_), fun k b o' h1 h2 => ?_⟩, ⟨s.sub, fun _ h => h, fun _ _ h => h, fun b u nb _ e => (upd_ne fun q => nb (by rw [q]; exact List.mem_of_getElem? h)).trans e, fun b ps e => ⟨ps, (upd_ne fun q => ?_).trans e⟩, fun _ h => .inl h, fun _ h => .inl h⟩⟩
  · by_cases q : b = a
    · rw [q]; exact ⟨ho, upd_same⟩
    · obtain ⟨u, e⟩ := s.trk b hb; exact ⟨u, (upd_ne q).trans e⟩
  · have := r0.nt; rw [z] at this; exact this
  · rw [z] at r0; cases r0
  rotate_left
  · rw [q, e0] at e; cases e; exact r0.nt
  · by_cases hk : k = n
    · subst hk
      rw [h] at h1; cases h1
      have hl : k < μ.length := by rw [← s.len]; exact (List.getElem?_eq_some_iff.mp h).1
      rw [List.getElem?_set_self hl] at h2
      cases h2
      exact ⟨ho, upd_same, r.mono ms (fun _ _ h => h)⟩
    · rw [List.getElem?_set_ne (Ne.symm hk)] at h2
      obtain ⟨hb, h3, h4⟩ := s.obj k b o' h1 h2
      refine ⟨hb, (upd_ne fun q => hk ?_).trans h3, h4.mono ms (fun _ _ h => h)⟩
      subst q
      exact nodup_at s.nd h1 h
/-- a method that changes a list: by its items and the arguments the answer and the items behind it -/
abbrev Mut1 := List D → List D → Option (D × List D)
def MutOk (K : PySem.W.Frag) (r : V → List V → Hp → VK → Prop) (f : Mut1) : Prop := ∀ (Z : List Addr) (H : Hp) (l : Addr) (vs : List V) (xs as : List D) (ws : List V) (ret : D) (xs' : List D) (Q : VK), Trk Z H → H l = some (.lst vs) → DRs K (mask H Z) xs vs → DRs K (mask H Z) as ws →
  f xs as = some (ret, xs') → (∀ vs' x, DRs K (mask H Z) xs' vs' → DR K (mask H Z) ret x → Q x (upd H l (.lst vs'))) → r (.ref l) ws H Q
def isLst (μ : List MO) (n : Nat) : Bool := match μ[n]? with
  | some (.lst _) => true
  | _ => false
def mutL (f : Mut1) (n : Nat) (as : List MV) (μ : List MO) : Res MV := match datas as with
  | some ds => match μ[n]? with
    | some (.lst xs) => match f xs ds with
      | some (ret, xs') => .ok (.d ret) (μ.set n (.lst xs'))
      | none => .bad
    | _ => .bad
  | none => .bad
def mMut (f : Mut1) (ma : ME) (ms : MA) : ME := fun ρ μ => (ma ρ μ).bind fun v μ1 => match v with
  | .ref n => if isLst μ1 n = true then (ms ρ μ1).bind fun as μ2 => mutL f n as μ2 else .bad
  | .d _ => .bad
section
variable {X : Cx} {W : WX} {o e : Expr} {es : List Expr} {name : Str} {apos cpos : Pos} {id : String} {r : V → List V → Hp → VK → Prop} {f : Mut1} {ma : ME} {ms : MA}
theorem mutL_ok {K : PySem.W.Frag} {Z ι : List Addr} {μ : List MO} {H : Hp} {σ : St} {a : Addr} {n : Nat} {as : List MV} {ws : List V} {Q : VK} (hf : MutOk K r f) (s : Sta K Z ι μ H) (ha : ι[n]? = some a) (rw' : RMs K (mask H Z) ι as ws) (o : Out K W σ Z ι H (mutL f n as μ) (Val K Q)) : r (.ref a) ws H Q := by
  unfold mutL at o
  split at o
  · rename_i ds hd
    split at o
    · rename_i xs hx
      split at o
      · rename_i ret xs' hf2
        obtain ⟨ho, h1, h2⟩ := s.obj n a _ ha hx
        cases h2 with
        | lst d =>
          refine hf Z H a _ xs ds ws ret xs' Q s.trk h1 d (datas_ok rw' hd) hf2 fun vs' x d' dx => ?_
          obtain ⟨s2, x2⟩ := s.put ha (.lst d')
          exact o Z ι _ x2 s2 x (.d (DR.mono x2.same _ _ dx))
      · exact o.elim
    · exact o.elim
  · exact o.elim
theorem lst_ty {K : PySem.W.Frag} {Z ι : List Addr} {μ : List MO} {H : Hp} {a : Addr} {n : Nat} (s : Sta K Z ι μ H) (ha : ι[n]? = some a) (hl : isLst μ n = true) : tyV K "list" (.ref a) H := by
  unfold isLst at hl
  split at hl
  · rename_i xs hx
    obtain ⟨ho, h1, h2⟩ := s.obj n a _ ha hx
    cases h2 with | lst d => exact .inl ⟨rfl, _, SqL.of h1⟩
  · cases hl
theorem fe_mut (pa : PlainAttrs "list") (slot : Slot "list" name id) (hty : typeOf (.builtin id) = pure (.type "method_descriptor")) (hm : MtM X id r) (hf : MutOk X.K r f) (ho : FE X W o ma) (ha : FA X W (e :: es) ms)
    (hbase : attributeBase o name X.env (eval o X.env) = eval o X.env := by rfl)
    (hfew : ((backTo cpos (starEach (e :: es) X.env)).all (fun x => !x.1) && (backToKw cpos (keywordEach [] X.env)).all (fun x => x.1.isSome)
      && decide ((e :: es).length + ([] : List Keyword).length + (if ([] : List Keyword).isEmpty then 0 else 1) < 30)) = true := by rfl)
    (hline : (apos.endLine == cpos.line) = true := by rfl) (hs : starEach (e :: es) X.env = (false, eval e X.env) :: starEach es X.env := by rfl) (hplain : (backTo cpos (starEach es X.env)).any (·.1) = false := by rfl) :
    FE X W (.Call (.Attribute o name apos) (e :: es) [] cpos) (mMut f ma ms) := by
  refine pe_imp (pe_bm pa slot hty hm ho ha hbase hfew hline hs hplain) fun σ H Q ⟨Z, ι, ρ, μ, R, o⟩ => ?_
  refine tM_bind R o fun v μ' Z' ι' H' x x1 R1 r1 o1 => ?_
  cases r1 with
  | d r1 => exact o1.elim
  | ref r1 =>
    simp only at o1
    split at o1
    · rename_i hl
      refine ⟨lst_ty R1.sta r1 hl, tMA_bind R1 o1 fun v2 μ2 Z2 ι2 H2 x2 x2' R2 r2 o2 => ?_⟩
      exact mutL_ok hf R2.sta (x2'.i _ _ r1) r2 o2
    · exact o1.elim
end
section
variable {K : PySem.W.Frag}
def apD : Mut1 := fun xs as => match as with
  | [y] => if xs.length < sizeLine then some (.non, xs ++ [y]) else none
  | _ => none
theorem m_append : MutOk K rAppend apD := fun Z H l vs xs as ws ret xs' Q t h d da e q => by
  unfold apD at e
  split at e
  · split at e
    · rename_i hl
      cases e
      cases da with | cons da r => cases r; exact ⟨l, vs, _, rfl, rfl, h, by rw [← d.len]; exact hl, q _ _ (DRs.append (.cons da .nil) d) .non⟩
    · cases e
  · cases e
theorem DRs.setL {F : Hp} {d : D} {v : V} (r : DR K F d v) : ∀ {xs : List D} {vs : List V}, DRs K F xs vs → ∀ k, DRs K F (xs.set k d) (vs.set k v)
  | _, _, .nil, _ => .nil
  | _, _, .cons a b, 0 => .cons r b
  | _, _, .cons a b, k + 1 => .cons a (DRs.setL r b k)
theorem DRs.take {F : Hp} : ∀ {xs : List D} {vs : List V}, DRs K F xs vs → ∀ k, DRs K F (xs.take k) (vs.take k)
  | _, _, .nil, k => by simp; exact .nil
  | _, _, .cons a b, 0 => .nil
  | _, _, .cons a b, k + 1 => .cons a (DRs.take b k)
theorem DRs.drop {F : Hp} : ∀ {xs : List D} {vs : List V}, DRs K F xs vs → ∀ k, DRs K F (xs.drop k) (vs.drop k)
  | _, _, .nil, k => by simp; exact .nil
  | _, _, .cons a b, 0 => .cons a b
  | _, _, .cons a b, k + 1 => DRs.drop b k
theorem DRs.rev {F : Hp} : ∀ {xs : List D} {vs : List V}, DRs K F xs vs → DRs K F xs.reverse vs.reverse
  | _, _, .nil => .nil
  | _, _, .cons a b => by rw [List.reverse_cons, List.reverse_cons]; exact DRs.append (.cons a .nil) (DRs.rev b)
end
def putL (o i v : MV) (μ : List MO) : Option (List MO) := match o, i, v with
  | .ref n, .d (.int k), .d x => match μ[n]? with
    | some (.lst xs) => match ixN xs.length k with
      | some j => some (μ.set n (.lst (xs.set j x)))
      | none => none
    | _ => none
  | _, _, _ => none
def mSetIx (mv mo mi : ME) : MS := fun ρ μ => (mv ρ μ).stm ρ fun v μ1 => (mo ρ μ1).stm ρ fun o μ2 => (mi ρ μ2).stm ρ fun i μ3 => match putL o i v μ3 with
  | some μ4 => .nx ρ μ4
  | none => .bad
section
variable {X : Cx} {W : WX} {o i e : Expr} {pos p2 : Pos} {mv mo mi : ME}
theorem fs_setix (he : FE X W e mv) (ho : FE X W o mo) (hi : FE X W i mi)
    (ha : ∀ v, assign (.Subscript o i p2) X.env v = (do
      let ov ← holding [v] (eval o X.env)
      let iv ← holding [v, ov] (eval i X.env)
      standAt p2
      holding [v, ov, iv] (setItem ov iv v)
      release [v, ov, iv] []) := by intro _; rfl)
    (hs : swapsWithSole [.Subscript o i p2] e pos.line X.env = pure false := by rfl) (hw : swappedStores [.Subscript o i p2] e X.env = pure none := by rfl)
    (h1 : (assignEach [.Subscript o i p2] X.env).map (·.2) = [assign (.Subscript o i p2) X.env] := by rfl) : FS X W (.Assign [.Subscript o i p2] e pos) (mSetIx mv mo mi) := by
  refine ps_imp (ps_asg he (pg_sub ho hi set_list ha) hs hw h1) fun E σ H ⟨Z, ι, ρ, μ, R, o⟩ => tM_stm R o fun v μ' Z' ι' H' x x1 R1 r1 o1 => ?_
  refine tM_stm R1 o1 fun v2 μ2 Z2 ι2 H2 y x2 R2 r2 o2 => tM_stm R2 o2 fun v3 μ3 Z3 ι3 H3 z x3 R3 r3 o3 => ?_
  split at o3
  · rename_i μ4 hp
    unfold putL at hp
    split at hp
    · rename_i n k d
      split at hp
      · rename_i xs hx
        split at hp
        · rename_i j hj
          cases hp
          have r2' := r2.mono x3.same x3.i
          cases r2' with | ref r2' =>
            cases r3 with | d r3 => cases r3 with | int =>
              have r1' := (r1.mono x2.same x2.i).mono x3.same x3.i
              cases r1' with | d r1' =>
                obtain ⟨ho, h3, h4⟩ := R3.sta.obj n _ _ r2' hx
                cases h4 with | lst dl =>
                  obtain ⟨s4, x4⟩ := R3.sta.put r2' (.lst (DRs.setL r1' dl j))
                  exact ⟨_, _, k, j, rfl, rfl, h3, by rw [← dl.len]; exact hj, o3 Z3 ι3 _ σ x4 (R3.ext x4 s4)⟩
        · cases hp
      · cases hp
    · cases hp
  · exact o3.elim
end
abbrev MP := En → List MO → Res (Option Int)
def tMP (K : PySem.W.Frag) (W : WX) (m : MP) : TO := fun σ H Q => ∃ Z ι ρ μ, Rel K Z ι ρ μ σ H ∧ Out K W σ Z ι H (m ρ μ) (fun i _ _ H' => Q i H')
abbrev FP (X : Cx) (W : WX) (e : Option Expr) (m : MP) : Prop := PO X e (tMP X.K W m)
def pNone : MP := fun _ μ => .ok none μ
def pSome (ma : ME) : MP := fun ρ μ => (ma ρ μ).bind fun v μ1 => match v with
  | .d (.int i) => .ok (some i) μ1
  | _ => .bad
section
variable {X : Cx} {W : WX} {e : Expr} {lo hi : Option Expr} {pos p2 : Pos} {ma : ME} {ml mh : MP}
theorem po_imp {e : Option Expr} {t t' : TO} (h : PO X e t) (i : ∀ σ H Q, t' σ H Q → t σ H Q) : PO X e t' := ⟨fun pins s σ H Q I w => h.run pins s σ H Q I (i σ H Q w)⟩
theorem fp_none : FP X W none pNone := po_imp po_none fun σ H Q ⟨Z, ι, ρ, μ, R, o⟩ => o Z ι H (Ext.refl R.sta.sub) R.sta
theorem fp_some (h : FE X W e ma) : FP X W (some e) (pSome ma) := by
  refine po_imp (po_some h) fun σ H Q ⟨Z, ι, ρ, μ, R, o⟩ => tM_bind R o fun v μ' Z' ι' H' x x1 R1 r1 o1 => ?_
  cases r1 with
  | ref r => exact o1.elim
  | d r => cases r with
    | int i => exact ⟨i, rfl, o1 Z' ι' H' (Ext.refl R1.sta.sub) R1.sta⟩
    | _ => exact o1.elim
theorem tMP_bind {K : PySem.W.Frag} {σ : St} {Z ι : List Addr} {ρ : En} {μ : List MO} {H : Hp} {β : Type} {m : MP} {k : Option Int → List MO → Res β} {P : β → List Addr → List Addr → Hp → Prop} {Q : Option Int → Hp → Prop} (R : Rel K Z ι ρ μ σ H) (o : Out K W σ Z ι H ((m ρ μ).bind k) P)
    (h : ∀ v μ' Z' ι' H', Ext Z ι H Z' ι' H' → Rel K Z' ι' ρ μ' σ H' → Out K W σ Z' ι' H' (k v μ') P → Q v H') : tMP K W m σ H Q := by
  refine ⟨Z, ι, ρ, μ, R, ?_⟩
  cases e : m ρ μ with
  | ok v μ' =>
    rw [e] at o
    exact fun Z2 ι2 H2 x2 s2 => h v μ' Z2 ι2 H2 x2 (R.ext x2 s2) (Out.base o x2)
  | exc C fs μ' => rw [e] at o; exact o
  | bad => rw [e] at o; exact o
def cutD (xs : List D) (lo hi : Option Int) : List D := (xs.drop (HT.sIx xs.length 0 lo)).take (HT.sIx xs.length xs.length hi - HT.sIx xs.length 0 lo)
theorem DRs.cut {K : PySem.W.Frag} {F : Hp} {xs : List D} {vs : List V} (h : DRs K F xs vs) (lo hi : Option Int) : DRs K F (cutD xs lo hi) (cutV vs lo hi) := by
  unfold cutD cutV
  rw [h.len]
  exact (h.drop _).take _
def sliceD (d : D) (lo hi : Option Int) : Option D := match d with
  | .lst xs => some (.lst (cutD xs lo hi))
  | .fl xs => some (.lst (cutD xs lo hi))
  | .tup xs => some (.tup (cutD xs lo hi))
  | .str z => if z.length ≤ sizeLine then some (.str (cutS z lo hi)) else none
  | _ => none
def mSlice (ma : ME) (ml mh : MP) : ME := fun ρ μ => (ma ρ μ).bind fun v μ1 => (ml ρ μ1).bind fun l μ2 => (mh ρ μ2).bind fun h μ3 => op1 (fun d => sliceD d l h) v μ3
abbrev rSlX (K : PySem.W.Frag) : V → Option Int → Option Int → Hp → VK → Prop := fun x lo hi H Q => rSlL K x lo hi H Q ∨ rSlA K x lo hi H Q ∨ rSlS x lo hi H Q
theorem u_slice {K : PySem.W.Frag} (lo hi : Option Int) : UnD K (fun x H Q => rSlX K x lo hi H Q) (fun d => sliceD d lo hi) := fun Z H a c x Q t ha eq q => by
  have newL : ∀ {vs : List V} {ys : List D}, DRs K (mask H Z) ys vs → c = .lst (cutD ys lo hi) → ∀ l, H l = none → Q (.ref l) (upd H l (.lst (cutV vs lo hi))) := fun r e l hl => by
    obtain ⟨s, r⟩ := new_lst t hl (r.cut lo hi)
    exact q _ _ s (by rw [e]; exact r)
  cases a with
  | lst xs => cases eq; obtain ⟨p, vs, rfl, h1, r1⟩ := ha.list; exact .inl ⟨p, vs, rfl, SqL.of h1, newL r1 rfl⟩
  | fl xs => cases eq; obtain ⟨p, vs, rfl, h1, r1⟩ := ha.flist; exact .inl ⟨p, vs, rfl, h1, newL r1 rfl⟩
  | tup xs =>
    cases eq
    have hr := ha.tupR
    obtain ⟨p, vs, rfl, h1, r1⟩ := ha.tup
    refine .inr (.inl ⟨p, vs, rfl, SqT.of h1, fun hw => ?_, fun _ l hl => ?_⟩)
    · have e : cutD xs lo hi = xs := by
        unfold cutD
        rw [r1.len, hw.1, hw.2, List.drop_zero, Nat.sub_zero, ← r1.len, List.take_length]
      rw [e] at q
      exact same_ok q hr
    · obtain ⟨s, r⟩ := new_tup t hl (r1.cut lo hi)
      exact q _ _ s r
  | str z =>
    simp only [sliceD] at eq
    split at eq
    · rename_i hz; cases eq; exact .inr (.inr ⟨z, ha.str, hz, same_ok q (.str _)⟩)
    · cases eq
  | _ => cases eq
theorem fe_slice (he : FE X W e ma) (hl : FP X W lo ml) (hh : FP X W hi mh) : FE X W (.Subscript e (.Slice lo hi none p2) pos) (mSlice ma ml mh) := by
  refine pe_imp (pe_slice (sl_list.or (sl_tupA.or sl_str)) he hl hh) fun σ H Q ⟨Z, ι, ρ, μ, R, o⟩ => ?_
  exact tM_bind R o fun v μ1 Z1 ι1 H1 x x1 R1 r1 o1 => tMP_bind R1 o1 fun l μ2 Z2 ι2 H2 x2 R2 o2 => tMP_bind R2 o2 fun h μ3 Z3 ι3 H3 x3 R3 o3 =>
    op1_ok (u_slice l h) R3.sta ((r1.mono x2.same x2.i).mono x3.same x3.i) o3
theorem chain_ok {K : PySem.W.Frag} {σ : St} {Z ι : List Addr} {ρ : En} {μ : List MO} {H : Hp} {g g' : D → D → Option D} {ma mb mc : ME} {r r' : R2} {Q : VK} (hg : OpD K r g) (hg' : OpD K r' g') (R : Rel K Z ι ρ μ σ H) (o : Out K W σ Z ι H (mChain g g' ma mb mc ρ μ) (Val K Q)) :
    tChain r r' (tM K W ma) (tM K W mb) (tM K W mc) σ H Q := by
  refine tM_bind R o fun v μ1 Z1 ι1 H1 x x1 R1 r1 o1 => tM_bind R1 o1 fun w μ2 Z2 ι2 H2 y x2 R2 r2 o2 => ?_
  have r1' := r1.mono x2.same x2.i
  unfold op2 at o2
  split at o2
  · rename_i d hd
    split at o2
    · rename_i e he
      split at o2
      · rename_i z hz
        refine hg Z2 H2 d e z x y _ R2.sta.trk (view_ok R2.sta r1' hd) (view_ok R2.sta r2 he) hz fun H3 u sm du => ?_
        obtain ⟨s3, x3⟩ := R2.sta.grow sm
        have R3 := R2.ext x3 s3
        have o3 := Out.base o2 x3
        simp only [Res.bind_ok] at o3
        cases du with
        | bl k =>
          refine ⟨k, rfl, ?_⟩
          cases k with
          | false => exact Out.ret R3.sta o3 (.d (.bl false))
          | true =>
            exact tM_bind R3 o3 fun c μ4 Z4 ι4 H4 w4 x4 R4 r4 o4 => op2_ok hg' R4.sta ((r2.mono x3.same x3.i).mono x4.same x4.i) r4 o4
        | _ => exact o3.elim
      · exact o2.elim
    · exact o2.elim
  · exact o2.elim
theorem fe_chain {op op' : CmpOp} {r r' : R2} {g g' : D → D → Option D} {a b c : Expr} {ma mb mc : ME} (ho : OpR X (compareOp op) r) (hg : OpD X.K r g) (ho' : OpR X (compareOp op') r') (hg' : OpD X.K r' g') (ha : FE X W a ma) (hb : FE X W b mb) (hc : FE X W c mc)
    (hm : lastMarks [op, op'] [b, c] = false := by with_unfolding_all rfl) : FE X W (.Compare a [op, op'] [b, c] pos) (mChain g g' ma mb mc) :=
  pe_imp (pe_chain ho ho' ha hb hc hm) fun σ H Q ⟨Z, ι, ρ, μ, R, o⟩ => chain_ok hg hg' R o
end
end TT
namespace TT
open PySem L2
variable [TB]
section
variable {X : Cx} {W : WX}
theorem mv (i : Nat) {x : Str} {pos : Pos} (hN : X.N[i]? = some x := by rfl) (hv : Vis X.env.scope x := by first | exact Or.inl rfl | exact Or.inr (Or.inl rfl) | exact Or.inr (Or.inr rfl)) (hd : (x == ("__debug__" : Str)) = false := by decide)
    (hcd : (x == ("__classdict__" : Str)) = false := by decide) : FE X W (.Name x pos) (mVar i) := fe_var hN hv hd hcd
theorem fe_gfn {x : Str} {pos : Pos} {a : Addr} (h : X.mg x = some (.ref a)) (hg : Gl X x := by rfl) (hd : (x == ("__debug__" : Str)) = false := by decide) : FE X W (.Name x pos) (mC (.gl a)) :=
  fe_c (pe_glob (v := .ref a) hg h rfl hd) fun _ => .gl a
theorem fe_ty {x : Str} {pos : Pos} {n : String} (h : X.mg x = none) (hv : bootBuiltins x = some (.type n)) (hg : Gl X x := by rfl) (hn : x ≠ "__name__" := by decide) (hd : (x == ("__debug__" : Str)) = false := by decide) : FE X W (.Name x pos) (mC (.ty n)) :=
  fe_c (pe_bltn (v := .ty n) hg h hv rfl hn hd) fun _ => .ty n
end
theorem CalG.mono {CX : CXT} {P : Program} {w : World} {K : PySem.W.Frag} {mg : Str → Option Value} {base : Heap} {j k : Nat} {x : Str} {sp : Sp} (c : CalG CX P w K mg base j x sp) (h : j ≤ k) : CalG CX P w K mg base k x sp := by
  obtain ⟨f, G, hm, kp⟩ := c.ex
  exact ⟨f, fun A outer s H us vs Q E hr hg => G A outer s H us vs Q E (hr.mono h) hg, hm, kp⟩
end TT
namespace TT
open PySem L2
variable [TB]
abbrev Cl := Value × Option Nat × (Addr → Value → Option Addr → TS)
/-- where a clause's own name goes behind its suite -/
def offI (i : Option Nat) (τ : St) : St := match i with
  | some j => τ.set j none
  | none => τ
def offE (i : Option Nat) (E : Ends) : Ends := { nx := fun τ G => E.nx (offI i τ) G, rt := E.rt, bk := fun τ G => E.bk (offI i τ) G, ct := fun τ G => E.ct (offI i τ) G }
def onI (i : Option Nat) (a : Addr) (τ : St) : St := match i with
  | some j => τ.set j (some (.ref a))
  | none => τ
def wMix (K : PySem.W.Frag) (Wo : WX) (E : Ends) : List Cl → WX
  | [] => Wo
  | (c, i, ts) :: r => fun cls d τ G => ∃ b, PySem.W.exmOne K cls c = some b ∧ (b = true → ∀ a, G a = none → ts a cls d (offE i E) (onI i a τ) G) ∧ (b = false → wMix K Wo E r cls d τ G)
inductive ClsOk (X : Cx) : List ExceptHandler → List Cl → Prop
  | nil : ClsOk X [] []
  | plain {x : Str} {c : Value} {ts : Addr → Value → Option Addr → TS} {st : Stmt} {sts : List Stmt} {np hp : Pos} {hs : List ExceptHandler} {l : List Cl} (hc : Names X x c)
      (su : ∀ (a : Addr) (oe : Obj) (cls : Value) (d : Option Addr) (pn : List (Addr × Obj)), Zc cls d oe → (∃ vs, oe.data = .fields vs) → PSs (X.suite a ((a, oe) :: pn)) (st :: sts) (ts a cls d)) (r : ClsOk X hs l) :
      ClsOk X (.ExceptHandler (some (.Name x np)) none (st :: sts) hp :: hs) ((c, none, ts) :: l)
  | named {x n : Str} {i : Nat} {c : Value} {ts : Addr → Value → Option Addr → TS} {st : Stmt} {sts : List Stmt} {np hp : Pos} {hs : List ExceptHandler} {l : List Cl} (hc : Names X x c) (hi : X.N[i]? = some n) (hl : X.env.kindOf n = some .local)
      (su : ∀ (a : Addr) (oe : Obj) (cls : Value) (d : Option Addr) (pn : List (Addr × Obj)), Zc cls d oe → (∃ vs, oe.data = .fields vs) → PSs (X.suite a ((a, oe) :: pn)) (st :: sts) (ts a cls d)) (r : ClsOk X hs l) :
      ClsOk X (.ExceptHandler (some (.Name x np)) (some n) (st :: sts) hp :: hs) ((c, some i, ts) :: l)
section
variable {X : Cx} {body : List Stmt} {h0 : ExceptHandler} {hs : List ExceptHandler} {l : List Cl} {pos : Pos} {tb : WX → TS} {Wo : WX}
theorem ps_tryM (es : X.stack = X.env :: X.outer) (ef : X.env.frame = some X.env.locals) (hN : X.N.Nodup) (tk : Takes X Wo)
    (hb : ∀ (W : WX) (pn : List (Addr × Obj)) (xe : Value → Shared → Prop), Takes (X.tr pn xe) W → PassesOwn (model X.prog X.w) X.A X.env xe → PSs (X.tr pn xe) body (tb W))
    (ho : ClsOk X (h0 :: hs) l) : PS X (.Try body (h0 :: hs) [] [] pos) (fun E τ G => tb (wMix X.K Wo E l) E τ G) := by
  refine ⟨fun pins s τ G E I hw => ?_⟩
  have iok := I.ok
  have hfr : X.A.frames = some (X.env :: X.outer) := iok.frames.trans (congrArg some es)
  refine wpAny_Try_except (wpAny_mono ((hb _ (X.pn ++ pins) (fun e s1 => wpAny (model X.prog X.w) X.A (noteFrame e X.env) (fun _ s2 => wpAny (model X.prog X.w) X.A (setFlight e none) (fun _ s3 =>
    wpAny (model X.prog X.w) X.A (handleBy e X.env (h0 :: hs)) (SP X pins E) X.xe s3) X.xe s2) X.xe s1) (fun u t' up => ?_) PassesOwn.looking).run [] s τ G E (I.toTry _) hw) (fun fl t1 hp => ?_) (fun _ _ z => z))
  · obtain ⟨a, B, sI, pins1, τ1, G1, cls, d, rfl, J0, nb, upx, sky, na, eos, ag, w⟩ := up
    have J : Inv X pins τ1 G1 sI := J0.ofTry iok
    show wpAny (model X.prog X.w) X.A (noteFrame (.ref a) X.env) _ _ _
    refine Sky.land Zc.steady hfr ef (by rw [← es]; exact sky) fun g3 fl3 up3 => ?_
    have J3 : Inv X pins τ1 G1 { t' with heap := g3 } := J.landed nb fl3.1 (upx.trans up3) eos ag
    obtain ⟨o3, v3, e3, z3, d3⟩ := fl3.there
    have out : a ∉ frs (X.env :: X.outer) := fun hm => by
      obtain ⟨_, o', e', hnf⟩ := fl3.2.2.1.mem hm
      rw [e3] at e'; cases e'
      exact hnf _ d3
    have nL : a ≠ X.env.locals := fun z => out (List.mem_filterMap.mpr ⟨X.env, List.mem_cons_self, by rw [ef, z]⟩)
    have nF : a ∉ X.fs := fun hm => by
      obtain ⟨en, h1, h2⟩ := List.mem_filterMap.mp hm
      exact out (List.mem_filterMap.mpr ⟨en, List.mem_cons_of_mem _ h1, h2⟩)
    have S3 := J3.suite e3 d3 na nL nF
    have LT : PySem.W.Looks (model X.prog X.w) g3 (typeOf (.ref a)) cls := fun A Q E s k qq => wpAny_typeOf_ref (k _ _ e3) (by rw [z3.1]; exact qq)
    have look : ∀ {x : Str} {c : Value} {np : Pos}, Names X x c → ∀ {Q : Value → Shared → Prop} {E' : Value → Shared → Prop}, Q c { t' with heap := g3 } → wpAny (model X.prog X.w) (X.A.mark (some (.ref a))) (eval (.Name x np) X.env) Q E' { t' with heap := g3 } := fun {x c np} hc {Q E'} qq => by
      obtain ⟨hg, hdb, hm | ⟨hm, hv, hnn⟩⟩ := hc
      · exact ld_glob (X := X.suite a ((a, o3) :: (X.pn ++ pins))) S3 hg hm qq hdb
      · exact ld_blt (X := X.suite a ((a, o3) :: (X.pn ++ pins))) S3 hg hm hv qq hnn hdb
    have go : ∀ {hs' : List ExceptHandler} {l' : List Cl}, ClsOk X hs' l' → wMix X.K Wo E l' cls d τ1 G1 → wpAny (model X.prog X.w) X.A (handleBy (.ref a) X.env hs') (SP X pins E) X.xe { t' with heap := g3 } := by
      intro hs' l' hk
      induction hk with
      | nil =>
        intro w
        refine wpAny_handleBy_nil ?_
        obtain ⟨k1, k2, k3, oe, vs, T, oT, tt, he, hz, hd, h1, hr⟩ := id fl3
        unfold PySem.passOn
        refine wpAny_bind (wpAny_field he hd h1 ?_)
        rw [if_neg (by simp)]
        have fin : wpAny (model X.prog X.w) X.A (setFlight (.ref a) X.env.frame) (fun _ s4 => wpAny (model X.prog X.w) X.A (throw (.ref a) : Sem Flow) (SP X pins E) X.xe s4) X.xe { t' with heap := g3 } := by
          rw [ef]
          refine HandSPX.setFlight_upZ fl3 fun g4 x4 up4 => wpAny_throw (tk _ _ ?_)
          exact ⟨a, B, sI, pins, τ1, G1, cls, d, rfl, J, nb, (upx.trans up3).trans up4, .inr (.inr (by rw [es]; exact x4)), na, eos, ag, w⟩
        first
          | exact wpAny_bind (wpAny_pure (wpAny_bind fin))
          | exact wpAny_bind fin
      | @plain x c ts st sts np hp hs2 l2 hc su r ih =>
        rintro ⟨b, e1, yes, no⟩
        refine wpAny_handleBy_cons (codeAny_handlers_test (look hc ((PySem.W.exm_one (M := model X.prog X.w) J3.kIn LT e1).here ?_))) (by intro z; cases z)
        cases b with
        | false => exact ih (no rfl)
        | true =>
          refine codeAny_handlers_suite (HandSPX.lands_againZ fl3 fun g4 fl4 up4 => ?_)
          have J4 : Inv X pins τ1 G1 { t' with heap := g4 } := J.landed nb fl4.1 ((upx.trans up3).trans up4) eos ag
          obtain ⟨o4, v4, e4, z4, d4⟩ := fl4.there
          refine wpAny_mono ((su a o4 cls d (X.pn ++ pins) z4 ⟨_, d4⟩).run [] _ _ G1 _ (J4.suite e4 d4 na nL nF) (yes rfl a na)) (fun f s6 hsp => ?_) (fun _ _ z => z.elim)
          cases f with
          | next => obtain ⟨τ6, G6, S6, q6⟩ := hsp; exact ⟨_, _, S6.unsuite iok, q6⟩
          | brk => obtain ⟨τ6, G6, S6, q6⟩ := hsp; exact ⟨_, _, S6.unsuite iok, q6⟩
          | cont => obtain ⟨τ6, G6, S6, q6⟩ := hsp; exact ⟨_, _, S6.unsuite iok, q6⟩
          | ret u => obtain ⟨v6, τ6, G6, S6, r6, q6⟩ := hsp; exact ⟨_, _, _, S6.unsuite iok, r6, q6⟩
      | @named x n i c ts st sts np hp hs2 l2 hc hi hl su r ih =>
        rintro ⟨b, e1, yes, no⟩
        refine wpAny_handleBy_cons (codeAny_handlers_test (look hc ((PySem.W.exm_one (M := model X.prog X.w) J3.kIn LT e1).here ?_))) (by intro z; cases z)
        cases b with
        | false => exact ih (no rfl)
        | true =>
          refine codeAny_handlers_suite_as (HandSPX.lands_againZ fl3 fun g4 fl4 up4 => ?_)
          have J4 : Inv X pins τ1 G1 { t' with heap := g4 } := J.landed nb fl4.1 ((upx.trans up3).trans up4) eos ag
          obtain ⟨o4, v4, e4, z4, d4⟩ := fl4.there
          refine store_ok (X := X.suite a ((a, o4) :: (X.pn ++ pins))) (v := .ref a) (J4.suite e4 d4 na nL nF) hN hi (.inl hl) rfl (fun s5 S5 => ?_) (.inr hl)
          refine wpAny_mono ((su a o4 cls d (X.pn ++ pins) z4 ⟨_, d4⟩).run [] s5 _ G1 _ S5 (yes rfl a na)) (fun f s6 hsp => ?_) (fun _ _ z => z.elim)
          have off : ∀ {τ6 : St} {G6 : Hp} {Q : Shared → Prop}, Inv (X.suite a ((a, o4) :: (X.pn ++ pins))) [] τ6 G6 s6 → (∀ s7, Inv X pins (τ6.set i none) G6 s7 → Q s7) → wpAny (model X.prog X.w) X.A (do bindName X.env n .none; unbindBehindTheSuite X.env n hp) (fun _ s7 => Q s7) X.xe s6 :=
            fun {τ6 G6 Q} S6 hq => gone_ok (S6.unsuite iok) hN hi hl hq
          cases f with
          | next => obtain ⟨τ6, G6, S6, q6⟩ := hsp; exact off S6 fun s7 J7 => ⟨_, _, J7, q6⟩
          | brk => obtain ⟨τ6, G6, S6, q6⟩ := hsp; exact off S6 fun s7 J7 => ⟨_, _, J7, q6⟩
          | cont => obtain ⟨τ6, G6, S6, q6⟩ := hsp; exact off S6 fun s7 J7 => ⟨_, _, J7, q6⟩
          | ret u => obtain ⟨v6, τ6, G6, S6, r6, q6⟩ := hsp; exact off S6 fun s7 J7 => ⟨_, _, _, J7, r6, q6⟩
    exact go ho w
  · cases fl with
    | next => obtain ⟨τ1, G1, J1, q1⟩ := hp; exact wpAny_execs_nil ⟨τ1, G1, J1.ofTry iok, q1⟩
    | brk => obtain ⟨τ1, G1, J1, q1⟩ := hp; exact ⟨τ1, G1, J1.ofTry iok, q1⟩
    | cont => obtain ⟨τ1, G1, J1, q1⟩ := hp; exact ⟨τ1, G1, J1.ofTry iok, q1⟩
    | ret u => obtain ⟨v, τ1, G1, J1, r1, q1⟩ := hp; exact ⟨v, τ1, G1, J1.ofTry iok, r1, q1⟩
end
end TT
namespace TT
open PySem L2
variable [TB]
open Classical in
/-- an end that hangs on no address -/
noncomputable def allAD (h : Addr → Addr → SR) : SR := if x : ∃ r, ∀ a d, h a d = r then Classical.choose x else .bad
theorem allAD_eq {h : Addr → Addr → SR} {r : SR} (e : ∀ a d, h a d = r) : allAD h = r := by
  have x : ∃ r, ∀ a d, h a d = r := ⟨r, e⟩
  unfold allAD
  rw [dif_pos x]
  exact (Classical.choose_spec x 0 0).symm.trans (e 0 0)
theorem allAD_of {K : PySem.W.Frag} {W : WX} {Z ι : List Addr} {H : Hp} {E : Ends} {h : Addr → Addr → SR} (o : OutS K W Z ι H (allAD h) E) (a d : Addr) : OutS K W Z ι H (h a d) E := by
  unfold allAD at o
  split at o
  · rename_i x
    rw [← Classical.choose_spec x a d] at o
    exact o
  · exact o.elim
/-- a clause: which classes it takes, which it lets by, its name's slot, its suite -/
structure MC where
  yes : List Addr
  no : List Addr
  i : Option Nat
  h : Addr → Addr → MS
def offR (i : Option Nat) (ρ : En) : En := match i with
  | some j => ρ.set j none
  | none => ρ
def SR.off (i : Option Nat) : SR → SR
  | .nx ρ μ => .nx (offR i ρ) μ
  | .bk ρ μ => .bk (offR i ρ) μ
  | .ct ρ μ => .ct (offR i ρ) μ
  | .rt v μ => .rt v μ
  | _ => .bad
def onR (i : Option Nat) (x : D) (ρ : En) : En := match i with
  | some j => ρ.set j (some (.d x))
  | none => ρ
/-- the suite's reading -/
def tSu (K : PySem.W.Frag) (yes : List Addr) (h : Addr → Addr → MS) : Addr → Value → Option Addr → TS := fun a cls d E τ G => ∃ dd C, C ∈ yes ∧ cls = .ref C ∧ d = some dd ∧ tMS K W0 (h a dd) E τ G
inductive HMs (X : Cx) : List ExceptHandler → List MC → List Cl → Prop
  | nil : HMs X [] [] []
  | plain {x : Str} {c : Value} {yes no : List Addr} {h : Addr → Addr → MS} {st : Stmt} {sts : List Stmt} {np hp : Pos} {hs : List ExceptHandler} {cs : List MC} {l : List Cl} (hc : Names X x c)
      (hy : ∀ C ∈ yes, PySem.W.exmOne X.K (.ref C) c = some true) (hn : ∀ C ∈ no, PySem.W.exmOne X.K (.ref C) c = some false)
      (su : ∀ (a : Addr) (oe : Obj) (C : Addr) (d : Addr) (pn : List (Addr × Obj)), C ∈ yes → Zc (.ref C) (some d) oe → (∃ vs, oe.data = .fields vs) → FSs (X.suite a ((a, oe) :: pn)) W0 (st :: sts) (h a d)) (r : HMs X hs cs l) :
      HMs X (.ExceptHandler (some (.Name x np)) none (st :: sts) hp :: hs) (⟨yes, no, none, h⟩ :: cs) ((c, none, tSu X.K yes h) :: l)
  | named {x n : Str} {i : Nat} {c : Value} {yes no : List Addr} {h : Addr → Addr → MS} {st : Stmt} {sts : List Stmt} {np hp : Pos} {hs : List ExceptHandler} {cs : List MC} {l : List Cl} (hc : Names X x c) (hi : X.N[i]? = some n) (hl : X.env.kindOf n = some .local)
      (hy : ∀ C ∈ yes, PySem.W.exmOne X.K (.ref C) c = some true) (hn : ∀ C ∈ no, PySem.W.exmOne X.K (.ref C) c = some false)
      (su : ∀ (a : Addr) (oe : Obj) (C : Addr) (d : Addr) (pn : List (Addr × Obj)), C ∈ yes → Zc (.ref C) (some d) oe → (∃ vs, oe.data = .fields vs) → FSs (X.suite a ((a, oe) :: pn)) W0 (st :: sts) (h a d)) (r : HMs X hs cs l) :
      HMs X (.ExceptHandler (some (.Name x np)) (some n) (st :: sts) hp :: hs) (⟨yes, no, some i, h⟩ :: cs) ((c, some i, tSu X.K yes h) :: l)
theorem suite_of {X : Cx} {yes : List Addr} {h : Addr → Addr → MS} {sts : List Stmt} (su : ∀ (a : Addr) (oe : Obj) (C : Addr) (d : Addr) (pn : List (Addr × Obj)), C ∈ yes → Zc (.ref C) (some d) oe → (∃ vs, oe.data = .fields vs) → FSs (X.suite a ((a, oe) :: pn)) W0 sts (h a d)) :
    ∀ (a : Addr) (oe : Obj) (cls : Value) (d : Option Addr) (pn : List (Addr × Obj)), Zc cls d oe → (∃ vs, oe.data = .fields vs) → PSs (X.suite a ((a, oe) :: pn)) sts (tSu X.K yes h a cls d) := fun a oe cls d pn hz hf => ⟨fun pins s σ H E I w => by
  obtain ⟨dd, C, hC, rfl, rfl, t⟩ := w
  exact (su a oe C dd pn hC hz hf).run pins s σ H E I t⟩
theorem HMs.ok {X : Cx} : ∀ {hs : List ExceptHandler} {cs : List MC} {l : List Cl}, HMs X hs cs l → ClsOk X hs l
  | _, _, _, .nil => .nil
  | _, _, _, .plain hc _ _ su r => .plain hc (suite_of su) r.ok
  | _, _, _, .named hc hi hl _ _ su r => .named hc hi hl (suite_of su) r.ok
theorem OutS.off {K : PySem.W.Frag} {W : WX} {Z ι : List Addr} {H : Hp} {E : Ends} {i : Option Nat} {r : SR} (o : OutS K W Z ι H (r.off i) E) : OutS K W0 Z ι H r (offE i E) := by
  have k : ∀ {Z' ι' : List Addr} {ρ : En} {μ : List MO} {σ : St} {H' : Hp}, Rel K Z' ι' ρ μ σ H' → Rel K Z' ι' (offR i ρ) μ (offI i σ) H' := fun R => by
    cases i with
    | none => exact R
    | some j => exact ⟨R.sta, R.rs.setN j none⟩
  cases r with
  | nx ρ μ => exact fun Z2 ι2 H2 σ2 x2 R2 => o Z2 ι2 H2 _ x2 (k R2)
  | bk ρ μ => exact fun Z2 ι2 H2 σ2 x2 R2 => o Z2 ι2 H2 _ x2 (k R2)
  | ct ρ μ => exact fun Z2 ι2 H2 σ2 x2 R2 => o Z2 ι2 H2 _ x2 (k R2)
  | rt v μ => exact o
  | exc C fs ρ μ => exact o.elim
  | bad => exact o.elim
def mXf (a d : Addr) (f : Str) (ma : ME) : ME := fun ρ μ => (ma ρ μ).bind fun v μ1 => match v with
  | .d (.exn a' d' _ fs) => if a' = a ∧ d' = d then (match fs.lookup f with
    | some x => .ok (.d x) μ1
    | none => .bad) else .bad
  | _ => .bad
theorem DRf.look {K : PySem.W.Frag} {F : Hp} {f : Str} : ∀ {xs : List (Str × D)} {vs : List (Str × V)}, DRf K F xs vs → ∀ {d : D}, xs.lookup f = some d → ∃ v, vs.lookup f = some v ∧ DR K F d v
  | _, _, .nil, d, e => by cases e
  | _, _, .cons (k := k) a b, d, e => by
    by_cases h : f = k
    · subst h
      simp only [List.lookup, beq_self_eq_true] at e ⊢
      cases e
      exact ⟨_, rfl, a⟩
    · have hk : (f == k) = false := by simpa using h
      simp only [List.lookup, hk] at e ⊢
      exact DRf.look b e
section
variable {X : Cx} {a d C : Addr} {oe : Obj} {pn : List (Addr × Obj)} {e : Expr} {pos : Pos} {f : Str} {ma : ME}
theorem fe_xf (T : XfC X.K C) (hno : PySem.W.findIn X.K (.ref C) f = some none) (hz : Zc (.ref C) (some d) oe) (hf : ∃ vs, oe.data = .fields vs) (he : FE (X.suite a ((a, oe) :: pn)) W0 e ma)
    (hb : attributeBase e f X.env (eval e X.env) = eval e X.env := by rfl) : FE (X.suite a ((a, oe) :: pn)) W0 (.Attribute e f pos) (mXf a d f ma) := by
  refine pe_imp (pe_xf T hno hz hf he hb) fun σ H Q ⟨Z, ι, ρ, μ, R, o⟩ => tM_bind R o fun v μ' Z' ι' H' x x1 R1 r1 o1 => ?_
  split at o1
  · rename_i a' d' C' fs
    split at o1
    · rename_i hh
      obtain ⟨rfl, rfl⟩ := hh
      split at o1
      · rename_i y hy
        cases r1 with | d r1 => cases r1 with | exn q r =>
          obtain ⟨v, h4, h5⟩ := r.look hy
          exact ⟨rfl, rfl, _, _, v, rfl, mask_same _ _ _ _ q, h4, Out.ret R1.sta o1 (.d h5)⟩
      · exact o1.elim
    · exact o1.elim
  · exact o1.elim
end
def spX2 (C : Addr) (f g : Str) : Sp := fun vs H Q _ => ∃ (a : Addr) (v u : V), vs = [.ref a, v, u] ∧ H a = some (exo a C none) ∧ ∀ dx, H dx = none → dx ≠ a → Q .non (upd (upd (upd H dx (exd dx [(f, v)])) a (exo a C (some dx))) dx (exd dx [(g, u), (f, v)]))
/-- what is known of such a class: it stands under x at C; its __init__ keeps sp, by calls of at most k -/
structure Exc (P : Program) (w : World) (K : PySem.W.Frag) (mg : Str → Option Value) (base : Heap) (k : Nat) (x : Str) (C : Addr) (n : Nat) (sp : Sp) : Prop where
  T : OexC K C
  g : mg x = some (.ref C)
  fn : ∃ (fI : Addr) (fd : FuncData) (ps : List Str), PySem.W.findIn K (.ref C) "__init__" = some (some (.ref fI)) ∧ PySem.W.typeIn K (.ref fI) = some (.type "function") ∧ FnOk P w K mg base CX0 k fI fd ps sp ∧ Binds K fd ps []
def mkX (C : Addr) (ks : List Str) (as : List MV) (ρ : En) (μ : List MO) : SR := match datas as with
  | some ds => if ds.length = ks.length then .exc C (ks.zip ds).reverse ρ μ else .bad
  | none => .bad
def mRaise (C : Addr) (ks : List Str) (ms : MA) : MS := fun ρ μ => (ms ρ μ).stm ρ fun as μ1 => mkX C ks as ρ μ1
theorem raise_end {K : PySem.W.Frag} {W : WX} {E : Ends} {Z ι : List Addr} {ρ : En} {μ : List MO} {σ : St} {H H2 : Hp} {C d : Addr} {fs : List (Str × D)} {fs' : List (Str × V)} (R : Rel K Z ι ρ μ σ H) (hd : H d = none) (e : H2 = upd H d (.xd fs')) (dr : DRf K (mask H Z) fs fs')
    (o : OutS K W Z ι H (.exc C fs ρ μ) E) : W (.ref C) (some d) σ H2 := by
  subst e
  have sm : Same H (upd H d (.xd fs')) := fun b u q => (upd_ne (ne_of_none q hd)).trans q
  obtain ⟨s2, x2⟩ := R.sta.grow sm
  have nd : d ∉ Z := fun q => by obtain ⟨u, z⟩ := R.sta.trk d q; rw [hd] at z; cases z
  exact o Z ι _ σ d fs' x2 (R.ext x2 s2) upd_same nd (dr.mono x2.same _ _)
section
variable {X : Cx} {W : WX} {x : Str} {C : Addr} {k j : Nat} {e e2 : Expr} {p pos rpos : Pos} {f g : Str} {ms : MA}
theorem fs_raise2 (c : Exc X.prog X.w X.K X.mg X.base k x C 2 (spX2 C f g)) (tk : Takes X W) (hc : X.calm = true) (hr : Room j X.A) (ha : FA X W [e, e2] ms) (hk : k + 1 ≤ j := by decide) (hgl : Gl X x := by rfl)
    (hdb : (x == ("__debug__" : Str)) = false := by decide) (he : starEach [e, e2] X.env = (false, eval e X.env) :: starEach [e2] X.env := by rfl) (hpl : (backTo pos (starEach [e2] X.env)).any (·.1) = false := by rfl) :
    FS X W (.Raise (some (.Call (.Name x p) [e, e2] [] pos)) none rpos) (mRaise C [f, g] ms) := by
  obtain ⟨fI, fd, ps, h1, h2, h3, h4⟩ := c.fn
  refine ps_imp (ps_raise hc tk (pmk_oex c.T h1 h2 h3 (hr.mono hk) h4 .nil pass0 hgl c.g ha hdb he hpl)) fun E σ H ⟨Z, ι, ρ, μ, R, o⟩ => tMA_stm R o fun v μ' Z' ι' H' x x1 R1 r1 o1 => ?_
  unfold mkX at o1
  split at o1
  · rename_i ds hd
    have dr := datas_ok r1 hd
    split at o1
    · rename_i hl
      match ds, dr, hl with
      | [d0, d1], .cons (v := v0) r0 (.cons (v := v1) r1' .nil), _ =>
        refine ⟨by show 2 ≤ 1000; decide, fun a ha' => ⟨a, v0, v1, rfl, upd_same, fun dx hdx ne => ⟨rfl, dx, [(g, v1), (f, v0)], ?_, ?_, ?_, ?_⟩⟩⟩
        · rw [upd_ne (Ne.symm ne), upd_same]
        · rw [upd_same]
        · rw [upd_ne ne] at hdx; exact hdx
        · rw [upd_ne ne] at hdx
          refine raise_end R1 hdx ?_ (.cons r1' (.cons r0 .nil)) o1
          funext b
          by_cases q1 : b = dx
          · subst q1; rw [upd_same, upd_same]
          · rw [upd_ne q1, upd_ne q1]
            unfold del
            by_cases q2 : b = a
            · subst q2; rw [if_pos rfl]; exact ha'.symm
            · rw [if_neg q2, upd_ne q1, upd_ne q2, upd_ne q1, upd_ne q2]
    · exact o1.elim
  · exact o1.elim
end
section
variable {P : Program} {w : World} {K : PySem.W.Frag} {mg : Str → Option Value} {base : Heap} {C fI : Addr} {x qual f g : Str} {st : Stmt} {fd : FuncData}
theorem x2_init {a1 a2 : Str} {p1 p2 p3 q1 q2 q3 pos pos2 : Pos} (T : OexC K C) (hno : PySem.W.findIn K (.ref C) f = some none) (hno2 : PySem.W.findIn K (.ref C) g = some none) (F : Fun K "__init__" qual st fI fd) (S : FnScope ["self", a1, a2] ["self", a1, a2] (defScope st))
    (hb : defBody st = [.Assign [.Attribute (.Name "self" p1) f p2] (.Name a1 p3) pos, .Assign [.Attribute (.Name "self" q1) g q2] (.Name a2 q3) pos2])
    (hv : (defScope st).names.lookup ("self" : Str) = some .local) (hv1 : (defScope st).names.lookup a1 = some .local) (hv2 : (defScope st).names.lookup a2 = some .local) (hd : (a1 == ("__debug__" : Str)) = false) (hcd : (a1 == ("__classdict__" : Str)) = false) (hd2 : (a2 == ("__debug__" : Str)) = false) (hcd2 : (a2 == ("__classdict__" : Str)) = false)
    (hs : ∀ env : Env, swapsWith (.Name a1 p3) (some (.Attribute (.Name "self" p1) f p2)) pos.line env = pure false) (hs2 : ∀ env : Env, swapsWith (.Name a2 q3) (some (.Attribute (.Name "self" q1) g q2)) pos2.line env = pure false) : FnOk P w K mg base CX0 1 fI fd ["self", a1, a2] (spX2 C f g) := by
  refine F.ok S (fun vs H Q E h => ?_) (fun cdv A outer s H vs Q E hr h => ?_)
  · obtain ⟨a, v, u, rfl, _⟩ := h; rfl
  · obtain ⟨a, v, u, rfl, ha, k⟩ := h
    rw [hb]
    refine ⟨_, pss_cons (ps_ost (pe_var (i := 0) rfl (.inl hv)) (pe_var (i := 1) rfl (.inl hv1) hd hcd) (hs _)) (pss_one (ps_ost (pe_var (i := 0) rfl (.inl hv)) (pe_var (i := 2) rfl (.inl hv2) hd2 hcd2) (hs2 _))), ?_⟩
    refine ⟨_, rfl, _, rfl, a, C, rfl, T, hno, .inl ⟨ha, fun dx h1 h2 => ?_⟩⟩
    exact ⟨_, rfl, _, rfl, a, C, rfl, T, hno2, .inr ⟨dx, [(f, v)], upd_same, (upd_ne h2).trans upd_same, (by show 1 ≤ 900; decide), k dx h1 h2⟩⟩
end
end TT
namespace TT
open PySem L2
variable [TB]
def putM (f : Str) (v : MV) : List (Str × MV) → List (Str × MV)
  | [] => [(f, v)]
  | (g, x) :: r => if g = f then (g, v) :: r else (g, x) :: putM f v r
theorem RMf.put {K : PySem.W.Frag} {F : Hp} {ι : List Addr} {f : Str} {m : MV} {v : V} (r : RM K F ι m v) : ∀ {xs : List (Str × MV)} {vs : List (Str × V)}, RMf K F ι xs vs → RMf K F ι (putM f m xs) (putF f v vs)
  | _, _, .nil => .cons r .nil
  | _, _, .cons (k := k) a b => by
    unfold putM putF
    by_cases h : k = f
    · rw [if_pos h, if_pos h]; exact .cons r b
    · rw [if_neg h, if_neg h]; exact .cons a (RMf.put r b)
theorem RMf.look {K : PySem.W.Frag} {F : Hp} {ι : List Addr} {f : Str} : ∀ {xs : List (Str × MV)} {vs : List (Str × V)}, RMf K F ι xs vs → ∀ {d : MV}, xs.lookup f = some d → ∃ v, vs.lookup f = some v ∧ RM K F ι d v
  | _, _, .nil, d, e => by cases e
  | _, _, .cons (k := k) a b, d, e => by
    by_cases h : f = k
    · subst h
      simp only [List.lookup, beq_self_eq_true] at e ⊢
      cases e
      exact ⟨_, rfl, a⟩
    · have hk : (f == k) = false := by simpa using h
      simp only [List.lookup, hk] at e ⊢
      exact RMf.look b e
theorem RMf.keys {K : PySem.W.Frag} {F : Hp} {ι : List Addr} : ∀ {xs : List (Str × MV)} {vs : List (Str × V)}, RMf K F ι xs vs → xs.length = vs.length ∧ ∀ f, xs.lookup f = none → vs.lookup f = none
  | _, _, .nil => ⟨rfl, fun _ _ => rfl⟩
  | _, _, .cons (k := k) a b => by
    obtain ⟨h1, h2⟩ := RMf.keys b
    refine ⟨congrArg (· + 1) h1, fun f e => ?_⟩
    by_cases h : f = k
    · subst h; simp [List.lookup] at e
    · have hk : (f == k) = false := by simpa using h
      simp only [List.lookup, hk] at e ⊢
      exact h2 f e
theorem DRf.keys {K : PySem.W.Frag} {F : Hp} : ∀ {xs : List (Str × D)} {vs : List (Str × V)}, DRf K F xs vs → ∀ f, xs.lookup f = none → vs.lookup f = none
  | _, _, .nil, _, _ => rfl
  | _, _, .cons (k := k) a b, f, e => by
    by_cases h : f = k
    · subst h; simp [List.lookup] at e
    · have hk : (f == k) = false := by simpa using h
      simp only [List.lookup, hk] at e ⊢
      exact DRf.keys b f e
def fldOf (C : Addr) (f : Str) (v : MV) (μ : List MO) : Res MV := match v with
  | .d (.obj C' fs) => if C' = C then (match fs.lookup f with
    | some x => .ok (.d x) μ
    | none => .bad) else .bad
  | .ref n => match μ[n]? with
    | some (.ins C' fs) => if C' = C then (match fs.lookup f with
      | some x => .ok x μ
      | none => .bad) else .bad
    | _ => .bad
  | _ => .bad
def mFld (C : Addr) (f : Str) (ma : ME) : ME := fun ρ μ => (ma ρ μ).bind (fldOf C f)
section
variable {X : Cx} {W : WX} {C : Addr} {f : Str} {e o : Expr} {es : List Expr} {pos p2 : Pos} {ma mv mo : ME} {ms : MA}
theorem fe_fld (c : Cls X.K C) (hn : NoAttr X.K C f) (he : FE X W e ma) (hb : attributeBase e f X.env (eval e X.env) = eval e X.env := by rfl) : FE X W (.Attribute e f pos) (mFld C f ma) := by
  refine pe_imp (pe_fld he hb) fun σ H Q ⟨Z, ι, ρ, μ, R, o⟩ => tM_bind R o fun v μ' Z' ι' H' x x1 R1 r1 o1 => ?_
  unfold fldOf at o1
  split at o1
  · split at o1
    · rename_i hC
      subst hC
      split at o1
      · rename_i y hy
        cases r1 with | d r1 => cases r1 with | obj q r =>
          obtain ⟨v, h4, h5⟩ := r.look hy
          exact ⟨_, _, _, _, v, rfl, mask_same _ _ _ _ q, c, hn, h4, Out.ret R1.sta o1 (.d h5)⟩
      · exact o1.elim
    · exact o1.elim
  · rename_i n
    split at o1
    · rename_i C' fs hx
      split at o1
      · rename_i hC
        subst hC
        split at o1
        · rename_i y hy
          cases r1 with | ref r1 =>
            obtain ⟨ho, h1, h2⟩ := R1.sta.obj n _ _ r1 hx
            cases h2 with | ins r =>
              obtain ⟨v, h4, h5⟩ := r.look hy
              exact ⟨_, _, _, _, v, rfl, h1, c, hn, h4, Out.ret R1.sta o1 h5⟩
        · exact o1.elim
      · exact o1.elim
    · exact o1.elim
  · exact o1.elim
/-- o.f = e -/
def putFld (C : Addr) (f : Str) (v o : MV) (μ : List MO) : Option (List MO) := match o with
  | .ref n => match μ[n]? with
    | some (.ins C' fs) => if C' = C ∧ fs.length < 1000 then some (μ.set n (.ins C' (putM f v fs))) else none
    | _ => none
  | _ => none
def mSetF (C : Addr) (f : Str) (mv mo : ME) : MS := fun ρ μ => (mv ρ μ).stm ρ fun v μ1 => (mo ρ μ1).stm ρ fun o μ2 => match putFld C f v o μ2 with
  | some μ3 => .nx ρ μ3
  | none => .bad
theorem fs_fld (c : Cls X.K C) (hn : NoAttr X.K C f) (he : FE X W e mv) (ho : FE X W o mo) (hs : swapsWith e (some (.Attribute o f p2)) pos.line X.env = pure false := by rfl) : FS X W (.Assign [.Attribute o f p2] e pos) (mSetF C f mv mo) := by
  refine ps_imp (ps_fld ho he hs) fun E σ H ⟨Z, ι, ρ, μ, R, o⟩ => tM_stm R o fun v μ' Z' ι' H' x x1 R1 r1 o1 => tM_stm R1 o1 fun v2 μ2 Z2 ι2 H2 y x2 R2 r2 o2 => ?_
  split at o2
  · rename_i μ3 hp
    unfold putFld at hp
    split at hp
    · rename_i n
      split at hp
      · rename_i C' fs hx
        split at hp
        · rename_i hC
          obtain ⟨rfl, hl⟩ := hC
          cases hp
          cases r2 with | ref r2 =>
            obtain ⟨ho, h1, h2⟩ := R2.sta.obj n _ _ r2 hx
            cases h2 with | ins r =>
              obtain ⟨s3, x3⟩ := R2.sta.put r2 (.ins (dx := _) (RMf.put (f := f) (r1.mono x2.same x2.i) r))
              exact ⟨_, _, _, _, rfl, h1, c, hn, by rw [← r.keys.1]; exact hl, o2 Z2 ι2 _ σ x3 (R2.ext x3 s3)⟩
        · cases hp
      · cases hp
    · cases hp
  · exact o2.elim
end
/-- the class under x at C, its __init__ at f keeping F (self and n - 1 more) -/
structure Mak' (P : Program) (w : World) (K : PySem.W.Frag) (mg : Str → Option Value) (base : Heap) (k : Nat) (x : Str) (C : Addr) (n : Nat) (F : MF) : Prop where
  g : mg x = some (.ref C)
  ex : ∃ f, Mk K C f ∧ FnG P w K mg base (L2.CX P w) k f (spF K n F)
theorem sta_made {K : PySem.W.Frag} {Z ι : List Addr} {μ : List MO} {H : Hp} (s : Sta K Z ι μ H) {x dx C : Addr} (hx : H x = none) (hd : H dx = none) (ne : dx ≠ x) :
    Sta K (x :: Z) (ι ++ [x]) (μ ++ [.ins C []]) (upd (upd H dx (.own x)) x (.ins C dx [])) ∧ Ext Z ι H (x :: Z) (ι ++ [x]) (upd (upd H dx (.own x)) x (.ins C dx [])) := by
  have hx2 : (upd H dx (.own x)) x = none := (upd_ne (Ne.symm ne)).trans hx
  have sm : Same H (upd (upd H dx (.own x)) x (.ins C dx [])) := fun b o e => (upd_ne (ne_of_none e hx)).trans ((upd_ne (ne_of_none e hd)).trans e)
  have nz : x ∉ Z := fun q => by obtain ⟨o, e⟩ := s.trk x q; rw [hx] at e; cases e
  have nι : x ∉ ι := fun q => nz (s.sub x q)
  have ms : Same (mask H Z) (mask (upd (upd H dx (.own x)) x (.ins C dx [])) (x :: Z)) := fun b o e => by
    have t := mask_nt e
    obtain ⟨n, e⟩ := of_mask e
    refine mask_in (fun q => ?_) (sm b o e) t
    rcases List.mem_cons.mp q with z | z
    · rw [z, hx] at e; cases e
    · exact n z
  have s1 : Sta K (x :: Z) ι μ (upd (upd H dx (.own x)) x (.ins C dx [])) := by
    refine ⟨fun b hb => List.mem_cons_of_mem _ (s.sub b hb), s.nd, s.len, fun b hb => ?_, s.tab.ext sm, fun k b o h1 h2 => ?_⟩
    · rcases List.mem_cons.mp hb with z | z
      · rw [z]; exact ⟨_, upd_same⟩
      · obtain ⟨o, e⟩ := s.trk b z; exact ⟨o, sm b o e⟩
    · obtain ⟨ho, h3, h4⟩ := s.obj k b o h1 h2
      exact ⟨ho, sm b ho h3, h4.mono ms (fun _ _ h => h)⟩
  refine ⟨s1.own List.mem_cons_self nι upd_same (.ins .nil), ⟨s.sub, fun b hb => List.mem_cons_of_mem _ hb, fun n b h => ?_, fun b o _ _ e => sm b o e, fun b ps e => ⟨ps, sm b _ e⟩, fun b hb => ?_, fun b hb => ?_⟩⟩
  · rw [List.getElem?_append_left (List.getElem?_eq_some_iff.mp h).1]; exact h
  · rcases List.mem_cons.mp hb with z | z
    · rw [z]; exact .inr hx
    · exact .inl z
  · rcases List.mem_append.mp hb with z | z
    · exact .inl z
    · rw [List.mem_singleton.mp z]; exact .inr hx
def mkO (C : Addr) (F : MF) (n : Nat) (as : List MV) (μ : List MO) : Res MV := if as.length + 1 = n then (match callF F (.ref μ.length :: as) (μ ++ [.ins C []]) with
  | .ok (.d .non) μ' => .ok (.ref μ.length) μ'
  | .exc C' fs μ' => if trimmable μ.length (.d .non) μ' = true then .exc C' fs (μ'.take μ.length) else .exc C' fs μ'
  | _ => .bad) else .bad
def dataF : List (Str × MV) → Option (List (Str × D))
  | [] => some []
  | (f, .d x) :: r => (dataF r).map ((f, x) :: ·)
  | _ => none
theorem dataF_ok {K : PySem.W.Frag} {F : Hp} {ι : List Addr} : ∀ {xs : List (Str × MV)} {vs : List (Str × V)} {ds : List (Str × D)}, RMf K F ι xs vs → dataF xs = some ds → DRf K F ds vs
  | _, _, _, .nil, e => by cases e; exact .nil
  | _, _, _, .cons (.d r) b, e => by
    simp only [dataF] at e
    obtain ⟨r', h1, rfl⟩ := Option.map_eq_some_iff.mp e
    exact .cons r (dataF_ok b h1)
  | _, _, _, .cons (.ref r) b, e => by cases e
/-- .. as data -/
def mkF (C : Addr) (F : MF) (n : Nat) (as : List MV) (μ : List MO) : Res MV := (mkO C F n as μ).bind fun v μ' => match v with
  | .ref k => match μ'[k]? with
    | some (.ins C' fs) => match dataF fs with
      | some ds => if k = μ.length ∧ trimmable μ.length (.d .non) μ' = true then .ok (.d (.obj C' ds)) (μ'.take μ.length) else .bad
      | none => .bad
    | _ => .bad
  | _ => .bad
section
variable {X : Cx} {W : WX} {k j n : Nat} {x : Str} {C : Addr} {F : MF} {p pos : Pos} {e : Expr} {es : List Expr} {ms : MA}
theorem make_step {K : PySem.W.Frag} {Z ι : List Addr} {μ : List MO} {H : Hp} {σ : St} {as : List MV} {vs : List V} {Q : VK} (s : Sta K Z ι μ H) (r : RMs K (mask H Z) ι as vs) (o : Out K W σ Z ι H (mkO C F n as μ) (Val K Q)) :
    ∀ x dx, H x = none → H dx = none → dx ≠ x → spF K n F (.ref x :: vs) (upd (upd H dx (.own x)) x (.ins C dx [])) (fun v H2 => v = .non ∧ Q (.ref x) H2) (WE W σ) := fun x dx hx hd ne => by
  obtain ⟨s1, x1⟩ := sta_made (C := C) s hx hd ne
  unfold mkO at o
  split at o
  · rename_i hl
    refine call_frame (W := W) (as := .ref μ.length :: as) s1 (.cons (.ref (by rw [← s.len, List.getElem?_concat_length])) (r.mono x1.same x1.i)) (by rw [List.length_cons, ← r.len]; exact hl) ?_
    cases q : callF F (.ref μ.length :: as) (μ ++ [.ins C []]) with
    | ok v μ' =>
      rw [q] at o
      intro Z2 ι2 H2 x2 s2 w rw'
      cases rw' with
      | ref rw' => exact o.elim
      | d rw' => cases rw' with
        | non => exact ⟨rfl, o Z2 ι2 H2 (x1.trans x2) s2 _ (.ref (x2.i _ _ (by rw [← s.len, List.getElem?_concat_length])))⟩
        | _ => exact o.elim
    | exc C' fs μ' =>
      rw [q] at o
      intro Z2 ι2 H2 d fs' x2 s2 hd2 nd2 dr
      simp only at o
      split at o
      · rename_i t
        obtain ⟨s3, x3, _⟩ := Sta.cut (x1.trans x2) s2 s.len t
        exact o Z2 ι H2 d fs' x3 s3 hd2 nd2 dr
      · exact o Z2 ι2 H2 d fs' (x1.trans x2) s2 hd2 nd2 dr
    | bad => rw [q] at o; exact o.elim
  · exact o.elim
def mMkF (C : Addr) (F : MF) (n : Nat) (ms : MA) : ME := fun ρ μ => (ms ρ μ).bind (mkF C F n)
theorem run_mk {f : Addr} {pins : List (Addr × Obj)} {σ : St} {H : Hp} {s : Shared} {Q : VK} {us : List Value} {vs : List V} (M : Mk X.K C f) (G : FnG X.prog X.w X.K X.mg X.base (L2.CX X.prog X.w) k f (spF X.K n F)) (tk : Takes X W) (hg : X.A.guards = some []) (hr : Room (k + 1) X.A)
    (I : Inv X pins σ H s) (r : Vals vs us) (h : ∀ x dx, H x = none → H dx = none → dx ≠ x → spF X.K n F (.ref x :: vs) (upd (upd H dx (.own x)) x (.ins C dx [])) (fun v H2 => v = .non ∧ Q (.ref x) H2) (WE W σ)) :
    wpAny (model X.prog X.w) X.A (call (.ref C) us) (EP X pins σ Q) X.xe s := by
  have hq := h (s.heap.objs.size + 1) s.heap.objs.size (I.hok.fresh (Nat.le_succ _)) (I.hok.fresh (Nat.le_refl _)) (Nat.ne_of_lt (Nat.lt_succ_self _))
  have J := Inv.made (C := C) I
  refine wpAny_call (make_map (f := f) I.kIn M.makes M.init (beq_iff_eq.mp M.fn) (codeAny_mono (G _ X.stack _ _ (Value.ref (s.heap.objs.size + 1) :: us) (V.ref (s.heap.objs.size + 1) :: vs) _ _ (hr.make C us []) hg (J.env0.make C us []) (.cons rfl r) hq) fun z t hz => ?_))
  cases z with
  | error u => exact passAt tk σ pins _ _ u t J hz
  | ok fl => cases fl with
    | ret u =>
      obtain ⟨v, G', J2, rv, ev, q3⟩ := J.after hz
      subst ev
      exact ⟨rv, ⟨V.ref (s.heap.objs.size + 1), G', J2, rfl, q3⟩⟩
    | _ => exact hz.elim
theorem fe_mkX {kk : List MV → List MO → Res MV} (hkk : ∀ {K : PySem.W.Frag} {Z ι : List Addr} {μ : List MO} {H : Hp} {σ : St} {as : List MV} {Q : VK}, Sta K Z ι μ H → Out K W σ Z ι H (kk as μ) (Val K Q) → Out K W σ Z ι H (mkO C F n as μ) (Val K Q)) (c : Mak' X.prog X.w X.K X.mg X.base k x C n F) (tk : Takes X W) (hg : X.A.guards = some []) (hr : Room j X.A) (ha : FA X W (e :: es) ms) (hk : k + 1 ≤ j := by decide) (hgl : Gl X x := by rfl)
    (hdb : (x == ("__debug__" : Str)) = false := by decide) (he : starEach (e :: es) X.env = (false, eval e X.env) :: starEach es X.env := by rfl) (hpl : (backTo pos (starEach es X.env)).any (·.1) = false := by rfl) :
    FE X W (.Call (.Name x p) (e :: es) [] pos) (fun ρ μ => (ms ρ μ).bind kk) := by
  obtain ⟨f, M, G⟩ := c.ex
  refine pe_imp (t := fun σ H Q => tMA X.K W ms σ H fun vs H1 => ∀ x dx, H1 x = none → H1 dx = none → dx ≠ x → spF X.K n F (.ref x :: vs) (upd (upd H1 dx (.own x)) x (.ins C dx [])) (fun v H2 => v = .non ∧ Q (.ref x) H2) (WE W σ)) ⟨?_⟩ ?_
  · intro pins s σ H Q I h
    refine PySem.wpAny_Call_Name_kw (ld_glob I hgl c.g ?_ hdb)
    refine PySem.W.callWith_K (h₀ := X.base) I.ok.mod.kin M.kp (thn (ha.run pos pins s σ H _ I h) fun us s1 hh => ?_) he hpl
    obtain ⟨vs, H1, I1, r, q⟩ := hh
    exact ⟨I1.kIn, run_mk M G tk hg (hr.mono hk) I1 r q⟩
  · rintro σ H Q ⟨Z, ι, ρ, μ, R, o⟩
    exact tMA_bind R o fun v μ' Z' ι' H' xs x1 R1 r1 o1 => make_step R1.sta r1 (hkk R1.sta o1)
/-- the new instance as data -/
theorem mkF_ok {K : PySem.W.Frag} {Z ι : List Addr} {μ : List MO} {H : Hp} {σ : St} {as : List MV} {Q : VK} (s : Sta K Z ι μ H) (o : Out K W σ Z ι H (mkF C F n as μ) (Val K Q)) : Out K W σ Z ι H (mkO C F n as μ) (Val K Q) := by
  unfold mkF at o
  cases q : mkO C F n as μ with
  | exc C' fs μ' => rw [q] at o; exact o
  | bad => rw [q] at o; exact o
  | ok v μ' =>
    rw [q] at o
    simp only [Res.bind_ok] at o
    intro Z2 ι2 H2 x2 s2 w rw'
    split at o
    · rename_i k
      split at o
      · rename_i C' fs hx
        split at o
        · rename_i ds hd
          split at o
          · rename_i hh
            obtain ⟨rfl, t⟩ := hh
            cases rw' with | ref rk =>
              obtain ⟨ho, h1, h2⟩ := s2.obj _ _ _ rk hx
              cases h2 with | ins r =>
                have dr := dataF_ok r hd
                obtain ⟨s3, x3⟩ := Sta.drop (d := .non) x2 s2 s.trk s.len (Nat.le_refl _) rk t
                refine o _ ι H2 x3 s3 _ (.d (.obj (mask_in (fun z => ?_) h1) (dr.mono (mask_less fun b hb => (List.mem_filter.mp hb).1) _ _)))
                exact of_decide_eq_true (List.mem_filter.mp z).2 rfl
          · exact o.elim
        · exact o.elim
      · exact o.elim
    · exact o.elim
theorem fe_mkF (c : Mak' X.prog X.w X.K X.mg X.base k x C n F) (tk : Takes X W) (hg : X.A.guards = some []) (hr : Room j X.A) (ha : FA X W (e :: es) ms) (hk : k + 1 ≤ j := by decide) (hgl : Gl X x := by rfl)
    (hdb : (x == ("__debug__" : Str)) = false := by decide) (he : starEach (e :: es) X.env = (false, eval e X.env) :: starEach es X.env := by rfl) (hpl : (backTo pos (starEach es X.env)).any (·.1) = false := by rfl) :
    FE X W (.Call (.Name x p) (e :: es) [] pos) (mMkF C F n ms) := fe_mkX (fun s o => mkF_ok s o) c tk hg hr ha hk hgl hdb he hpl
end
section
variable {P : Program} {w : World} {K : PySem.W.Frag} {mg : Str → Option Value} {base : Heap}
/-- a def of a class's body, from its body -/
theorem Mdef.mini {x qual : Str} {st : Stmt} {N ps : List Str} {k n : Nat} {f : Addr} {fz : Bool} {m : MS} (D : Mdef K x qual st ps f) (S : FnScope N ps (defScope st)) (hn : ps.length = n)
    (body : ∀ (cdv : Value) (A : Around) (outer : List Env) (s : Shared) (H : Hp) (E : XK), (A.deeper (PyProof.Rows.envOfC qual (defScope st) s.heap.objs.size f cdv)).guards = some [] →
      Room k (A.deeper (PyProof.Rows.envOfC qual (defScope st) s.heap.objs.size f cdv)) →
      FSs (cxOf (L2.CX P w) P w K mg base N qual (defScope st) f cdv A outer s H E) (fun c d _ H' => E c d H') (defBody st) m) : FnG P w K mg base (L2.CX P w) (k + 1) f (spF K n (fnT fz N.length m)) := by
  obtain ⟨fd, F, b⟩ := D.ex
  exact fn_g F b S (fun vs H Q E h => h.1.trans hn.symm) fun cdv A outer s H vs Q E hg hr h => ⟨_, body cdv A outer s H E hg hr, bodyT_ok h⟩
end
end TT
namespace TT
open PySem L2
variable [TB]
section
variable {X : Cx} {W : WX} {k j n : Nat} {C : Addr} {F : MF} {a b e : Expr} {pos p : Pos} {ma mb : ME}
/-- a def run in some surroundings -/
theorem run_fa {A' : Around} {f : Addr} {sp : Sp} {pins : List (Addr × Obj)} {σ : St} {H : Hp} {s : Shared} {Q : VK} {us : List Value} {vs : List V} (G : FnG X.prog X.w X.K X.mg X.base (L2.CX X.prog X.w) k f sp) (tk : Takes X W) (hg : A'.guards = some []) (hr : Room k A')
    (en : Env0 X.prog X.w X.K X.mg X.base A' X.stack s H) (I : Inv X pins σ H s) (r : Vals vs us) (h : sp vs H Q (WE W σ)) : wpAny (model X.prog X.w) A' (call (.ref f) us) (EP X pins σ Q) X.xe s := by
  refine wpAny_call (codeAny_mono (G A' X.stack s H us vs Q (WE W σ) hr hg en r h) fun z t hz => ?_)
  cases z with
  | error u => exact passAt tk σ pins H s u t I hz
  | ok fl => cases fl with
    | ret u => exact I.after hz
    | _ => exact hz.elim
/-- a special method of the class at C: found at f, keeping F -/
structure Spc (P : Program) (w : World) (K : PySem.W.Frag) (mg : Str → Option Value) (base : Heap) (k : Nat) (C : Addr) (m : Str) (n : Nat) (F : MF) : Prop where
  ex : ∃ f, PySem.W.findIn K (.ref C) m = some (some (.ref f)) ∧ PySem.W.isFn K (.ref f) = true ∧ PySem.W.fnIn K f = true ∧ FnG P w K mg base (L2.CX P w) k f (spF K n F)
def isInsC (C : Addr) (v : MV) (μ : List MO) : Bool := match v with
  | .d (.obj C' _) => decide (C' = C)
  | .ref n => match μ[n]? with
    | some (.ins C' _) => decide (C' = C)
    | _ => false
  | _ => false
theorem isInsC_ok {K : PySem.W.Frag} {Z ι : List Addr} {μ : List MO} {H : Hp} {C : Addr} {v : MV} {x : V} (s : Sta K Z ι μ H) (r : RM K (mask H Z) ι v x) (h : isInsC C v μ = true) : ∃ a dx fs, x = .ref a ∧ H a = some (.ins C dx fs) := by
  unfold isInsC at h
  split at h
  · simp only [decide_eq_true_eq] at h
    cases r with | d r => cases r with | obj q r => exact ⟨_, _, _, rfl, by rw [← h]; exact mask_same _ _ _ _ q⟩
  · split at h
    · rename_i C' fs hx
      simp only [decide_eq_true_eq] at h
      cases r with | ref r =>
        obtain ⟨ho, h1, h2⟩ := s.obj _ _ _ r hx
        cases h2 with | ins r2 => exact ⟨_, _, _, rfl, by rw [← h]; exact h1⟩
    · cases h
  · cases h
/-- len(o) -/
def mOLen (C : Addr) (F : MF) (ms : MA) : ME := fun ρ μ => (ms ρ μ).bind fun as μ1 => match as with
  | [v] => if isInsC C v μ1 = true then (callF F [v] μ1).bind fun r μ2 => match r with
    | .d (.int n) => if 0 ≤ n ∧ n < 2 ^ 63 then .ok (.d (.int n)) μ2 else .bad
    | _ => .bad else .bad
  | _ => .bad
theorem out_then {K : PySem.W.Frag} {σ : St} {Z ι : List Addr} {H : Hp} {r : Res MV} {g : MV → List MO → Res MV} {Q Q' : VK} (o : Out K W σ Z ι H (r.bind g) (Val K Q)) (h : ∀ v μ' Z' ι' H' x, Sta K Z' ι' μ' H' → RM K (mask H' Z') ι' v x → Out K W σ Z' ι' H' (g v μ') (Val K Q) → Q' x H') : Out K W σ Z ι H r (Val K Q') := by
  cases r with
  | ok v μ' => exact fun Z2 ι2 H2 x2 s2 x rx => h v μ' Z2 ι2 H2 x s2 rx (Out.base o x2)
  | exc C fs μ' => exact o
  | bad => exact o
theorem fe_olen (c : Spc X.prog X.w X.K X.mg X.base k C "__len__" 1 F) (tk : Takes X W) (hg : X.A.guards = some []) (hr : Room j X.A) (hm : X.mg "len" = none) {ms : MA} (ha : FA X W [e] ms) (hk : k + 1 ≤ j := by decide) (hgl : Gl X "len" := by rfl)
    (he : starEach [e] X.env = (false, eval e X.env) :: starEach [] X.env := by rfl) (hpl : (backTo pos (starEach [] X.env)).any (·.1) = false := by rfl) : FE X W (.Call (.Name "len" p) [e] [] pos) (mOLen C F ms) := by
  obtain ⟨f, h1, h2, h3, G⟩ := c.ex
  refine pe_imp (t := fun σ H Q => tMA X.K W ms σ H fun vs H1 => ∃ a dx fs, vs = [.ref a] ∧ H1 a = some (.ins C dx fs) ∧ spF X.K 1 F [.ref a] H1 (fun z H2 => ∃ n, z = .int n ∧ (0 ≤ n ∧ n < 2 ^ 63) ∧ Q (.int n) H2) (WE W σ)) ⟨?_⟩ ?_
  · intro pins s σ H Q I h
    refine PySem.wpAny_Call_Name_kw (ld_blt I hgl hm PySem.boot_len ?_)
    refine PyProof.Rows.callWith_builtin1 (thn (ha.run pos pins s σ H _ I h) fun us s1 hh => ?_) he hpl
    obtain ⟨vs, H1, I1, r1, a, dx, fs, rfl, ea, q⟩ := hh
    obtain ⟨u, rfl, ru⟩ := vals1 r1
    cases (show u = Value.ref a from ru)
    obtain ⟨mA, O, _⟩ := ins_get I1.hok ea
    obtain ⟨od, J, _⟩ := O.look
    obtain ⟨m, hF⟩ := I1.fr
    refine PySem.W.len_K hF I1.ok.mod.kin J h1 h2 (thn (run_fa (us := [.ref a]) (vs := [.ref a]) G tk hg (show Room k X.A.in1 from Room.in1 (hr.mono hk)) I1.env0.in1 I1 (.cons rfl .nil) q) fun z s2 hz => ?_)
    obtain ⟨v, H2, I2, rv, n, rfl, hb, q2⟩ := hz
    obtain ⟨t, rfl⟩ := rv
    exact ⟨hb, .int n, H2, I2.tok _, ⟨_, rfl⟩, q2⟩
  · rintro σ H Q ⟨Z, ι, ρ, μ, R, o⟩
    refine tMA_bind R o fun v μ' Z' ι' H' xs x1 R1 r1 o1 => ?_
    cases r1 with
    | nil => exact o1.elim
    | cons r1 rr => cases rr with
      | cons _ _ => exact o1.elim
      | nil =>
        simp only at o1
        split at o1
        · rename_i hi
          obtain ⟨a, dx, fs, rfl, e2⟩ := isInsC_ok R1.sta r1 hi
          refine ⟨a, dx, fs, rfl, e2, call_frame R1.sta (.cons r1 .nil) rfl (out_then o1 fun v μ2 Z2 ι2 H2 x s2 rx o2 => ?_)⟩
          split at o2
          · rename_i n
            split at o2
            · rename_i hb
              cases rx with | d rx => cases rx with | int => exact ⟨n, rfl, hb, Out.ret s2 o2 (.d (.int n))⟩
            · exact o2.elim
          · exact o2.elim
        · exact o1.elim
/-- a test by a comparison of any kind -/
theorem ft_pc {op : CmpOp} {t : TE} {m : ME} (h : ∀ (pins : List (Addr × Obj)) (s : Shared) (σ : St) (H : Hp) (Q : VK), Inv X pins σ H s → t σ H Q → wpAny (model X.prog X.w) X.A (eval a X.env) (fun v s1 => wpAny (model X.prog X.w) X.A (eval b X.env) (fun u s2 => wpAny (model X.prog X.w) X.A (compareOp op v u) (EP X pins σ Q) X.xe s2) X.xe s1) X.xe s)
    (hi : ∀ σ H Q, tM X.K W m σ H Q → t σ H Q) (hm : behindInMarks op b = false := by rfl) : FT X W (.Compare a [op] [b] pos) (mB m) := by
  refine pt_imp (pt_cmp ⟨h⟩ hm) fun σ H Q ⟨Z, ι, ρ, μ, R, o⟩ => hi σ H _ ⟨Z, ι, ρ, μ, R, ?_⟩
  unfold mB at o
  cases q : m ρ μ with
  | exc C fs μ' => rw [q] at o; exact o
  | bad => rw [q] at o; exact o
  | ok v μ' => rw [q] at o; exact fun Z1 ι1 H1 x1 s1 x rx => bool_rule s1 rx (Out.base o x1)
/-- C.NAME -/
theorem fe_cint {x f : Str} {i : Int} {mc : Value} {p2 : Pos} (hm : X.mg x = some (.ref C)) (r : ClX.CRead X.K C mc) (v : ∃ u, ClX.CVal X.K C mc f (.int i) u) (hgl : Gl X x := by rfl) (hd : (x == ("__debug__" : Str)) = false := by decide)
    (hb : attributeBase (.Name x p) f X.env (eval (.Name x p) X.env) = eval (.Name x p) X.env := by rfl) : FE X W (.Attribute (.Name x p) f p2) (mC (.int i)) := by
  obtain ⟨u, v⟩ := v
  exact pe_imp (ClX.pe_cval (pe_glob (v := .ref C) hgl hm rfl hd) hb) fun σ H Q ⟨Z, ι, ρ, μ, R, o⟩ => ⟨C, mc, .int i, u, rfl, r, v, Out.ret R.sta o (.d (.int i))⟩
/-- C.m(), a classmethod -/
structure CMt (P : Program) (w : World) (K : PySem.W.Frag) (mg : Str → Option Value) (base : Heap) (k : Nat) (C : Addr) (m : Str) (n : Nat) (F : MF) : Prop where
  ex : ∃ mc p g, ClX.CRead K C mc ∧ ClX.CMet K C mc m p g ∧ FnG P w K mg base (L2.CX P w) k g (spF K n F)
theorem fe_cmeth0 {x m : Str} {pl : Sem Bool} {p2 : Pos} (c : CMt X.prog X.w X.K X.mg X.base k C m 1 F) (hm : X.mg x = some (.ref C)) (tk : Takes X W) (hg : X.A.guards = some []) (hr : Room j X.A) (hk : k ≤ j := by decide) (hgl : Gl X x := by rfl) (hd : (x == ("__debug__" : Str)) = false := by decide)
    (ht : eval (.Call (.Attribute (.Name x p) m p2) [] [] pos) X.env = (do
      let ov ← eval (.Name x p) X.env
      standAt p2.atName
      let (f, first) ← holding [ov] (getMethod ov m pl)
      callWith pos f first (backTo pos (starEach [] X.env)) (backToKw pos (keywordEach [] X.env))) := by rfl) :
    FE X W (.Call (.Attribute (.Name x p) m p2) [] [] pos) (mCall F 1 (mCons (mC (.gl C)) mNil)) := by
  obtain ⟨mc, pp, g, r, cm, G⟩ := c.ex
  refine ⟨fun pins s σ H Q I h => ?_⟩
  obtain ⟨Z, ι, ρ, μ, R, o⟩ := h
  refine PySem.W.methodCall_KW (pl := pl) (ld_glob I hgl hm ?_ hd) ht
  refine ClX.getmethcm_ok I r cm fun s2 I2 => ?_
  have o1 : Out X.K W σ Z ι H (callF F [.d (.gl C)] μ) (Val X.K Q) := o
  have q : spF X.K 1 F [.ref C] H Q (WE W σ) := call_frame R.sta (.cons (.d (.gl C)) .nil) rfl o1
  have z : wpAny (model X.prog X.w) X.A (call (.ref _) []) (EP X ((_, PySem.W.methodObj (.ref g) (.ref C)) :: pins) σ Q) X.xe s2 :=
    wpAny_call (PySem.W.method_call (ClX.pin_at I2) (codeAny_mono (G X.A X.stack s2 H [.ref C] [.ref C] Q (WE W σ) (hr.mono hk) hg I2.env0 (.cons rfl .nil) q) fun z t hz => by
      cases z with
      | error u => exact passAt tk σ _ H s2 u t I2 hz
      | ok fl => cases fl with
        | ret u => exact I2.after hz
        | _ => exact hz.elim))
  exact PySem.W.callWith_M0 (first := []) ⟨ClX.pin_at I2, I2.kIn⟩ cm.fi (thn z fun _ _ y => ClX.unpinE y)
end
end TT
namespace TT
open PySem L2
variable [TB]
def valD (kvs : List (Key × D)) (k : Key) : Option D := match kvs with
  | [] => none
  | (j, d) :: r => if j = k then some d else valD r k
def putD (kvs : List (Key × D)) (k : Key) (d : D) : List (Key × D) := if (kvs.any fun p => decide (p.1 = k)) = true then kvs.map (fun p => if p.1 = k then (p.1, d) else p) else kvs ++ [(k, d)]
section
variable {K : PySem.W.Frag} {F : Hp}
theorem DRk.val {k : Key} : ∀ {kvs : List (Key × D)} {vs : List (Key × V)}, DRk K F kvs vs → (∀ d, valD kvs k = some d → ∃ v, valV vs k = some v ∧ DR K F d v) ∧ (valD kvs k = none → valV vs k = none)
  | _, _, .nil => ⟨(fun d h => nomatch h), fun _ => rfl⟩
  | _, _, .cons (k := j) (d := d0) a b => by
    obtain ⟨h1, h2⟩ := DRk.val (k := k) b
    unfold valD
    by_cases e : j = k
    · rw [if_pos e, valV_pos e]
      exact ⟨fun d h => by cases h; exact ⟨_, rfl, a⟩, fun h => by cases h⟩
    · rw [if_neg e, valV_neg e]
      exact ⟨h1, h2⟩
theorem DRk.len : ∀ {kvs : List (Key × D)} {vs : List (Key × V)}, DRk K F kvs vs → kvs.length = vs.length
  | _, _, .nil => rfl
  | _, _, .cons _ b => congrArg (· + 1) (DRk.len b)
theorem DRk.any {k : Key} : ∀ {kvs : List (Key × D)} {vs : List (Key × V)}, DRk K F kvs vs → (kvs.any fun p => decide (p.1 = k)) = vs.any fun p => decide (p.1 = k)
  | _, _, .nil => rfl
  | _, _, .cons _ b => by simp only [List.any_cons, DRk.any b]
theorem DRk.repl {k : Key} {d : D} {v : V} (r : DR K F d v) : ∀ {kvs : List (Key × D)} {vs : List (Key × V)}, DRk K F kvs vs → DRk K F (kvs.map fun p => if p.1 = k then (p.1, d) else p) (vs.map fun p => if p.1 = k then (p.1, v) else p)
  | _, _, .nil => .nil
  | _, _, .cons (k := j) a b => by
    simp only [List.map_cons]
    by_cases e : j = k
    · simp only [e, if_true]; exact .cons r (DRk.repl r b)
    · simp only [e, if_false]; exact .cons a (DRk.repl r b)
theorem DRk.snoc {k : Key} {d : D} {v : V} (r : DR K F d v) : ∀ {kvs : List (Key × D)} {vs : List (Key × V)}, DRk K F kvs vs → DRk K F (kvs ++ [(k, d)]) (vs ++ [(k, v)])
  | _, _, .nil => .cons r .nil
  | _, _, .cons a b => .cons a (DRk.snoc r b)
theorem DRk.put {k : Key} {d : D} {v : V} (r : DR K F d v) {kvs : List (Key × D)} {vs : List (Key × V)} (h : DRk K F kvs vs) : DRk K F (putD kvs k d) (putK vs k v) := by
  unfold putD putK
  rw [h.any]
  split
  · exact h.repl r
  · exact h.snoc r
theorem DV.dict {Z : List Addr} {H : Hp} {v : V} {kvs : List (Key × D)} (h : DV K Z H (.dK kvs) v) : ∃ a vs, v = .ref a ∧ H a = some (.dK vs) ∧ DRk K (mask H Z) kvs vs := by
  cases h with
  | d h => cases h with | dK q r => exact ⟨_, _, rfl, mask_same _ _ _ _ q, r⟩
  | dK q r => exact ⟨_, _, rfl, q, r⟩
end
end TT
namespace TT
open PySem L2
variable [TB]
def strsD : List D → Option (List Str)
  | [] => some []
  | .str x :: r => (strsD r).map (x :: ·)
  | _ => none
def dV : D → V
  | .str x => .str x
  | _ => .non
structure DefD (K : PySem.W.Frag) (mg : Str → Option Value) (x : Str) (st : Stmt) (ps : List Str) (dvs : List V) : Prop where
  ex : ∃ (f : Addr) (fd : FuncData) (ds : List Value), FunD K x x (defArgs st) (defBody st) (defScope st) dvs [] f fd ∧ mg x = some (.ref f) ∧ Vals dvs ds ∧ Binds K fd ps ds
section
variable {P : Program} {w : World} {K : PySem.W.Frag} {mg : Str → Option Value} {base : Heap} {CX : CXT} {k : Nat} {f : Addr} {sp : Sp}
theorem fn_gd {x qual : Str} {params : Arguments} {bd : List Stmt} {scope : Scope} {fd : FuncData} {N ps : List Str} {dvs : List V} {ds : List Value} (F : FunD K x qual params bd scope dvs [] f fd) (hb : Binds K fd ps ds) (hd : Vals dvs ds) (S : FnScope N ps scope)
    (len : ∀ vs H Q E, sp vs H Q E → (vs ++ dvs).length = ps.length)
    (body : ∀ (cdv : Value) (A : Around) (outer : List Env) (s : Shared) (H : Hp) (vs : List V) (Q : VK) (E : XK), (A.deeper (PyProof.Rows.envOfC qual scope s.heap.objs.size f cdv)).guards = some [] →
      Room k (A.deeper (PyProof.Rows.envOfC qual scope s.heap.objs.size f cdv)) → sp vs H Q E →
      ∃ t, PSs (cxOf CX P w K mg base N qual scope f cdv A outer s H E) bd t ∧ t { nx := fun _ H' => Q .non H', rt := Q } (start N (vs ++ dvs)) H) : FnG P w K mg base CX (k + 1) f sp := by
  obtain ⟨oc, od, dV, kV, doc, pm, an, cdv, ct, osl, rfl, lk, hcd, _, _⟩ := F.ex
  intro A outer s H us vs Q E hr hg e0 r hsp
  have hl := len _ _ _ _ hsp
  have KX : K.In s.heap := e0.mod.kin.keeps fun b o e => (e0.bs b o e).1
  have r2 : Vals (vs ++ dvs) (us ++ ds) := r.append hd
  refine StX.run_bnd lk hcd S hr e0 (G := fun xs H2 => xs = vs ++ dvs ∧ H2 = H) (fun A' Ex Q' h => ?_) fun s2 H2 xs g hr' => ?_
  · exact hb s us KX (by rw [← r2.length]; exact hl) _ _ _ _ (h s H (vs ++ dvs) (us ++ ds) e0 Un.refl rfl (fun _ _ z => z) r2 hl ⟨rfl, rfl⟩)
  · obtain ⟨rfl, rfl⟩ := g
    exact body cdv A outer s2 _ _ Q E hg hr' hsp
/-- values that are data wherever they stand -/
def Cst (K : PySem.W.Frag) (dm : List MV) (dvs : List V) : Prop := ∀ F ι, RMs K F ι dm dvs
def fnD (F : MF) (dm : List MV) : MF := fun as μ => F (as ++ dm) μ
theorem RMs.append {K : PySem.W.Frag} {F : Hp} {ι : List Addr} {bs : List MV} {ws : List V} (h2 : RMs K F ι bs ws) : ∀ {as : List MV} {vs : List V}, RMs K F ι as vs → RMs K F ι (as ++ bs) (vs ++ ws)
  | _, _, .nil => h2
  | _, _, .cons a b => .cons a (RMs.append h2 b)
theorem DefD.mini {x : Str} {st : Stmt} {N ps : List Str} {k n : Nat} {fz : Bool} {m : MS} {dm : List MV} {dvs : List V} (D : DefD K mg x st ps dvs) (c : Cst K dm dvs) (S : FnScope N ps (defScope st)) (hn : n + dvs.length = ps.length)
    (body : ∀ (f : Addr) (cdv : Value) (A : Around) (outer : List Env) (s : Shared) (H : Hp) (E : XK), (A.deeper (PyProof.Rows.envOfC x (defScope st) s.heap.objs.size f cdv)).guards = some [] →
      Room k (A.deeper (PyProof.Rows.envOfC x (defScope st) s.heap.objs.size f cdv)) →
      FSs (cxOf (L2.CX P w) P w K mg base N x (defScope st) f cdv A outer s H E) (fun c d _ H' => E c d H') (defBody st) m) : Fn P w K mg base (k + 1) x n (fnD (fnT fz N.length m) dm) := by
  obtain ⟨f, fd, ds, F, hm, hv, hb⟩ := D.ex
  refine ⟨f, fn_gd F hb hv S (fun vs H Q E h => ?_) fun cdv A outer s H vs Q E hg hr h => ⟨_, body f cdv A outer s H E hg hr, bodyT_ok (fz := fz) (n := n + dvs.length) ?_⟩, hm, F.kp⟩
  · rw [List.length_append, h.1]; exact hn
  · obtain ⟨h1, Z, ι, as, μ, s1, r1, o⟩ := h
    exact ⟨by rw [List.length_append, h1], Z, ι, as ++ dm, μ, s1, (c _ _).append r1, o⟩
end
end TT
namespace TT
open PySem L2
structure FunC (K : PySem.W.Frag) (x qual : Str) (st : Stmt) (f : Addr) (fd : FuncData) (cdv : Value) : Prop where
  ex : ∃ (oc : Value) (od : Option Addr) (kV doc pm : Value) (an : Option Addr) (ct : Value) (osl : Array (Option Value)),
    fd = PySem.W.fnOf x qual (defArgs st) (defBody st) (defScope st) .none kV doc pm an cdv ct ∧ K.lookup f = some ⟨oc, od, .func fd, osl⟩ ∧ PySem.W.codeIn K cdv qual = true
section
variable {P : Program} {w : World} {K : PySem.W.Frag} {mg : Str → Option Value} {base : Heap} {CX : CXT} {k : Nat} {f : Addr} {sp : Sp}
theorem fn_gc {x qual : Str} {st : Stmt} {fd : FuncData} {N ps : List Str} {cdv : Value} (F : FunC K x qual st f fd cdv) (hb : Binds K fd ps []) (S : FnScope N ps (defScope st))
    (len : ∀ vs H Q E, sp vs H Q E → vs.length = ps.length)
    (body : ∀ (A : Around) (outer : List Env) (s : Shared) (H : Hp) (vs : List V) (Q : VK) (E : XK), (A.deeper (PyProof.Rows.envOfC qual (defScope st) s.heap.objs.size f cdv)).guards = some [] →
      Room k (A.deeper (PyProof.Rows.envOfC qual (defScope st) s.heap.objs.size f cdv)) → sp vs H Q E →
      ∃ t, PSs (cxOf CX P w K mg base N qual (defScope st) f cdv A outer s H E) (defBody st) t ∧ t { nx := fun _ H' => Q .non H', rt := Q } (start N vs) H) : FnG P w K mg base CX (k + 1) f sp := by
  obtain ⟨oc, od, kV, doc, pm, an, ct, osl, rfl, lk, hcd⟩ := F.ex
  intro A outer s H us vs Q E hr hg e0 r hsp
  have hl : vs.length = ps.length := len _ _ _ _ hsp
  have KX : K.In s.heap := e0.mod.kin.keeps fun b o e => (e0.bs b o e).1
  refine StX.run_bnd lk hcd S hr e0 (G := fun xs H2 => xs = vs ∧ H2 = H) (fun A' Ex Q' h => ?_) fun s2 H2 xs g hr' => ?_
  · have q := hb s us KX (by rw [List.append_nil, ← r.length]; exact hl)
    rw [List.append_nil] at q
    exact q _ _ _ _ (h s H vs us e0 Un.refl rfl (fun _ _ z => z) r hl ⟨rfl, rfl⟩)
  · obtain ⟨rfl, rfl⟩ := g
    exact body A outer s2 _ _ Q E hg hr' hsp
end
structure DefC (K : PySem.W.Frag) (mg : Str → Option Value) (x : Str) (st : Stmt) (ps : List Str) (cdv : Value) : Prop where
  ex : ∃ (f : Addr) (fd : FuncData), FunC K x x st f fd cdv ∧ mg x = some (.ref f) ∧ Binds K fd ps [] ∧ PySem.W.keepIn K (.ref f) = true
structure MdefC (K : PySem.W.Frag) (x qual : Str) (st : Stmt) (ps : List Str) (f : Addr) (cdv : Value) : Prop where
  ex : ∃ (fd : FuncData), FunC K x qual st f fd cdv ∧ Binds K fd ps []
section
variable [TB] {P : Program} {w : World} {K : PySem.W.Frag} {mg : Str → Option Value} {base : Heap}
theorem DefC.mini {x : Str} {st : Stmt} {N ps : List Str} {k n : Nat} {fz : Bool} {m : MS} {cdv : Value} (D : DefC K mg x st ps cdv) (S : FnScope N ps (defScope st)) (hn : ps.length = n)
    (body : ∀ (f : Addr) (A : Around) (outer : List Env) (s : Shared) (H : Hp) (E : XK), (A.deeper (PyProof.Rows.envOfC x (defScope st) s.heap.objs.size f cdv)).guards = some [] →
      Room k (A.deeper (PyProof.Rows.envOfC x (defScope st) s.heap.objs.size f cdv)) →
      FSs (cxOf (L2.CX P w) P w K mg base N x (defScope st) f cdv A outer s H E) (fun c d _ H' => E c d H') (defBody st) m) : Fn P w K mg base (k + 1) x n (fnT fz N.length m) := by
  obtain ⟨f, fd, F, hm, b, kp⟩ := D.ex
  exact ⟨f, fn_gc F b S (fun vs H Q E h => h.1.trans hn.symm) fun A outer s H vs Q E hg hr h => ⟨_, body f A outer s H E hg hr, bodyT_ok h⟩, hm, kp⟩
theorem MdefC.mini {x qual : Str} {st : Stmt} {N ps : List Str} {k n : Nat} {f : Addr} {fz : Bool} {m : MS} {cdv : Value} (D : MdefC K x qual st ps f cdv) (S : FnScope N ps (defScope st)) (hn : ps.length = n)
    (body : ∀ (A : Around) (outer : List Env) (s : Shared) (H : Hp) (E : XK), (A.deeper (PyProof.Rows.envOfC qual (defScope st) s.heap.objs.size f cdv)).guards = some [] →
      Room k (A.deeper (PyProof.Rows.envOfC qual (defScope st) s.heap.objs.size f cdv)) →
      FSs (cxOf (L2.CX P w) P w K mg base N qual (defScope st) f cdv A outer s H E) (fun c d _ H' => E c d H') (defBody st) m) : FnG P w K mg base (L2.CX P w) (k + 1) f (spF K n (fnT fz N.length m)) := by
  obtain ⟨fd, F, b⟩ := D.ex
  exact fn_gc F b S (fun vs H Q E h => h.1.trans hn.symm) fun A outer s H vs Q E hg hr h => ⟨_, body A outer s H E hg hr, bodyT_ok h⟩
end
section
open PySem.W PyProof.Rows
variable {P : Program} {w : World} {K : PySem.W.Frag} {mg mb : Str → Option Value} {CX : CXT} {k : Nat} {fa a : Addr} {sp : Sp} {s₁ : Shared} {vs : List Value} {ns : List Int} {cs : List (Addr × Addr)}
/-- the tables are empty; all else that is known is the script -/
structure Start (cs : List (Addr × Addr)) (H : Hp) : Prop where
  tab : ∀ p ∈ cs, H p.2 = some (.tbl #[])
  rest : ∀ b, H b = none ∨ b ∈ cs.map (·.2) ∨ ∃ o xs, H b = some (.frz o (.lst xs))
theorem lawGT (KX : K.In s₁.heap) (hns : s₁.heap.Ns mainGlobals mg) (hb : s₁.heap.Ns builtinsNs mb) (hbb : ∀ x : Str, x ≠ "__name__" → mb x = bootBuiltins x) (hlim : s₁.heap.NoLimit) (hg : s₁.gens = #[])
    (tE : ∀ p ∈ cs, s₁.heap.get? p.2 = some (tabObj #[])) (tN : ∀ p ∈ cs, K.lookup p.2 = none) (tC : ∀ p ∈ cs, CodeHd s₁.heap p.1 p.2)
    (bm : ∃ (b : Addr) (ob : Obj), mg "__builtins__" = some (.ref b) ∧ b ≠ builtinsNs ∧ s₁.heap.get? b = some ob ∧ ob.cls = .type "module" ∧ ob.dict = some builtinsNs ∧ ob.data = .plain)
    (ha : s₁.heap.get? a = some { cls := .type "list", data := .seq vs.toArray }) (hi : IntsAre vs ns) (hl : ns.length ≤ sizeLine) (hr : Room k callerA)
    (F : ∀ base : Heap, K.In base → base.Ns mainGlobals mg → (∀ p ∈ cs, LamX.TabB base mg p.1 p.2) → FnG P w K mg base CX k fa sp)
    (hsp : ∀ H : Hp, Start cs H → SqL K H a (ns.map V.int) → sp [.ref a] H (fun v _ => v = .bl true) fun _ _ _ => False)
    (hCX : ∀ H e s', CX [] H s₁ (fun _ _ _ => False) e s' → False) :
    codeAny (model P w) callerA (.call (.ref fa) ⟨[.ref a], []⟩) (fun r s' => r = .ok (.ret (.bool true)) ∧ OldK s₁.heap s'.heap ∧ s'.os = s₁.os ∧ AllBare s'.gens) s₁ := by
  have tO : ∀ b, b ∈ cs.map (·.2) → s₁.heap.get? b = some (tabObj #[]) := fun b q => by
    obtain ⟨p, h1, rfl⟩ := List.mem_map.mp q
    exact tE p h1
  have nT : a ∉ cs.map (·.2) := fun q => by
    have e := tO a q
    rw [ha] at e; cases e
  have inT : ∀ {p}, p ∈ cs → p.2 ∈ cs.map (·.2) := fun {p} h => List.mem_map.mpr ⟨p, h, rfl⟩
  suffices core : ∀ H : Hp, Start cs H → SqL K H a (ns.map V.int) → HOk P w H s₁.heap → (∀ b u, H b = some u → (b = a ∧ K.lookup a = none) ∨ b ∈ cs.map (·.2)) → _ by
    cases hk : K.lookup a with
    | some o =>
      obtain rfl : o = { cls := .type "list", data := .seq vs.toArray } := by have e := KX a o hk; rw [ha] at e; cases e; rfl
      let G : Hp := fun b => if b ∈ cs.map (·.2) then some (.tbl #[]) else none
      have gy : ∀ b, b ∈ cs.map (·.2) → G b = some (.tbl #[]) := fun b h => if_pos h
      have gn : ∀ b, b ∉ cs.map (·.2) → G b = none := fun b h => if_neg h
      refine core G ⟨fun p h => gy _ (inT h), fun b => ?_⟩ (.inr ⟨_, vs.toArray, _, hk, rfl, rfl, rfl, ?_, ?_⟩) (fun b u z => ?_) fun b u z => ?_
      · by_cases q : b ∈ cs.map (·.2)
        · exact .inr (.inl q)
        · exact .inl (gn b q)
      · rw [List.size_toArray, hi.length]; exact hl
      · simpa using vals_ints hi
      · by_cases q : b ∈ cs.map (·.2)
        · rw [gy b q] at z; cases z; exact tO b q
        · rw [gn b q] at z; cases z
      · by_cases q : b ∈ cs.map (·.2)
        · exact .inr q
        · rw [gn b q] at z; cases z
    | none =>
      let o0 : Obj := { cls := .type "list", data := .seq vs.toArray }
      let G : Hp := fun b => if b ∈ cs.map (·.2) then some (.tbl #[]) else if b = a then some (.frz o0 (.lst (ns.map V.int))) else none
      have gy : ∀ b, b ∈ cs.map (·.2) → G b = some (.tbl #[]) := fun b h => if_pos h
      have ga : G a = some (.frz o0 (.lst (ns.map V.int))) := (if_neg nT).trans (if_pos rfl)
      have gn : ∀ b, b ∉ cs.map (·.2) → b ≠ a → G b = none := fun b h n => (if_neg h).trans (if_neg n)
      have sp3 : ∀ b, b ∈ cs.map (·.2) ∨ b = a ∨ G b = none := fun b => by
        by_cases q : b ∈ cs.map (·.2)
        · exact .inl q
        · by_cases n : b = a
          · exact .inr (.inl n)
          · exact .inr (.inr (gn b q n))
      refine core G ⟨fun p h => gy _ (inT h), fun b => ?_⟩ (.inl (.inr ⟨_, ga⟩)) (fun b u z => ?_) fun b u z => ?_
      · rcases sp3 b with q | q | q
        · exact .inr (.inl q)
        · rw [q]; exact .inr (.inr ⟨_, _, ga⟩)
        · exact .inl q
      · rcases sp3 b with q | q | q
        · rw [gy b q] at z; cases z; exact tO b q
        · subst q; rw [ga] at z; cases z
          exact ⟨ha, by rw [List.length_map]; exact hl, vs, _, vals_ints hi, ha⟩
        · rw [q] at z; cases z
      · rcases sp3 b with q | q | q
        · exact .inr q
        · exact .inl ⟨q, hk⟩
        · rw [q] at z; cases z
  intro H hO hS hok hA
  -- an object of another kind stays
  have off : ∀ {b : Addr} {o : Obj}, s₁.heap.get? b = some o → (b = a → K.lookup a = none → False) → (b ∈ cs.map (·.2) → False) → H b = none := fun {b o} e n n2 => by
    cases q : H b with
    | none => rfl
    | some u =>
      rcases hA b u q with z | z
      · exact (n z.1 z.2).elim
      · exact (n2 z).elim
  have offD : ∀ {b : Addr} {o : Obj}, s₁.heap.get? b = some o → (∀ xs n, o.data ≠ .seq xs n) → o.data ≠ .fields #[] → H b = none := fun {b o} e n n2 => off e
    (fun q _ => by subst q; rw [ha] at e; cases e; exact n _ _ rfl) (fun q => by have z := tO b q; rw [e] at z; cases z; exact n2 rfl)
  have nsK : ∀ {b : Addr} {m : Str → Option Value}, s₁.heap.Ns b m → (hidT s₁.heap H).Ns b m := fun {b m} z => by
    obtain ⟨o, es, ep, e, d, r⟩ := z
    exact ⟨o, es, ep, hidT_get e (offD e (fun xs n q => by rw [d] at q; cases q) fun q => by rw [d] at q; cases q), d, r⟩
  have kin : K.In (hidT s₁.heap H) := fun b o e => hidT_get (KX b o e) (off (KX b o e) (fun q n => by subst q; rw [n] at e; cases e) fun q => by
    obtain ⟨p, h1, rfl⟩ := List.mem_map.mp q
    rw [tN p h1] at e; cases e)
  have md : Mod K mg (hidT s₁.heap H) := by
    obtain ⟨mc, h1, h2⟩ := hlim
    exact ⟨kin, nsK hns, ⟨mb, nsK hb, hbb⟩, mc, nsK h1, h2⟩
  have glob : ∀ {b : Addr} {o : Obj}, s₁.heap.get? b = some o → (∀ es ep, o.data ≠ .dict es ep) → b ≠ mainGlobals := fun {b o} e n q => by
    obtain ⟨o', es, ep, e', d, _⟩ := hns
    rw [q, e'] at e; cases e
    exact n _ _ d
  have tb : ∀ p ∈ cs, LamX.TabB (hidT s₁.heap H) mg p.1 p.2 := fun p hp => by
    have e0 := tE p hp
    refine ⟨?_, ?_, fun q => glob e0 (fun es ep z => by cases z) q.symm⟩
    · obtain ⟨o, us, x1, x2, x3, x4, x5, x6, x7, e1, r1, r2, r3, r⟩ := tC p hp
      refine ⟨o, us, x1, x2, x3, x4, x5, x6, x7, hidT_get e1 (offD e1 (fun xs n q => by rw [r2] at q; cases q) fun q => ?_), r1, r2, r3, r⟩
      rw [r2] at q
      cases q
      simp at r3
    · obtain ⟨b, ob, b1, b2, b3, b4, b5, b6⟩ := bm
      refine ⟨b, ob, b1, b2, glob b3 (fun es ep z => by rw [b6] at z; cases z), fun q => ?_, hidT_get b3 (offD b3 (fun xs n z => by rw [b6] at z; cases z) fun z => by rw [b6] at z; cases z), b4, b5, b6⟩
      rw [q, e0] at b3
      cases b3
      cases b6
  have e0 : Env0 P w K mg (hidT s₁.heap H) callerA [] s₁ H :=
    { frames := rfl, mod := md, bs := fun b o e => of_hidT e, bsz := Nat.le_of_eq (hidT_size _ _), funs := trivial
      frf := fun b z => absurd (show b ∈ ([] : List Addr) from z) List.not_mem_nil
      hok := hok
      bare := .of_eq hg }
  have run := F _ kin (nsK hns) tb callerA [] s₁ H [.ref a] [.ref a] _ _ hr rfl e0 (.cons rfl .nil) (hsp H hO hS)
  refine codeAny_mono run fun z s' h => ?_
  cases z with
  | error e => exact (hCX H e s' h).elim
  | ok fl => cases fl with
    | ret u =>
      obtain ⟨v, H', os, bare, un, hok', r', q⟩ := h
      obtain rfl : v = V.bl true := q
      obtain rfl : u = Value.bool true := r'
      have stay : ∀ b o, b ∉ cs.map (·.2) → s₁.heap.get? b = some o → s'.heap.get? b = some o := fun b o nb e => by
        rcases hO.rest b with z | z | ⟨ob, xs, z⟩
        · exact un.keep b o e z (fun z => absurd (show b ∈ ([] : List Addr) from z) List.not_mem_nil) List.not_mem_nil
        · exact (nb z).elim
        · have e1 := (hok b _ z).1
          have e2 := (hok' b _ (un.frzs b ob _ z)).1
          rw [e] at e1; cases e1
          exact e2
      have more : ∀ b, b ∈ cs.map (·.2) → ∃ c m, CodeHd s₁.heap c b ∧ s'.heap.get? b = some { cls := .none, data := .fields m } := fun b q => by
        obtain ⟨p, h1, rfl⟩ := List.mem_map.mp q
        obtain ⟨m, z⟩ := un.tbls p.2 #[] (hO.tab p h1)
        exact ⟨p.1, _, tC p h1, hok' p.2 _ z⟩
      refine ⟨rfl, ⟨fun b o e => ?_, fun b o e => ?_⟩, os, bare⟩
      · by_cases q : b ∈ cs.map (·.2)
        · obtain ⟨c, m, h1, h2⟩ := more b q
          have e2 := tO b q
          rw [e2] at e; cases e
          exact .inr (.inl ⟨(h1.tab e2).isCodeTable, rfl, #[], m, rfl, by rw [Array.empty_append]; exact h2⟩)
        · exact .inl (stay b o q e)
      · by_cases q : b ∈ cs.map (·.2)
        · obtain ⟨c, m, h1, h2⟩ := more b q
          exact ⟨_, h2⟩
        · exact ⟨o, stay b o q e⟩
    | _ => exact h.elim
theorem walkGT {l : OpenLaw} {n k : Nat} {q : Program} {loose : List Str} {XP : (Str → Option Value) → Heap → Prop} {YP : World → Heap → Prop} {d : DefRec} {K : Params → Frag} {CX : World → CXT} {sp : World → Sp} {cs : List (Addr × Addr)}
    (hn : l.most = some n) (hn2 : n ≤ sizeLine) (hdf : d.params.defaults = []) (hr : Room k callerA) (hY : ∀ (w : World) (h : Heap), YP w h → (K w.params).In h) (hT : ∀ (w : World) (h : Heap), YP w h → ∀ p ∈ cs, h.get? p.2 = some (tabObj #[]))
    (tN : ∀ w : World, ∀ p ∈ cs, (K w.params).lookup p.2 = none) (tC : ∀ w : World, ∀ p ∈ cs, codeHdIn (K w.params) p.1 p.2 = true)
    (F : ∀ (w : World) (mg : Str → Option Value) (fa : Addr) (h : Heap), (K w.params).In h → h.Ns mainGlobals mg → mg d.name = some (.ref fa) →
      ∀ base : Heap, (K w.params).In base → base.Ns mainGlobals mg → (∀ p ∈ cs, LamX.TabB base mg p.1 p.2) → FnG l.prog w (K w.params) mg base (CX w) k fa (sp w))
    (hsp : ∀ (w : World) (H : Hp) (a : Addr) (ns : List Int), ns.length ≤ n → (∀ z ∈ ns, Builtin.Int.intBits z ≤ 1048576) → Start cs H → SqL (K w.params) H a (ns.map V.int) → sp w [.ref a] H (fun v _ => v = .bl true) fun _ _ _ => False)
    (hCX : ∀ (w : World) (H : Hp) (s : Shared) (e : Value) (s' : Shared), CX w [] H s (fun _ _ _ => False) e s' → False) : WalkO q loose XP YP l.row.toRowW d [] (fun f vs => PySem.call f vs) := by
  refine Att.attach_callB hn hdf fun w s₀ s₁ mg mb fa o pm cd doc a vs ns G Y ho hd hcd hmg hobj hints hlen hbits hg => ?_
  have kx := hY w _ Y
  exact lawGT kx G.T.g G.T.b G.T.builtins G.T.nolimit hg (hT w _ Y) (tN w) (fun p hp => codeHd_of_K kx (tC w p hp)) G.T.bmain hobj hints (Nat.le_trans hlen hn2) hr (F w mg fa _ kx G.T.g hmg) (fun H z => hsp w H a ns hlen hbits z) fun H => hCX w H s₁
end
section
variable [TB] {K : PySem.W.Frag}
theorem drs_ints {F : Hp} : ∀ ns : List Int, DRs K F (ns.map D.int) (ns.map V.int)
  | [] => .nil
  | n :: ns => .cons (.int n) (drs_ints ns)
theorem law_end {cs : List (Addr × Addr)} {H : Hp} {a : Addr} {ns : List Int} {F : MF} {μ' : List MO} (hT : ∀ p ∈ TB.T, p.1 ∈ cs.map (·.2)) (st : Start cs H) (hs : SqL K H a (ns.map V.int)) (h : F [.d (.fl (ns.map D.int))] [] = .ok (.d (.bl true)) μ') :
    spF K 1 F [.ref a] H (fun v _ => v = .bl true) fun _ _ _ => False := by
  refine ⟨rfl, [], [], [.d (.fl (ns.map D.int))], [], ⟨(fun _ h => by cases h), List.nodup_nil, rfl, (fun _ h => by cases h), fun p hp => ?_, (fun n b o h1 h2 => by cases h1)⟩, .cons (.d (.fl ?_ (drs_ints ns))) .nil, ?_⟩
  · obtain ⟨q, h1, h2⟩ := List.mem_map.mp (hT p hp)
    refine LamX.TabS.nil ?_
    rw [← h2]
    exact st.tab q h1
  · rcases hs with (h | ⟨o, h⟩) | h
    · exact .inl (.inl (mask_in List.not_mem_nil h))
    · exact .inl (.inr ⟨o, mask_in List.not_mem_nil h⟩)
    · exact .inr h
  · rw [h]
    intro Z ι H' x s v r
    cases r with | d r => cases r; rfl
end
end TT
namespace TT
open PySem L2
theorem argRefs_d : ∀ ds : List D, argRefs (ds.map MV.d) = []
  | [] => rfl
  | _ :: ds => argRefs_d ds
theorem toCs_d (sel : List Nat) : ∀ ds : List D, toCs sel (ds.map MV.d) = some (ds.map MV.d)
  | [] => rfl
  | d :: ds => by simp only [List.map_cons, toCs, toC, toCs_d sel ds]
theorem selOf_d (μ : List MO) (ds : List D) : selOf μ (ds.map MV.d) = [] := by
  unfold selOf
  rw [argRefs_d]
  rfl
section
variable {F : MF} {μ : List MO} {a b c d v : D} {n : Nat} {xs ys : List D} {C : Addr} {fs : List (Str × D)} {ds : List D}
theorem callD (h : F (ds.map MV.d) [] = .ok (.d v) []) : callF F (ds.map MV.d) μ = .ok (.d v) μ := by
  unfold callF
  rw [selOf_d]
  simp [toCs_d, pick, h, back, wb, putAll]
theorem call1 (h : F [.d a] [] = .ok (.d v) []) : callF F [.d a] μ = .ok (.d v) μ := callD (ds := [a]) h
theorem call2 (h : F [.d a, .d b] [] = .ok (.d v) []) : callF F [.d a, .d b] μ = .ok (.d v) μ := callD (ds := [a, b]) h
theorem leads_lst (hn : μ[n]? = some (.lst xs)) : leads μ [n] = [] := by
  simp [leads, hn, MO.refs]
theorem selOf_b (hn : μ[n]? = some (.lst xs)) : selOf μ (.ref n :: ds.map MV.d) = [n] := by
  unfold selOf
  have e : argRefs (.ref n :: ds.map MV.d) = [n] := by simp [argRefs, MV.refs, argRefs_d]
  rw [e]
  have e2 : addAll [] [n] = [n] := by simp [addAll]
  have e3 : addAll [n] [] = [n] := rfl
  show addAll (addAll (addAll [] [n]) (leads μ (addAll [] [n]))) (leads μ (addAll (addAll [] [n]) (leads μ (addAll [] [n])))) = [n]
  rw [e2, leads_lst hn, e3, leads_lst hn, e3]
theorem callB (hn : μ[n]? = some (.lst xs)) (h : F (.ref 0 :: ds.map MV.d) [.lst xs] = .ok (.d v) [.lst ys]) : callF F (.ref n :: ds.map MV.d) μ = .ok (.d v) (μ.set n (.lst ys)) := by
  unfold callF
  rw [selOf_b hn]
  have e : toCs [n] (.ref n :: ds.map MV.d) = some (.ref 0 :: ds.map MV.d) := by simp [toCs, toC, toCs_d]
  simp [e, pick, hn, toCO, h, back, wb, putAll, backO]
theorem callB1 (hn : μ[n]? = some (.lst xs)) (h : F [.ref 0] [.lst xs] = .ok (.d v) [.lst ys]) : callF F [.ref n] μ = .ok (.d v) (μ.set n (.lst ys)) := callB (ds := []) hn h
theorem callB2 (hn : μ[n]? = some (.lst xs)) (h : F [.ref 0, .d a] [.lst xs] = .ok (.d v) [.lst ys]) : callF F [.ref n, .d a] μ = .ok (.d v) (μ.set n (.lst ys)) := callB (ds := [a]) hn h
end
theorem cx_none {P : Program} {w : World} {H : Hp} {s : Shared} {e : Value} {s' : Shared} (h : L2.CX P w [] H s (fun _ _ _ => False) e s') : False := by
  unfold L2.CX at h
  obtain ⟨_, _, _, _, _, _, _, _, _, _, _, _, z⟩ := h
  exact z
section
open PySem.W PyProof.Rows
theorem walkM [TB] {l : OpenLaw} {n k : Nat} {q : Program} {loose : List Str} {XP : (Str → Option Value) → Heap → Prop} {YP : World → Heap → Prop} {d : DefRec} {K : Params → Frag} {F : MF} (cs : List (Addr × Addr))
    (hn : l.most = some n) (hn2 : n ≤ sizeLine) (hdf : d.params.defaults = []) (hr : Room k callerA) (hY : ∀ (w : World) (h : Heap), YP w h → (K w.params).In h) (hT : ∀ (w : World) (h : Heap), YP w h → ∀ p ∈ cs, h.get? p.2 = some (tabObj #[]))
    (tN : ∀ w : World, ∀ p ∈ cs, (K w.params).lookup p.2 = none) (tC : ∀ w : World, ∀ p ∈ cs, codeHdIn (K w.params) p.1 p.2 = true) (hTB : ∀ p ∈ TB.T, p.1 ∈ cs.map (·.2))
    (hF : ∀ (w : World) (mg : Str → Option Value) (fa : Addr) (h : Heap), (K w.params).In h → h.Ns mainGlobals mg → mg d.name = some (.ref fa) →
      ∀ base : Heap, (K w.params).In base → base.Ns mainGlobals mg → (∀ p ∈ cs, LamX.TabB base mg p.1 p.2) → FnG l.prog w (K w.params) mg base (L2.CX l.prog w) k fa (spF (K w.params) 1 F))
    (law : ∀ ns : List Int, ns.length ≤ n → (∀ z ∈ ns, Builtin.Int.intBits z ≤ 1048576) → ∃ μ', F [.d (.fl (ns.map D.int))] [] = .ok (.d (.bl true)) μ') : WalkO q loose XP YP l.row.toRowW d [] (fun f vs => PySem.call f vs) :=
  walkGT (CX := fun w => L2.CX l.prog w) (sp := fun w => spF (K w.params) 1 F) hn hn2 hdf hr hY hT tN tC hF (fun w H a ns hl hb st hS => by
    obtain ⟨μ', e⟩ := law ns hl hb
    exact law_end hTB st hS e) fun _ _ _ _ _ z => cx_none z
end
end TT
namespace TT
open PySem L2
@[simp] theorem se_line : type_of% @sizeLine_eq := @sizeLine_eq
@[simp] theorem se_0 : type_of% @TT.fnT.eq_1 := @TT.fnT.eq_1
@[simp] theorem se_1 : type_of% @TT.fnD.eq_1 := @TT.fnD.eq_1
@[simp] theorem se_2 : type_of% @TT.mSeq.eq_1 := @TT.mSeq.eq_1
@[simp] theorem se_3 : type_of% @TT.mIfS.eq_1 := @TT.mIfS.eq_1
@[simp] theorem se_4 : type_of% @TT.mAsg.eq_1 := @TT.mAsg.eq_1
@[simp] theorem se_5 : type_of% @TT.mRet.eq_1 := @TT.mRet.eq_1
@[simp] theorem se_6 : type_of% @TT.mExpr.eq_1 := @TT.mExpr.eq_1
@[simp] theorem se_7 : type_of% @TT.mB.eq_1 := @TT.mB.eq_1
@[simp] theorem se_8 : type_of% @TT.mT.eq_1 := @TT.mT.eq_1
@[simp] theorem se_9 : type_of% @TT.mBin.eq_1 := @TT.mBin.eq_1
@[simp] theorem se_10 : type_of% @TT.mUn.eq_1 := @TT.mUn.eq_1
@[simp] theorem se_11 : type_of% @TT.mN.eq_1 := @TT.mN.eq_1
@[simp] theorem se_12 : type_of% @TT.mCons.eq_1 := @TT.mCons.eq_1
@[simp] theorem se_13 : type_of% @TT.mNil.eq_1 := @TT.mNil.eq_1
@[simp] theorem se_14 : type_of% @TT.mVar.eq_1 := @TT.mVar.eq_1
@[simp] theorem se_15 : type_of% @TT.mC.eq_1 := @TT.mC.eq_1
@[simp] theorem se_16 : type_of% @TT.mAnd.eq_1 := @TT.mAnd.eq_1
@[simp] theorem se_17 : type_of% @TT.mOr.eq_1 := @TT.mOr.eq_1
@[simp] theorem se_18 : type_of% @TT.mNot.eq_1 := @TT.mNot.eq_1
@[simp] theorem se_19 : type_of% @TT.mIf.eq_1 := @TT.mIf.eq_1
@[simp] theorem se_20 : type_of% @TT.mAndV.eq_1 := @TT.mAndV.eq_1
@[simp] theorem se_21 : type_of% @TT.mOrV.eq_1 := @TT.mOrV.eq_1
@[simp] theorem se_22 : type_of% @TT.mTup.eq_1 := @TT.mTup.eq_1
@[simp] theorem se_23 : type_of% @TT.mkTup.eq_1 := @TT.mkTup.eq_1
@[simp] theorem se_24 : type_of% @TT.mSetIx.eq_1 := @TT.mSetIx.eq_1
@[simp] theorem se_25 : type_of% @TT.mNext.eq_1 := @TT.mNext.eq_1
@[simp] theorem se_26 : type_of% @TT.op1.eq_1 := @TT.op1.eq_1
@[simp] theorem se_27 : type_of% @TT.op2.eq_1 := @TT.op2.eq_1
@[simp] theorem se_28 : type_of% @TT.opN.eq_1 := @TT.opN.eq_1
@[simp] theorem se_29 : type_of% @TT.view.eq_1 := @TT.view.eq_1
@[simp] theorem se_30 : type_of% @TT.view.eq_2 := @TT.view.eq_2
@[simp] theorem se_31 : type_of% @TT.views.eq_1 := @TT.views.eq_1
@[simp] theorem se_32 : type_of% @TT.views.eq_2 := @TT.views.eq_2
@[simp] theorem se_33 : type_of% @TT.one.eq_1 := @TT.one.eq_1
@[simp] theorem se_34 : type_of% @TT.one.eq_2 := @TT.one.eq_2
@[simp] theorem se_35 : type_of% @TT.gN.eq_1 := @TT.gN.eq_1
@[simp] theorem se_36 : type_of% @TT.gC.eq_1 := @TT.gC.eq_1
@[simp] theorem se_37 : type_of% @TT.gC.eq_2 := @TT.gC.eq_2
@[simp] theorem se_38 : type_of% @TT.gE.eq_1 := @TT.gE.eq_1
@[simp] theorem se_39 : type_of% @TT.gE.eq_2 := @TT.gE.eq_2
@[simp] theorem se_40 : type_of% @TT.gT.eq_1 := @TT.gT.eq_1
@[simp] theorem se_41 : type_of% @TT.gT.eq_2 := @TT.gT.eq_2
@[simp] theorem se_42 : type_of% @TT.bool?.eq_1 := @TT.bool?.eq_1
@[simp] theorem se_43 : type_of% @TT.bool?.eq_2 := @TT.bool?.eq_2
@[simp] theorem se_44 : type_of% @TT.datas.eq_1 := @TT.datas.eq_1
@[simp] theorem se_45 : type_of% @TT.datas.eq_2 := @TT.datas.eq_2
@[simp] theorem se_46 : type_of% @TT.datas.eq_3 := @TT.datas.eq_3
@[simp] theorem se_47 : type_of% @TT.SR.finT.eq_1 := @TT.SR.finT.eq_1
@[simp] theorem se_48 : type_of% @TT.SR.finT.eq_2 := @TT.SR.finT.eq_2
@[simp] theorem se_49 : type_of% @TT.SR.finT.eq_3 := @TT.SR.finT.eq_3
@[simp] theorem se_50 : type_of% @TT.SR.finT.eq_4 := @TT.SR.finT.eq_4
@[simp] theorem se_51 : type_of% @TT.SR.finT.eq_5 := @TT.SR.finT.eq_5
@[simp] theorem se_52 : type_of% @TT.trim.eq_1 := @TT.trim.eq_1
@[simp] theorem se_53 : type_of% @TT.trimmable.eq_1 := @TT.trimmable.eq_1
@[simp] theorem se_54 : type_of% @TT.trimB.eq_1 := @TT.trimB.eq_1
@[simp] theorem se_55 : type_of% @TT.trimX.eq_1 := @TT.trimX.eq_1
@[simp] theorem se_56 : type_of% @TT.MV.refs.eq_1 := @TT.MV.refs.eq_1
@[simp] theorem se_57 : type_of% @TT.MV.refs.eq_2 := @TT.MV.refs.eq_2
@[simp] theorem se_58 : type_of% @TT.MO.refs.eq_1 := @TT.MO.refs.eq_1
@[simp] theorem se_59 : type_of% @TT.MO.refs.eq_2 := @TT.MO.refs.eq_2
@[simp] theorem se_60 : type_of% @TT.putL.eq_1 := @TT.putL.eq_1
@[simp] theorem se_61 : type_of% @TT.putL.eq_2 := @TT.putL.eq_2
@[simp] theorem se_62 : type_of% @L2.ixN.eq_1 := @L2.ixN.eq_1
@[simp] theorem se_63 : type_of% @TT.intD.eq_1 := @TT.intD.eq_1
@[simp] theorem se_64 : type_of% @TT.intD.eq_2 := @TT.intD.eq_2
@[simp] theorem se_65 : type_of% @TT.intD.eq_3 := @TT.intD.eq_3
@[simp] theorem se_66 : type_of% @TT.absD.eq_1 := @TT.absD.eq_1
@[simp] theorem se_67 : type_of% @TT.absD.eq_2 := @TT.absD.eq_2
@[simp] theorem se_68 : type_of% @TT.ixD.eq_1 := @TT.ixD.eq_1
@[simp] theorem se_69 : type_of% @TT.ixD.eq_2 := @TT.ixD.eq_2
@[simp] theorem se_70 : type_of% @TT.ixD.eq_3 := @TT.ixD.eq_3
@[simp] theorem se_71 : type_of% @TT.ixD.eq_4 := @TT.ixD.eq_4
@[simp] theorem se_72 : type_of% @TT.ixD.eq_5 := @TT.ixD.eq_5
@[simp] theorem se_73 : type_of% @L2.atI.eq_1 := @L2.atI.eq_1
@[simp] theorem se_74 : type_of% @TT.gtI.eq_1 := @TT.gtI.eq_1
@[simp] theorem se_75 : type_of% @TT.ltI.eq_1 := @TT.ltI.eq_1
@[simp] theorem se_76 : type_of% @TT.geI.eq_1 := @TT.geI.eq_1
@[simp] theorem se_77 : type_of% @TT.leI.eq_1 := @TT.leI.eq_1
@[simp] theorem se_78 : type_of% @TT.intOp.eq_1 := @TT.intOp.eq_1
@[simp] theorem se_79 : type_of% @TT.intOp.eq_2 := @TT.intOp.eq_2
@[simp] theorem se_80 : type_of% @TT.modD.eq_1 := @TT.modD.eq_1
@[simp] theorem se_81 : type_of% @TT.fdivD.eq_1 := @TT.fdivD.eq_1
@[simp] theorem se_82 : type_of% @TT.mulD.eq_1 := @TT.mulD.eq_1
@[simp] theorem se_84 : type_of% @TT.addI.eq_1 := @TT.addI.eq_1
@[simp] theorem se_85 : type_of% @TT.addD.eq_1 := @TT.addD.eq_1
@[simp] theorem se_86 : type_of% @TT.negD.eq_1 := @TT.negD.eq_1
@[simp] theorem se_87 : type_of% @TT.negD.eq_2 := @TT.negD.eq_2
@[simp] theorem se_88 : type_of% @L2.CDivW.eq_1 := @L2.CDivW.eq_1
@[simp] theorem se_89 : type_of% @L2.CMul.eq_1 := @L2.CMul.eq_1
@[simp] theorem se_90 : type_of% @TT.tru.eq_1 := @TT.tru.eq_1
@[simp] theorem se_91 : type_of% @TT.truD.eq_1 := @TT.truD.eq_1
@[simp] theorem se_92 : type_of% @TT.truD.eq_2 := @TT.truD.eq_2
@[simp] theorem se_93 : type_of% @TT.truD.eq_3 := @TT.truD.eq_3
@[simp] theorem se_94 : type_of% @TT.truD.eq_4 := @TT.truD.eq_4
@[simp] theorem se_95 : type_of% @TT.truD.eq_5 := @TT.truD.eq_5
@[simp] theorem se_96 : type_of% @TT.truD.eq_6 := @TT.truD.eq_6
@[simp] theorem se_97 : type_of% @TT.truD.eq_7 := @TT.truD.eq_7
@[simp] theorem se_98 : type_of% @TT.truD.eq_8 := @TT.truD.eq_8
@[simp] theorem se_99 : type_of% @TT.truD.eq_9 := @TT.truD.eq_9
@[simp] theorem se_100 : type_of% @TT.mPar2.eq_1 := @TT.mPar2.eq_1
@[simp] theorem se_101 : type_of% @TT.mPar3.eq_1 := @TT.mPar3.eq_1
@[simp] theorem se_102 : type_of% @TT.mAug.eq_1 := @TT.mAug.eq_1
@[simp] theorem se_103 : type_of% @TT.mMut.eq_1 := @TT.mMut.eq_1
@[simp] theorem se_104 : type_of% @TT.mutL.eq_1 := @TT.mutL.eq_1
@[simp] theorem se_105 : type_of% @TT.isLst.eq_1 := @TT.isLst.eq_1
@[simp] theorem se_110 : type_of% @TT.apD.eq_1 := @TT.apD.eq_1
@[simp] theorem se_111 : type_of% @TT.apD.eq_2 := @TT.apD.eq_2
@[simp] theorem se_116 : type_of% @TT.mFz.eq_1 := @TT.mFz.eq_1
@[simp] theorem se_117 : type_of% @TT.mOwn.eq_1 := @TT.mOwn.eq_1
@[simp] theorem se_118 : type_of% @TT.mLst.eq_1 := @TT.mLst.eq_1
@[simp] theorem se_119 : type_of% @TT.mNL.eq_1 := @TT.mNL.eq_1
@[simp] theorem se_120 : type_of% @TT.mBinL.eq_1 := @TT.mBinL.eq_1
@[simp] theorem se_121 : type_of% @TT.op2L.eq_1 := @TT.op2L.eq_1
@[simp] theorem se_122 : type_of% @TT.opNL.eq_1 := @TT.opNL.eq_1
@[simp] theorem se_123 : type_of% @TT.mIt.eq_1 := @TT.mIt.eq_1
@[simp] theorem se_124 : type_of% @TT.itemsOf.eq_1 := @TT.itemsOf.eq_1
@[simp] theorem se_125 : type_of% @TT.itemsOf.eq_2 := @TT.itemsOf.eq_2
@[simp] theorem se_126 : type_of% @TT.itemsOf.eq_3 := @TT.itemsOf.eq_3
@[simp] theorem se_127 : type_of% @TT.itemsOf.eq_4 := @TT.itemsOf.eq_4
@[simp] theorem se_128 : type_of% @TT.itemsOf.eq_5 := @TT.itemsOf.eq_5
@[simp] theorem se_129 : type_of% @TT.itemsOf.eq_6 := @TT.itemsOf.eq_6
@[simp] theorem se_130 : type_of% @TT.mItA.eq_1 := @TT.mItA.eq_1
@[simp] theorem se_131 : type_of% @TT.rng1.eq_1 := @TT.rng1.eq_1
@[simp] theorem se_132 : type_of% @TT.rng1.eq_2 := @TT.rng1.eq_2
@[simp] theorem se_133 : type_of% @TT.mChain.eq_1 := @TT.mChain.eq_1
@[simp] theorem se_142 : type_of% @TT.lenD.eq_1 := @TT.lenD.eq_1
@[simp] theorem se_143 : type_of% @TT.lenD.eq_2 := @TT.lenD.eq_2
@[simp] theorem se_144 : type_of% @TT.lenD.eq_3 := @TT.lenD.eq_3
@[simp] theorem se_145 : type_of% @TT.lenD.eq_4 := @TT.lenD.eq_4
@[simp] theorem se_146 : type_of% @TT.lenD.eq_5 := @TT.lenD.eq_5
@[simp] theorem se_147 : type_of% @TT.max2.eq_1 := @TT.max2.eq_1
@[simp] theorem se_148 : type_of% @TT.max2.eq_2 := @TT.max2.eq_2
@[simp] theorem se_149 : type_of% @TT.min2.eq_1 := @TT.min2.eq_1
@[simp] theorem se_150 : type_of% @TT.min2.eq_2 := @TT.min2.eq_2
@[simp] theorem se_151 : type_of% @TT.mCall.eq_1 := @TT.mCall.eq_1
@[simp] theorem se_152 : type_of% @TT.tupD.eq_1 := @TT.tupD.eq_1
@[simp] theorem se_153 : type_of% @TT.tupD.eq_2 := @TT.tupD.eq_2
@[simp] theorem se_154 : type_of% @TT.tupD.eq_3 := @TT.tupD.eq_3
@[simp] theorem se_155 : type_of% @TT.tupD.eq_4 := @TT.tupD.eq_4
@[simp] theorem se_156 : type_of% @TT.notD.eq_1 := @TT.notD.eq_1
@[simp] theorem se_157 : type_of% @TT.notD.eq_2 := @TT.notD.eq_2
@[simp] theorem se_158 : type_of% @TT.eqD.eq_1 := @TT.eqD.eq_1
@[simp] theorem se_159 : type_of% @TT.neD.eq_1 := @TT.neD.eq_1
@[simp] theorem se_160 : type_of% @TT.eqB.eq_1 := @TT.eqB.eq_1
@[simp] theorem se_161 : type_of% @TT.eqB.eq_2 := @TT.eqB.eq_2
@[simp] theorem se_162 : type_of% @TT.eqB.eq_3 := @TT.eqB.eq_3
@[simp] theorem se_163 : type_of% @TT.eqB.eq_4 := @TT.eqB.eq_4
@[simp] theorem se_164 : type_of% @TT.eqB.eq_5 := @TT.eqB.eq_5
@[simp] theorem se_165 : type_of% @TT.eqB.eq_6 := @TT.eqB.eq_6
@[simp] theorem se_166 : type_of% @TT.eqB.eq_7 := @TT.eqB.eq_7
@[simp] theorem se_167 : type_of% @TT.eqB.eq_8 := @TT.eqB.eq_8
@[simp] theorem se_168 : type_of% @TT.eqB.eq_9 := @TT.eqB.eq_9
@[simp] theorem se_169 : type_of% @TT.eqB.eq_10 := @TT.eqB.eq_10
@[simp] theorem se_170 : type_of% @TT.eqB.eq_11 := @TT.eqB.eq_11
@[simp] theorem se_171 : type_of% @TT.eqB.eq_12 := @TT.eqB.eq_12
@[simp] theorem se_172 : type_of% @TT.eqB.eq_13 := @TT.eqB.eq_13
@[simp] theorem se_173 : type_of% @TT.eqB.eq_14 := @TT.eqB.eq_14
@[simp] theorem se_174 : type_of% @TT.eqB.eq_15 := @TT.eqB.eq_15
@[simp] theorem se_175 : type_of% @TT.eqB.eq_16 := @TT.eqB.eq_16
section
variable {m n : MS} {ρ ρ1 : En} {μ μ1 : List MO} {v : MV} {C : Addr} {fs : List (Str × D)}
theorem seq_nx (h : m ρ μ = .nx ρ1 μ1) : mSeq m n ρ μ = n ρ1 μ1 := by simp only [mSeq, h]
theorem seq_rt (h : m ρ μ = .rt v μ1) : mSeq m n ρ μ = .rt v μ1 := by simp only [mSeq, h]
theorem asg_eq {ma : ME} {g : MG} (ha : ma ρ μ = .ok v μ1) (hg : g v ρ = some ρ1) : mAsg ma g ρ μ = .nx ρ1 μ1 := by
  simp only [mAsg, ha, Res.stm_ok, hg]
section
variable {a b c : MV} {ma mb mc : ME} {ms : MA} {as : List MV} {xs : List D} {x y z : D} {μ2 μ3 : List MO} {g g' : D → D → Option D} {h1 : D → Option D} {hn : List D → Option D} {F : MF} {k : Nat} {r : Res MV} {ct : MT} {bl : Bool}
theorem call_eq (hs : ms ρ μ = .ok as μ1) (hl : as.length = k) (hc : callF F as μ1 = r) : mCall F k ms ρ μ = r := by
  simp only [mCall, hs, Res.bind_ok, hl, if_true, hc]
theorem bin_eq (ha : ma ρ μ = .ok a μ1) (hb : mb ρ μ1 = .ok b μ2) (va : view μ2 a = some x) (vb : view μ2 b = some y) (hg : g x y = some z) : mBin g ma mb ρ μ = .ok (.d z) μ2 := by
  simp only [mBin, ha, hb, Res.bind_ok, op2, va, vb, hg]
theorem n_eq (hs : ms ρ μ = .ok as μ1) (va : views μ1 as = some xs) (hg : hn xs = some z) : mN hn ms ρ μ = .ok (.d z) μ1 := by
  simp only [mN, hs, Res.bind_ok, opN, va, hg]
theorem cons_eq (ha : ma ρ μ = .ok a μ1) (hs : ms ρ μ1 = .ok as μ2) : mCons ma ms ρ μ = .ok (a :: as) μ2 := by
  simp only [mCons, ha, hs, Res.bind_ok]
theorem tup_eq (hs : ms ρ μ = .ok as μ1) (hd : datas as = some xs) (hl : xs.length ≤ sizeLine) : mTup ms ρ μ = .ok (.d (.tup xs)) μ1 := by
  simp only [mTup, hs, Res.bind_ok, mkTup, hd, if_pos hl]
theorem t_eq (ha : ma ρ μ = .ok (.d (.bl bl)) μ1) : mT ma ρ μ = .ok bl μ1 := by simp [mT, ha]
theorem ifs_f {s t : MS} {q : SR} (hc : ct ρ μ = .ok false μ1) (h : t ρ μ1 = q) : mIfS ct s t ρ μ = q := by simp [mIfS, hc, h]
theorem ret_eq (ha : ma ρ μ = .ok a μ1) : mRet ma ρ μ = .rt a μ1 := by simp only [mRet, ha, Res.stm_ok]
theorem fn_rt {fz : Bool} {n : Nat} {m : MS} {v : D} (h : m (as.map some ++ List.replicate (n - as.length) none) μ = .rt (.d v) μ1) (ht : trimmable μ.length (.d v) μ1 = true) : fnT fz n m as μ = .ok (.d v) (μ1.take μ.length) := by
  simp only [fnT, h, SR.finT, trim, ht, if_true]
end
end
end TT
namespace TT
open PySem L2
variable [TB]
def gk {α : Type} (sw : Bool) (l : List α) : List α := if sw then l.reverse else l
theorem gk_len {α : Type} (sw : Bool) (l : List α) : (gk sw l).length = l.length := by cases sw <;> simp [gk]
section
variable {K : PySem.W.Frag} {F : Hp} {ι : List Addr}
theorem RMs.takeN : ∀ {as : List MV} {vs : List V}, RMs K F ι as vs → ∀ n, RMs K F ι (as.take n) (vs.take n)
  | _, _, .nil, n => by simp; exact .nil
  | _, _, .cons a b, 0 => .nil
  | _, _, .cons a b, n + 1 => .cons a (RMs.takeN b n)
theorem RMs.dropN : ∀ {as : List MV} {vs : List V}, RMs K F ι as vs → ∀ n, RMs K F ι (as.drop n) (vs.drop n)
  | _, _, .nil, n => by simp; exact .nil
  | _, _, .cons a b, 0 => .cons a b
  | _, _, .cons a b, n + 1 => RMs.dropN b n
theorem RMs.app {bs : List MV} {ws : List V} (h2 : RMs K F ι bs ws) : ∀ {as : List MV} {vs : List V}, RMs K F ι as vs → RMs K F ι (as ++ bs) (vs ++ ws)
  | _, _, .nil => h2
  | _, _, .cons a b => .cons a (RMs.app h2 b)
theorem RMs.rev : ∀ {as : List MV} {vs : List V}, RMs K F ι as vs → RMs K F ι as.reverse vs.reverse
  | _, _, .nil => .nil
  | _, _, .cons a b => by
    rw [List.reverse_cons, List.reverse_cons]
    exact RMs.app (.cons a .nil) (RMs.rev b)
theorem RMs.gk {as : List MV} {vs : List V} (sw : Bool) (h : RMs K F ι as vs) : RMs K F ι (TT.gk sw as) (TT.gk sw vs) := by
  cases sw with
  | false => exact h
  | true => exact h.rev
end
theorem vals_gk {vs : List V} {us : List Value} (sw : Bool) (h : Vals vs us) : Vals (gk sw vs) (gk sw us) := by
  cases sw with
  | false => exact h
  | true =>
    show Vals vs.reverse us.reverse
    induction h with
    | nil => exact .nil
    | cons a b ih =>
      rw [List.reverse_cons, List.reverse_cons]
      exact ih.append (.cons a .nil)
/-- of n0 values by place those from j on are a tuple; then the values by name, turned about where sw says so -/
def fnS (j n0 : Nat) (sw : Bool) (F : MF) : MF := fun as μ => match datas ((as.take n0).drop j) with
  | some ds => if j ≤ n0 ∧ ds.length ≤ sizeLine then F ((as.take n0).take j ++ (gk sw (as.drop n0) ++ [.d (.tup ds)])) μ else .bad
  | none => .bad
structure DefS (K : PySem.W.Frag) (mg : Str → Option Value) (x : Str) (st : Stmt) (ps : List Str) (j n0 : Nat) (ks : List Str) (sw : Bool) : Prop where
  ex : ∃ (f : Addr) (fd : FuncData), Fun K x x st f fd ∧ mg x = some (.ref f) ∧ ∀ us rest ws : List Value, us.length = j → rest.length + j = n0 → ws.length = ks.length → bindArgs fd ⟨us ++ rest, ks.zip ws⟩ = (newTuple rest >>= fun t => pure (ps.zip (us ++ (gk sw ws ++ [t]))))
def FnGk (P : Program) (w : World) (K : PySem.W.Frag) (mg : Str → Option Value) (base : Heap) (CX : CXT) (k : Nat) (f : Addr) (n0 : Nat) (ks : List Str) (sp : Sp) : Prop :=
  ∀ (A : Around) (outer : List Env) (s : Shared) (H : Hp) (us ws : List Value) (vs zs : List V) (Q : VK) (E : XK), Room k A → A.guards = some [] →
    Env0 P w K mg base A outer s H → Vals vs us → Vals zs ws → vs.length = n0 → zs.length = ks.length → sp (vs ++ zs) H Q E → codeAny (model P w) A (.call (.ref f) ⟨us, ks.zip ws⟩) (CR CX outer P w H s Q E) s
structure FnK (P : Program) (w : World) (K : PySem.W.Frag) (mg : Str → Option Value) (base : Heap) (k : Nat) (x : Str) (n0 : Nat) (ks : List Str) (F : MF) : Prop where
  ex : ∃ f : Addr, FnGk P w K mg base (L2.CX P w) k f n0 ks (spF K (n0 + ks.length) F) ∧ mg x = some (.ref f) ∧ PySem.W.keepIn K (.ref f) = true
section
variable {P : Program} {w : World} {K : PySem.W.Frag} {mg : Str → Option Value} {base : Heap}
theorem DefS.mini {x : Str} {st : Stmt} {N ps ks : List Str} {k j n0 : Nat} {sw fz : Bool} {m : MS} (D : DefS K mg x st ps j n0 ks sw) (S : FnScope N ps (defScope st)) (hps : ps.length = j + (ks.length + 1))
    (body : ∀ (f : Addr) (cdv : Value) (A : Around) (outer : List Env) (s : Shared) (H : Hp) (E : XK), (A.deeper (PyProof.Rows.envOfC x (defScope st) s.heap.objs.size f cdv)).guards = some [] →
      Room k (A.deeper (PyProof.Rows.envOfC x (defScope st) s.heap.objs.size f cdv)) →
      FSs (cxOf (L2.CX P w) P w K mg base N x (defScope st) f cdv A outer s H E) (fun c d _ H' => E c d H') (defBody st) m) : FnK P w K mg base (k + 1) x n0 ks (fnS j n0 sw (fnT fz N.length m)) := by
  obtain ⟨f, fd, F, hm, hb⟩ := D.ex
  refine ⟨f, ?_, hm, F.kp⟩
  obtain ⟨oc, od, kV, doc, pm, an, cdv, ct, osl, rfl, lk, hcd⟩ := F.ex
  intro A outer s H us ws vs zs Q E hr hg e0 r rz hl0 hlk hsp
  obtain ⟨hn, Z, ι, as, μ, st1, rm, o⟩ := hsp
  unfold fnS at o
  split at o
  · rename_i ds hds
    split at o
    · rename_i hc
      have q1 : (vs ++ zs).take n0 = vs := by rw [← hl0]; simp
      have q2 : (vs ++ zs).drop n0 = zs := by rw [← hl0]; simp
      have r1 : RMs K (mask H Z) ι (as.take n0) vs := by have := rm.takeN n0; rwa [q1] at this
      have r2 : RMs K (mask H Z) ι (as.drop n0) zs := by have := rm.dropN n0; rwa [q2] at this
      have hd : DRs K (mask H Z) ds (vs.drop j) := datas_ok (r1.dropN j) hds
      have hz : (vs.drop j).length ≤ sizeLine := by rw [← hd.len]; exact hc.2
      have hnn : H s.heap.objs.size = Option.none := e0.hok.fresh (Nat.le_refl _)
      have hv : vs = vs.take j ++ vs.drop j := (List.take_append_drop j vs).symm
      rw [hv] at r
      obtain ⟨u1, u2, eu, ra, rb⟩ := StX.vals_split r
      subst eu
      have hj : (vs.take j).length = j := by rw [List.length_take, hl0]; omega
      have hu1 : u1.length = j := by rw [← ra.length]; exact hj
      have hu2 : u2.length ≤ sizeLine := by rw [← rb.length]; exact hz
      have hw : ws.length = ks.length := by rw [← rz.length]; exact hlk
      refine StX.run_bnd lk hcd S hr e0 (G := fun xs H2 => ∃ p, H p = Option.none ∧ xs = vs.take j ++ (gk sw zs ++ [V.ref p]) ∧ H2 = upd H p (.tup (vs.drop j))) (fun A' Ex Q' h => ?_) fun s2 H2 xs ⟨p, hp, ex, eH⟩ hr' => ?_
      · rw [hb u1 u2 ws hu1 (by rw [← rb.length, List.length_drop, hl0]; omega) hw]
        refine wpAny_bind (wpAny_newTuple (wpAny_pure ?_) hu2)
        have new : ObjOk P w (upd H s.heap.objs.size (.tup (vs.drop j))) (s.heap.push ({ cls := .type "tuple", data := .seq u2.toArray } : Obj)) s.heap.objs.size (.tup (vs.drop j)) := ⟨hz, u2, rb, ⟨_, Heap.get?_push_size _ rfl, rfl, _, rfl⟩⟩
        have un := StX.un_laid (fs := frs outer) (s := s) (o := ({ cls := .type "tuple", data := .seq u2.toArray } : Obj)) (u := .tup (vs.drop j)) hnn
        exact h _ _ (vs.take j ++ (gk sw zs ++ [V.ref s.heap.objs.size])) (u1 ++ (gk sw ws ++ [Value.ref s.heap.objs.size])) (StX.env0_laid e0 new) un rfl (fun e s' => StX.cxUp outer s H _ _ E e s' un (fun b o q => Heap.get?_push_of_some _ q) rfl) (ra.append ((vals_gk sw rz).append (.cons rfl .nil)))
          (by rw [List.length_append, hj, List.length_append, gk_len, hlk, hps]; rfl) ⟨_, hnn, rfl, rfl⟩
      · subst ex eH
        obtain ⟨sm, dr⟩ := new_tup st1.trk hp hd
        obtain ⟨st2, ex2⟩ := st1.grow sm
        refine ⟨_, body f cdv A outer s2 _ E hg hr', bodyT_ok (fz := fz) (n := (vs.take j ++ (gk sw zs ++ [V.ref p])).length) ⟨rfl, Z, ι, _, μ, st2, ?_, Out.base o ex2⟩⟩
        exact RMs.app (RMs.app (.cons (.d dr) .nil) ((r2.gk sw).mono ex2.same ex2.i)) ((r1.takeN j).mono ex2.same ex2.i)
    · exact o.elim
  · exact o.elim
/-- without names -/
theorem FnK.fn {x : Str} {k n0 : Nat} {F : MF} (h : FnK P w K mg base k x n0 [] F) : Fn P w K mg base k x n0 F := by
  obtain ⟨f, g, hm, hk⟩ := h.ex
  refine ⟨f, fun A outer s H us vs Q E hr hg e0 r hsp => ?_, hm, hk⟩
  have := g A outer s H us [] vs [] Q E hr hg e0 r .nil hsp.1 rfl (by rw [List.append_nil]; exact hsp)
  exact this
end
abbrev FKw (X : Cx) (W : WX) (kws : List Keyword) (m : MA) : Prop := PK X kws (tMA X.K W m)
section
variable {X : Cx} {W : WX} {k j n0 : Nat} {x : Str} {F : MF} {p pos kpos : Pos} {e : Expr} {es : List Expr} {ma : ME} {ms mk : MA} {kws : List Keyword} {nm : Option Str} {ks : List Str}
theorem pk_imp {kws : List Keyword} {t t' : TA} (h : PK X kws t) (i : ∀ σ H Q, t' σ H Q → t σ H Q) : PK X kws t' := ⟨fun p pins s σ H Q I w => h.run p pins s σ H Q I (i σ H Q w)⟩
theorem fk_nil : FKw X W [] mNil := pk_imp pk_nil fun σ H Q ⟨Z, ι, ρ, μ, R, o⟩ => o Z ι H (Ext.refl R.sta.sub) R.sta [] .nil
theorem fk_cons (ha : FE X W e ma) (hr : FKw X W kws ms) : FKw X W (⟨nm, e, kpos⟩ :: kws) (mCons ma ms) := by
  refine pk_imp (pk_cons ha hr) fun σ H Q ⟨Z, ι, ρ, μ, R, o⟩ => ?_
  exact tM_bind R o fun v μ' Z' ι' H' x x1 R1 r1 o1 => tMA_bind R1 o1 fun vs μ2 Z2 ι2 H2 xs x2 R2 r2 o2 => o2 Z2 ι2 H2 (Ext.refl R2.sta.sub) R2.sta _ (.cons (r1.mono x2.same x2.i) r2)
end
end TT
namespace TT
theorem FnK.mono [TB] {P : PySem.Program} {w : PySem.World} {K : PySem.W.Frag} {mg : PySem.Str → Option PySem.Value} {base : PySem.Heap} {k k' : Nat} {x : PySem.Str} {n0 : Nat} {ks : List PySem.Str} {F : MF} (h : FnK P w K mg base k x n0 ks F) (hk : k ≤ k') : FnK P w K mg base k' x n0 ks F := by
  obtain ⟨f, g, a, b⟩ := h.ex
  exact ⟨f, fun A outer s H us ws vs zs Q E hr => g A outer s H us ws vs zs Q E (hr.mono hk), a, b⟩
end TT
namespace TT
open PySem PySem.Spec PyProof.Rows L2
/-- the texts as they are met first -/
def fmS (xs : List Str) : List Str := xs.foldl (fun a x => if a.any (· == x) then a else a ++ [x]) []
end TT
namespace TT
open PySem PySem.Spec PyProof.Rows L2
variable [TB]
section
variable {X : Cx} {W : WX}
def lenSetD : D → Option D
  | .lst ds => match strsD ds with
    | some ss => if ss.length < 4000 then some (.int (fmS ss).length) else none
    | none => none
  | _ => none
def mLenSet (ma : ME) : ME := fun ρ μ => (ma ρ μ).bind fun v μ1 => match view μ1 v with
  | some x => match lenSetD x with
    | some z => .ok (.d z) μ1
    | none => .bad
  | none => .bad
end
end TT
namespace TT
open PySem L2
variable [TB]
def setMV (ρ : En) : List Nat → List MV → En
  | i :: is, v :: vs => setMV (ρ.set i (some v)) is vs
  | _, _ => ρ
section
variable {X : Cx} {W : WX} {pos : Pos}
def mParN (is : List Nat) (ms : MA) : MS := fun ρ μ => (ms ρ μ).stm ρ fun vs μ1 => if vs.length = is.length ∧ is.length ≤ 100 then .nx (setMV ρ is vs) μ1 else .bad
end
end TT
namespace TT
open PySem L2
variable [TB]
def tagD : D → Nat
  | .non => 1
  | .bl _ => 2
  | .int _ => 3
  | .str _ => 4
  | .ty _ => 5
  | _ => 0
def tagV : V → Nat
  | .non => 1
  | .bl _ => 2
  | .int _ => 3
  | .str _ => 4
  | .ty _ => 5
  | _ => 0
def isAny : D → Bool
  | .any => true
  | _ => false
theorem tag_ok {K : PySem.W.Frag} {F : Hp} {d : D} {v : V} (h : DR K F d v) (hd : isAny d = false) : tagD d = tagV v := by cases h <;> first | rfl | cases hd
def tagNe (x y : D) : Bool := tagD x != tagD y && (!isAny x && !isAny y)
theorem tagNe_ok {K : PySem.W.Frag} {F F' : Hp} {x y : D} {v : V} (a : DR K F x v) (b : DR K F' y v) : tagNe x y = false := by
  unfold tagNe
  cases h1 : isAny x with
  | true => simp
  | false =>
    cases h2 : isAny y with
    | true => simp
    | false => simp [(tag_ok a h1).trans (tag_ok b h2).symm]
/-- no one list is both -/
def apDs : List D → List D → Bool
  | [], [] => false
  | x :: xs, y :: ys => tagNe x y || apDs xs ys
  | _, _ => true
theorem apDs_ok {K : PySem.W.Frag} {F F' : Hp} : ∀ {xs ys : List D} {vs : List V}, DRs K F xs vs → DRs K F' ys vs → apDs xs ys = false
  | _, _, _, .nil, .nil => rfl
  | _, _, _, .cons a b, .cons a' b' => by
    simp only [apDs, Bool.or_eq_false_iff]
    exact ⟨tagNe_ok a a', apDs_ok b b'⟩
def apart (bs : List D) (xs : List D) : Bool := bs.all fun b => match b with
  | .lst ys => apDs xs ys
  | _ => true
def noDict (bs : List D) : Bool := bs.all fun b => match b with
  | .dK _ => false
  | _ => true
mutual
/-- what holds none of the lists bs -/
def okD (bs : List D) : D → Bool
  | .non => true
  | .bl _ => true
  | .int _ => true
  | .str _ => true
  | .tup xs => okDs bs xs
  | .lst xs => apart bs xs && okDs bs xs
  | .obj _ fs => okDf bs fs
  | .nt xs => okDs bs xs
  | .dK kvs => noDict bs && okDk bs kvs
  | .any => true
  | _ => false
def okDs (bs : List D) : List D → Bool
  | [] => true
  | d :: ds => okD bs d && okDs bs ds
def okDk (bs : List D) : List (Key × D) → Bool
  | [] => true
  | (_, d) :: ds => okD bs d && okDk bs ds
def okDf (bs : List D) : List (Str × D) → Bool
  | [] => true
  | (_, d) :: ds => okD bs d && okDf bs ds
end
section
variable {K : PySem.W.Frag} {F F' : Hp} {bs : List D} (e1 : ∀ a vs, F a = some (.tup vs) → F' a = some (.tup vs)) (e2 : ∀ a C d vs, F a = some (.ins C d vs) → F' a = some (.ins C d vs)) (e3 : ∀ a vs xs, F a = some (.lst vs) → DRs K F xs vs → apart bs xs = true → F' a = some (.lst vs)) (e4 : ∀ a o vs, F a = some (.frz o (.tup vs)) → F' a = some (.frz o (.tup vs))) (e5 : ∀ a vs, noDict bs = true → F a = some (.dK vs) → F' a = some (.dK vs))
include e1 e2 e3 e4 e5
mutual
theorem okD_ok : ∀ (d : D) (v : V), DR K F d v → okD bs d = true → DR K F' d v
  | .non, _, h, _ => by cases h; exact .non
  | .bl b, _, h, _ => by cases h; exact .bl b
  | .int b, _, h, _ => by cases h; exact .int b
  | .str b, _, h, _ => by cases h; exact .str b
  | .tup xs, _, h, f => by
    cases h with | tup q r => exact .tup (e1 _ _ q) (okDs_ok xs _ r (by simpa [okD] using f))
  | .lst xs, _, h, f => by
    simp only [okD, Bool.and_eq_true] at f
    cases h with | lst q r => exact .lst (e3 _ _ _ q r f.1) (okDs_ok xs _ r f.2)
  | .obj C xs, _, h, f => by
    cases h with | obj q r => exact .obj (e2 _ _ _ _ q) (okDf_ok xs _ r (by simpa [okD] using f))
  | .ty _, _, _, f => by simp [okD] at f
  | .gl _, _, _, f => by simp [okD] at f
  | .fl _, _, _, f => by simp [okD] at f
  | .dK xs, _, h, f => by
    simp only [okD, Bool.and_eq_true] at f
    cases h with | dK q r => exact .dK (e5 _ _ f.1 q) (okDk_ok xs _ r f.2)
  | .any, _, _, _ => .any
  | .dT _, _, _, f => by simp [okD] at f
  | .exn _ _ _ _, _, _, f => by simp [okD] at f
  | .err _ _, _, _, f => by simp [okD] at f
  | .nK _, _, _, f => by simp [okD] at f
  | .nt xs, _, h, f => by
    cases h with | nt q n r => exact .nt (e4 _ _ _ q) n (okDs_ok xs _ r (by simpa [okD] using f))
theorem okDs_ok : ∀ (d : List D) (v : List V), DRs K F d v → okDs bs d = true → DRs K F' d v
  | [], _, h, _ => by cases h; exact .nil
  | d :: ds, _, h, f => by
    simp only [okDs, Bool.and_eq_true] at f
    cases h with | cons a b => exact .cons (okD_ok d _ a f.1) (okDs_ok ds _ b f.2)
theorem okDk_ok : ∀ (d : List (Key × D)) (v : List (Key × V)), DRk K F d v → okDk bs d = true → DRk K F' d v
  | [], _, h, _ => by cases h; exact .nil
  | (_, d) :: ds, _, h, f => by
    simp only [okDk, Bool.and_eq_true] at f
    cases h with | cons a b => exact .cons (okD_ok d _ a f.1) (okDk_ok ds _ b f.2)
theorem okDf_ok : ∀ (d : List (Str × D)) (v : List (Str × V)), DRf K F d v → okDf bs d = true → DRf K F' d v
  | [], _, h, _ => by cases h; exact .nil
  | (_, d) :: ds, _, h, f => by
    simp only [okDf, Bool.and_eq_true] at f
    cases h with | cons a b => exact .cons (okD_ok d _ a f.1) (okDf_ok ds _ b f.2)
end
end
theorem mask_sub {H : Hp} {Z Zc : List Addr} (hz : ∀ a ∈ Zc, a ∈ Z) : Same (mask H Z) (mask H Zc) := fun a o q => by
  obtain ⟨q1, q2⟩ := of_mask q
  exact mask_in (fun z => q1 (hz a z)) q2 (mask_nt q)
/-- an argument's own place, if it is a reference -/
def refAt (ι : List Addr) : MV → Option Addr
  | .ref n => ι[n]?
  | .d _ => none
/-- the arguments as data: the places of the lists handed on, and what stands there -/
theorem views_fz {K : PySem.W.Frag} {Z ι : List Addr} {μ : List MO} {H : Hp} (s : Sta K Z ι μ H) : ∀ {as : List MV} {vs : List V} {ds : List D}, RMs K (mask H Z) ι as vs → views μ as = some ds →
    (∀ a ∈ as.filterMap (refAt ι), ∃ o, H a = some o ∧ (∀ xs, o ≠ .tup xs) ∧ (∀ C d xs, o ≠ .ins C d xs) ∧ (∀ z u, o ≠ .frz z u) ∧ (∀ ws, o = .lst ws → ∃ ys, D.lst ys ∈ ds ∧ DRs K (mask H Z) ys ws) ∧ ∀ ws, o = .dK ws → ∃ ys, D.dK ys ∈ ds) ∧
    ∀ Zc, (∀ a ∈ Zc, a ∈ Z) → (∀ a ∈ as.filterMap (refAt ι), a ∉ Zc) → RMs K (mask H Zc) [] (ds.map .d) vs
  | _, _, _, .nil, e => by
    cases e
    exact ⟨fun a h => by simp at h, fun _ _ _ => .nil⟩
  | _, _, _, .cons (m := m) r b, e => by
    unfold views at e
    split at e
    · rename_i x h1
      split at e
      · rename_i xs h2
        cases e
        obtain ⟨i1, i2⟩ := views_fz s b h2
        cases m with
        | d y =>
          cases h1
          have ef : ∀ ms : List MV, (MV.d x :: ms).filterMap (refAt ι) = ms.filterMap (refAt ι) := fun ms => rfl
          rw [ef]
          refine ⟨fun a ha => ?_, fun Zc hz hn => ?_⟩
          · obtain ⟨o, h3, h4, h5, hfz, h6, h9⟩ := i1 a ha
            exact ⟨o, h3, h4, h5, hfz, (fun ws hw => by obtain ⟨ys, h7, h8⟩ := h6 ws hw; exact ⟨ys, List.mem_cons_of_mem _ h7, h8⟩), fun ws hw => by obtain ⟨ys, h7⟩ := h9 ws hw; exact ⟨ys, List.mem_cons_of_mem _ h7⟩⟩
          · cases r with | d r => exact .cons (.d (r.mono (mask_sub hz) _ _)) (i2 Zc hz hn)
        | ref n =>
          cases r with | ref r =>
            rename_i a0
            have ef : ∀ ms : List MV, (MV.ref n :: ms).filterMap (refAt ι) = a0 :: ms.filterMap (refAt ι) := fun ms => by simp [refAt, r]
            rw [ef]
            have old : ∀ a ∈ (_ : List MV).filterMap (refAt ι), ∃ o, H a = some o ∧ (∀ xs, o ≠ .tup xs) ∧ (∀ C d xs, o ≠ .ins C d xs) ∧ (∀ z u, o ≠ .frz z u) ∧ (∀ ws, o = .lst ws → ∃ ys, D.lst ys ∈ x :: xs ∧ DRs K (mask H Z) ys ws) ∧ ∀ ws, o = .dK ws → ∃ ys, D.dK ys ∈ x :: xs := fun a ha => by
              obtain ⟨o, h3, h4, h5, hfz, h6, h9⟩ := i1 a ha
              exact ⟨o, h3, h4, h5, hfz, (fun ws hw => by obtain ⟨ys, h7, h8⟩ := h6 ws hw; exact ⟨ys, List.mem_cons_of_mem _ h7, h8⟩), fun ws hw => by obtain ⟨ys, h7⟩ := h9 ws hw; exact ⟨ys, List.mem_cons_of_mem _ h7⟩⟩
            unfold view at h1
            simp only at h1
            split at h1
            · rename_i ys q; cases h1
              obtain ⟨ho, h3, h4⟩ := s.obj _ _ _ r q
              cases h4 with | lst h4 =>
                refine ⟨fun a ha => ?_, fun Zc hz hn => .cons (.d (.lst (mask_in (hn a0 List.mem_cons_self) h3) (h4.mono (mask_sub hz) _ _))) (i2 Zc hz fun a ha => hn a (List.mem_cons_of_mem _ ha))⟩
                rcases List.mem_cons.mp ha with z | z
                · subst z
                  exact ⟨_, h3, (fun _ z => by cases z), (fun _ _ _ z => by cases z), (fun _ _ z => by cases z), (fun ws hw => by cases hw; exact ⟨ys, List.mem_cons_self, h4⟩), fun ws hw => by cases hw⟩
                · exact old a z
            · rename_i ys q; cases h1
              obtain ⟨ho, h3, h4⟩ := s.obj _ _ _ r q
              cases h4 with | dK h4 =>
                refine ⟨fun a ha => ?_, fun Zc hz hn => .cons (.d (.dK (mask_in (hn a0 List.mem_cons_self) h3) (h4.mono (mask_sub hz) _ _))) (i2 Zc hz fun a ha => hn a (List.mem_cons_of_mem _ ha))⟩
                rcases List.mem_cons.mp ha with z | z
                · subst z
                  exact ⟨_, h3, (fun _ z => by cases z), (fun _ _ _ z => by cases z), (fun _ _ z => by cases z), (fun ws hw => by cases hw), fun ws hw => ⟨ys, List.mem_cons_self⟩⟩
                · exact old a z
            · rename_i ys q; cases h1
              obtain ⟨ho, h3, h4⟩ := s.obj _ _ _ r q
              cases h4 with | dT h4 =>
                refine ⟨fun a ha => ?_, fun Zc hz hn => .cons (.d (.dT (mask_in (hn a0 List.mem_cons_self) h3) (h4.mono (mask_sub hz) _ _))) (i2 Zc hz fun a ha => hn a (List.mem_cons_of_mem _ ha))⟩
                rcases List.mem_cons.mp ha with z | z
                · subst z
                  exact ⟨_, h3, (fun _ z => by cases z), (fun _ _ _ z => by cases z), (fun _ _ z => by cases z), (fun ws hw => by cases hw), fun ws hw => by cases hw⟩
                · exact old a z
            · cases h1
      · cases e
    · cases e
theorem DVs.len {K : PySem.W.Frag} {Z : List Addr} {H : Hp} : ∀ {xs : List D} {vs : List V}, DVs K Z H xs vs → xs.length = vs.length
  | _, _, .nil => rfl
  | _, _, .cons _ b => congrArg (· + 1) (DVs.len b)
/-- fields of which nothing is told -/
def forgF (bs : List D) : List (Str × D) → List (Str × D)
  | [] => []
  | (k, d) :: r => (k, if okD bs d = true then d else .any) :: forgF bs r
def forg (bs : List D) : D → D
  | .obj C fs => .obj C (forgF bs fs)
  | d => d
theorem forgF_ok {K : PySem.W.Frag} {F : Hp} {bs : List D} : ∀ {fs : List (Str × D)} {vs : List (Str × V)}, DRf K F fs vs → DRf K F (forgF bs fs) vs
  | _, _, .nil => .nil
  | (_, d) :: _, _, .cons a b => .cons (by split; exact a; exact .any) (forgF_ok b)
theorem forg_ok {K : PySem.W.Frag} {F : Hp} {bs : List D} {d : D} {v : V} (h : DR K F d v) : DR K F (forg bs d) v := by
  cases d with
  | obj C fs => cases h with | obj q r => exact .obj q (forgF_ok r)
  | _ => exact h
/-- the arguments as they are now, handed on as data -/
def zRes (ds : List D) (r : Res MV) (μ : List MO) : Res MV := match r with
  | .ok (.d v) _ => if okD ds v = true then .ok (.d v) μ else if okD ds (forg ds v) = true then .ok (.d (forg ds v)) μ else .bad
  | _ => .bad
theorem z_frame {K : PySem.W.Frag} {Z ι : List Addr} {μ : List MO} {H : Hp} {W : WX} {σ : St} {F : MF} {as : List MV} {vs : List V} {ds : List D} {Q : VK} {n : Nat} (s : Sta K Z ι μ H) (r : RMs K (mask H Z) ι as vs) (hn : vs.length = n) (hv : views μ as = some ds)
    (o : Out K W σ Z ι H (zRes ds (F (ds.map .d) []) μ) (Val K Q)) : spF K n F vs H Q (WE W σ) := by
  obtain ⟨i1, i2⟩ := views_fz s r hv
  let Zc := Z.filter fun a => decide (a ∉ as.filterMap (refAt ι))
  have hz : ∀ a ∈ Zc, a ∈ Z := fun a h => (List.mem_filter.mp h).1
  have hb : ∀ a ∈ as.filterMap (refAt ι), a ∉ Zc := fun a h q => (of_decide_eq_true (List.mem_filter.mp q).2) h
  refine ⟨hn, Zc, [], ds.map .d, [], ⟨(fun a h => by cases h), .nil, rfl, (fun a h => s.trk a (hz a h)), s.tab, (fun n a o h => by simp at h)⟩, i2 Zc hz hb, ?_⟩
  unfold zRes at o
  cases q : F (ds.map .d) [] with
  | exc C fs μ' => rw [q] at o; exact o.elim
  | bad => rw [q] at o; exact o.elim
  | ok v μ' =>
    rw [q] at o
    cases v with
    | ref k => exact o.elim
    | d v =>
      simp only at o
      have key : ∀ v', (∀ F' y, DR K F' v y → DR K F' v' y) → okD ds v' = true → Out K W σ Z ι H (.ok (.d v') μ) (Val K Q) → Out K W σ Zc [] H (.ok (.d v) μ') (Val K Q) := by
        intro v' hv' ho o Z' ι' H' x' s' y ry
        have keep : ∀ a o, NT o → H a = some o → H' a = some o := fun a o t e => x'.keep a o (by simp) t e
        have ex : Ext Z ι H (Z ++ Z') ι H' := by
          refine ⟨s.sub, fun a h => List.mem_append_left _ h, fun _ _ h => h, fun a o _ t e => keep a o t e, x'.tb, fun a h => ?_, fun a h => .inl h⟩
          rcases List.mem_append.mp h with z | z
          · exact .inl z
          · rcases x'.new a z with z | z
            · exact .inl (hz a z)
            · exact .inr z
        have sx : Sta K (Z ++ Z') ι μ H' := by
          refine ⟨fun a h => List.mem_append_left _ (s.sub a h), s.nd, s.len, fun a h => ?_, s'.tab, fun n a o h1 h2 => ?_⟩
          · rcases List.mem_append.mp h with z | z
            · obtain ⟨o, e⟩ := s.trk a z
              rcases nt_or o with t | ⟨ps, rfl⟩
              · exact ⟨o, keep a o t e⟩
              · obtain ⟨qs, z⟩ := x'.tb a ps e; exact ⟨_, z⟩
            · exact s'.trk a z
          · obtain ⟨ho, h3, h4⟩ := s.obj n a o h1 h2
            exact ⟨ho, keep a ho h4.nt h3, h4.mono ex.same ex.i⟩
        cases ry with | d ry =>
          have fin : ∀ {a : Addr} {o : HO}, mask H' Z' a = some o → (∀ b ∈ as.filterMap (refAt ι), b = a → False) → mask H' (Z ++ Z') a = some o := fun {a o} e h => by
            obtain ⟨h1, h2⟩ := of_mask e
            refine mask_in (fun z => ?_) h2 (mask_nt e)
            rcases List.mem_append.mp z with z | z
            · by_cases hB : a ∈ as.filterMap (refAt ι)
              · exact h a hB rfl
              · exact h1 (x'.z a (List.mem_filter.mpr ⟨z, decide_eq_true hB⟩))
            · exact h1 z
          refine o (Z ++ Z') ι H' ex sx y (.d (okD_ok (bs := ds) (fun a vs e => ?_) (fun a C d vs e => ?_) (fun a vs xs e hx ha => ?_) (fun a o vs e => ?_) (fun a vs hnd e => ?_) v' y (hv' _ _ ry) ho))
          · refine fin e fun b hB hb' => ?_
            subst hb'
            obtain ⟨o, h3, h4, _⟩ := i1 b hB
            have t : NT o := by
              rcases nt_or o with t | ⟨ps, rfl⟩
              · exact t
              · obtain ⟨qs, z⟩ := x'.tb b ps h3
                rw [(of_mask e).2] at z; cases z
            have := keep b o t h3
            rw [(of_mask e).2] at this
            cases this
            exact h4 _ rfl
          · refine fin e fun b hB hb' => ?_
            subst hb'
            obtain ⟨o, h3, _, h4, _⟩ := i1 b hB
            have t : NT o := by
              rcases nt_or o with t | ⟨ps, rfl⟩
              · exact t
              · obtain ⟨qs, z⟩ := x'.tb b ps h3
                rw [(of_mask e).2] at z; cases z
            have := keep b o t h3
            rw [(of_mask e).2] at this
            cases this
            exact h4 _ _ _ rfl
          · refine fin e fun b hB hb' => ?_
            subst hb'
            obtain ⟨o, h3, _, _, _, h4, _⟩ := i1 b hB
            have t : NT o := by
              rcases nt_or o with t | ⟨ps, rfl⟩
              · exact t
              · obtain ⟨qs, z⟩ := x'.tb b ps h3
                rw [(of_mask e).2] at z; cases z
            have := keep b o t h3
            rw [(of_mask e).2] at this
            cases this
            obtain ⟨ys, h5, h6⟩ := h4 _ rfl
            have h7 := apDs_ok hx h6
            unfold apart at ha
            rw [List.all_eq_true] at ha
            have h8 := ha _ h5
            simp only [h7] at h8
            cases h8
          · refine fin e fun b hB hb' => ?_
            subst hb'
            obtain ⟨o, h3, _, _, h4, _⟩ := i1 b hB
            have t : NT o := by
              rcases nt_or o with t | ⟨ps, rfl⟩
              · exact t
              · obtain ⟨qs, z⟩ := x'.tb b ps h3
                rw [(of_mask e).2] at z; cases z
            have := keep b o t h3
            rw [(of_mask e).2] at this
            cases this
            exact h4 _ _ rfl
          · refine fin e fun b hB hb' => ?_
            subst hb'
            obtain ⟨o, h3, _, _, _, _, h4⟩ := i1 b hB
            have t : NT o := by
              rcases nt_or o with t | ⟨ps, rfl⟩
              · exact t
              · obtain ⟨qs, z⟩ := x'.tb b ps h3
                rw [(of_mask e).2] at z; cases z
            have := keep b o t h3
            rw [(of_mask e).2] at this
            cases this
            obtain ⟨ys, h5⟩ := h4 _ rfl
            unfold noDict at hnd
            rw [List.all_eq_true] at hnd
            have h8 := hnd _ h5
            cases h8
      split at o
      · rename_i ho
        exact key v (fun _ _ h => h) ho o
      · split at o
        · rename_i ho
          exact key _ (fun _ _ h => forg_ok h) ho o
        · exact o.elim
def mCallZ (F : MF) (n : Nat) (ms : MA) : ME := fun ρ μ => (ms ρ μ).bind fun as μ1 => match views μ1 as with
  | some ds => if ds.length = n then zRes ds (F (ds.map .d) []) μ1 else .bad
  | none => .bad
end TT
namespace TT
open PySem L2
variable [TB]
def SR.to (r : SR) (N : En → List MO → Prop) (R : MV → List MO → Prop) (B C : En → List MO → Prop) (E : Addr → List (Str × D) → En → List MO → Prop) : Prop := match r with
  | .nx ρ μ => N ρ μ
  | .rt v μ => R v μ
  | .bk ρ μ => B ρ μ
  | .ct ρ μ => C ρ μ
  | .exc c fs ρ μ => E c fs ρ μ
  | .bad => False
def Res.to {α : Type} (r : Res α) (K : α → List MO → Prop) (E : Addr → List (Str × D) → List MO → Prop) : Prop := match r with
  | .ok a μ => K a μ
  | .exc c fs μ => E c fs μ
  | .bad => False
def no3 : Addr → List (Str × D) → List MO → Prop := fun _ _ _ => False
section
variable {α β : Type} {K : α → List MO → Prop} {K2 : β → List MO → Prop} {E E' : Addr → List (Str × D) → List MO → Prop} {N N' : En → List MO → Prop} {R R' : MV → List MO → Prop} {B C B' C' : En → List MO → Prop} {EE EE' : Addr → List (Str × D) → En → List MO → Prop}
theorem to_ok {r : Res α} {v : α} {μ' : List MO} (h : r = .ok v μ') (k : K v μ') : r.to K E := by rw [h]; exact k
theorem ok_to {r : Res α} (h : r.to K no3) : ∃ v μ', r = .ok v μ' ∧ K v μ' := by
  cases r with
  | ok v μ' => exact ⟨v, μ', rfl, h⟩
  | exc c fs μ' => exact h.elim
  | bad => exact h.elim
theorem tom {r : Res α} {K' : α → List MO → Prop} (h : r.to K E) (k : ∀ v μ, K v μ → K' v μ) (e : ∀ c fs μ, E c fs μ → E' c fs μ) : r.to K' E' := by
  cases r with
  | ok v μ' => exact k _ _ h
  | exc c fs μ' => exact e _ _ _ h
  | bad => exact h.elim
theorem tos {r : SR} (h : r.to N R B C EE) (n : ∀ ρ μ, N ρ μ → N' ρ μ) (rr : ∀ v μ, R v μ → R' v μ) (b : ∀ ρ μ, B ρ μ → B' ρ μ) (c : ∀ ρ μ, C ρ μ → C' ρ μ) (e : ∀ c fs ρ μ, EE c fs ρ μ → EE' c fs ρ μ) : r.to N' R' B' C' EE' := by
  cases r with
  | nx ρ μ => exact n _ _ h
  | rt ρ μ => exact rr _ _ h
  | bk ρ μ => exact b _ _ h
  | ct ρ μ => exact c _ _ h
  | exc c fs ρ μ => exact e _ _ _ _ h
  | bad => exact h.elim
theorem to_bind {r : Res α} {k : α → List MO → Res β} (h : r.to (fun a μ => (k a μ).to K2 E) E) : (r.bind k).to K2 E := by
  cases r with
  | ok v μ' => exact h
  | exc c fs μ' => exact h
  | bad => exact h.elim
theorem to_stm {r : Res α} {ρ : En} {k : α → List MO → SR} (h : r.to (fun a μ => (k a μ).to N R B C EE) (fun c fs μ => EE c fs ρ μ)) : (r.stm ρ k).to N R B C EE := by
  cases r with
  | ok v μ' => exact h
  | exc c fs μ' => exact h
  | bad => exact h.elim
end
section
variable {N : En → List MO → Prop} {R : MV → List MO → Prop} {B C : En → List MO → Prop} {EE : Addr → List (Str × D) → En → List MO → Prop} {m n : MS} {ρ ρ1 : En} {μ μ1 μ2 : List MO} {ma mb mc : ME} {ms mk : MA} {c c2 : MT} {g g' : D → D → Option D} {i j l : Nat}
theorem w_seq (h : (m ρ μ).to (fun ρ' μ' => (n ρ' μ').to N R B C EE) R B C EE) : (mSeq m n ρ μ).to N R B C EE := by
  unfold mSeq
  cases q : m ρ μ with
  | nx ρ μ => rw [q] at h; exact h
  | rt ρ μ => rw [q] at h; exact h
  | bk ρ μ => rw [q] at h; exact h
  | ct ρ μ => rw [q] at h; exact h
  | exc c fs ρ μ => rw [q] at h; exact h
  | bad => rw [q] at h; exact h
theorem w_next (h : N ρ μ) : (mNext ρ μ).to N R B C EE := h
theorem w_bk (h : B ρ μ) : ((fun ρ μ => SR.bk ρ μ : MS) ρ μ).to N R B C EE := h
theorem w_ct (h : C ρ μ) : ((fun ρ μ => SR.ct ρ μ : MS) ρ μ).to N R B C EE := h
theorem w_expr (h : (ma ρ μ).to (fun _ μ1 => N ρ μ1) (fun c fs μ1 => EE c fs ρ μ1)) : (mExpr ma ρ μ).to N R B C EE := to_stm h
theorem w_ret (h : (ma ρ μ).to (fun v μ1 => R v μ1) (fun c fs μ1 => EE c fs ρ μ1)) : (mRet ma ρ μ).to N R B C EE := to_stm h
theorem w_retN (h : R (.d .non) μ) : (mRetN ρ μ).to N R B C EE := h
theorem w_ifs (h : (c ρ μ).to (fun k μ1 => (k = true → (m ρ μ1).to N R B C EE) ∧ (k = false → (n ρ μ1).to N R B C EE)) (fun c fs μ1 => EE c fs ρ μ1)) : (mIfS c m n ρ μ).to N R B C EE := by
  refine to_stm (tom h (fun k μ1 hk => ?_) fun _ _ _ z => z)
  cases k with
  | true => exact hk.1 rfl
  | false => exact hk.2 rfl
theorem w_asg {g : MG} (h : (ma ρ μ).to (fun v μ1 => ∃ ρ', g v ρ = some ρ' ∧ N ρ' μ1) (fun c fs μ1 => EE c fs ρ μ1)) : (mAsg ma g ρ μ).to N R B C EE := by
  refine to_stm (tom h (fun k μ1 hk => ?_) fun _ _ _ z => z)
  obtain ⟨ρ', e, hk⟩ := hk
  rw [e]; exact hk
theorem w_set (h : (ma ρ μ).to (fun v μ1 => N (ρ.set i (some v)) μ1) (fun c fs μ1 => EE c fs ρ μ1)) : (mAsg ma (gN i) ρ μ).to N R B C EE := to_stm h
theorem w_par2 (h : (ms ρ μ).to (fun vs μ1 => ∃ v w, vs = [v, w] ∧ N ((ρ.set i (some v)).set j (some w)) μ1) (fun c fs μ1 => EE c fs ρ μ1)) : (mPar2 i j ms ρ μ).to N R B C EE := by
  refine to_stm (tom h (fun k μ1 hk => ?_) fun _ _ _ z => z)
  obtain ⟨v, w, rfl, hk⟩ := hk
  exact hk
theorem w_par3 (h : (ms ρ μ).to (fun vs μ1 => ∃ v w z, vs = [v, w, z] ∧ N (((ρ.set i (some v)).set j (some w)).set l (some z)) μ1) (fun c fs μ1 => EE c fs ρ μ1)) : (mPar3 i j l ms ρ μ).to N R B C EE := by
  refine to_stm (tom h (fun k μ1 hk => ?_) fun _ _ _ z => z)
  obtain ⟨v, w, z, rfl, hk⟩ := hk
  exact hk
theorem w_parN {is : List Nat} (h : (ms ρ μ).to (fun vs μ1 => vs.length = is.length ∧ is.length ≤ 100 ∧ N (setMV ρ is vs) μ1) (fun c fs μ1 => EE c fs ρ μ1)) : (mParN is ms ρ μ).to N R B C EE := by
  refine to_stm (tom h (fun k μ1 hk => ?_) fun _ _ _ z => z)
  rw [if_pos ⟨hk.1, hk.2.1⟩]; exact hk.2.2
theorem w_aug {x : MV} (hx : ρ[i]? = some (some x)) (h : (ma ρ μ).to (fun y μ1 => (op2 g x y μ1).to (fun z μ2 => N (ρ.set i (some z)) μ2) (fun c fs μ1 => EE c fs ρ μ1)) (fun c fs μ1 => EE c fs ρ μ1)) : (mAug i g ma ρ μ).to N R B C EE := by
  unfold mAug
  rw [hx]
  refine to_stm (tom h (fun k μ1 hk => ?_) fun _ _ _ z => z)
  exact to_stm hk
theorem w_setix {mv mo mi : ME} (h : (mv ρ μ).to (fun v μ1 => (mo ρ μ1).to (fun o μ2 => (mi ρ μ2).to (fun i μ3 => ∃ μ4, putL o i v μ3 = some μ4 ∧ N ρ μ4) (fun c fs μ1 => EE c fs ρ μ1)) (fun c fs μ1 => EE c fs ρ μ1)) (fun c fs μ1 => EE c fs ρ μ1)) : (mSetIx mv mo mi ρ μ).to N R B C EE := by
  unfold mSetIx
  refine to_stm (tom h (fun v μ1 h => to_stm (tom h (fun o μ2 h => to_stm (tom h (fun i μ3 h => ?_) fun _ _ _ z => z)) fun _ _ _ z => z)) fun _ _ _ z => z)
  obtain ⟨μ4, e, h⟩ := h
  rw [e]; exact h
theorem w_setf {C0 : Addr} {f : Str} {mv mo : ME} (h : (mv ρ μ).to (fun v μ1 => (mo ρ μ1).to (fun o μ2 => ∃ μ4, putFld C0 f v o μ2 = some μ4 ∧ N ρ μ4) (fun c fs μ1 => EE c fs ρ μ1)) (fun c fs μ1 => EE c fs ρ μ1)) : (mSetF C0 f mv mo ρ μ).to N R B C EE := by
  unfold mSetF
  refine to_stm (tom h (fun v μ1 h => to_stm (tom h (fun o μ2 h => ?_) fun _ _ _ z => z)) fun _ _ _ z => z)
  obtain ⟨μ4, e, h⟩ := h
  rw [e]; exact h
theorem w_raise {C0 : Addr} {ks : List Str} (h : (ms ρ μ).to (fun as μ1 => ∃ ds, datas as = some ds ∧ ds.length = ks.length ∧ EE C0 (ks.zip ds).reverse ρ μ1) (fun c fs μ1 => EE c fs ρ μ1)) : (mRaise C0 ks ms ρ μ).to N R B C EE := by
  unfold mRaise
  refine to_stm (tom h (fun as μ1 h => ?_) fun _ _ _ z => z)
  obtain ⟨ds, e1, e2, h⟩ := h
  unfold mkX
  rw [e1]
  simp only [if_pos e2]
  exact h
theorem w_match {r : MM} (h : (ma ρ μ).to (fun v μ1 => ∃ d, v = .d d ∧ (r d ρ μ1).to N R B C EE) (fun c fs μ1 => EE c fs ρ μ1)) : (mMatch ma r ρ μ).to N R B C EE := by
  refine to_stm (tom h (fun v μ1 h => ?_) fun _ _ _ z => z)
  obtain ⟨d, rfl, h⟩ := h
  exact h
/-- a loop over items: the invariant by what is left -/
theorem w_for {mi : MI} {g : MG} {b : MS} (I : List D → En → List MO → Prop) (h : (mi ρ μ).to (fun q μ1 => q.2 = none ∧ I q.1 ρ μ1 ∧ (∀ x xs ρ μ, I (x :: xs) ρ μ → ∃ ρ1, g (.d x) ρ = some ρ1 ∧ (b ρ1 μ).to (fun ρ2 μ2 => I xs ρ2 μ2) R (fun ρ2 μ2 => N ρ2 μ2) (fun ρ2 μ2 => I xs ρ2 μ2) EE) ∧ (∀ ρ μ, I [] ρ μ → N ρ μ)) (fun c fs μ1 => EE c fs ρ μ1)) : (mFor mi g b ρ μ).to N R B C EE := by
  refine to_stm (tom h (fun q μ1 h => ?_) fun _ _ _ z => z)
  obtain ⟨hq, h0, h1, h2⟩ := h
  have go : ∀ (xs : List D) (ρ : En) (μ : List MO), I xs ρ μ → (forD q g b xs ρ μ).to N R B C EE := by
    intro xs
    induction xs with
    | nil =>
      intro ρ μ hI
      unfold forD chk
      rw [hq]
      exact h2 ρ μ hI
    | cons x xs ih =>
      intro ρ μ hI
      obtain ⟨ρ1, e, hb⟩ := h1 x xs ρ μ hI
      unfold forD chk
      rw [hq, e]
      simp only [if_true]
      cases qb : b ρ1 μ with
      | nx ρ2 μ2 => rw [qb] at hb; exact ih ρ2 μ2 hb
      | ct ρ2 μ2 => rw [qb] at hb; exact ih ρ2 μ2 hb
      | bk ρ2 μ2 => rw [qb] at hb; exact hb
      | rt v μ2 => rw [qb] at hb; exact hb
      | exc c fs ρ2 μ2 => rw [qb] at hb; exact hb
      | bad => rw [qb] at hb; exact hb.elim
  exact go q.1 ρ μ1 h0
/-- a loop over a range: the invariant by the turn -/
theorem w_range {mi : MI} {b : MS} {t : Nat} (I : Nat → En → List MO → Prop) (h : (mi ρ μ).to (fun q μ1 => ∃ n : Nat, q = (intsD 0 n, none) ∧ I 0 ρ μ1 ∧ (∀ k ρ μ, k < n → I k ρ μ → (b (ρ.set t (some (.d (.int (k : Int))))) μ).to (fun ρ2 μ2 => I (k + 1) ρ2 μ2) R (fun ρ2 μ2 => N ρ2 μ2) (fun ρ2 μ2 => I (k + 1) ρ2 μ2) EE) ∧ (∀ ρ μ, I n ρ μ → N ρ μ)) (fun c fs μ1 => EE c fs ρ μ1)) : (mFor mi (gN t) b ρ μ).to N R B C EE := by
  refine w_for (fun xs ρ μ => ∃ n k, xs = ((List.range n).drop k).map (fun (i : Nat) => D.int (i : Int)) ∧ k ≤ n ∧ I k ρ μ ∧ (∀ k ρ μ, k < n → I k ρ μ → (b (ρ.set t (some (.d (.int (k : Int))))) μ).to (fun ρ2 μ2 => I (k + 1) ρ2 μ2) R (fun ρ2 μ2 => N ρ2 μ2) (fun ρ2 μ2 => I (k + 1) ρ2 μ2) EE) ∧ (∀ ρ μ, I n ρ μ → N ρ μ)) (tom h (fun q μ1 h => ?_) fun _ _ _ z => z)
  obtain ⟨n, rfl, h0, h1, h2⟩ := h
  refine ⟨rfl, ⟨n, 0, ?_, Nat.zero_le _, h0, h1, h2⟩, ?_, ?_⟩
  · simp [intsD]
  · rintro x xs ρ μ ⟨n, k, e, hk, hI, h1, h2⟩
    have hk' : k < n := by
      rcases Nat.lt_or_ge k n with h | h
      · exact h
      · rw [List.drop_eq_nil_of_le (by simpa using h)] at e; cases e
    rw [List.drop_eq_getElem_cons (by simpa using hk')] at e
    simp only [List.getElem_range, List.map_cons, List.cons.injEq] at e
    obtain ⟨rfl, rfl⟩ := e
    refine ⟨_, rfl, tos (h1 k ρ μ hk' hI) (fun ρ2 μ2 h => ⟨n, k + 1, rfl, hk', h, h1, h2⟩) (fun _ _ z => z) (fun _ _ z => z) (fun ρ2 μ2 h => ⟨n, k + 1, rfl, hk', h, h1, h2⟩) fun _ _ _ _ z => z⟩
  · rintro ρ μ ⟨n, k, e, hk, hI, h1, h2⟩
    have hn : n ≤ k := by
      have := congrArg List.length e
      simp at this
      omega
    have : k = n := by omega
    subst this
    exact h2 ρ μ hI
end
section
variable {K : MV → List MO → Prop} {KT : Bool → List MO → Prop} {KA : List MV → List MO → Prop} {KL : List D → List MO → Prop} {KI : List D × Option Nat → List MO → Prop} {E : Addr → List (Str × D) → List MO → Prop} {ρ ρ1 : En} {μ μ1 μ2 : List MO} {ma mb mc : ME} {ms mk : MA} {ml : ML} {c c2 : MT} {g g' : D → D → Option D} {g1 : D → Option D} {gn : List D → Option D} {i j l k : Nat} {v a b : MV} {x y z : D} {as : List MV} {xs ys : List D} {F : MF} {n : Nat}
theorem e_var (h : ρ[i]? = some (some v)) (k : K v μ) : (mVar i ρ μ).to K E := by unfold mVar; rw [h]; exact k
theorem e_c (k : K (.d x) μ) : (mC x ρ μ).to K E := k
theorem e_bin (h : (ma ρ μ).to (fun a μ1 => (mb ρ μ1).to (fun b μ2 => (op2 g a b μ2).to K E) E) E) : (mBin g ma mb ρ μ).to K E := to_bind (tom h (fun _ _ h => to_bind h) fun _ _ _ z => z)
theorem e_op2 (va : view μ a = some x) (vb : view μ b = some y) (hg : g x y = some z) (k : K (.d z) μ) : (op2 g a b μ).to K E := by unfold op2; rw [va, vb]; simp only [hg]; exact k
theorem e_un (h : (ma ρ μ).to (fun a μ1 => (op1 g1 a μ1).to K E) E) : (mUn g1 ma ρ μ).to K E := to_bind h
theorem e_op1 (va : view μ a = some x) (hg : g1 x = some z) (k : K (.d z) μ) : (op1 g1 a μ).to K E := by unfold op1; rw [va]; simp only [hg]; exact k
theorem e_n (h : (ms ρ μ).to (fun as μ1 => (opN gn as μ1).to K E) E) : (mN gn ms ρ μ).to K E := to_bind h
theorem e_opN (va : views μ as = some xs) (hg : gn xs = some z) (k : K (.d z) μ) : (opN gn as μ).to K E := by unfold opN; rw [va]; simp only [hg]; exact k
theorem e_nil (k : KA [] μ) : (mNil ρ μ).to KA E := k
theorem e_cons (h : (ma ρ μ).to (fun a μ1 => (ms ρ μ1).to (fun as μ2 => KA (a :: as) μ2) E) E) : (mCons ma ms ρ μ).to KA E := to_bind (tom h (fun _ _ h => to_bind h) fun _ _ _ z => z)
theorem e_tup (h : (ms ρ μ).to (fun as μ1 => ∃ xs, datas as = some xs ∧ xs.length ≤ sizeLine ∧ K (.d (.tup xs)) μ1) E) : (mTup ms ρ μ).to K E := to_bind (tom h (fun _ _ ⟨xs, h1, h2, h3⟩ => by unfold mkTup; rw [h1]; simp only [if_pos h2]; exact h3) fun _ _ _ z => z)
theorem e_call (h : (ms ρ μ).to (fun as μ1 => as.length = n ∧ (callF F as μ1).to K E) E) : (mCall F n ms ρ μ).to K E := to_bind (tom h (fun _ _ ⟨h1, h2⟩ => by rw [if_pos h1]; exact h2) fun _ _ _ z => z)
theorem e_callZ (h : (ms ρ μ).to (fun as μ1 => ∃ ds, views μ1 as = some ds ∧ ds.length = n ∧ (F (ds.map .d) []).to (fun v _ => ∃ d, v = .d d ∧ okD ds d = true ∧ K (.d d) μ1) no3) E) : (mCallZ F n ms ρ μ).to K E := by
  refine to_bind (tom h (fun as μ1 ⟨ds, h1, h2, h3⟩ => ?_) fun _ _ _ z => z)
  rw [h1]
  simp only [if_pos h2]
  obtain ⟨v, μ', e, d, rfl, h4, h5⟩ := ok_to h3
  unfold zRes
  rw [e]
  simp only [if_pos h4]
  exact h5
theorem e_t (h : (ma ρ μ).to (fun v μ1 => (tru v μ1).to KT E) E) : (mT ma ρ μ).to KT E := to_bind h
theorem e_tru {t : Bool} (hv : view μ v = some x) (ht : truD x = some t) (k : KT t μ) : (tru v μ).to KT E := by unfold tru; rw [hv]; simp only [ht]; exact k
theorem e_b (h : (ma ρ μ).to (fun v μ1 => (bool? v μ1).to KT E) E) : (mB ma ρ μ).to KT E := to_bind h
theorem e_bl {t : Bool} (k : KT t μ) : (bool? (.d (.bl t)) μ).to KT E := k
theorem e_and (h : (c ρ μ).to (fun t μ1 => (t = true → (c2 ρ μ1).to KT E) ∧ (t = false → KT false μ1)) E) : (mAnd c c2 ρ μ).to KT E := to_bind (tom h (fun t μ1 h => by cases t with | true => exact h.1 rfl | false => exact h.2 rfl) fun _ _ _ z => z)
theorem e_or (h : (c ρ μ).to (fun t μ1 => (t = true → KT true μ1) ∧ (t = false → (c2 ρ μ1).to KT E)) E) : (mOr c c2 ρ μ).to KT E := to_bind (tom h (fun t μ1 h => by cases t with | true => exact h.1 rfl | false => exact h.2 rfl) fun _ _ _ z => z)
theorem e_not (h : (c ρ μ).to (fun t μ1 => KT (!t) μ1) E) : (mNot c ρ μ).to KT E := to_bind h
theorem e_if (h : (c ρ μ).to (fun t μ1 => (t = true → (ma ρ μ1).to K E) ∧ (t = false → (mb ρ μ1).to K E)) E) : (mIf c ma mb ρ μ).to K E := to_bind (tom h (fun t μ1 h => by cases t with | true => exact h.1 rfl | false => exact h.2 rfl) fun _ _ _ z => z)
theorem e_andv (h : (ma ρ μ).to (fun v μ1 => ∃ t, v = .d (.bl t) ∧ (t = true → (mb ρ μ1).to K E) ∧ (t = false → K (.d (.bl false)) μ1)) E) : (mAndV ma mb ρ μ).to K E := to_bind (tom h (fun v μ1 ⟨t, e, h⟩ => by subst e; cases t with | true => exact h.1 rfl | false => exact h.2 rfl) fun _ _ _ z => z)
theorem e_orv (h : (ma ρ μ).to (fun v μ1 => ∃ t, v = .d (.bl t) ∧ (t = true → K (.d (.bl true)) μ1) ∧ (t = false → (mb ρ μ1).to K E)) E) : (mOrV ma mb ρ μ).to K E := to_bind (tom h (fun v μ1 ⟨t, e, h⟩ => by subst e; cases t with | true => exact h.1 rfl | false => exact h.2 rfl) fun _ _ _ z => z)
theorem e_chain (h : (ma ρ μ).to (fun a μ1 => (mb ρ μ1).to (fun b μ2 => (op2 g a b μ2).to (fun k μ3 => ∃ t, k = .d (.bl t) ∧ (t = true → (mc ρ μ3).to (fun c μ4 => (op2 g' b c μ4).to K E) E) ∧ (t = false → K (.d (.bl false)) μ3)) E) E) E) : (mChain g g' ma mb mc ρ μ).to K E :=
  to_bind (tom h (fun _ _ h => to_bind (tom h (fun _ _ h => to_bind (tom h (fun v μ3 ⟨t, e, h⟩ => by subst e; cases t with | true => exact to_bind (h.1 rfl) | false => exact h.2 rfl) fun _ _ _ z => z)) fun _ _ _ z => z)) fun _ _ _ z => z)
theorem e_fz (h : (ml ρ μ).to (fun xs μ1 => K (.d (.lst xs)) μ1) E) : (mFz ml ρ μ).to K E := to_bind h
theorem e_own (h : (ml ρ μ).to (fun xs μ1 => K (.ref μ1.length) (μ1 ++ [.lst xs])) E) : (mOwn ml ρ μ).to K E := to_bind h
theorem e_lst (h : (ms ρ μ).to (fun as μ1 => ∃ xs, datas as = some xs ∧ xs.length ≤ sizeLine ∧ KL xs μ1) E) : (mLst ms ρ μ).to KL E := to_bind (tom h (fun _ _ ⟨xs, h1, h2, h3⟩ => by rw [h1]; simp only [if_pos h2]; exact h3) fun _ _ _ z => z)
theorem e_nl {gl : List D → Option (List D)} (h : (ms ρ μ).to (fun as μ1 => ∃ xs ys, views μ1 as = some xs ∧ gl xs = some ys ∧ KL ys μ1) E) : (mNL gl ms ρ μ).to KL E := to_bind (tom h (fun _ _ ⟨xs, ys, h1, h2, h3⟩ => by unfold opNL; rw [h1]; simp only [h2]; exact h3) fun _ _ _ z => z)
theorem e_binl {gl : D → D → Option (List D)} (h : (ma ρ μ).to (fun a μ1 => (mb ρ μ1).to (fun b μ2 => ∃ x y zs, view μ2 a = some x ∧ view μ2 b = some y ∧ gl x y = some zs ∧ KL zs μ2) E) E) : (mBinL gl ma mb ρ μ).to KL E := to_bind (tom h (fun _ _ h => to_bind (tom h (fun _ _ ⟨x, y, zs, h1, h2, h3, h4⟩ => by unfold op2L; rw [h1, h2]; simp only [h3]; exact h4) fun _ _ _ z => z)) fun _ _ _ z => z)
theorem e_mut {f : Mut1} (h : (ma ρ μ).to (fun v μ1 => ∃ p, v = .ref p ∧ isLst μ1 p = true ∧ (ms ρ μ1).to (fun as μ2 => ∃ xs ys rt zs, datas as = some xs ∧ μ2[p]? = some (.lst ys) ∧ f ys xs = some (rt, zs) ∧ K (.d rt) (μ2.set p (.lst zs))) E) E) : (mMut f ma ms ρ μ).to K E :=
  to_bind (tom h (fun v μ1 ⟨p, e, h1, h⟩ => by
    subst e
    simp only [h1, if_true]
    exact to_bind (tom h (fun as μ2 ⟨xs, ys, rt, zs, h2, h3, h4, h5⟩ => by unfold mutL; rw [h2]; simp only [h3, h4]; exact h5) fun _ _ _ z => z)) fun _ _ _ z => z)
theorem e_fld {C0 : Addr} {f : Str} (h : (ma ρ μ).to (fun v μ1 => (fldOf C0 f v μ1).to K E) E) : (mFld C0 f ma ρ μ).to K E := to_bind h
theorem e_mkF {C0 : Addr} (h : (ms ρ μ).to (fun as μ1 => (mkF C0 F n as μ1).to K E) E) : (mMkF C0 F n ms ρ μ).to K E := to_bind h
theorem e_it (h : (ma ρ μ).to (fun v μ1 => (itemsOf v μ1).to KI E) E) : (mIt ma ρ μ).to KI E := to_bind h
theorem e_ita {kk : List MV → List MO → Res (List D × Option Nat)} (h : (ms ρ μ).to (fun v μ1 => (kk v μ1).to KI E) E) : (mItA kk ms ρ μ).to KI E := to_bind h
theorem e_pn {KP : Option Int → List MO → Prop} (k : KP none μ) : (pNone ρ μ).to KP E := k
theorem e_ps {KP : Option Int → List MO → Prop} (h : (ma ρ μ).to (fun v μ1 => ∃ i : Int, v = .d (.int i) ∧ KP (some i) μ1) E) : (pSome ma ρ μ).to KP E := to_bind (tom h (fun v μ1 ⟨i, e, h⟩ => by subst e; exact h) fun _ _ _ z => z)
theorem e_slice {pl ph : MP} (h : (ma ρ μ).to (fun v μ1 => (pl ρ μ1).to (fun l μ2 => (ph ρ μ2).to (fun h μ3 => (op1 (fun d => sliceD d l h) v μ3).to K E) E) E) E) : (mSlice ma pl ph ρ μ).to K E :=
  to_bind (tom h (fun _ _ h => to_bind (tom h (fun _ _ h => to_bind h) fun _ _ _ z => z)) fun _ _ _ z => z)
theorem e_lenset {f1 : Int} (h : (ma ρ μ).to (fun v μ1 => ∃ d z, view μ1 v = some d ∧ lenSetD d = some z ∧ K (.d z) μ1) E) : (mLenSet ma ρ μ).to K E := to_bind (tom h (fun v μ1 ⟨d, z, h1, h2, h3⟩ => by rw [h1]; simp only [h2]; exact h3) fun _ _ _ z => z)
/-- a list comprehension: the invariant by what is left and what was found -/
theorem e_lc {mi : MI} {gm : MG} {vs : List Nat} {el : ME} (I : List D → List D → List MO → Prop) (h : (mi ρ μ).to (fun q μ1 => q.2 = none ∧ q.1.length ≤ sizeLine ∧ I q.1 [] μ1 ∧ (∀ x xs acc μ, I (x :: xs) acc μ → ∃ ρ1, gm (.d x) (wipeM ρ vs) = some ρ1 ∧ (el ρ1 μ).to (fun v μ2 => ∃ d, v = .d d ∧ I xs (acc ++ [d]) μ2) no3) ∧ (∀ acc μ, I [] acc μ → KL acc μ)) E) : (mLC mi gm mYes el vs ρ μ).to KL E := by
  unfold mLC
  refine to_bind (tom h (fun q μ1 h => ?_) fun _ _ _ z => z)
  obtain ⟨hq, hl, h0, h1, h2⟩ := h
  rw [if_pos hl]
  have go : ∀ (xs acc : List D) (μ : List MO), I xs acc μ → (lcD q gm mYes el (wipeM ρ vs) xs acc μ).to KL E := by
    intro xs
    induction xs with
    | nil =>
      intro acc μ hI
      unfold lcD chk
      rw [hq]
      exact h2 acc μ hI
    | cons x xs ih =>
      intro acc μ hI
      obtain ⟨ρ1, e, hb⟩ := h1 x xs acc μ hI
      obtain ⟨v, μ2, e2, d, rfl, hI2⟩ := ok_to hb
      unfold lcD chk
      rw [hq, e]
      simp only [if_true, mYes, Res.calm, Res.bind_ok, e2]
      exact ih _ _ hI2
  exact go q.1 [] μ1 h0
end
section
variable {α : Type} {K : MV → List MO → Prop} {KT : Bool → List MO → Prop} {KA : List MV → List MO → Prop} {KL : List D → List MO → Prop} {KI : List D × Option Nat → List MO → Prop} {E : Addr → List (Str × D) → List MO → Prop} {ρ ρ' : En} {μ μ1 μ2 : List MO} {ma mb mc : ME} {ms mk : MA} {ml : ML} {c c2 : MT} {g g' : D → D → Option D} {i j l k p : Nat} {v w a b : MV} {x y z rt : D} {as : List MV} {xs ys zs ds : List D} {F : MF} {n : Nat} {t : Bool} {A A' : Prop}
def kCall (F : MF) (n : Nat) (K : MV → List MO → Prop) (E : Addr → List (Str × D) → List MO → Prop) : List MV → List MO → Prop := fun as μ => as.length = n ∧ (callF F as μ).to K E
theorem z_call (h : (ms ρ μ).to (kCall F n K E) E) : (mCall F n ms ρ μ).to K E := e_call h
theorem k_call (h1 : as.length = n) (h : (callF F as μ).to K E) : kCall F n K E as μ := ⟨h1, h⟩
def kTup (K : MV → List MO → Prop) : List MV → List MO → Prop := fun as μ1 => ∃ xs, datas as = some xs ∧ xs.length ≤ sizeLine ∧ K (.d (.tup xs)) μ1
theorem z_tup (h : (ms ρ μ).to (kTup K) E) : (mTup ms ρ μ).to K E := e_tup h
theorem k_tup (h1 : datas as = some xs) (h2 : xs.length ≤ sizeLine) (h : K (.d (.tup xs)) μ) : kTup K as μ := ⟨xs, h1, h2, h⟩
def kLst (K : List D → List MO → Prop) : List MV → List MO → Prop := fun as μ1 => ∃ xs, datas as = some xs ∧ xs.length ≤ sizeLine ∧ K xs μ1
theorem z_lst (h : (ms ρ μ).to (kLst KL) E) : (mLst ms ρ μ).to KL E := e_lst h
theorem k_lst (h1 : datas as = some xs) (h2 : xs.length ≤ sizeLine) (h : KL xs μ) : kLst KL as μ := ⟨xs, h1, h2, h⟩
def kBl (P : Bool → List MO → Prop) : MV → List MO → Prop := fun v μ => ∃ t, v = .d (.bl t) ∧ P t μ
theorem k_bl {P : Bool → List MO → Prop} (h : P t μ) : kBl P (.d (.bl t)) μ := ⟨t, rfl, h⟩
def kBr (P Q : List MO → Prop) : Bool → List MO → Prop := fun t μ => (t = true → P μ) ∧ (t = false → Q μ)
theorem br_t {P Q : List MO → Prop} (h : P μ) : kBr P Q true μ := ⟨fun _ => h, fun z => by cases z⟩
theorem br_f {P Q : List MO → Prop} (h : Q μ) : kBr P Q false μ := ⟨(fun z => by cases z), fun _ => h⟩
theorem br_ok {P Q : List MO → Prop} (h1 : t = true → P μ) (h2 : t = false → Q μ) : kBr P Q t μ := ⟨h1, h2⟩
theorem z_andv (h : (ma ρ μ).to (kBl (kBr (fun μ1 => (mb ρ μ1).to K E) (fun μ1 => K (.d (.bl false)) μ1))) E) : (mAndV ma mb ρ μ).to K E := e_andv h
theorem z_orv (h : (ma ρ μ).to (kBl (kBr (fun μ1 => K (.d (.bl true)) μ1) (fun μ1 => (mb ρ μ1).to K E))) E) : (mOrV ma mb ρ μ).to K E := e_orv h
theorem z_and (h : (c ρ μ).to (kBr (fun μ1 => (c2 ρ μ1).to KT E) (fun μ1 => KT false μ1)) E) : (mAnd c c2 ρ μ).to KT E := e_and h
theorem z_or (h : (c ρ μ).to (kBr (fun μ1 => KT true μ1) (fun μ1 => (c2 ρ μ1).to KT E)) E) : (mOr c c2 ρ μ).to KT E := e_or h
theorem z_if (h : (c ρ μ).to (kBr (fun μ1 => (ma ρ μ1).to K E) (fun μ1 => (mb ρ μ1).to K E)) E) : (mIf c ma mb ρ μ).to K E := e_if h
def kNot (KT : Bool → List MO → Prop) : Bool → List MO → Prop := fun t μ => KT (!t) μ
theorem z_not (h : (c ρ μ).to (kNot KT) E) : (mNot c ρ μ).to KT E := e_not h
theorem k_not_t (h : KT false μ) : kNot KT true μ := h
theorem k_not_f (h : KT true μ) : kNot KT false μ := h
theorem k_not (h : KT (!t) μ) : kNot KT t μ := h
theorem z_chain (h : (ma ρ μ).to (fun a μ1 => (mb ρ μ1).to (fun b μ2 => (op2 g a b μ2).to (kBl (kBr (fun μ3 => (mc ρ μ3).to (fun c μ4 => (op2 g' b c μ4).to K E) E) (fun μ3 => K (.d (.bl false)) μ3))) E) E) E) : (mChain g g' ma mb mc ρ μ).to K E := e_chain h
def kNl (gl : List D → Option (List D)) (KL : List D → List MO → Prop) : List MV → List MO → Prop := fun as μ1 => ∃ xs ys, views μ1 as = some xs ∧ gl xs = some ys ∧ KL ys μ1
theorem z_nl {gl : List D → Option (List D)} (h : (ms ρ μ).to (kNl gl KL) E) : (mNL gl ms ρ μ).to KL E := e_nl h
theorem k_nl {gl : List D → Option (List D)} (h1 : views μ as = some xs) (h2 : gl xs = some ys) (h : KL ys μ) : kNl gl KL as μ := ⟨xs, ys, h1, h2, h⟩
def kBinl (gl : D → D → Option (List D)) (KL : List D → List MO → Prop) (a : MV) : MV → List MO → Prop := fun b μ2 => ∃ x y zs, view μ2 a = some x ∧ view μ2 b = some y ∧ gl x y = some zs ∧ KL zs μ2
theorem z_binl {gl : D → D → Option (List D)} (h : (ma ρ μ).to (fun a μ1 => (mb ρ μ1).to (kBinl gl KL a) E) E) : (mBinL gl ma mb ρ μ).to KL E := e_binl h
theorem k_binl {gl : D → D → Option (List D)} (h1 : view μ a = some x) (h2 : view μ b = some y) (h3 : gl x y = some zs) (h : KL zs μ) : kBinl gl KL a b μ := ⟨x, y, zs, h1, h2, h3, h⟩
def kMut2 (f : Mut1) (p : Nat) (K : MV → List MO → Prop) : List MV → List MO → Prop := fun as μ2 => ∃ xs ys rt zs, datas as = some xs ∧ μ2[p]? = some (.lst ys) ∧ f ys xs = some (rt, zs) ∧ K (.d rt) (μ2.set p (.lst zs))
def kMut (f : Mut1) (ms : MA) (ρ : En) (K : MV → List MO → Prop) (E : Addr → List (Str × D) → List MO → Prop) : MV → List MO → Prop := fun v μ1 => ∃ p, v = .ref p ∧ isLst μ1 p = true ∧ (ms ρ μ1).to (kMut2 f p K) E
theorem z_mut {f : Mut1} (h : (ma ρ μ).to (kMut f ms ρ K E) E) : (mMut f ma ms ρ μ).to K E := e_mut h
theorem k_mut {f : Mut1} (h1 : isLst μ p = true) (h : (ms ρ μ).to (kMut2 f p K) E) : kMut f ms ρ K E (.ref p) μ := ⟨p, rfl, h1, h⟩
def kPs (KP : Option Int → List MO → Prop) : MV → List MO → Prop := fun v μ1 => ∃ i : Int, v = .d (.int i) ∧ KP (some i) μ1
theorem z_ps {KP : Option Int → List MO → Prop} (h : (ma ρ μ).to (kPs KP) E) : (pSome ma ρ μ).to KP E := e_ps h
theorem k_ps {KP : Option Int → List MO → Prop} {i : Int} (h : KP (some i) μ) : kPs KP (.d (.int i)) μ := ⟨i, rfl, h⟩
def kLset (K : MV → List MO → Prop) : MV → List MO → Prop := fun v μ1 => ∃ d z, view μ1 v = some d ∧ lenSetD d = some z ∧ K (.d z) μ1
theorem z_lset (h : (ma ρ μ).to (kLset K) E) : (mLenSet ma ρ μ).to K E := e_lenset (f1 := 0) h
def kCallZ (F : MF) (n : Nat) (K : MV → List MO → Prop) : List MV → List MO → Prop := fun as μ1 => ∃ ds, views μ1 as = some ds ∧ ds.length = n ∧ (F (ds.map .d) []).to (fun v _ => ∃ d, v = .d d ∧ okD ds d = true ∧ K (.d d) μ1) no3
theorem z_callZ (h : (ms ρ μ).to (kCallZ F n K) E) : (mCallZ F n ms ρ μ).to K E := e_callZ h
end
section
variable {N : En → List MO → Prop} {R : MV → List MO → Prop} {B C : En → List MO → Prop} {EE : Addr → List (Str × D) → En → List MO → Prop} {m n : MS} {ρ ρ1 ρ' : En} {μ μ1 μ2 : List MO} {ma mb mc : ME} {ms mk : MA} {c c2 : MT} {i j l : Nat} {v w u a : MV} {as : List MV} {ds : List D} {ix : MV}
theorem z_ifs (h : (c ρ μ).to (kBr (fun μ1 => (m ρ μ1).to N R B C EE) (fun μ1 => (n ρ μ1).to N R B C EE)) (fun c fs μ1 => EE c fs ρ μ1)) : (mIfS c m n ρ μ).to N R B C EE := w_ifs h
def kAsg (g : MG) (ρ : En) (N : En → List MO → Prop) : MV → List MO → Prop := fun v μ1 => ∃ ρ', g v ρ = some ρ' ∧ N ρ' μ1
theorem z_asg {g : MG} (h : (ma ρ μ).to (kAsg g ρ N) (fun c fs μ1 => EE c fs ρ μ1)) : (mAsg ma g ρ μ).to N R B C EE := w_asg h
theorem k_asg {g : MG} (h1 : g v ρ = some ρ') (h : N ρ' μ) : kAsg g ρ N v μ := ⟨ρ', h1, h⟩
def kPar2 (i j : Nat) (ρ : En) (N : En → List MO → Prop) : List MV → List MO → Prop := fun vs μ1 => ∃ v w, vs = [v, w] ∧ N ((ρ.set i (some v)).set j (some w)) μ1
theorem z_par2 (h : (ms ρ μ).to (kPar2 i j ρ N) (fun c fs μ1 => EE c fs ρ μ1)) : (mPar2 i j ms ρ μ).to N R B C EE := w_par2 h
theorem k_par2 (h : N ((ρ.set i (some v)).set j (some w)) μ) : kPar2 i j ρ N [v, w] μ := ⟨v, w, rfl, h⟩
def kPar3 (i j l : Nat) (ρ : En) (N : En → List MO → Prop) : List MV → List MO → Prop := fun vs μ1 => ∃ v w z, vs = [v, w, z] ∧ N (((ρ.set i (some v)).set j (some w)).set l (some z)) μ1
theorem z_par3 (h : (ms ρ μ).to (kPar3 i j l ρ N) (fun c fs μ1 => EE c fs ρ μ1)) : (mPar3 i j l ms ρ μ).to N R B C EE := w_par3 h
theorem k_par3 (h : N (((ρ.set i (some v)).set j (some w)).set l (some u)) μ) : kPar3 i j l ρ N [v, w, u] μ := ⟨v, w, u, rfl, h⟩
def kParN (is : List Nat) (ρ : En) (N : En → List MO → Prop) : List MV → List MO → Prop := fun vs μ1 => vs.length = is.length ∧ is.length ≤ 100 ∧ N (setMV ρ is vs) μ1
theorem z_parN {is : List Nat} (h : (ms ρ μ).to (kParN is ρ N) (fun c fs μ1 => EE c fs ρ μ1)) : (mParN is ms ρ μ).to N R B C EE := w_parN h
theorem k_parN {is : List Nat} (h1 : as.length = is.length) (h2 : is.length ≤ 100) (h : N (setMV ρ is as) μ) : kParN is ρ N as μ := ⟨h1, h2, h⟩
def kIx (o v : MV) (ρ : En) (N : En → List MO → Prop) : MV → List MO → Prop := fun i μ3 => ∃ μ4, putL o i v μ3 = some μ4 ∧ N ρ μ4
theorem z_setix {mv mo mi : ME} (h : (mv ρ μ).to (fun v μ1 => (mo ρ μ1).to (fun o μ2 => (mi ρ μ2).to (kIx o v ρ N) (fun c fs μ1 => EE c fs ρ μ1)) (fun c fs μ1 => EE c fs ρ μ1)) (fun c fs μ1 => EE c fs ρ μ1)) : (mSetIx mv mo mi ρ μ).to N R B C EE := w_setix h
theorem k_setix (h1 : putL a ix v μ = some μ1) (h : N ρ μ1) : kIx a v ρ N ix μ := ⟨μ1, h1, h⟩
def kSf (C0 : Addr) (f : Str) (v : MV) (ρ : En) (N : En → List MO → Prop) : MV → List MO → Prop := fun o μ2 => ∃ μ4, putFld C0 f v o μ2 = some μ4 ∧ N ρ μ4
theorem z_setf {C0 : Addr} {f : Str} {mv mo : ME} (h : (mv ρ μ).to (fun v μ1 => (mo ρ μ1).to (kSf C0 f v ρ N) (fun c fs μ1 => EE c fs ρ μ1)) (fun c fs μ1 => EE c fs ρ μ1)) : (mSetF C0 f mv mo ρ μ).to N R B C EE := w_setf h
theorem k_setf {C0 : Addr} {f : Str} (h1 : putFld C0 f v a μ = some μ1) (h : N ρ μ1) : kSf C0 f v ρ N a μ := ⟨μ1, h1, h⟩
def kRaise (C0 : Addr) (ks : List Str) (ρ : En) (EE : Addr → List (Str × D) → En → List MO → Prop) : List MV → List MO → Prop := fun as μ1 => ∃ ds, datas as = some ds ∧ ds.length = ks.length ∧ EE C0 (ks.zip ds).reverse ρ μ1
theorem z_raise {C0 : Addr} {ks : List Str} (h : (ms ρ μ).to (kRaise C0 ks ρ EE) (fun c fs μ1 => EE c fs ρ μ1)) : (mRaise C0 ks ms ρ μ).to N R B C EE := w_raise h
theorem k_raise {C0 : Addr} {ks : List Str} (h1 : datas as = some ds) (h2 : ds.length = ks.length) (h : EE C0 (ks.zip ds).reverse ρ μ) : kRaise C0 ks ρ EE as μ := ⟨ds, h1, h2, h⟩
def kMatch (r : MM) (ρ : En) (N : En → List MO → Prop) (R : MV → List MO → Prop) (B C : En → List MO → Prop) (EE : Addr → List (Str × D) → En → List MO → Prop) : MV → List MO → Prop := fun v μ1 => ∃ d, v = .d d ∧ (r d ρ μ1).to N R B C EE
theorem z_match {r : MM} (h : (ma ρ μ).to (kMatch r ρ N R B C EE) (fun c fs μ1 => EE c fs ρ μ1)) : (mMatch ma r ρ μ).to N R B C EE := w_match h
theorem k_match {r : MM} {d : D} (h : (r d ρ μ).to N R B C EE) : kMatch r ρ N R B C EE (.d d) μ := ⟨d, rfl, h⟩
end
/-- the end of a def -/
theorem fn_to {fz : Bool} {n : Nat} {m : MS} {as : List MV} {μ : List MO} {Q : MV → List MO → Prop} {X : Addr → List (Str × D) → List MO → Prop}
    (h : (m (as.map some ++ List.replicate (n - as.length) none) μ).to (fun _ μ' => trimmable μ.length (.d .non) μ' = true ∧ Q (.d .non) (μ'.take μ.length)) (fun v μ' => ∃ d, v = .d d ∧ trimmable μ.length (.d d) μ' = true ∧ Q (.d d) (μ'.take μ.length)) (fun _ _ => False) (fun _ _ => False) (fun c fs _ μ' => trimmable μ.length (.d .non) μ' = true ∧ X c fs (μ'.take μ.length))) : (fnT fz n m as μ).to Q X := by
  unfold fnT
  cases q : m (as.map some ++ List.replicate (n - as.length) none) μ with
  | nx ρ' μ' => rw [q] at h; simp only [SR.finT, trim, if_pos h.1]; exact h.2
  | rt v μ' =>
    rw [q] at h
    obtain ⟨d, rfl, h1, h2⟩ := h
    simp only [SR.finT, trim, if_pos h1]; exact h2
  | exc c fs ρ' μ' => rw [q] at h; simp only [SR.finT, trimX, if_pos h.1]; exact h.2
  | bk ρ' μ' => rw [q] at h; exact h.elim
  | ct ρ' μ' => rw [q] at h; exact h.elim
  | bad => rw [q] at h; exact h.elim
theorem view_lst {μ : List MO} {n : Nat} {xs : List D} (h : μ[n]? = some (.lst xs)) : view μ (.ref n) = some (.lst xs) := by simp only [view, h]
theorem isLst_of {μ : List MO} {n : Nat} {xs : List D} (h : μ[n]? = some (.lst xs)) : isLst μ n = true := by unfold isLst; rw [h]
section
variable {μ r : List MO} {o o' p q s : MO}
theorem at0 : (μ ++ o :: r)[μ.length]? = some o := by simp
theorem at1 : (μ ++ o :: p :: r)[μ.length + 1]? = some p := by simp
theorem at2 : (μ ++ o :: p :: q :: r)[μ.length + 2]? = some q := by simp
theorem at3 : (μ ++ o :: p :: q :: s :: r)[μ.length + 3]? = some s := by simp
theorem set0 : (μ ++ o :: r).set μ.length o' = μ ++ o' :: r := by simp
theorem set1 : (μ ++ o :: p :: r).set (μ.length + 1) o' = μ ++ o :: o' :: r := by simp
theorem set2 : (μ ++ o :: p :: q :: r).set (μ.length + 2) o' = μ ++ o :: p :: o' :: r := by simp
theorem set3 : (μ ++ o :: p :: q :: s :: r).set (μ.length + 3) o' = μ ++ o :: p :: q :: o' :: r := by simp
end
theorem views1 {μ : List MO} {a : MV} {x : D} (h : view μ a = some x) : views μ [a] = some [x] := by simp only [views, h]
theorem k_mut2s {f : Mut1} {p : Nat} {K : MV → List MO → Prop} {as : List MV} {μ μ' : List MO} {xs ys zs : List D} {rt : D} (h1 : datas as = some xs) (h2 : μ[p]? = some (.lst ys)) (h3 : f ys xs = some (rt, zs)) (hs : μ.set p (.lst zs) = μ') (h : K (.d rt) μ') : kMut2 f p K as μ := ⟨xs, ys, rt, zs, h1, h2, h3, by rw [hs]; exact h⟩
end TT
namespace TT
open PySem L2
variable [TB]
section
variable {P : Program} {w : World} {K : PySem.W.Frag} {mg : Str → Option Value} {base : Heap} {x : Str} {st : Stmt} {ps : List Str} {n : Nat}
theorem Def.bad (D : Def K mg x st ps) (k : Nat) : Fn P w K mg base k x n (fun _ _ => .bad) := by
  obtain ⟨f, fd, F, hm, b⟩ := D.ex
  refine ⟨f, fun A outer s H us vs Q E hr hg e0 r h => ?_, hm, F.kp⟩
  obtain ⟨_, Z, ι, as, μ, s, r, o⟩ := h
  exact o.elim
end
end TT
namespace TT
open PySem PySem.Spec PySem.Calls PyProof.Rows PySem.W
section
variable {prog : Program} {w : World} {A : Around} {E : Value → Shared → Prop} {s : Shared} {K : Frag} {x D : Addr} {ox : Obj} {od : Option Obj}
set_option maxHeartbeats 4000000 in
theorem findObj_dataO {C : Addr} {name : Str} {a g : Value} (hc : (clsIn K C).isSome = true) (ha : findIn K (.ref C) name = some (some a)) (hg : specialIn K a "__get__" = some (some g)) (ht : takesIn K a = some true) : findObj K C od name = some (.bind g a) := by
  obtain ⟨cd, hc⟩ := Option.isSome_iff_exists.mp hc
  unfold findObj
  rw [hc, Option.bind_some, ha, Option.bind_some]
  simp [hg, ht]
set_option maxHeartbeats 4000000 in
theorem kin_classD {Q : Option Value → Shared → Prop} (hga : findIn K (.ref D) "__getattribute__" = some (some (.builtin "BaseException.__getattribute__"))) (hgt : findIn K (.ref D) "__getattr__" = some none) (hsub : subIn K (.ref D) (.type "BaseException") = some true)
    (hdct : hasDictIn K D = true) (ha : findIn K (.ref D) "__class__" = some (some (.builtin "object.__class__")))
    (hn : specialIn K (.builtin "object.__class__") "__get__" = some (some (.builtin "getset_descriptor.__get__"))) (htk : takesIn K (.builtin "object.__class__") = some true) (hm : mroIn K D (.type "object") = some true)
    (X : K.In s.heap) (I : InstAt s.heap x ox D od) (h : Q (some (.ref D)) { s with toks := s.toks + 1 }) : wpAny (model prog w) A (getAttr? (.ref x) "__class__") Q E s := by
  have hf : findObj K D od "__class__" = some (.bind (.builtin "getset_descriptor.__get__") (.builtin "object.__class__")) := findObj_dataO (by obtain ⟨cd, hc, _⟩ := any_some hdct; rw [hc]; rfl) ha hn htk
  obtain ⟨hp, g, d, t, os⟩ := s
  have L0 := I.type (M := model prog w)
  have L1 := looks_findIn (M := model prog w) X hga
  have L2 := looks_findIn (M := model prog w) X hgt
  have L3 := looks_find (M := model prog w) X I hf
  have sub : Looks (model prog w) hp (isInstance (.ref x) (.type "BaseException")) true := L0.andThen (looks_subIn X hsub)
  have hx0 : (false && onTheHeap (Value.builtin "BaseException.__getattribute__")) = false := rfl
  have hx2 : (Value.builtin "BaseException.__getattribute__" == Value.builtin "object.__getattribute__") = false := by decide +kernel
  have hx1 : (onTheHeap (Value.ref D) && Value.builtin "BaseException.__getattribute__" == Value.builtin "object.__getattribute__") = false := by rw [hx2]; rfl
  unfold getAttr? getAttrBy? getAttrBy
  refine wpAny_bind (wpAny_mkText (wpAny_bind (wpAny_attempt (wpAny_holding (wpAny_bind (L0.at (wpAny_bind (L1.at ?_))))))))
  show wpAny _ _ (if (onTheHeap (Value.ref D) && Value.builtin "BaseException.__getattribute__" == Value.builtin "object.__getattribute__") = true then _ else _) _ _ _
  rw [hx1, if_neg Bool.false_ne_true]
  unfold getAttrByItsOwn hookBefore
  refine wpAny_bind ?_
  rw [if_pos (show onTheHeap (Value.ref D) = true from rfl)]
  refine L2.at ?_
  refine wpAny_bind (wpAny_attempt (wpAny_holding ?_))
  unfold callGetattribute
  rw [hx0, if_neg Bool.false_ne_true]
  unfold boundAndCalled
  rw [PySem.F.excAttr_ValueError.ga.bind (.ref x)]
  refine wpAny_bind (wpAny_pure ?_)
  show wpAny _ _ (call (.builtin "BaseException.__getattribute__") [.ref x, .str "__class__" t]) _ _ _
  refine wpAny_call (codeAny_call_builtin PySem.F.excAttr_ValueError.ga.plain PySem.F.entry_bexc_ga ?_)
  refine @check_slot (model prog w) _ _ ⟨hp, g, d, t + 1, os⟩ "BaseException.__getattribute__" "BaseException" "__getattribute__" (.ref x) [.str "__class__" t] [] _ (by decide +kernel) (by decide +kernel) sub (PySem.F.args_bexc_ga (.ref x) (.str "__class__" t)) ?_
  unfold Builtin.«object.__getattribute__»
  refine wpAny_bind (wpAny_of_eq (a := ((Value.ref x : Value), [Value.str "__class__" t])) (by first | rfl | (simp only [slotArgs]; rfl)) ?_)
  refine wpAny_bind (wpAny_pure (wpAny_bind (L0.at (wpAny_bind (L3.at ?_)))))
  show wpAny _ _ (holding [Value.builtin "object.__class__"] (call (.builtin "getset_descriptor.__get__") [.builtin "object.__class__", .ref x, .ref D]) >>= ret) _ _ _
  refine wpAny_bind (wpAny_holding (wpAny_call (class_get (s := ⟨hp, g, d, t + 1, os⟩) (ox := ox) (od := od) X I hm ?_)))
  refine wpAny_pure ?_
  show wpAny _ _ (handedOut (.ref D)) _ _ _
  rw [handedOut_of (v := .ref D) rfl]
  first
    | exact wpAny_pure (wpAny_pure h)
    | exact wpAny_pure h
    | exact wpAny_pure (wpAny_bind (wpAny_pure (wpAny_pure h)))
set_option maxHeartbeats 4000000 in
theorem kitx_excD (hga : findIn K (.ref D) "__getattribute__" = some (some (.builtin "BaseException.__getattribute__"))) (hgt : findIn K (.ref D) "__getattr__" = some none) (hsub : subIn K (.ref D) (.type "BaseException") = some true) (hdct : hasDictIn K D = true) (ha : findIn K (.ref D) "__class__" = some (some (.builtin "object.__class__")))
    (hn : specialIn K (.builtin "object.__class__") "__get__" = some (some (.builtin "getset_descriptor.__get__"))) (htk : takesIn K (.builtin "object.__class__") = some true) (hm : mroIn K D (.type "object") = some true) :
    KitX K (.ref x) (.ref D) (fun h => ∃ od, InstAt h x ox D od) where
  ty := fun _ _ _ ⟨_, I⟩ => I.type
  it := fun _ _ X _ => by
    obtain ⟨cdD, hcD, _⟩ := any_some hdct
    unfold clsIn at hcD
    split at hcD
    · rename_i c' d' cd' sl' ho
      intro A' Q' E' s' k q
      unfold isType loadHead
      exact wpAny_bind (wpAny_loadPart (k _ _ (X _ _ ho)) (wpAny_pure q))
    · cases hcD
  ne := fun h tp dd its n sl X htp => by
    obtain ⟨cdD, hcD, _⟩ := any_some hdct
    refine Bool.eq_false_iff.mpr fun q => ?_
    have e : D = tp := Value.ref.inj (beq_iff_eq.mp q)
    subst e
    unfold clsIn at hcD
    split at hcD
    · rename_i c' d' cd' sl' ho
      have z := (X _ _ ho).symm.trans htp
      cases z
    · cases hcD
  ca := fun X ⟨_, I⟩ k => kin_classD hga hgt hsub hdct ha hn htk hm X I k
end
open L2
/-- isinstance(e, c): a the caught error, D its class, dd its dict -/
def rIsD (K : PySem.W.Frag) (D a dd : Addr) : List V → Hp → VK → Prop := fun xs H Q => ∃ (c : V) (cv : Value) (b : Bool) (fs : List (Str × V)), xs = [.ref a, c] ∧ H dd = some (.xd fs) ∧ (∀ u, RelV c u → u = cv) ∧ PySem.W.kitOne K (.ref D) cv = some b ∧ Q (.bl b) H
set_option maxHeartbeats 4000000 in
theorem call_isD {X : Cx} {a D dd : Addr} {oe : Obj} {pn : List (Addr × Obj)} (C : ExcC X.K D) (hz : Zc (.ref D) (some dd) oe) (hf : ∃ vs, oe.data = .fields vs) : CallR (X.suite a ((a, oe) :: pn)) (.builtin "isinstance") (rIsD X.K D a dd) := by
  intro pins s σ H xs us Q I r h
  obtain ⟨c, cv, b, fs, rfl, ea, hcv, e, q⟩ := h
  cases r with
  | cons rx rr =>
    cases rr with
    | cons rt rr =>
      cases rr
      cases rx
      have ec := hcv _ rt
      subst ec
      obtain ⟨ha, _⟩ := I.pin (a, oe) (List.mem_append.mpr (.inl List.mem_cons_self))
      obtain ⟨vs, hd⟩ := hf
      have hx : ObjOk X.prog X.w H s.heap dd (.xd fs) := I.hok dd _ ea
      obtain ⟨mA, hns, hr⟩ := hx
      obtain ⟨od, ho, hl⟩ := lookIn_ns hns
      have J : PySem.W.InstAt s.heap a oe D (some od) := ⟨ha, hz.1, by unfold PySem.W.notCls; rw [hd] <;> rfl, by rw [hz.2]; exact ho⟩
      exact PySem.W.kia_one (kitx_excD C.hg C.hk C.hs C.hd C.ha C.hn C.ht C.hm) I.kIn ⟨_, J⟩ e (fun z => nomatch z) fun tk => ⟨.bl b, H, I.kept (t' := tk) fun _ _ z => z, rfl, q⟩
end TT
namespace TT
open PySem L2
variable [TB]
/-- a clause: which classes it takes, which it lets by, its name's slot, its suite -/
structure MC2 where
  yes : List Addr
  no : List Addr
  i : Option Nat
  h : Addr → Addr → Addr → MS
noncomputable def tryI : List MC2 → Addr → List (Str × D) → En → List MO → SR
  | [], C, fs, ρ, μ => .exc C fs ρ μ
  | c :: cs, C, fs, ρ, μ => if C ∈ c.yes then allAD fun a d => (c.h C a d (onR c.i (.exn a d C fs) ρ) μ).off c.i else if C ∈ c.no then tryI cs C fs ρ μ else .bad
noncomputable def mTry2 (b : MS) (cs : List MC2) : MS := fun ρ μ => match b ρ μ with
  | .exc C fs ρ' μ' => tryI cs C fs ρ' μ'
  | r => r
/-- the suite's reading -/
def tSu2 (K : PySem.W.Frag) (yes : List Addr) (h : Addr → Addr → Addr → MS) : Addr → Value → Option Addr → TS := fun a cls d E τ G => ∃ dd C, C ∈ yes ∧ cls = .ref C ∧ d = some dd ∧ tMS K W0 (h C a dd) E τ G
inductive HMs2 (X : Cx) : List ExceptHandler → List MC2 → List Cl → Prop
  | nil : HMs2 X [] [] []
  | plain {x : Str} {c : Value} {yes no : List Addr} {h : Addr → Addr → Addr → MS} {st : Stmt} {sts : List Stmt} {np hp : Pos} {hs : List ExceptHandler} {cs : List MC2} {l : List Cl} (hc : Names X x c)
      (hy : ∀ C ∈ yes, PySem.W.exmOne X.K (.ref C) c = some true) (hn : ∀ C ∈ no, PySem.W.exmOne X.K (.ref C) c = some false)
      (su : ∀ (a : Addr) (oe : Obj) (C : Addr) (d : Addr) (pn : List (Addr × Obj)), C ∈ yes → Zc (.ref C) (some d) oe → (∃ vs, oe.data = .fields vs) → FSs (X.suite a ((a, oe) :: pn)) W0 (st :: sts) (h C a d)) (r : HMs2 X hs cs l) :
      HMs2 X (.ExceptHandler (some (.Name x np)) none (st :: sts) hp :: hs) (⟨yes, no, none, h⟩ :: cs) ((c, none, tSu2 X.K yes h) :: l)
  | named {x n : Str} {i : Nat} {c : Value} {yes no : List Addr} {h : Addr → Addr → Addr → MS} {st : Stmt} {sts : List Stmt} {np hp : Pos} {hs : List ExceptHandler} {cs : List MC2} {l : List Cl} (hc : Names X x c) (hi : X.N[i]? = some n) (hl : X.env.kindOf n = some .local)
      (hy : ∀ C ∈ yes, PySem.W.exmOne X.K (.ref C) c = some true) (hn : ∀ C ∈ no, PySem.W.exmOne X.K (.ref C) c = some false)
      (su : ∀ (a : Addr) (oe : Obj) (C : Addr) (d : Addr) (pn : List (Addr × Obj)), C ∈ yes → Zc (.ref C) (some d) oe → (∃ vs, oe.data = .fields vs) → FSs (X.suite a ((a, oe) :: pn)) W0 (st :: sts) (h C a d)) (r : HMs2 X hs cs l) :
      HMs2 X (.ExceptHandler (some (.Name x np)) (some n) (st :: sts) hp :: hs) (⟨yes, no, some i, h⟩ :: cs) ((c, some i, tSu2 X.K yes h) :: l)
theorem suite_of2 {X : Cx} {yes : List Addr} {h : Addr → Addr → Addr → MS} {sts : List Stmt} (su : ∀ (a : Addr) (oe : Obj) (C : Addr) (d : Addr) (pn : List (Addr × Obj)), C ∈ yes → Zc (.ref C) (some d) oe → (∃ vs, oe.data = .fields vs) → FSs (X.suite a ((a, oe) :: pn)) W0 sts (h C a d)) :
    ∀ (a : Addr) (oe : Obj) (cls : Value) (d : Option Addr) (pn : List (Addr × Obj)), Zc cls d oe → (∃ vs, oe.data = .fields vs) → PSs (X.suite a ((a, oe) :: pn)) sts (tSu2 X.K yes h a cls d) := fun a oe cls d pn hz hf => ⟨fun pins s σ H E I w => by
  obtain ⟨dd, C, hC, rfl, rfl, t⟩ := w
  exact (su a oe C dd pn hC hz hf).run pins s σ H E I t⟩
theorem HMs2.ok {X : Cx} : ∀ {hs : List ExceptHandler} {cs : List MC2} {l : List Cl}, HMs2 X hs cs l → ClsOk X hs l
  | _, _, _, .nil => .nil
  | _, _, _, .plain hc _ _ su r => .plain hc (suite_of2 su) r.ok
  | _, _, _, .named hc hi hl _ _ su r => .named hc hi hl (suite_of2 su) r.ok
theorem tryI_ok {X : Cx} {W : WX} {E : Ends} {C : Addr} {fs : List (Str × D)} {fs' : List (Str × V)} {d : Addr} : ∀ {hs : List ExceptHandler} {cs : List MC2} {l : List Cl}, HMs2 X hs cs l → ∀ {Z ι : List Addr} {ρ : En} {μ : List MO} {σ : St} {H : Hp}, Rel X.K Z ι ρ μ σ H → H d = some (.xd fs') → d ∉ Z → DRf X.K (mask H Z) fs fs' →
    OutS X.K W Z ι H (tryI cs C fs ρ μ) E → wMix X.K W E l (.ref C) (some d) σ H
  | _, _, _, .nil, Z, ι, ρ, μ, σ, H, R, e, n, dr, o => o Z ι H σ d fs' (Ext.refl R.sta.sub) R e n dr
  | _, _, _, .plain (yes := yes) (no := no) (h := h) hc hy hn su r, Z, ι, ρ, μ, σ, H, R, e, n, dr, o => by
    simp only [tryI] at o
    split at o
    · rename_i hm
      exact ⟨true, hy C hm, fun _ a _ => ⟨d, C, hm, rfl, rfl, Z, ι, ρ, μ, R, OutS.off (allAD_of o a d)⟩, fun z => by cases z⟩
    · split at o
      · rename_i hm; exact ⟨false, hn C hm, (fun z => by cases z), fun _ => tryI_ok r R e n dr o⟩
      · exact o.elim
  | _, _, _, .named (i := i) (yes := yes) (no := no) (h := h) hc hi hl hy hn su r, Z, ι, ρ, μ, σ, H, R, e, n, dr, o => by
    simp only [tryI] at o
    split at o
    · rename_i hm
      exact ⟨true, hy C hm, fun _ a _ => ⟨d, C, hm, rfl, rfl, Z, ι, _, μ, ⟨R.sta, R.rs.set (.d (.exn (mask_in n e) dr)) i⟩, OutS.off (allAD_of o a d)⟩, fun z => by cases z⟩
    · split at o
      · rename_i hm; exact ⟨false, hn C hm, (fun z => by cases z), fun _ => tryI_ok r R e n dr o⟩
      · exact o.elim
section
variable {X : Cx} {W : WX} {body : List Stmt} {h0 : ExceptHandler} {hs : List ExceptHandler} {cs : List MC2} {l : List Cl} {pos : Pos} {b : MS}
theorem fs_try2 (es : X.stack = X.env :: X.outer) (ef : X.env.frame = some X.env.locals) (hN : X.N.Nodup) (tk : Takes X W)
    (hb : ∀ (W' : WX) (pn : List (Addr × Obj)) (xe : Value → Shared → Prop), Takes (X.tr pn xe) W' → PassesOwn (model X.prog X.w) X.A X.env xe → FSs (X.tr pn xe) W' body b) (hm : HMs2 X (h0 :: hs) cs l) :
    FS X W (.Try body (h0 :: hs) [] [] pos) (mTry2 b cs) := by
  refine ps_imp (ps_tryM (tb := fun W' => tMS X.K W' b) es ef hN tk hb hm.ok) fun E σ H ⟨Z, ι, ρ, μ, R, o⟩ => ⟨Z, ι, ρ, μ, R, ?_⟩
  unfold mTry2 at o
  cases q : b ρ μ with
  | exc C fs ρ' μ' =>
    rw [q] at o
    exact fun Z2 ι2 H2 σ2 d fs' x2 R2 e n dr => tryI_ok hm R2 e n dr (OutS.base o x2)
  | nx ρ' μ' => rw [q] at o; exact o
  | bk ρ' μ' => rw [q] at o; exact o
  | ct ρ' μ' => rw [q] at o; exact o
  | rt v μ' => rw [q] at o; exact o
  | bad => rw [q] at o; exact o
end
def isEG (a d A : Addr) (b : Bool) : List D → Option D
  | [.exn a' d' _ _, .gl A'] => if a' = a ∧ d' = d ∧ A' = A then some (.bl b) else none
  | _ => none
def isET (a d : Addr) (n : String) (b : Bool) : List D → Option D
  | [.exn a' d' _ _, .ty n'] => if a' = a ∧ d' = d ∧ n' = n then some (.bl b) else none
  | _ => none
theorem c_isG {K : PySem.W.Frag} {C a d A : Addr} {b : Bool} (hk : PySem.W.kitOne K (.ref C) (.ref A) = some b) : CallD K (rIsD K C a d) (isEG a d A b) := fun Z H as c xs Q t h e q => by
  unfold isEG at e
  split at e
  · split at e
    · rename_i hh
      obtain ⟨rfl, rfl, rfl⟩ := hh
      cases e
      cases h with | cons h1 h2 => cases h2 with | cons h2 h3 => cases h3 with | nil =>
        cases h1 with | d h1 => cases h1 with | exn h4 h5 =>
          cases h2 with | d h2 => cases h2 with | gl =>
            exact ⟨_, _, b, _, rfl, mask_same _ _ _ _ h4, fun u hu => hu, hk, q H _ (Same.refl _) (.bl b)⟩
    · cases e
  · cases e
theorem c_isT {K : PySem.W.Frag} {C a d : Addr} {n : String} {b : Bool} (hk : PySem.W.kitOne K (.ref C) (.type n) = some b) : CallD K (rIsD K C a d) (isET a d n b) := fun Z H as c xs Q t h e q => by
  unfold isET at e
  split at e
  · split at e
    · rename_i hh
      obtain ⟨rfl, rfl, rfl⟩ := hh
      cases e
      cases h with | cons h1 h2 => cases h2 with | cons h2 h3 => cases h3 with | nil =>
        cases h1 with | d h1 => cases h1 with | exn h4 h5 =>
          cases h2 with | d h2 => cases h2 with | ty =>
            exact ⟨_, _, b, _, rfl, mask_same _ _ _ _ h4, fun u hu => hu, hk, q H _ (Same.refl _) (.bl b)⟩
    · cases e
  · cases e
end TT
namespace PySem
end PySem
namespace TT
open PySem L2
variable [TB]
def mkErr (C : Addr) (ks : List Str) (as : List MV) (μ : List MO) : Res MV := match datas as with
  | some ds => if ds.length = ks.length then .ok (.d (.err C (ks.zip ds).reverse)) μ else .bad
  | none => .bad
def mErr (C : Addr) (ks : List Str) (ms : MA) : ME := fun ρ μ => (ms ρ μ).bind (mkErr C ks)
/-- by names: sw, in the other order -/
def mErrK (C : Addr) (ks : List Str) (sw : Bool) (ms : MA) : ME := fun ρ μ => (ms ρ μ).bind fun as μ1 => mkErr C ks (gk sw as) μ1
def eFld (C : Addr) (f : Str) (v : MV) (μ : List MO) : Res MV := match v with
  | .d (.err C' fs) => if C' = C then (match fs.lookup f with
    | some x => .ok (.d x) μ
    | none => .bad) else .bad
  | _ => .bad
def mEFld (C : Addr) (f : Str) (ma : ME) : ME := fun ρ μ => (ma ρ μ).bind (eFld C f)
def frz (n i : Nat) (x : D) : Nat → En → En
  | _, [] => []
  | j, v :: r => (if j = i then some (.d x) else match v with
    | some (.ref k) => if k < n then some (.ref k) else none
    | v => v) :: frz n i x (j + 1) r
theorem RS.frz {K : PySem.W.Frag} {F F' : Hp} {ι ι' : List Addr} {n i : Nat} {x : D} (e : Same F F') (back : ∀ k < n, ∀ a, ι'[k]? = some a → ι[k]? = some a) : ∀ {ρ : En} {σ : St} (j : Nat), RS K F ι' ρ σ → (∀ k v, j + k = i → σ[k]? = some (some v) → ρ[k]? ≠ none → DR K F' x v) → (∀ k, j + k = i → ∀ o, σ[k]? = some o → ∃ v, o = some v) → RS K F' ι (TT.frz n i x j ρ) σ
  | _, _, j, .nil, _, _ => .nil
  | _, _, j, .cons (a := a) (b := b) r t, hx, hs => by
    unfold TT.frz
    refine .cons ?_ (RS.frz e back (j + 1) t (fun k v hk hv hn => hx (k + 1) v (by omega) (by simpa using hv) (by simpa using hn)) fun k hk o ho => hs (k + 1) (by omega) o (by simpa using ho))
    by_cases h : j = i
    · rw [if_pos h]
      obtain ⟨v, rfl⟩ := hs 0 (by omega) b rfl
      exact .some (.d (hx 0 v (by omega) rfl (by simp)))
    · rw [if_neg h]
      cases r with
      | none => exact .none
      | some r =>
        cases r with
        | d r => exact .some (.d (r.mono e _ _))
        | ref r =>
          rename_i k a
          simp only
          split
          · rename_i hk; exact .some (.ref (back k hk a r))
          · exact .none
end TT
namespace TT
open PySem L2
variable [TB]
section
variable {K : MV → List MO → Prop} {E : Addr → List (Str × D) → List MO → Prop} {ρ : En} {μ : List MO} {ma : ME} {ms : MA} {C : Addr} {ks : List Str} {sw : Bool} {as : List MV} {ds : List D} {f : Str} {fs : List (Str × D)} {x : D}
def kErr (C : Addr) (ks : List Str) (K : MV → List MO → Prop) : List MV → List MO → Prop := fun as μ => ∃ ds, datas as = some ds ∧ ds.length = ks.length ∧ K (.d (.err C (ks.zip ds).reverse)) μ
theorem mkErr_to (h : kErr C ks K as μ) : (mkErr C ks as μ).to K E := by
  obtain ⟨ds, h1, h2, h3⟩ := h
  unfold mkErr
  rw [h1]
  simp only [if_pos h2]
  exact h3
theorem z_err (h : (ms ρ μ).to (kErr C ks K) E) : (mErr C ks ms ρ μ).to K E := to_bind (tom h (fun _ _ h => mkErr_to h) fun _ _ _ z => z)
theorem k_err (h1 : datas as = some ds) (h2 : ds.length = ks.length) (h : K (.d (.err C (ks.zip ds).reverse)) μ) : kErr C ks K as μ := ⟨ds, h1, h2, h⟩
def kErrK (C : Addr) (ks : List Str) (sw : Bool) (K : MV → List MO → Prop) : List MV → List MO → Prop := fun as μ => kErr C ks K (gk sw as) μ
theorem z_errK (h : (ms ρ μ).to (kErrK C ks sw K) E) : (mErrK C ks sw ms ρ μ).to K E := to_bind (tom h (fun _ _ h => mkErr_to h) fun _ _ _ z => z)
theorem k_errK (h1 : datas (gk sw as) = some ds) (h2 : ds.length = ks.length) (h : K (.d (.err C (ks.zip ds).reverse)) μ) : kErrK C ks sw K as μ := ⟨ds, h1, h2, h⟩
theorem e_efld (h : (ma ρ μ).to (fun v μ1 => (eFld C f v μ1).to K E) E) : (mEFld C f ma ρ μ).to K E := to_bind h
theorem k_efld (h1 : fs.lookup f = some x) (h : K (.d x) μ) : (eFld C f (.d (.err C fs)) μ).to K E := by
  unfold eFld
  simp only [if_true, h1]
  exact h
end
/-- the rest is hidden, so that nothing runs into it -/
theorem w_seqG {N : En → List MO → Prop} {R : MV → List MO → Prop} {B C : En → List MO → Prop} {EE : Addr → List (Str × D) → En → List MO → Prop} {m n : MS} {ρ : En} {μ : List MO} (h : ∀ r, r = n → (m ρ μ).to (fun ρ' μ' => (r ρ' μ').to N R B C EE) R B C EE) : (mSeq m n ρ μ).to N R B C EE := w_seq (h n rfl)
end TT
namespace TT
open PySem L2
variable [TB]
section
variable {K : PySem.W.Frag} {Z : List Addr} {H : Hp}
theorem new_dK {p : Addr} {xs : List (Key × D)} {vs : List (Key × V)} (t : ∀ a ∈ Z, ∃ o, H a = some o) (n : H p = none) (r : DRk K (mask H Z) xs vs) :
    Same H (upd H p (.dK vs)) ∧ DR K (mask (upd H p (.dK vs)) Z) (.dK xs) (.ref p) := by
  have np : p ∉ Z := fun q => by obtain ⟨o, e⟩ := t p q; rw [n] at e; cases e
  have s : Same H (upd H p (.dK vs)) := fun a o e => (upd_ne (ne_of_none e n)).trans e
  refine ⟨s, .dK (mask_in np upd_same) (r.mono (fun a o e => ?_) _ _)⟩
  obtain ⟨n1, e1⟩ := of_mask e
  exact mask_in n1 (s a o e1) (mask_nt e)
end
end TT
namespace TT
open PySem L2
variable [TB]
theorem fe_dnew {X : Cx} {W : WX} {pos : Pos} : FE X W (.Dict [] [] pos) (mC (.dK [])) := by
  refine pe_imp pe_dnewK fun σ H Q ⟨Z, ι, ρ, μ, R, o⟩ p hp => ?_
  obtain ⟨s, r⟩ := new_dK (xs := []) (vs := []) R.sta.trk hp .nil
  exact Out.new R.sta o s (.d r)
end TT
namespace TT
open PySem L2
variable [TB]
section
variable {K : PySem.W.Frag} {Z ι Z' ι' : List Addr} {H H' : Hp}
theorem RS.map {F F' : Hp} {f : Option MV → Option MV} (hf : ∀ v w, RSo K F ι' v w → RSo K F' ι (f v) w) : ∀ {ρ : En} {σ : St}, RS K F ι' ρ σ → RS K F' ι (ρ.map f) σ
  | _, _, .nil => .nil
  | _, _, .cons a b => .cons (hf _ _ a) (RS.map hf b)
end
end TT
namespace TT
open PySem L2
variable [TB]
theorem z_out {K : PySem.W.Frag} {Z ι : List Addr} {μ : List MO} {H : Hp} {W : WX} {σ : St} {as : List MV} {vs : List V} {ds : List D} {Q : VK} {res : Res MV} (s : Sta K Z ι μ H) (r : RMs K (mask H Z) ι as vs) (hv : views μ as = some ds)
    (o : Out K W σ Z ι H (zRes ds res μ) (Val K Q)) : ∃ Zc, Sta K Zc [] [] H ∧ RMs K (mask H Zc) [] (ds.map .d) vs ∧ Out K W σ Zc [] H res (Val K Q) := by
  classical
  have h := z_frame (F := fun as m => if as = ds.map .d ∧ m = [] then res else .bad) s r rfl hv (by rw [if_pos ⟨rfl, rfl⟩]; exact o)
  obtain ⟨_, Zc, ι', as', m', s', r', o'⟩ := h
  by_cases hc : as' = ds.map .d ∧ m' = []
  · obtain ⟨rfl, rfl⟩ := hc
    simp only [and_self, if_true] at o'
    have : ι' = [] := List.eq_nil_of_length_eq_zero (by rw [s'.len]; rfl)
    subst this
    refine ⟨Zc, s', r', ?_⟩
    cases res with
    | ok v m => exact o'
    | exc c fs m => exact o.elim
    | bad => exact o.elim
  · simp only [hc, if_false] at o'
    exact o'.elim
def mMkZ (C : Addr) (F : MF) (n : Nat) (ms : MA) : ME := fun ρ μ => (ms ρ μ).bind fun as μ1 => match views μ1 as with
  | some ds => zRes ds (mkF C F n (ds.map .d) []) μ1
  | none => .bad
section
variable {X : Cx} {W : WX} {k j n : Nat} {x : Str} {C : Addr} {F : MF} {p pos : Pos} {e : Expr} {es : List Expr} {ms : MA}
theorem fe_mkZ (c : Mak' X.prog X.w X.K X.mg X.base k x C n F) (tk : Takes X W) (hg : X.A.guards = some []) (hr : Room j X.A) (ha : FA X W (e :: es) ms) (hk : k + 1 ≤ j := by decide) (hgl : Gl X x := by rfl)
    (hdb : (x == ("__debug__" : Str)) = false := by decide) (he : starEach (e :: es) X.env = (false, eval e X.env) :: starEach es X.env := by rfl) (hpl : (backTo pos (starEach es X.env)).any (·.1) = false := by rfl) :
    FE X W (.Call (.Name x p) (e :: es) [] pos) (mMkZ C F n ms) := by
  obtain ⟨f, M, G⟩ := c.ex
  refine pe_imp (t := fun σ H Q => tMA X.K W ms σ H fun vs H1 => ∀ x dx, H1 x = none → H1 dx = none → dx ≠ x → spF X.K n F (.ref x :: vs) (upd (upd H1 dx (.own x)) x (.ins C dx [])) (fun v H2 => v = .non ∧ Q (.ref x) H2) (WE W σ)) ⟨?_⟩ ?_
  · intro pins s σ H Q I h
    refine PySem.wpAny_Call_Name_kw (ld_glob I hgl c.g ?_ hdb)
    refine PySem.W.callWith_K (h₀ := X.base) I.ok.mod.kin M.kp (thn (ha.run pos pins s σ H _ I h) fun us s1 hh => ?_) he hpl
    obtain ⟨vs, H1, I1, r, q⟩ := hh
    exact ⟨I1.kIn, run_mk M G tk hg (hr.mono hk) I1 r q⟩
  · rintro σ H Q ⟨Z, ι, ρ, μ, R, o⟩
    refine tMA_bind R o fun v μ' Z' ι' H' xs x1 R1 r1 o1 => ?_
    split at o1
    · rename_i ds hds
      obtain ⟨Zc, s2, r2, o2⟩ := z_out R1.sta r1 hds o1
      exact make_step s2 r2 (mkF_ok s2 o2)
    · exact o1.elim
end
end TT
namespace TT
open PySem L2
variable [TB]
section
variable {t : Bool} {P Q : List MO → Prop} {μ : List MO}
theorem brT (h : t = true) (k : P μ) : kBr P Q t μ := ⟨fun _ => k, fun q => by rw [h] at q; cases q⟩
theorem brF (h : t = false) (k : Q μ) : kBr P Q t μ := ⟨fun q => (by rw [h] at q; cases q), fun _ => k⟩
end
end TT
namespace TT
open PySem L2
variable [TB]
/-- an empty dict -/
def EmD (h : Heap) (d : Addr) : Prop := ∃ o ep, h.get? d = some o ∧ o.ExactDict ∧ o.data = .dict #[] ep ∧ (d == sysModules) = false
section
open PySem.SeqAt PySem.MeetsSeq
open AutoSeq1 (wpAny_loadPart')
variable {A : Around} {s : Shared} {d : Addr}
theorem EmD.of {P : Program} {w : World} (h : EmD s.heap d) : s.heap.DictOf (mixKind P w) d ([] : List (Key × Value)) := by
  obtain ⟨o, ep, ho, hc, hd, _⟩ := h
  exact ⟨o, #[], ep, ho, hc, hd, (fun _ he => by simp at he), Pairs.nil, List.nodup_nil⟩
end
section
variable {K : PySem.W.Frag} {X : Cx} {pins : List (Addr × Obj)} {σ : St} {H : Hp} {s : Shared}
theorem em_of (I : Inv X pins σ H s) {d : Addr} (h : H d = some (.dK [])) : EmD s.heap d := by
  obtain ⟨_, y, va, r, dd⟩ := (show ObjOk X.prog X.w H s.heap d (.dK []) from I.hok d _ h)
  have e : va = [] := by cases r; rfl
  subst e
  obtain ⟨o, es, ep, ho, hc, hd, _, hp, _⟩ := dd
  have : es = #[] := by
    have := hp.length
    rw [← Array.toList_inj]
    exact List.eq_nil_of_length_eq_zero this
  subst this
  exact ⟨o, ep, ho, hc, hd, y⟩
end
def mMkV (C : Addr) (F : MF) (n i : Nat) (ms : MA) : ME := fun ρ μ => match ρ[i]? with
  | some (some (.d (.gl a))) => if a = C then (ms ρ μ).bind (mkF C F n) else .bad
  | _ => .bad
section
variable {X : Cx} {W : WX} {k j n i : Nat} {x y : Str} {C : Addr} {F : MF} {p pos : Pos} {e : Expr} {es : List Expr} {ms : MA}
theorem fe_mkV (c : Mak' X.prog X.w X.K X.mg X.base k x C n F) (tk : Takes X W) (hg : X.A.guards = some []) (hr : Room j X.A) (ha : FA X W (e :: es) ms) (hk : k + 1 ≤ j := by decide) (hN : X.N[i]? = some y := by rfl) (hv : Vis X.env.scope y := by first | exact Or.inl rfl | exact Or.inr (Or.inl rfl) | exact Or.inr (Or.inr rfl))
    (hd : (y == ("__debug__" : Str)) = false := by decide) (hcd : (y == ("__classdict__" : Str)) = false := by decide)
    (ht : eval (.Call (.Name y p) (e :: es) [] pos) X.env = (do callWith pos (← eval (.Name y p) X.env) [] (backTo pos (starEach (e :: es) X.env)) (backToKw pos (keywordEach [] X.env))) := by rfl)
    (he : starEach (e :: es) X.env = (false, eval e X.env) :: starEach es X.env := by rfl) (hpl : (backTo pos (starEach es X.env)).any (·.1) = false := by rfl) :
    FE X W (.Call (.Name y p) (e :: es) [] pos) (mMkV C F n i ms) := by
  obtain ⟨f, M, G⟩ := c.ex
  refine pe_imp (t := fun σ H Q => σ[i]? = some (some (.ref C)) ∧ tMA X.K W ms σ H fun vs H1 => ∀ x dx, H1 x = none → H1 dx = none → dx ≠ x → spF X.K n F (.ref x :: vs) (upd (upd H1 dx (.own x)) x (.ins C dx [])) (fun v H2 => v = .non ∧ Q (.ref x) H2) (WE W σ)) ⟨?_⟩ ?_
  · intro pins s σ H Q I ⟨h0, h⟩
    refine PyProof.Rows.Call_ (thn ((pe_var (X := X) (i := i) hN hv hd hcd).run pins s σ H (fun v H' => v = .ref C ∧ H' = H) I ⟨_, h0, rfl, rfl⟩) fun u s0 ⟨v, H0, I0, rv, e1, e2⟩ => ?_) ht
    subst e1 e2
    cases (show u = Value.ref C from rv)
    refine PySem.W.callWith_K (h₀ := X.base) I0.ok.mod.kin M.kp (thn (ha.run pos pins s0 σ H0 _ I0 h) fun us s1 hh => ?_) he hpl
    obtain ⟨vs, H1, I1, r, q⟩ := hh
    exact ⟨I1.kIn, run_mk M G tk hg (hr.mono hk) I1 r q⟩
  · rintro σ H Q ⟨Z, ι, ρ, μ, R, o⟩
    unfold mMkV at o
    split at o
    · rename_i a ha1
      split at o
      · rename_i hC
        subst hC
        obtain ⟨v, h1, h2⟩ := RS.get R.rs ha1
        cases h2 with | d h2 => cases h2 with | gl =>
          refine ⟨h1, tMA_bind R o fun v μ' Z' ι' H' xs x1 R1 r1 o1 => make_step R1.sta r1 (mkF_ok R1.sta o1)⟩
      · exact o.elim
    · exact o.elim
end
end TT
namespace TT
open PySem L2
variable [TB]
def putMV (kvs : List (Key × MV)) (k : Key) (v : MV) : List (Key × MV) := if (kvs.any fun p => decide (p.1 = k)) = true then kvs.map (fun p => if p.1 = k then (p.1, v) else p) else kvs ++ [(k, v)]
section
variable {K : PySem.W.Frag} {F : Hp} {ι : List Addr}
theorem RMk.len : ∀ {kvs : List (Key × MV)} {vs : List (Key × V)}, RMk K F ι kvs vs → kvs.length = vs.length
  | _, _, .nil => rfl
  | _, _, .cons _ b => congrArg (· + 1) (RMk.len b)
theorem RMk.any {k : Key} : ∀ {kvs : List (Key × MV)} {vs : List (Key × V)}, RMk K F ι kvs vs → (kvs.any fun p => decide (p.1 = k)) = vs.any fun p => decide (p.1 = k)
  | _, _, .nil => rfl
  | _, _, .cons _ b => by simp only [List.any_cons, RMk.any b]
theorem RMk.repl {k : Key} {d : MV} {v : V} (r : RM K F ι d v) : ∀ {kvs : List (Key × MV)} {vs : List (Key × V)}, RMk K F ι kvs vs → RMk K F ι (kvs.map fun p => if p.1 = k then (p.1, d) else p) (vs.map fun p => if p.1 = k then (p.1, v) else p)
  | _, _, .nil => .nil
  | _, _, .cons (k := j) a b => by
    simp only [List.map_cons]
    by_cases e : j = k
    · simp only [e, if_true]; exact .cons r (RMk.repl r b)
    · simp only [e, if_false]; exact .cons a (RMk.repl r b)
theorem RMk.snoc {k : Key} {d : MV} {v : V} (r : RM K F ι d v) : ∀ {kvs : List (Key × MV)} {vs : List (Key × V)}, RMk K F ι kvs vs → RMk K F ι (kvs ++ [(k, d)]) (vs ++ [(k, v)])
  | _, _, .nil => .cons r .nil
  | _, _, .cons a b => .cons a (RMk.snoc r b)
theorem RMk.put {k : Key} {d : MV} {v : V} (r : RM K F ι d v) {kvs : List (Key × MV)} {vs : List (Key × V)} (h : RMk K F ι kvs vs) : RMk K F ι (putMV kvs k d) (putK vs k v) := by
  unfold putMV putK
  rw [h.any]
  split
  · exact h.repl r
  · exact h.snoc r
def lookM (kvs : List (Key × MV)) (k : Key) : Option MV := match kvs with
  | [] => none
  | (j, d) :: r => if j = k then some d else lookM r k
theorem RMk.val {k : Key} : ∀ {kvs : List (Key × MV)} {vs : List (Key × V)}, RMk K F ι kvs vs → ∀ d, lookM kvs k = some d → ∃ v, valV vs k = some v ∧ RM K F ι d v
  | _, _, .nil => fun d h => by cases h
  | _, _, .cons (k := j) (d := d0) a b => by
    have h1 := RMk.val (k := k) b
    unfold lookM
    by_cases e : j = k
    · rw [if_pos e, valV_pos e]
      exact fun d h => by cases h; exact ⟨_, rfl, a⟩
    · rw [if_neg e, valV_neg e]
      exact h1
end
end TT
namespace TT
open PySem L2
structure DefA (K : PySem.W.Frag) (mg : Str → Option Value) (x : Str) (st : Stmt) (ps : List Str) : Prop where
  ex : ∃ (f : Addr) (fd : FuncData) (dvs : List V), FunD K x x (defArgs st) (defBody st) (defScope st) dvs [] f fd ∧ mg x = some (.ref f) ∧ Binds K fd ps []
section
variable [TB] {P : Program} {w : World} {K : PySem.W.Frag} {mg : Str → Option Value} {base : Heap}
theorem fn_gA {CX : CXT} {k : Nat} {f : Addr} {sp : Sp} {x qual : Str} {params : Arguments} {bd : List Stmt} {scope : Scope} {fd : FuncData} {N ps : List Str} {dvs : List V} (F : FunD K x qual params bd scope dvs [] f fd) (hb : Binds K fd ps []) (S : FnScope N ps scope)
    (len : ∀ vs H Q E, sp vs H Q E → vs.length = ps.length)
    (body : ∀ (cdv : Value) (A : Around) (outer : List Env) (s : Shared) (H : Hp) (vs : List V) (Q : VK) (E : XK), (A.deeper (PyProof.Rows.envOfC qual scope s.heap.objs.size f cdv)).guards = some [] →
      Room k (A.deeper (PyProof.Rows.envOfC qual scope s.heap.objs.size f cdv)) → sp vs H Q E →
      ∃ t, PSs (cxOf CX P w K mg base N qual scope f cdv A outer s H E) bd t ∧ t { nx := fun _ H' => Q .non H', rt := Q } (start N vs) H) : FnG P w K mg base CX (k + 1) f sp := by
  obtain ⟨oc, od, dV, kV, doc, pm, an, cdv, ct, osl, rfl, lk, hcd, _, _⟩ := F.ex
  intro A outer s H us vs Q E hr hg e0 r hsp
  have hl := len _ _ _ _ hsp
  have KX : K.In s.heap := e0.mod.kin.keeps fun b o e => (e0.bs b o e).1
  refine StX.run_bnd lk hcd S hr e0 (G := fun xs H2 => xs = vs ∧ H2 = H) (fun A' Ex Q' h => ?_) fun s2 H2 xs g hr' => ?_
  · have q := hb s us KX (by rw [List.append_nil, ← r.length]; exact hl)
    rw [List.append_nil] at q
    exact q _ _ _ _ (h s H vs us e0 Un.refl rfl (fun _ _ z => z) r hl ⟨rfl, rfl⟩)
  · obtain ⟨rfl, rfl⟩ := g
    exact body cdv A outer s2 _ _ Q E hg hr' hsp
theorem DefA.mini {x : Str} {st : Stmt} {N ps : List Str} {k n : Nat} {fz : Bool} {m : MS} (D : DefA K mg x st ps) (S : FnScope N ps (defScope st)) (hn : n = ps.length)
    (body : ∀ (f : Addr) (cdv : Value) (A : Around) (outer : List Env) (s : Shared) (H : Hp) (E : XK), (A.deeper (PyProof.Rows.envOfC x (defScope st) s.heap.objs.size f cdv)).guards = some [] →
      Room k (A.deeper (PyProof.Rows.envOfC x (defScope st) s.heap.objs.size f cdv)) →
      FSs (cxOf (L2.CX P w) P w K mg base N x (defScope st) f cdv A outer s H E) (fun c d _ H' => E c d H') (defBody st) m) : Fn P w K mg base (k + 1) x n (fnT fz N.length m) := by
  obtain ⟨f, fd, dvs, F, hm, hb⟩ := D.ex
  refine ⟨f, fn_gA F hb S (fun vs H Q E h => ?_) fun cdv A outer s H vs Q E hg hr h => ⟨_, body f cdv A outer s H E hg hr, bodyT_ok (fz := fz) (n := n) h⟩, hm, F.kp⟩
  rw [h.1]; exact hn
end
end TT
namespace TT
open PySem L2
variable [TB]
section
open PySem.W PyProof.Rows
variable {prog : Program} {w : World} {A : Around} {E : Value → Shared → Prop} {s : Shared} {K : Frag} {x C f : Addr} {ox : Obj} {od : Option Obj}
set_option maxHeartbeats 4000000 in
theorem truthy_own {Q : Bool → Shared → Prop} (X : K.In s.heap) (I : InstAt s.heap x ox C od) (hs : findIn K (.ref C) "__bool__" = some (some (.ref f))) (hf : isFn K (.ref f) = true)
    (h : wpAny (model prog w) A (call (.ref f) [.ref x]) (fun v s' => ∃ c, v = .bool c ∧ Q c s') E s) : wpAny (model prog w) A (truthy (.ref x)) Q E s := by
  unfold truthy callSpecial? specialOf
  refine wpAny_bind (wpAny_bind (wpAny_bind (I.type.here ((looks_findIn X hs).here ?_))))
  refine wpAny_holding (wpAny_bind ((bind_fn X (.ref x) (beq_iff_eq.mp hf)).here ?_))
  refine wpAny_bind (wpAny_mono h (fun v s' z => ?_) fun _ _ e => e)
  obtain ⟨c, rfl, q⟩ := z
  exact wpAny_pure (wpAny_pure q)
set_option maxHeartbeats 4000000 in
theorem bool_any {v : Value} {Q : Value → Shared → Prop} (h : wpAny (model prog w) A.in1.in1 (truthy v) (fun c s' => Q (.bool c) s') E s) : wpAny (model prog w) A (call (.type "bool") [v]) Q E s := by
  refine callType_newIn PySem.F.called_bool PySem.F.newNe_bool (PySem.F.typeCall_bool_1 _) (PySem.F.newCall_bool_1 _) (fun obj => PySem.F.args_object_init_2 _ _) PySem.F.entry_bool_new
    (S := fun A' R s => wpAny (model prog w) A'.in1 (truthy v) (fun c s' => R (.ok (.ret (.bool c))) s') (fun e s' => R (.error e) s') s) ?_ ?_
  · intro A' R s hS
    unfold Builtin.«bool.__new__»
    repeat (first | wp_step)
    unfold isSubtype
    repeat (first | wp_step)
    refine wpAny_mono hS (fun c s' z => ?_) fun _ _ e => e
    repeat (first | wp_step)
    exact z
  · exact wpAny_mono h (fun c s' z => ⟨rfl, z⟩) fun _ _ e => e
end
section
variable {X : Cx} {W : WX} {k j n : Nat} {C : Addr} {F : MF} {a b e : Expr} {pos p : Pos} {ma mb : ME}
/-- the truth of o -/
def truO (C : Addr) (F : MF) (v : MV) (μ : List MO) : Res Bool := if isInsC C v μ = true then (callF F [v] μ).bind fun r μ2 => match r with
  | .d (.bl c) => .ok c μ2
  | _ => .bad else .bad
def rTO (K : PySem.W.Frag) (W : WX) (C : Addr) (F : MF) : V → Hp → St → (Bool → Hp → Prop) → Prop := fun x H σ Q => ∃ a dx fs, x = .ref a ∧ H a = some (.ins C dx fs) ∧ spF K 1 F [x] H (fun z H3 => ∃ c, z = .bl c ∧ Q c H3) (WE W σ)
set_option maxHeartbeats 4000000 in
theorem out_thenT {K : PySem.W.Frag} {σ : St} {Z ι : List Addr} {H : Hp} {r : Res MV} {g : MV → List MO → Res Bool} {Q : Bool → Hp → Prop} {Q' : VK} (o : Out K W σ Z ι H (r.bind g) (fun b _ _ H' => Q b H')) (h : ∀ v μ' Z' ι' H' x, Sta K Z' ι' μ' H' → RM K (mask H' Z') ι' v x → Out K W σ Z' ι' H' (g v μ') (fun b _ _ H' => Q b H') → Q' x H') : Out K W σ Z ι H r (Val K Q') := by
  cases r with
  | ok v μ' => exact fun Z2 ι2 H2 x2 s2 x rx => h v μ' Z2 ι2 H2 x s2 rx (Out.base o x2)
  | exc C fs μ' => exact o
  | bad => exact o
set_option maxHeartbeats 4000000 in
theorem truO_rd {K : PySem.W.Frag} {σ : St} {Z ι : List Addr} {H : Hp} {v : MV} {μ : List MO} {x : V} {Q : Bool → Hp → Prop} (s : Sta K Z ι μ H) (r : RM K (mask H Z) ι v x) (o : Out K W σ Z ι H (truO C F v μ) (fun b _ _ H' => Q b H')) : rTO K W C F x H σ Q := by
  unfold truO at o
  split at o
  · rename_i hi
    obtain ⟨a, dx, fs, rfl, e2⟩ := isInsC_ok s r hi
    refine ⟨a, dx, fs, rfl, e2, call_frame s (.cons r .nil) rfl (out_thenT o fun v μ2 Z2 ι2 H2 x s2 rx o2 => ?_)⟩
    split at o2
    · rename_i c
      cases rx with | d rx => cases rx with | bl => exact ⟨c, rfl, o2 Z2 ι2 H2 (Ext.refl s2.sub) s2⟩
    · exact o2.elim
  · exact o.elim
set_option maxHeartbeats 4000000 in
theorem run_bl {A' : Around} (c : Spc X.prog X.w X.K X.mg X.base k C "__bool__" 1 F) (tk : Takes X W) (hg : A'.guards = some []) {pins : List (Addr × Obj)} {σ : St} {H : Hp} {s : Shared} {Q : Bool → Hp → Prop} {x : V} {u : Value} (hr : Room k A')
    (en : Env0 X.prog X.w X.K X.mg X.base A' X.stack s H) (I : Inv X pins σ H s) (ru : RelV x u) (h : rTO X.K W C F x H σ Q) : wpAny (model X.prog X.w) A' (truthy u) (TP X pins σ Q) X.xe s := by
  obtain ⟨f, h1, h2, h3, G⟩ := c.ex
  obtain ⟨a, dx, fs, rfl, ea, q⟩ := h
  cases (show u = Value.ref a from ru)
  obtain ⟨mA, O, _⟩ := ins_get I.hok ea
  obtain ⟨od, J, _⟩ := O.look
  refine truthy_own I.kIn J h1 h2 (thn (run_fa (us := [.ref a]) (vs := [.ref a]) G tk hg hr en I (.cons rfl .nil) q) fun z s2 hz => ?_)
  obtain ⟨v, H2, I2, rv, c, rfl, q2⟩ := hz
  cases (show z = Value.bool c from rv)
  exact ⟨c, rfl, H2, I2, q2⟩
/-- not o, as a value -/
def mNotO (C : Addr) (F : MF) (ma : ME) : ME := fun ρ μ => (ma ρ μ).bind fun v μ1 => (truO C F v μ1).bind fun b μ2 => .ok (.d (.bl (!b))) μ2
set_option maxHeartbeats 4000000 in
theorem fe_notO (c : Spc X.prog X.w X.K X.mg X.base k C "__bool__" 1 F) (tk : Takes X W) (hg : X.A.guards = some []) (hr : Room j X.A) (ha : FE X W e ma) (hk : k ≤ j := by decide) : FE X W (.UnaryOp .Not e pos) (mNotO C F ma) := by
  refine pe_imp (t := fun σ H Q => tM X.K W ma σ H fun x H1 => rTO X.K W C F x H1 σ fun b H2 => Q (.bl (!b)) H2) ⟨fun pins s σ H Q I h => ?_⟩ ?_
  · have ev : eval (.UnaryOp .Not e pos) X.env = (do let v ← eval e X.env; standAt pos; holding [v] (unaryOp .Not v)) := by rw [eval.eq_def]
    rw [ev]
    refine wpAny_bind (thn (ha.run pins s σ H _ I h) fun v s1 hh => ?_)
    obtain ⟨x, H1, I1, rx, q⟩ := hh
    refine wpAny_bind (wpAny_standAt ?_)
    refine wpAny_holding ?_
    unfold unaryOp
    refine wpAny_holding ?_
    refine wpAny_bind (thn (run_bl c tk hg (hr.mono hk) (I1.tok _).env0 (I1.tok _) rx q) fun b s2 hz => ?_)
    obtain ⟨H2, I2, q2⟩ := hz
    exact wpAny_pure ⟨.bl (!b), H2, I2, rfl, q2⟩
  · rintro σ H Q ⟨Z, ι, ρ, μ, R, o⟩
    refine tM_bind R o fun v μ' Z' ι' H' x x1 R1 r1 o1 => truO_rd R1.sta r1 ?_
    cases q : truO C F v μ' with
    | ok b μ2 => rw [q] at o1; exact fun Z2 ι2 H2 x2 s2 => o1 Z2 ι2 H2 x2 s2 _ (.d (.bl (!b)))
    | exc C' fs μ2 => rw [q] at o1; exact o1
    | bad => rw [q] at o1; exact o1
/-- bool(o) -/
def mBoolO (C : Addr) (F : MF) (ms : MA) : ME := fun ρ μ => (ms ρ μ).bind fun as μ1 => match as with
  | [v] => (truO C F v μ1).bind fun b μ2 => .ok (.d (.bl b)) μ2
  | _ => .bad
set_option maxHeartbeats 4000000 in
theorem fe_boolO (c : Spc X.prog X.w X.K X.mg X.base k C "__bool__" 1 F) (tk : Takes X W) (hg : X.A.guards = some []) (hr : Room j X.A) (hm : X.mg "bool" = none) {ms : MA} (ha : FA X W [e] ms) (hk : k + 2 ≤ j := by decide) (hgl : Gl X "bool" := by rfl)
    (he : starEach [e] X.env = (false, eval e X.env) :: starEach [] X.env := by rfl) (hpl : (backTo pos (starEach [] X.env)).any (·.1) = false := by rfl) : FE X W (.Call (.Name "bool" p) [e] [] pos) (mBoolO C F ms) := by
  refine pe_imp (t := fun σ H Q => tMA X.K W ms σ H fun vs H1 => ∃ x, vs = [x] ∧ rTO X.K W C F x H1 σ fun b H2 => Q (.bl b) H2) ⟨?_⟩ ?_
  · intro pins s σ H Q I h
    refine PySem.wpAny_Call_Name_kw (ld_blt (u := .type "bool") I hgl hm (by decide +kernel) ?_)
    refine PyProof.Rows.callWith_type1 (thn (ha.run pos pins s σ H _ I h) fun us s1 hh => ?_) he hpl
    obtain ⟨vs, H1, I1, r1, x, rfl, q⟩ := hh
    obtain ⟨u, rfl, ru⟩ := vals1 r1
    refine bool_any (thn (run_bl c tk (A' := X.A.in1.in1) hg (show Room k X.A.in1.in1 from Room.in1 (Room.in1 (hr.mono hk))) I1.env0.in1.in1 I1 ru q) fun b s2 hz => ?_)
    obtain ⟨H2, I2, q2⟩ := hz
    exact ⟨.bl b, H2, I2, rfl, q2⟩
  · rintro σ H Q ⟨Z, ι, ρ, μ, R, o⟩
    refine tMA_bind R o fun v μ' Z' ι' H' xs x1 R1 r1 o1 => ?_
    cases r1 with
    | nil => exact o1.elim
    | cons r1 rr => cases rr with
      | cons _ _ => exact o1.elim
      | nil =>
        refine ⟨_, rfl, truO_rd R1.sta r1 ?_⟩
        rename_i a0 v0
        simp only at o1
        cases q : truO C F a0 μ' with
        | ok b μ2 => rw [q] at o1; exact fun Z2 ι2 H2 x2 s2 => o1 Z2 ι2 H2 x2 s2 _ (.d (.bl b))
        | exc C' fs μ2 => rw [q] at o1; exact o1
        | bad => rw [q] at o1; exact o1
/-- o == o2, both of one class -/
def mOEq (C : Addr) (F : MF) (ma mb : ME) : ME := fun ρ μ => (ma ρ μ).bind fun x μ1 => (mb ρ μ1).bind fun y μ2 => if isInsC C x μ2 = true ∧ isInsC C y μ2 = true then (callF F [x, y] μ2).bind fun r μ3 => match r with
  | .d (.bl c) => .ok (.d (.bl c)) μ3
  | _ => .bad else .bad
def tOEq (K : PySem.W.Frag) (W : WX) (C : Addr) (F : MF) (ma mb : ME) : TE := fun σ H Q => tM K W ma σ H fun x H1 => tM K W mb σ H1 fun y H2 => (∃ a dx fs, x = .ref a ∧ H2 a = some (.ins C dx fs)) ∧ (∃ a dx fs, y = .ref a ∧ H2 a = some (.ins C dx fs)) ∧ spF K 2 F [x, y] H2 (fun z H3 => ∃ c, z = .bl c ∧ Q (.bl c) H3) (WE W σ)
set_option maxHeartbeats 4000000 in
theorem oeq_read {K : PySem.W.Frag} {σ : St} {H : Hp} {Q : VK} (h : tM K W (mOEq C F ma mb) σ H Q) : tOEq K W C F ma mb σ H Q := by
  obtain ⟨Z, ι, ρ, μ, R, o⟩ := h
  refine tM_bind R o fun v μ1 Z1 ι1 H1 x x1 R1 r1 o1 => tM_bind R1 o1 fun w μ2 Z2 ι2 H2 y x2 R2 r2 o2 => ?_
  split at o2
  · rename_i hi
    have r1' := r1.mono x2.same x2.i
    refine ⟨isInsC_ok R2.sta r1' hi.1, isInsC_ok R2.sta r2 hi.2, call_frame R2.sta (.cons r1' (.cons r2 .nil)) rfl (out_then o2 fun v μ3 Z3 ι3 H3 z s3 rz o3 => ?_)⟩
    split at o3
    · rename_i c
      cases rz with | d rz => cases rz with | bl => exact ⟨c, rfl, Out.ret s3 o3 (.d (.bl _))⟩
    · exact o3.elim
  · exact o2.elim
set_option maxHeartbeats 4000000 in
theorem oeq_run (c : Spc X.prog X.w X.K X.mg X.base k C "__eq__" 2 F) (tk : Takes X W) (hg : X.A.guards = some []) (hr : Room j X.A) (hk : k ≤ j) (ha : FE X W a ma) (hb : FE X W b mb) :
    ∀ (pins : List (Addr × Obj)) (s : Shared) (σ : St) (H : Hp) (Q : VK), Inv X pins σ H s → tOEq X.K W C F ma mb σ H Q →
      wpAny (model X.prog X.w) X.A (eval a X.env) (fun v s1 => wpAny (model X.prog X.w) X.A (eval b X.env) (fun u s2 => wpAny (model X.prog X.w) X.A (compareOp .Eq v u) (EP X pins σ Q) X.xe s2) X.xe s1) X.xe s := by
  intro pins s σ H Q I h
  obtain ⟨f, h1, h2, h3, G⟩ := c.ex
  refine bin ha hb I h fun v u s2 x y H2 I2 rx ry q => ?_
  obtain ⟨⟨a1, dx, fs, rfl, ea⟩, ⟨a2, dx2, fs2, rfl, eb⟩, q⟩ := q
  cases (show v = Value.ref a1 from rx)
  cases (show u = Value.ref a2 from ry)
  obtain ⟨mA, O, _⟩ := ins_get I2.hok ea
  obtain ⟨od, J, _⟩ := O.look
  obtain ⟨mB, O2, _⟩ := ins_get I2.hok eb
  obtain ⟨od2, J2, _⟩ := O2.look
  obtain ⟨m, hF⟩ := I2.fr
  have run := run_fa (us := [.ref a1, .ref a2]) (vs := [.ref a1, .ref a2]) G tk hg (hr.mono hk) I2.env0 I2 (.cons rfl (.cons rfl .nil)) q
  show wpAny _ _ (richCompare .Eq _ _) _ _ _
  refine PySem.W.cmp_K (op := .Eq) (tb := .ref C) hr.units0 hF I2.ok.mod.kin J J2.type (by unfold PySem.W.notFirst; simp) h1 h2 (thn run fun z s3 hz => ?_)
  obtain ⟨z', H3, I3, rz, c', rfl, q3⟩ := hz
  cases (show z = Value.bool c' from rz)
  exact ⟨.bl _, H3, I3, rfl, q3⟩
set_option maxHeartbeats 4000000 in
theorem ft_oeq (c : Spc X.prog X.w X.K X.mg X.base k C "__eq__" 2 F) (tk : Takes X W) (hg : X.A.guards = some []) (hr : Room j X.A) (ha : FE X W a ma) (hb : FE X W b mb) (hk : k ≤ j := by decide) (hm : behindInMarks .Eq b = false := by rfl) : FT X W (.Compare a [.Eq] [b] pos) (mB (mOEq C F ma mb)) :=
  ft_pc (oeq_run c tk hg hr hk ha hb) (fun _ _ _ h => oeq_read h) hm
end
structure MdefK (K : PySem.W.Frag) (x qual : Str) (st : Stmt) (ps ks : List Str) (sw : Bool) (f : Addr) : Prop where
  ex : ∃ fd, Fun K x qual st f fd ∧ ∀ (u : Value) (ws : List Value), ws.length = ks.length → bindArgs fd ⟨[u], ks.zip ws⟩ = pure (ps.zip (u :: gk sw ws))
def spK (K : PySem.W.Frag) (n : Nat) (sw : Bool) (F : MF) : Sp := fun vs H Q E => match vs with
  | v :: zs => spF K n F (v :: gk sw zs) H Q E
  | [] => False
structure MakK (P : Program) (w : World) (K : PySem.W.Frag) (mg : Str → Option Value) (base : Heap) (k : Nat) (x : Str) (C : Addr) (ks : List Str) (sw : Bool) (n : Nat) (F : MF) : Prop where
  g : mg x = some (.ref C)
  ex : ∃ f, Mk K C f ∧ FnGk P w K mg base (L2.CX P w) k f 1 ks (spK K n sw F)
section
variable {P : Program} {w : World} {K : PySem.W.Frag} {mg : Str → Option Value} {base : Heap}
set_option maxHeartbeats 4000000 in
theorem MdefK.mini {x qual : Str} {st : Stmt} {N ps ks : List Str} {k n : Nat} {sw fz : Bool} {m : MS} {f : Addr} (D : MdefK K x qual st ps ks sw f) (S : FnScope N ps (defScope st)) (hps : ps.length = ks.length + 1) (hn : ps.length = n)
    (body : ∀ (cdv : Value) (A : Around) (outer : List Env) (s : Shared) (H : Hp) (E : XK), (A.deeper (PyProof.Rows.envOfC qual (defScope st) s.heap.objs.size f cdv)).guards = some [] →
      Room k (A.deeper (PyProof.Rows.envOfC qual (defScope st) s.heap.objs.size f cdv)) →
      FSs (cxOf (L2.CX P w) P w K mg base N qual (defScope st) f cdv A outer s H E) (fun c d _ H' => E c d H') (defBody st) m) : FnGk P w K mg base (L2.CX P w) (k + 1) f 1 ks (spK K n sw (fnT fz N.length m)) := by
  obtain ⟨fd, F, hb⟩ := D.ex
  obtain ⟨oc, od, kV, doc, pm, an, cdv, ct, osl, rfl, lk, hcd⟩ := F.ex
  intro A outer s H us ws vs zs Q E hr hg e0 r rz hl0 hlk hsp
  match vs, hl0 with
  | [v], _ =>
  obtain ⟨u, rfl, ru⟩ := vals1 r
  have hsp : spF K n (fnT fz N.length m) (v :: gk sw zs) H Q E := hsp
  have hw : ws.length = ks.length := by rw [← rz.length]; exact hlk
  refine StX.run_bnd lk hcd S hr e0 (G := fun xs H2 => xs = v :: gk sw zs ∧ H2 = H) (fun A' Ex Q' h => ?_) fun s2 H2 xs g hr' => ?_
  · rw [hb u ws hw]
    exact wpAny_pure (h s H (v :: gk sw zs) (u :: gk sw ws) e0 Un.refl rfl (fun _ _ z => z) (.cons ru (vals_gk sw rz)) (by rw [List.length_cons, gk_len, hlk, hps]) ⟨rfl, rfl⟩)
  · obtain ⟨rfl, rfl⟩ := g
    exact ⟨_, body cdv A outer s2 _ E hg hr', bodyT_ok (fz := fz) (n := n) hsp⟩
end
section
variable {X : Cx} {W : WX} {k j n : Nat} {x : Str} {C : Addr} {F : MF} {p pos : Pos} {kws : List Keyword} {ks : List Str} {sw : Bool} {ms : MA}
def mMkFK (C : Addr) (F : MF) (n m : Nat) (sw : Bool) (ms : MA) : ME := fun ρ μ => (ms ρ μ).bind fun as μ1 => if as.length = m then mkF C F n (gk sw as) μ1 else .bad
set_option maxHeartbeats 4000000 in
theorem fe_mkFK {m : Nat} (c : MakK X.prog X.w X.K X.mg X.base k x C ks sw n F) (tk : Takes X W) (hg : X.A.guards = some []) (hr : Room j X.A) (hkw : FKw X W kws ms) (hk : k + 1 ≤ j := by decide) (hn1 : ks.length = m := by rfl) (hgl : Gl X x := by rfl)
    (hall : (backToKw pos (keywordEach kws X.env)).all (·.1.isSome) = true := by rfl) (hks : (backToKw pos (keywordEach kws X.env)).filterMap (·.1) = ks := by rfl)
    (hdb : (x == ("__debug__" : Str)) = false := by decide) (hpl : ((backTo pos (starEach [] X.env)).any (·.1) || (backToKw pos (keywordEach kws X.env)).any (·.1.isNone)) = false := by rfl) :
    FE X W (.Call (.Name x p) [] kws pos) (mMkFK C F n m sw ms) := by
  subst hn1
  obtain ⟨f, M, G⟩ := c.ex
  refine pe_imp (t := fun σ H Q => tMA X.K W ms σ H fun zs H1 => zs.length = ks.length ∧ ∀ x dx, H1 x = none → H1 dx = none → dx ≠ x → spF X.K n F (.ref x :: gk sw zs) (upd (upd H1 dx (.own x)) x (.ins C dx [])) (fun v H2 => v = .non ∧ Q (.ref x) H2) (WE W σ)) ⟨?_⟩ ?_
  · intro pins s σ H Q I h
    refine PySem.wpAny_Call_Name_kw (ld_glob I hgl c.g ?_ hdb)
    refine PySem.W.callWith_KW0 (h₀ := X.base) I.ok.mod.kin M.kp hall ?_ hpl
    refine thn (hkw.run pos pins s σ H _ I h) fun ws s1 ⟨zs, H1, I1, rz, l2, h⟩ => ⟨I1.kIn, ?_⟩
    rw [hks]
    have hq := h (s1.heap.objs.size + 1) s1.heap.objs.size (I1.hok.fresh (Nat.le_succ _)) (I1.hok.fresh (Nat.le_refl _)) (Nat.ne_of_lt (Nat.lt_succ_self _))
    have J := Inv.made (C := C) I1
    refine wpAny_call (make_map (f := f) I1.kIn M.makes M.init (beq_iff_eq.mp M.fn) (codeAny_mono (G _ X.stack _ _ [Value.ref (s1.heap.objs.size + 1)] ws [V.ref (s1.heap.objs.size + 1)] zs _ _ ((hr.mono hk).make C [] (ks.zip ws)) hg (J.env0.make C [] (ks.zip ws)) (.cons rfl .nil) rz rfl l2 hq) fun z t hz => ?_))
    cases z with
    | error u => exact passAt tk σ pins _ _ u t J hz
    | ok fl => cases fl with
      | ret u =>
        obtain ⟨v, G', J2, rv, ev, q3⟩ := J.after hz
        subst ev
        exact ⟨rv, ⟨V.ref (s1.heap.objs.size + 1), G', J2, rfl, q3⟩⟩
      | _ => exact hz.elim
  · rintro σ H Q ⟨Z, ι, ρ, μ, R, o⟩
    refine tMA_bind R o fun v μ' Z' ι' H' xs x1 R1 r1 o1 => ?_
    split at o1
    · rename_i hl
      exact ⟨by rw [← r1.len]; exact hl, make_step R1.sta (r1.gk sw) (mkF_ok R1.sta o1)⟩
    · exact o1.elim
end
section
variable {X : Cx}
def emP (i : Int) : PyData := .tuple [.int i, .dict []]
def rReprE (K : PySem.W.Frag) : List V → Hp → VK → Prop := fun xs H Q => ∃ (p d : Addr) (i : Int), xs = [.ref p] ∧ SqT K H p [.int i, .ref d] ∧ H d = some (.dK []) ∧ (emP i).showable = true ∧ (emP i).shown.length ≤ sizeLine ∧ Q (.str (emP i).shown) H
set_option maxHeartbeats 4000000 in
theorem call_reprE (hg : X.A.guards = some []) (hu : X.A.units + 200 < cLine) : CallR X (.builtin "repr") (rReprE X.K) := by
  intro pins s σ H xs us Q I r h
  obtain ⟨p, d, i, rfl, h1, h2, hs, hz, q⟩ := h
  obtain ⟨u, rfl, ru⟩ := vals1 r
  cases (show u = Value.ref p from ru)
  obtain ⟨ws, r1, p1, _⟩ := I.tuple h1
  cases r1 with | cons ra rt => cases rt with | cons rb rt => cases rt with | nil =>
  rename_i u1 u2
  obtain ⟨t, rfl⟩ := ra
  cases (show u2 = Value.ref d from rb)
  obtain ⟨o2, ep, ho2, hc2, hd2, hsm⟩ := em_of I h2
  obtain ⟨o, ho, hc, n, hd⟩ := p1
  have rd : Reads s.heap (.ref p) (emP i) ([] ++ ([d] ++ [])) := by
    refine Reads.tuple ho hc hd ?_
    refine ReadsAll.cons (Reads.int i t) (ReadsAll.cons ?_ ReadsAll.nil)
    exact Reads.dict (as := []) (bs := []) ho2 hc2.1 hd2 ReadsAll.nil ReadsAll.nil
  refine PySem.repr_of_reads' rd hs (fun _ hm => ?_) hg (by show X.A.units + (PyData.depth (emP i) + 1) < cLine; simp [emP, PyData.depth, PyData.depthAll, PyData.depthKv]; omega) (fun _ _ e => e) (fun h' t tk hk => ⟨.str _, H, I.kept hk, ⟨_, rfl⟩, q⟩) hz
  simp at hm
  rw [hm] at hsm
  simp at hsm
set_option maxHeartbeats 4000000 in
theorem callr_or {f : Value} {r1 r2 : List V → Hp → VK → Prop} (h1 : CallR X f r1) (h2 : CallR X f r2) : CallR X f (fun xs H Q => r1 xs H Q ∨ r2 xs H Q) := fun pins s σ H xs us Q I r h => h.elim (h1 pins s σ H xs us Q I r) (h2 pins s σ H xs us Q I r)
set_option maxHeartbeats 4000000 in
theorem calld_or {K : PySem.W.Frag} {r1 r2 : List V → Hp → VK → Prop} {g1 g2 : List D → Option D} (h1 : CallD K r1 g1) (h2 : CallD K r2 g2) : CallD K (fun xs H Q => r1 xs H Q ∨ r2 xs H Q) (fun ds => (g1 ds).or (g2 ds)) := fun Z H as c xs Q t ha eq q => by
  replace eq : (g1 as).or (g2 as) = some c := eq
  cases e : g1 as with
  | some y => rw [e] at eq; exact .inl (h1 Z H as c xs Q t ha (by rw [e]; exact eq) q)
  | none => rw [e] at eq; exact .inr (h2 Z H as c xs Q t ha eq q)
end
def reprE : D → Option D
  | .tup [.int i, .dK []] => if (emP i).showable = true ∧ (emP i).shown.length ≤ sizeLine then some (.str (emP i).shown) else none
  | _ => none
set_option maxHeartbeats 4000000 in
theorem c_reprE {K : PySem.W.Frag} : CallD K (rReprE K) (one reprE) := fun Z H as c xs Q t ha eq q => by
  unfold one at eq
  split at eq
  · rename_i a
    obtain ⟨x, rfl, h⟩ := dvs1 ha
    unfold reprE at eq
    split at eq
    · rename_i i
      split at eq
      · rename_i hs
        cases eq
        cases h with | d h =>
        cases h with | tup h1 r =>
        cases r with | cons ra rt => cases rt with | cons rb rt => cases rt with | nil =>
        cases ra with | int =>
        cases rb with | dK h2 r2 =>
        cases r2 with | nil =>
        exact ⟨_, _, _, rfl, SqT.of (mask_same _ _ _ _ h1), mask_same _ _ _ _ h2, hs.1, hs.2, same_ok q (.str _)⟩
      · cases eq
    · cases eq
  · cases eq
abbrev reprX (ds : List D) : Option D := (one reprE ds).or (one reprD ds)
/-- isinstance(o, C), o of the class C -/
def isiO (C : Addr) : List D → Option D
  | [.obj C' _, .gl D] => if C' = C ∧ D = C then some (.bl true) else none
  | _ => none
set_option maxHeartbeats 4000000 in
theorem c_isiO {K : PySem.W.Frag} {C : Addr} : CallD K (fun xs H Q => ∃ a dx fs, xs = [V.ref a, .ref C] ∧ H a = some (.ins C dx fs) ∧ Q (.bl true) H) (isiO C) := fun Z H as c xs Q t ha eq q => by
  unfold isiO at eq
  split at eq
  · rename_i C' fs D
    obtain ⟨x, y, rfl, h1, h2⟩ := dvs2 ha
    split at eq
    · rename_i hC
      obtain ⟨rfl, rfl⟩ := hC
      cases eq
      cases h1 with | d h1 =>
      cases h1 with | obj h1 r =>
      cases h2 with | d h2 =>
      cases h2 with | gl =>
      exact ⟨_, _, _, rfl, mask_same _ _ _ _ h1, same_ok q (.bl _)⟩
    · cases eq
  · cases eq
end TT
local macro_rules | `(tactic| wtm_at "atx") => `(tactic| first | with_reducible exact TT.at0 | with_reducible exact TT.at1 | with_reducible exact TT.at2 | with_reducible exact TT.at3 | with_unfolding_all rfl)
local macro_rules | `(tactic| wtm_at "setx") => `(tactic| first | with_reducible exact TT.set0 | with_reducible exact TT.set1 | with_reducible exact TT.set2 | with_reducible exact TT.set3 | with_unfolding_all rfl)
local macro_rules | `(tactic| wtm_at "vwx") => `(tactic| first | with_reducible exact TT.view_lst TT.at0 | with_reducible exact TT.view_lst TT.at1 | with_reducible exact TT.view_lst TT.at2 | with_reducible exact TT.view_lst TT.at3)
local macro_rules | `(tactic| wtm_at "vw") => `(tactic| first | with_unfolding_all rfl | wtm_at "vwx" | with_reducible exact TT.view_lst (by assumption))
local macro_rules | `(tactic| wtm_at "szl") => `(tactic| first | decide | (simp only [PySem.sizeLine_eq, List.length_cons, List.length_nil]; omega) | (rw [PySem.sizeLine_eq]; simp; done))
local macro_rules | `(tactic| wtm_at "w1") => `(tactic| first
  | with_reducible refine TT.w_seq ?_
  | with_reducible refine TT.w_set ?_
  | with_reducible refine TT.e_var (by with_unfolding_all rfl) ?_
  | with_reducible refine TT.e_c ?_
  | with_reducible refine TT.e_cons ?_
  | with_reducible refine TT.e_nil ?_
  | with_reducible refine TT.e_bin ?_
  | with_reducible refine TT.e_op2 (by with_unfolding_all rfl) (by with_unfolding_all rfl) (by with_unfolding_all rfl) ?_
  | with_reducible refine TT.e_un ?_
  | with_reducible refine TT.e_op1 (by with_unfolding_all rfl) (by with_unfolding_all rfl) ?_
  | with_reducible refine TT.e_n ?_
  | with_reducible refine TT.e_opN (by with_unfolding_all rfl) (by with_unfolding_all rfl) ?_
  | with_reducible refine TT.z_call ?_
  | with_reducible refine TT.k_call (by with_unfolding_all rfl) ?_
  | with_reducible refine TT.z_callZ ?_
  | with_reducible refine TT.z_tup ?_
  | with_reducible refine TT.k_tup (by with_unfolding_all rfl) (by wtm_at "szl") ?_
  | with_reducible refine TT.z_ifs ?_
  | with_reducible refine TT.br_t ?_
  | with_reducible refine TT.br_f ?_
  | with_reducible refine TT.e_b ?_
  | with_reducible refine TT.e_bl ?_
  | with_reducible refine TT.e_t ?_
  | with_reducible refine TT.e_tru (by with_unfolding_all rfl) (by with_unfolding_all rfl) ?_
  | with_reducible refine TT.z_and ?_
  | with_reducible refine TT.z_or ?_
  | with_reducible refine TT.z_not ?_
  | with_reducible refine TT.k_not_t ?_
  | with_reducible refine TT.k_not_f ?_
  | with_reducible refine TT.k_not ?_
  | with_reducible refine TT.z_if ?_
  | with_reducible refine TT.w_ret ?_
  | with_reducible refine TT.w_expr ?_
  | with_reducible refine TT.w_next ?_
  | with_reducible refine TT.w_bk ?_
  | with_reducible refine TT.w_ct ?_
  | with_reducible refine TT.z_asg ?_
  | with_reducible refine TT.k_asg (by with_unfolding_all rfl) ?_
  | with_reducible refine TT.z_par2 ?_
  | with_reducible refine TT.k_par2 ?_
  | with_reducible refine TT.z_par3 ?_
  | with_reducible refine TT.k_par3 ?_
  | with_reducible refine TT.z_parN ?_
  | with_reducible refine TT.k_parN (by with_unfolding_all rfl) (by decide) ?_
  | with_reducible refine TT.e_fz ?_
  | with_reducible refine TT.e_own ?_
  | with_reducible refine TT.z_lst ?_
  | with_reducible refine TT.k_lst (by with_unfolding_all rfl) (by wtm_at "szl") ?_
  | with_reducible refine TT.z_andv ?_
  | with_reducible refine TT.z_orv ?_
  | with_reducible refine TT.k_bl ?_
  | with_reducible refine TT.z_chain ?_
  | with_reducible refine TT.z_nl ?_
  | with_reducible refine TT.k_nl (by with_unfolding_all rfl) (by with_unfolding_all rfl) ?_
  | with_reducible refine TT.z_binl ?_
  | with_reducible refine TT.k_binl (by with_unfolding_all rfl) (by with_unfolding_all rfl) (by with_unfolding_all rfl) ?_
  | with_reducible refine TT.z_mut ?_
  | with_reducible refine TT.w_retN ?_
  | with_reducible refine TT.w_aug (by with_unfolding_all rfl) ?_
  | with_reducible refine TT.z_setix ?_
  | with_reducible refine TT.k_setix (by with_unfolding_all rfl) ?_
  | with_reducible refine TT.z_setf ?_
  | with_reducible refine TT.z_raise ?_
  | with_reducible refine TT.k_raise (by with_unfolding_all rfl) (by with_unfolding_all rfl) ?_
  | with_reducible refine TT.z_match ?_
  | with_reducible refine TT.k_match ?_
  | with_reducible refine TT.e_it ?_
  | with_reducible refine TT.e_ita ?_
  | with_reducible refine TT.e_slice ?_
  | with_reducible refine TT.z_ps ?_
  | with_reducible refine TT.k_ps ?_
  | with_reducible refine TT.e_pn ?_
  | with_reducible refine TT.z_lset ?_
  | with_reducible refine TT.e_fld ?_
  | with_reducible refine TT.e_mkF ?_
  | with_reducible refine TT.z_err ?_
  | with_reducible refine TT.k_err (by with_unfolding_all rfl) (by with_unfolding_all rfl) ?_
  | with_reducible refine TT.z_errK ?_
  | with_reducible refine TT.k_errK (by with_unfolding_all rfl) (by with_unfolding_all rfl) ?_
  | with_reducible refine TT.e_efld ?_
  | with_reducible refine TT.k_efld (by with_unfolding_all rfl) ?_
  | (with_reducible apply TT.k_mut; (focus ((with_reducible apply TT.isLst_of; wtm_at "atx"))))
  | (with_reducible apply TT.k_mut2s; (focus (with_unfolding_all rfl)); (focus (wtm_at "atx")); (focus (with_unfolding_all rfl)); (focus (wtm_at "setx")))
  | (with_reducible apply TT.e_op2; (focus (wtm_at "vw")); (focus (wtm_at "vw")); (focus (with_unfolding_all rfl)))
  | (with_reducible apply TT.e_op1; (focus (wtm_at "vw")); (focus (with_unfolding_all rfl)))
  | (with_reducible apply TT.e_opN; (focus (first | with_unfolding_all rfl | (with_reducible apply TT.views1; wtm_at "vwx"))); (focus (with_unfolding_all rfl)))
  | (with_reducible apply TT.k_nl; (focus (first | with_unfolding_all rfl | (with_reducible apply TT.views1; wtm_at "vwx"))); (focus (with_unfolding_all rfl)))
  | (with_reducible apply TT.e_tru; (focus (wtm_at "vw")); (focus (with_unfolding_all rfl))))
local macro_rules | `(tactic| wtm_at "w2") => `(tactic| first
  | with_reducible refine TT.w_set ?_
  | with_reducible refine TT.e_var (by with_unfolding_all rfl) ?_
  | with_reducible refine TT.e_c ?_
  | with_reducible refine TT.e_cons ?_
  | with_reducible refine TT.e_nil ?_
  | with_reducible refine TT.e_bin ?_
  | with_reducible refine TT.e_op2 (by with_unfolding_all rfl) (by with_unfolding_all rfl) (by with_unfolding_all rfl) ?_
  | with_reducible refine TT.e_un ?_
  | with_reducible refine TT.e_op1 (by with_unfolding_all rfl) (by with_unfolding_all rfl) ?_
  | with_reducible refine TT.e_n ?_
  | with_reducible refine TT.e_opN (by with_unfolding_all rfl) (by with_unfolding_all rfl) ?_
  | with_reducible refine TT.z_call ?_
  | with_reducible refine TT.k_call (by with_unfolding_all rfl) ?_
  | with_reducible refine TT.z_callZ ?_
  | with_reducible refine TT.z_tup ?_
  | with_reducible refine TT.k_tup (by with_unfolding_all rfl) (by wtm_at "szl") ?_
  | with_reducible refine TT.z_ifs ?_
  | with_reducible refine TT.br_t ?_
  | with_reducible refine TT.br_f ?_
  | with_reducible refine TT.e_b ?_
  | with_reducible refine TT.e_bl ?_
  | with_reducible refine TT.e_t ?_
  | with_reducible refine TT.e_tru (by with_unfolding_all rfl) (by with_unfolding_all rfl) ?_
  | with_reducible refine TT.z_and ?_
  | with_reducible refine TT.z_or ?_
  | with_reducible refine TT.z_not ?_
  | with_reducible refine TT.k_not_t ?_
  | with_reducible refine TT.k_not_f ?_
  | with_reducible refine TT.k_not ?_
  | with_reducible refine TT.z_if ?_
  | with_reducible refine TT.w_ret ?_
  | with_reducible refine TT.w_expr ?_
  | with_reducible refine TT.w_next ?_
  | with_reducible refine TT.w_bk ?_
  | with_reducible refine TT.w_ct ?_
  | with_reducible refine TT.z_asg ?_
  | with_reducible refine TT.k_asg (by with_unfolding_all rfl) ?_
  | with_reducible refine TT.z_par2 ?_
  | with_reducible refine TT.k_par2 ?_
  | with_reducible refine TT.z_par3 ?_
  | with_reducible refine TT.k_par3 ?_
  | with_reducible refine TT.z_parN ?_
  | with_reducible refine TT.k_parN (by with_unfolding_all rfl) (by decide) ?_
  | with_reducible refine TT.e_fz ?_
  | with_reducible refine TT.e_own ?_
  | with_reducible refine TT.z_lst ?_
  | with_reducible refine TT.k_lst (by with_unfolding_all rfl) (by wtm_at "szl") ?_
  | with_reducible refine TT.z_andv ?_
  | with_reducible refine TT.z_orv ?_
  | with_reducible refine TT.k_bl ?_
  | with_reducible refine TT.z_chain ?_
  | with_reducible refine TT.z_nl ?_
  | with_reducible refine TT.k_nl (by with_unfolding_all rfl) (by with_unfolding_all rfl) ?_
  | with_reducible refine TT.z_binl ?_
  | with_reducible refine TT.k_binl (by with_unfolding_all rfl) (by with_unfolding_all rfl) (by with_unfolding_all rfl) ?_
  | with_reducible refine TT.z_mut ?_
  | with_reducible refine TT.w_retN ?_
  | with_reducible refine TT.w_aug (by with_unfolding_all rfl) ?_
  | with_reducible refine TT.z_setix ?_
  | with_reducible refine TT.k_setix (by with_unfolding_all rfl) ?_
  | with_reducible refine TT.z_setf ?_
  | with_reducible refine TT.z_raise ?_
  | with_reducible refine TT.k_raise (by with_unfolding_all rfl) (by with_unfolding_all rfl) ?_
  | with_reducible refine TT.z_match ?_
  | with_reducible refine TT.k_match ?_
  | with_reducible refine TT.e_it ?_
  | with_reducible refine TT.e_ita ?_
  | with_reducible refine TT.e_slice ?_
  | with_reducible refine TT.z_ps ?_
  | with_reducible refine TT.k_ps ?_
  | with_reducible refine TT.e_pn ?_
  | with_reducible refine TT.z_lset ?_
  | with_reducible refine TT.e_fld ?_
  | with_reducible refine TT.e_mkF ?_
  | with_reducible refine TT.z_err ?_
  | with_reducible refine TT.k_err (by with_unfolding_all rfl) (by with_unfolding_all rfl) ?_
  | with_reducible refine TT.z_errK ?_
  | with_reducible refine TT.k_errK (by with_unfolding_all rfl) (by with_unfolding_all rfl) ?_
  | with_reducible refine TT.e_efld ?_
  | with_reducible refine TT.k_efld (by with_unfolding_all rfl) ?_
  | (with_reducible apply TT.k_mut; (focus ((with_reducible apply TT.isLst_of; wtm_at "atx"))))
  | (with_reducible apply TT.k_mut2s; (focus (with_unfolding_all rfl)); (focus (wtm_at "atx")); (focus (with_unfolding_all rfl)); (focus (wtm_at "setx")))
  | (with_reducible apply TT.e_op2; (focus (wtm_at "vw")); (focus (wtm_at "vw")); (focus (with_unfolding_all rfl)))
  | (with_reducible apply TT.e_op1; (focus (wtm_at "vw")); (focus (with_unfolding_all rfl)))
  | (with_reducible apply TT.e_opN; (focus (first | with_unfolding_all rfl | (with_reducible apply TT.views1; wtm_at "vwx"))); (focus (with_unfolding_all rfl)))
  | (with_reducible apply TT.k_nl; (focus (first | with_unfolding_all rfl | (with_reducible apply TT.views1; wtm_at "vwx"))); (focus (with_unfolding_all rfl)))
  | (with_reducible apply TT.e_tru; (focus (wtm_at "vw")); (focus (with_unfolding_all rfl))))
local macro_rules | `(tactic| wtm_at "wr") => `(tactic| repeat wtm_at "w1")
local macro_rules | `(tactic| wtm_at "wx") => `(tactic| repeat wtm_at "w2")
namespace TT
open PySem L2
variable [TB]
def top (i : Nat) : Stmt := PySem.Challenge.pw_tailtables_k34_scripts_made.main.body.getD i (.Pass ⟨0, 0, 0, 0⟩)
abbrev s_BadScript___init__ : Stmt := inClass (top 3) 0
theorem sc_BadScript___init__ : FnScope ["self", "steps", "bits"] ["self", "steps", "bits"] (defScope s_BadScript___init__) := ⟨rfl, rfl, rfl, by decide +kernel, rfl, by decide +kernel, by decide +kernel⟩
abbrev s_is_integer : Stmt := top 5
theorem sc_is_integer : FnScope ["thing"] ["thing"] (defScope s_is_integer) := ⟨rfl, rfl, rfl, by decide +kernel, rfl, by decide +kernel, by decide +kernel⟩
abbrev s_are_bits : Stmt := top 7
theorem sc_are_bits : FnScope ["things", "one"] ["things"] (defScope s_are_bits) := ⟨rfl, rfl, rfl, by decide +kernel, rfl, by decide +kernel, by decide +kernel⟩
abbrev s_Script___init__ : Stmt := inClass (top 8) 1
theorem sc_Script___init__ : FnScope ["self", "steps", "bits"] ["self", "steps", "bits"] (defScope s_Script___init__) := ⟨rfl, rfl, rfl, by decide +kernel, rfl, by decide +kernel, by decide +kernel⟩
abbrev s_Script_none : Stmt := inClass (top 8) 2
theorem sc_Script_none : FnScope ["cls"] ["cls"] (defScope s_Script_none) := ⟨rfl, rfl, rfl, by decide +kernel, rfl, by decide +kernel, by decide +kernel⟩
abbrev s_Script___eq__ : Stmt := inClass (top 8) 3
theorem sc_Script___eq__ : FnScope ["self", "other"] ["self", "other"] (defScope s_Script___eq__) := ⟨rfl, rfl, rfl, by decide +kernel, rfl, by decide +kernel, by decide +kernel⟩
abbrev s_Script___len__ : Stmt := inClass (top 8) 9
theorem sc_Script___len__ : FnScope ["self"] ["self"] (defScope s_Script___len__) := ⟨rfl, rfl, rfl, by decide +kernel, rfl, by decide +kernel, by decide +kernel⟩
abbrev s_Script___bool__ : Stmt := inClass (top 8) 11
theorem sc_Script___bool__ : FnScope ["self"] ["self"] (defScope s_Script___bool__) := ⟨rfl, rfl, rfl, by decide +kernel, rfl, by decide +kernel, by decide +kernel⟩
abbrev s_bag : Stmt := top 10
theorem sc_bag : FnScope ["_law_script", "_law_at", "_law_cell", "_law_vast"] ["_law_script", "_law_at"] (defScope s_bag) := ⟨rfl, rfl, rfl, by decide +kernel, rfl, by decide +kernel, by decide +kernel⟩
abbrev s_take : Stmt := top 11
theorem sc_take : FnScope ["_law_bag_here", "_law_many", "_law_digit", "_law_once", "_law_twice"] ["_law_bag_here", "_law_many"] (defScope s_take) := ⟨rfl, rfl, rfl, by decide +kernel, rfl, by decide +kernel, by decide +kernel⟩
abbrev s_is_whole : Stmt := top 12
theorem sc_is_whole : FnScope ["_law_thing"] ["_law_thing"] (defScope s_is_whole) := ⟨rfl, rfl, rfl, by decide +kernel, rfl, by decide +kernel, by decide +kernel⟩
abbrev s_good : Stmt := top 13
theorem sc_good : FnScope ["_law_bag_here", "_law_signs", "_law_count", "_law_handed", "_law_told", "_law_none", "_law_turn", "_law_one"] ["_law_bag_here"] (defScope s_good) := ⟨rfl, rfl, rfl, by decide +kernel, rfl, by decide +kernel, by decide +kernel⟩
abbrev s_wrong : Stmt := top 14
theorem sc_wrong : FnScope ["_law_bag_here", "_law_signs", "_law_at", "_law_road", "_law_count", "_law_longer", "_law_odd", "_law_spoilt", "_law_turn"] ["_law_bag_here"] (defScope s_wrong) := ⟨rfl, rfl, rfl, by decide +kernel, rfl, by decide +kernel, by decide +kernel⟩
abbrev s_refused : Stmt := top 15
theorem sc_refused : FnScope ["_law_count", "_law_signs", "e"] ["_law_count", "_law_signs"] (defScope s_refused) := ⟨rfl, rfl, rfl, by decide +kernel, rfl, by decide +kernel, by decide +kernel⟩
abbrev s_law : Stmt := top 16
theorem sc_law : FnScope ["_law_script", "_law_at", "_law_bag_here", "_law_count", "_law_signs"] ["_law_script"] (defScope s_law) := ⟨rfl, rfl, rfl, by decide +kernel, rfl, by decide +kernel, by decide +kernel⟩
structure Ad where
  (scr ans tab script : Addr)
structure Txt (K : PySem.W.Frag) (mg : Str → Option Value) : Prop where
  n_len : mg "len" = none
  n_int : mg "int" = none
  n_abs : mg "abs" = none
  n_bool : mg "bool" = none
  n_list : mg "list" = none
  n_tuple : mg "tuple" = none
  n_range : mg "range" = none
  n_min : mg "min" = none
  n_max : mg "max" = none
  n_all : mg "all" = none
  n_isinstance : mg "isinstance" = none
  n_repr : mg "repr" = none
  n_ValueError : mg "ValueError" = none
structure Fct (P : Program) (w : World) (K : PySem.W.Frag) (mg : Str → Option Value) (base : Heap) (c : Ad) : Prop where
  x_BadScript : Exc P w K mg base 1 "BadScript" c.scr 2 (spX2 c.scr "steps" "bits")
  g_BadScript : mg "BadScript" = some (.ref c.scr)
  xf_BadScript : XfC K c.scr
  xn_BadScript_steps : PySem.W.findIn K (.ref c.scr) "steps" = some none
  xn_BadScript_bits : PySem.W.findIn K (.ref c.scr) "bits" = some none
  ec_BadScript : ExcC K c.scr
  e_BadScript_TablesError : PySem.W.exmOne K (.ref c.scr) (.ref c.tab) = some true
  kt_BadScript_BadScript : PySem.W.kitOne K (.ref c.scr) (.ref c.scr) = some (decide (c.scr = c.scr))
  kt_BadScript_BadAnswer : PySem.W.kitOne K (.ref c.scr) (.ref c.ans) = some (decide (c.scr = c.ans))
  kt_BadScript_ValueError : PySem.W.kitOne K (.ref c.scr) (.type "ValueError") = some true
  g_BadAnswer : mg "BadAnswer" = some (.ref c.ans)
  g_TablesError : mg "TablesError" = some (.ref c.tab)
  g_Script : mg "Script" = some (.ref c.script)
  cl_Script : Cls K c.script
  no_Script_steps : NoAttr K c.script "steps"
  no_Script_bits : NoAttr K c.script "bits"
  rd_Script : ClX.CRead K c.script (.type "type")
  cv_Script_MOST : ∃ u, ClX.CVal K c.script (.type "type") "MOST" (.int 1000) u
  is_Script : C8.InsC K c.script
def excB (K : PySem.W.Frag) (D : Addr) : Bool := decide (PySem.W.findIn K (.ref D) "__getattribute__" = some (some (.builtin "BaseException.__getattribute__"))) && (decide (PySem.W.findIn K (.ref D) "__getattr__" = some none) && (decide (PySem.W.subIn K (.ref D) (.type "BaseException") = some true) && (PySem.W.hasDictIn K D && (decide (PySem.W.findIn K (.ref D) "__class__" = some (some (.builtin "object.__class__"))) && (decide (PySem.W.specialIn K (.builtin "object.__class__") "__get__" = some (some (.builtin "getset_descriptor.__get__"))) && (decide (PySem.W.takesIn K (.builtin "object.__class__") = some true) && decide (PySem.W.mroIn K D (.type "object") = some true)))))))
theorem excB_ok {K : PySem.W.Frag} {D : Addr} (h : excB K D = true) : ExcC K D := by
  unfold excB at h
  simp only [Bool.and_eq_true, decide_eq_true_eq] at h
  obtain ⟨h1, h2, h3, h4, h5, h6, h7, h8⟩ := h
  exact ⟨h1, h2, h3, h4, h5, h6, h7, h8⟩
section
variable {P : Program} {w : World} {K : PySem.W.Frag} {mg : Str → Option Value} {base : Heap}
noncomputable def b_is_integer : MS :=
  (mRet (mAndV (mN isiD (mCons (mVar 0) (mCons (mC (.ty "int")) mNil))) (mUn notD (mN isiD (mCons (mVar 0) (mCons (mC (.ty "bool")) mNil))))))
theorem f_is_integer {k : Nat} (D : Def K mg "is_integer" s_is_integer ["thing"]) (T : Txt K mg)     : Fn P w K mg base (k + 1) "is_integer" 1 (fnT true 1 (b_is_integer)) :=
  D.mini sc_is_integer rfl fun f cdv A outer s H E hg hr =>
    (fss_one (fs_ret (fe_and (fe_callB call_isi c_isi (by rfl) T.n_isinstance (by decide +kernel) (fa_cons (mv 0) (fa_cons (fe_ty T.n_int (by decide +kernel)) fa_nil))) (fe_one (fe_not (fe_callB call_isi c_isi (by rfl) T.n_isinstance (by decide +kernel) (fa_cons (mv 0) (fa_cons (fe_ty T.n_bool (by decide +kernel)) fa_nil))))))))
noncomputable def b_are_bits (F_is_integer : MF) : MS :=
  (mSeq (mIfS (mNot (mT (mN isiD2 (mCons (mVar 0) (mCons (mTup (mCons (mC (.ty "list")) (mCons (mC (.ty "tuple")) mNil))) mNil))))) (mRet (mC (.bl false))) mNext)
  (mRet (mN (one allD) (mCons (mFz (mLC (mIt (mVar 0)) (gN 1) mYes (mAndV (mCall F_is_integer 1 (mCons (mVar 1) mNil)) (mChain leI leI (mC (.int 0)) (mVar 1) (mC (.int 1)))) [1])) mNil))))
theorem f_are_bits {k : Nat} {F_is_integer : MF} (D : Def K mg "are_bits" s_are_bits ["things"]) (T : Txt K mg) (h_is_integer : Fn P w K mg base k "is_integer" 1 F_is_integer)    : Fn P w K mg base (k + 1) "are_bits" 1 (fnT true 2 (b_are_bits  F_is_integer)) :=
  D.mini sc_are_bits rfl fun f cdv A outer s H E hg hr =>
    (fss_cons (fs_if (ft_not (ft_truth (fe_callB call_isiT c_isi2 (by rfl) T.n_isinstance (by decide +kernel) (fa_cons (mv 0) (fa_cons (fe_tup (fa_cons (fe_ty T.n_list (by decide +kernel)) (fa_cons (fe_ty T.n_tuple (by decide +kernel)) fa_nil))) fa_nil))))) (fss_one (fs_ret fe_bl)) fss_nil)
      (fss_one (fs_ret (fe_callB (cr_all rfl) c_all (by rfl) T.n_all (by decide +kernel) (fa_cons (fe_fz (fl_lc (own := [("one", 1)]) rfl sc_are_bits.nd (fi_val (mv 0)) (blkOk_by (own := [("one", 1)]) (N := ["things", "one"]) (sc := defScope s_are_bits) (by decide +kernel)) (cg_name (by decide)) (fun _ _ _ _ _ => (pg_name (i := 1) sc_are_bits.nd rfl (by first | exact Or.inl rfl | exact Or.inr rfl))) (fun _ _ _ _ _ => fts_nil) (fun _ _ _ _ _ => (fe_and (fe_call h_is_integer takes_none5 hg hr (fa_cons (mv 1) fa_nil) (hk := Nat.le_refl _)) (fe_one (fe_chain op_le d_le op_le d_le fe_int (mv 1) fe_int)))))) fa_nil)))))
noncomputable def b_Script___init__ (c : Ad) (F_are_bits F_is_integer : MF) : MS :=
  (mSeq (mIfS (mOr (mNot (mT (mCall F_is_integer 1 (mCons (mVar 1) mNil)))) (mOr (mB (mBin ltI (mVar 1) (mC (.int 0)))) (mOr (mNot (mT (mCall F_are_bits 1 (mCons (mVar 2) mNil)))) (mB (mBin gtI (mN (one lenD) (mCons (mVar 2) mNil)) (mVar 1)))))) (mRaise c.scr ["steps", "bits"] (mCons (mVar 1) (mCons (mVar 2) mNil))) mNext)
  (mSeq (mSetF c.script "steps" (mVar 1) (mVar 0))
  (mSetF c.script "bits" (mN (one tupD) (mCons (mVar 2) mNil)) (mVar 0))))
theorem f_Script___init__ {c : Ad} {k : Nat} {F_are_bits F_is_integer : MF} {fa : Addr} (D : Mdef K "__init__" "Script.__init__" s_Script___init__ ["self", "steps", "bits"] fa) (T : Txt K mg) (XC : Fct P w K mg base c) (h_are_bits : Fn P w K mg base k "are_bits" 1 F_are_bits) (h_is_integer : Fn P w K mg base k "is_integer" 1 F_is_integer)  (h2 : 2 ≤ k)  : FnG P w K mg base (L2.CX P w) (k + 1) fa (spF K 3 (fnT true 3 (b_Script___init__ c F_are_bits F_is_integer))) :=
  D.mini sc_Script___init__ rfl fun cdv A outer s H E hg hr =>
    (fss_cons (fs_if (PW.pt (fw_or (ft_not (ft_truth (fe_call h_is_integer (takes_of rfl rfl rfl rfl) hg hr (fa_cons (mv 1) fa_nil) (hk := Nat.le_refl _)))) (fw_or (ft_cmp op_lt d_lt (mv 1) fe_int (nomark _)) (fw_or (ft_not (ft_truth (fe_call h_are_bits (takes_of rfl rfl rfl rfl) hg hr (fa_cons (mv 2) fa_nil) (hk := Nat.le_refl _)))) (fw_or1 (ft_cmp op_gt d_gt (fe_callB call_len c_len (by rfl) T.n_len (by decide +kernel) (fa_cons (mv 2) fa_nil)) (mv 1) (nomark _))))))) (fss_one (fs_raise2 XC.x_BadScript (takes_of rfl rfl rfl rfl) rfl hr (fa_cons (mv 1) (fa_cons (mv 2) fa_nil)) (hk := h2))) fss_nil)
      (fss_cons (fs_fld XC.cl_Script XC.no_Script_steps (mv 1) (mv 0))
      (fss_one (fs_fld XC.cl_Script XC.no_Script_bits (fe_callTy call_tuple_of c_tuple (by rfl) T.n_tuple (by decide +kernel) (fa_cons (mv 2) fa_nil)) (mv 0)))))
theorem fk_Script___init__ {c : Ad} {k : Nat} {F_are_bits F_is_integer : MF} {fa : Addr} (D : MdefK K "__init__" "Script.__init__" s_Script___init__ ["self", "steps", "bits"] ["bits", "steps"] true fa) (T : Txt K mg) (XC : Fct P w K mg base c) (h_are_bits : Fn P w K mg base k "are_bits" 1 F_are_bits) (h_is_integer : Fn P w K mg base k "is_integer" 1 F_is_integer)  (h2 : 2 ≤ k)  : FnGk P w K mg base (L2.CX P w) (k + 1) fa 1 ["bits", "steps"] (spK K 3 true (fnT true 3 (b_Script___init__ c F_are_bits F_is_integer))) :=
  D.mini sc_Script___init__ rfl rfl fun cdv A outer s H E hg hr =>
    (fss_cons (fs_if (PW.pt (fw_or (ft_not (ft_truth (fe_call h_is_integer (takes_of rfl rfl rfl rfl) hg hr (fa_cons (mv 1) fa_nil) (hk := Nat.le_refl _)))) (fw_or (ft_cmp op_lt d_lt (mv 1) fe_int (nomark _)) (fw_or (ft_not (ft_truth (fe_call h_are_bits (takes_of rfl rfl rfl rfl) hg hr (fa_cons (mv 2) fa_nil) (hk := Nat.le_refl _)))) (fw_or1 (ft_cmp op_gt d_gt (fe_callB call_len c_len (by rfl) T.n_len (by decide +kernel) (fa_cons (mv 2) fa_nil)) (mv 1) (nomark _))))))) (fss_one (fs_raise2 XC.x_BadScript (takes_of rfl rfl rfl rfl) rfl hr (fa_cons (mv 1) (fa_cons (mv 2) fa_nil)) (hk := h2))) fss_nil)
      (fss_cons (fs_fld XC.cl_Script XC.no_Script_steps (mv 1) (mv 0))
      (fss_one (fs_fld XC.cl_Script XC.no_Script_bits (fe_callTy call_tuple_of c_tuple (by rfl) T.n_tuple (by decide +kernel) (fa_cons (mv 2) fa_nil)) (mv 0)))))
noncomputable def b_Script_none (c : Ad) (F_Script : MF) : MS :=
  (mRet (mMkV c.script F_Script 3 0 (mCons (mC (.int 0)) (mCons (mTup mNil) mNil))))
theorem f_Script_none {c : Ad} {k k_Script : Nat} {F_Script : MF} {fa : Addr} (D : Mdef K "none" "Script.none" s_Script_none ["cls"] fa) (T : Txt K mg) (XC : Fct P w K mg base c)   (m_Script : Mak' P w K mg base k_Script "Script" c.script 3 F_Script) (l_Script : k_Script + 1 ≤ k)  : FnG P w K mg base (L2.CX P w) (k + 1) fa (spF K 1 (fnT true 1 (b_Script_none c F_Script))) :=
  D.mini sc_Script_none rfl fun cdv A outer s H E hg hr =>
    (fss_one (fs_ret (fe_mkV (i := 0) m_Script (takes_of rfl rfl rfl rfl) hg hr (fa_cons fe_int (fa_cons (fe_tup fa_nil) fa_nil)) (hk := l_Script))))
noncomputable def b_Script___eq__ (c : Ad) : MS :=
  (mRet (mAndV (mN (isiO c.script) (mCons (mVar 1) (mCons (mC (.gl c.script)) mNil))) (mAndV (mBin eqD (mFld c.script "steps" (mVar 0)) (mFld c.script "steps" (mVar 1))) (mBin eqD (mFld c.script "bits" (mVar 0)) (mFld c.script "bits" (mVar 1))))))
theorem f_Script___eq__ {c : Ad} {k : Nat} {fa : Addr} (D : Mdef K "__eq__" "Script.__eq__" s_Script___eq__ ["self", "other"] fa) (T : Txt K mg) (XC : Fct P w K mg base c)     : FnG P w K mg base (L2.CX P w) (k + 1) fa (spF K 2 (fnT true 2 (b_Script___eq__ c))) :=
  D.mini sc_Script___eq__ rfl fun cdv A outer s H E hg hr =>
    (fss_one (fs_ret (fe_and (fe_callB (C8.call_isC XC.is_Script) c_isiO (by rfl) T.n_isinstance (by decide +kernel) (fa_cons (mv 1) (fa_cons (fe_gfn XC.g_Script) fa_nil))) (fe_and (fe_cmp (o_eq hr.units) d_eq (fe_fld XC.cl_Script XC.no_Script_steps (mv 0)) (fe_fld XC.cl_Script XC.no_Script_steps (mv 1)) (nomark _)) (fe_one (fe_cmp (o_eq hr.units) d_eq (fe_fld XC.cl_Script XC.no_Script_bits (mv 0)) (fe_fld XC.cl_Script XC.no_Script_bits (mv 1)) (nomark _)))))))
noncomputable def b_Script___len__ (c : Ad) : MS :=
  (mRet (mN (one lenD) (mCons (mFld c.script "bits" (mVar 0)) mNil)))
theorem f_Script___len__ {c : Ad} {k : Nat} {fa : Addr} (D : Mdef K "__len__" "Script.__len__" s_Script___len__ ["self"] fa) (T : Txt K mg) (XC : Fct P w K mg base c)     : FnG P w K mg base (L2.CX P w) (k + 1) fa (spF K 1 (fnT true 1 (b_Script___len__ c))) :=
  D.mini sc_Script___len__ rfl fun cdv A outer s H E hg hr =>
    (fss_one (fs_ret (fe_callB call_len c_len (by rfl) T.n_len (by decide +kernel) (fa_cons (fe_fld XC.cl_Script XC.no_Script_bits (mv 0)) fa_nil))))
noncomputable def b_Script___bool__ (c : Ad) : MS :=
  (mRet (mN (one boolD) (mCons (mBin gtI (mFld c.script "steps" (mVar 0)) (mC (.int 0))) mNil)))
theorem f_Script___bool__ {c : Ad} {k : Nat} {fa : Addr} (D : Mdef K "__bool__" "Script.__bool__" s_Script___bool__ ["self"] fa) (T : Txt K mg) (XC : Fct P w K mg base c)     : FnG P w K mg base (L2.CX P w) (k + 1) fa (spF K 1 (fnT true 1 (b_Script___bool__ c))) :=
  D.mini sc_Script___bool__ rfl fun cdv A outer s H E hg hr =>
    (fss_one (fs_ret (fe_callTy call_bool1 c_bool (by rfl) T.n_bool (by decide +kernel) (fa_cons (fe_cmp op_gt d_gt (fe_fld XC.cl_Script XC.no_Script_steps (mv 0)) fe_int (nomark _)) fa_nil))))
noncomputable def b_bag : MS :=
  (mSeq (mAsg (mIf (mB (mBin ltI (mVar 1) (mN (one lenD) (mCons (mVar 0) mNil)))) (mBin ixD (mVar 0) (mVar 1)) (mC (.int 0))) (gN 2))
  (mSeq (mAsg (mN (one absD) (mCons (mVar 2) mNil)) (gN 3))
  (mRet (mOwn (mLst (mCons (mIf (mB (mBin geI (mVar 3) (mBin powD (mC (.int 10)) (mC (.int 18))))) (mVar 3) (mC (.int 0))) (mCons (mBin addD (mBin addD (mBin modD (mN (one intD) (mCons (mVar 2) mNil)) (mC (.int 4611686018427387847))) (mBin mulD (mC (.int 131071)) (mVar 1))) (mC (.int 257))) (mCons (mC (.int 0)) mNil))))))))
theorem f_bag {k : Nat} (D : Def K mg "_law_bag" s_bag ["_law_script", "_law_at"]) (T : Txt K mg)     : Fn P w K mg base (k + 1) "_law_bag" 2 (fnT false 4 (b_bag)) :=
  D.mini sc_bag rfl fun f cdv A outer s H E hg hr =>
    (fss_cons (fs_set (i := 2) sc_bag.nd rfl (by first | exact Or.inl rfl | exact Or.inr rfl) (fe_ifExp (ft_cmp op_lt d_lt (mv 1) (fe_callB call_len c_len (by rfl) T.n_len (by decide +kernel) (fa_cons (mv 0) fa_nil)) (nomark _)) (fe_ix ix_seq d_ix (mv 0) (mv 1) (fun _ _ => rfl)) fe_int))
      (fss_cons (fs_set (i := 3) sc_bag.nd rfl (by first | exact Or.inl rfl | exact Or.inr rfl) (fe_callB call_abs c_abs (by rfl) T.n_abs (by decide +kernel) (fa_cons (mv 2) fa_nil)))
      (fss_one (fs_ret (fe_own (fl_lst (fa_cons (fe_ifExp (ft_cmp op_ge d_ge (mv 3) (fe_op op_pow d_pow fe_int fe_int) (nomark _)) (mv 3) fe_int) (fa_cons (fe_op o_add d_add (fe_op o_add d_add (fe_op op_mod d_mod (fe_callTy call_int1 c_int (by rfl) T.n_int (by decide +kernel) (fa_cons (mv 2) fa_nil)) fe_int) (fe_op op_mul d_mul fe_int (mv 1))) fe_int) (fa_cons fe_int fa_nil)))))))))
noncomputable def b_take : MS :=
  (mSeq (mIfS (mB (mBin gtI (mBin ixD (mVar 0) (mC (.int 0))) (mC (.int 0)))) (mSeq (mAsg (mBin modD (mN (one intD) (mCons (mBin ixD (mVar 0) (mC (.int 0))) mNil)) (mVar 1)) (gN 2))
  (mSeq (mSetIx (mBin fdivD (mBin ixD (mVar 0) (mC (.int 0))) (mVar 1)) (mVar 0) (mC (.int 0)))
  (mRet (mVar 2)))) mNext)
  (mSeq (mSetIx (mBin addD (mBin ixD (mVar 0) (mC (.int 2))) (mC (.int 1))) (mVar 0) (mC (.int 2)))
  (mSeq (mAsg (mBin addD (mBin mulD (mBin ixD (mVar 0) (mC (.int 1))) (mC (.int 2236067977499789697))) (mC (.int 8191))) (gN 3))
  (mSeq (mAsg (mBin modD (mN (one intD) (mCons (mBin addD (mVar 3) (mBin mulD (mBin mulD (mC (.int 3037000507)) (mBin ixD (mVar 0) (mC (.int 2)))) (mBin ixD (mVar 0) (mC (.int 2))))) mNil)) (mC (.int 2305843009213693951))) (gN 3))
  (mSeq (mAsg (mBin modD (mN (one intD) (mCons (mBin addD (mBin mulD (mVar 3) (mBin addD (mVar 3) (mBin ixD (mVar 0) (mC (.int 2))))) (mBin mulD (mC (.int 69071)) (mBin ixD (mVar 0) (mC (.int 2))))) mNil)) (mC (.int 4611686018427387847))) (gN 4))
  (mRet (mBin modD (mN (one intD) (mCons (mBin fdivD (mVar 4) (mC (.int 65536))) mNil)) (mVar 1))))))))
theorem f_take {k : Nat} (D : Def K mg "_law_take" s_take ["_law_bag_here", "_law_many"]) (T : Txt K mg)     : Fn P w K mg base (k + 1) "_law_take" 2 (fnT true 5 (b_take)) :=
  D.mini sc_take rfl fun f cdv A outer s H E hg hr =>
    (fss_cons (fs_if (ft_cmp op_gt d_gt (fe_ix ix_seq d_ix (mv 0) fe_int (fun _ _ => rfl)) fe_int (nomark _)) (fss_cons (fs_set (i := 2) sc_take.nd rfl (by first | exact Or.inl rfl | exact Or.inr rfl) (fe_op op_mod d_mod (fe_callTy call_int1 c_int (by rfl) T.n_int (by decide +kernel) (fa_cons (fe_ix ix_seq d_ix (mv 0) fe_int (fun _ _ => rfl)) fa_nil)) (mv 1)))
      (fss_cons (fs_setix (fe_op op_fdivW d_fdiv (fe_ix ix_seq d_ix (mv 0) fe_int (fun _ _ => rfl)) (mv 1)) (mv 0) fe_int)
      (fss_one (fs_ret (mv 2))))) fss_nil)
      (fss_cons (fs_setix (fe_op o_add d_add (fe_ix ix_seq d_ix (mv 0) fe_int (fun _ _ => rfl)) fe_int) (mv 0) fe_int)
      (fss_cons (fs_set (i := 3) sc_take.nd rfl (by first | exact Or.inl rfl | exact Or.inr rfl) (fe_op o_add d_add (fe_op op_mul d_mul (fe_ix ix_seq d_ix (mv 0) fe_int (fun _ _ => rfl)) fe_int) fe_int))
      (fss_cons (fs_set (i := 3) sc_take.nd rfl (by first | exact Or.inl rfl | exact Or.inr rfl) (fe_op op_mod d_mod (fe_callTy call_int1 c_int (by rfl) T.n_int (by decide +kernel) (fa_cons (fe_op o_add d_add (mv 3) (fe_op op_mul d_mul (fe_op op_mul d_mul fe_int (fe_ix ix_seq d_ix (mv 0) fe_int (fun _ _ => rfl))) (fe_ix ix_seq d_ix (mv 0) fe_int (fun _ _ => rfl)))) fa_nil)) fe_int))
      (fss_cons (fs_set (i := 4) sc_take.nd rfl (by first | exact Or.inl rfl | exact Or.inr rfl) (fe_op op_mod d_mod (fe_callTy call_int1 c_int (by rfl) T.n_int (by decide +kernel) (fa_cons (fe_op o_add d_add (fe_op op_mul d_mul (mv 3) (fe_op o_add d_add (mv 3) (fe_ix ix_seq d_ix (mv 0) fe_int (fun _ _ => rfl)))) (fe_op op_mul d_mul fe_int (fe_ix ix_seq d_ix (mv 0) fe_int (fun _ _ => rfl)))) fa_nil)) fe_int))
      (fss_one (fs_ret (fe_op op_mod d_mod (fe_callTy call_int1 c_int (by rfl) T.n_int (by decide +kernel) (fa_cons (fe_op op_fdivW d_fdiv (mv 4) fe_int) fa_nil)) (mv 1)))))))))
noncomputable def b_is_whole : MS :=
  (mRet (mAndV (mN isiD (mCons (mVar 0) (mCons (mC (.ty "int")) mNil))) (mUn notD (mN isiD (mCons (mVar 0) (mCons (mC (.ty "bool")) mNil))))))
theorem f_is_whole {k : Nat} (D : Def K mg "_law_is_whole" s_is_whole ["_law_thing"]) (T : Txt K mg)     : Fn P w K mg base (k + 1) "_law_is_whole" 1 (fnT true 1 (b_is_whole)) :=
  D.mini sc_is_whole rfl fun f cdv A outer s H E hg hr =>
    (fss_one (fs_ret (fe_and (fe_callB call_isi c_isi (by rfl) T.n_isinstance (by decide +kernel) (fa_cons (mv 0) (fa_cons (fe_ty T.n_int (by decide +kernel)) fa_nil))) (fe_one (fe_not (fe_callB call_isi c_isi (by rfl) T.n_isinstance (by decide +kernel) (fa_cons (mv 0) (fa_cons (fe_ty T.n_bool (by decide +kernel)) fa_nil))))))))
noncomputable def b_good (c : Ad) (F_is_whole F_take F_Script_len F_Script_bool F_Script_none F_Script F_Script_eq : MF) : MS :=
  (mSeq (mAsg (mFz (mLC (mItA rng1 (mCons (mCall F_take 2 (mCons (mVar 0) (mCons (mC (.int 13)) mNil))) mNil)) (gN 6) mYes (mCall F_take 2 (mCons (mVar 0) (mCons (mC (.int 2)) mNil))) [6])) (gN 1))
  (mSeq (mAsg (mBin addD (mN (one lenD) (mCons (mVar 1) mNil)) (mBin ixD (mTup (mCons (mC (.int 0)) (mCons (mC (.int 1)) (mCons (mCall F_take 2 (mCons (mVar 0) (mCons (mC (.int 1000)) mNil))) (mCons (mBin powD (mC (.int 10)) (mC (.int 40))) mNil))))) (mCall F_take 2 (mCons (mVar 0) (mCons (mC (.int 4)) mNil))))) (gN 2))
  (mSeq (mAsg (mOwn (mNL listL (mCons (mVar 1) mNil))) (gN 3))
  (mSeq (mAsg (mMkZ c.script F_Script 3 (mCons (mVar 2) (mCons (mVar 3) mNil))) (gN 4))
  (mSeq (mExpr (mMut apD (mVar 3) (mCons (mC (.int 1)) mNil)))
  (mSeq (mIfS (mOr (mNot (mT (mCall F_is_whole 1 (mCons (mFld c.script "steps" (mVar 4)) mNil)))) (mOr (mB (mBin neD (mFld c.script "steps" (mVar 4)) (mVar 2))) (mB (mBin neD (mFld c.script "bits" (mVar 4)) (mN (one tupD) (mCons (mVar 1) mNil)))))) (mRet (mC (.bl false))) mNext)
  (mSeq (mIfS (mOr (mNot (mT (mN isiD (mCons (mFld c.script "bits" (mVar 4)) (mCons (mC (.ty "tuple")) mNil))))) (mNot (mT (mN (one allD) (mCons (mFz (mLC (mIt (mFld c.script "bits" (mVar 4))) (gN 7) mYes (mCall F_is_whole 1 (mCons (mVar 7) mNil)) [7])) mNil))))) (mRet (mC (.bl false))) mNext)
  (mSeq (mIfS (mB (mBin neD (mOLen c.script F_Script_len (mCons (mVar 4) mNil)) (mN (one lenD) (mCons (mVar 1) mNil)))) (mRet (mC (.bl false))) mNext)
  (mSeq (mIfS (mOr (mB (mBin neD (mBoolO c.script F_Script_bool (mCons (mVar 4) mNil)) (mBin gtI (mVar 2) (mC (.int 0))))) (mNot (mB (mOEq c.script F_Script_eq (mVar 4) (mMkFK c.script F_Script 3 2 true (mCons (mN (one tupD) (mCons (mVar 1) mNil)) (mCons (mVar 2) mNil))))))) (mRet (mC (.bl false))) mNext)
  (mSeq (mAsg (mCall F_Script_none 1 (mCons (mC (.gl c.script)) mNil)) (gN 5))
  (mRet (mAndV (mBin eqD (mC (.int 1000)) (mC (.int 1000))) (mAndV (mBin eqD (mFld c.script "steps" (mVar 5)) (mC (.int 0))) (mAndV (mBin eqD (mFld c.script "bits" (mVar 5)) (mTup mNil)) (mAndV (mNotO c.script F_Script_bool (mVar 5)) (mBin eqD (mOLen c.script F_Script_len (mCons (mVar 5) mNil)) (mC (.int 0))))))))))))))))))
theorem f_good {c : Ad} {k k_KScript k_Script k_Script_bool k_Script_eq k_Script_len k_Script_none : Nat} {F_is_whole F_take F_Script_len F_Script_bool F_Script_none F_Script F_Script_eq : MF} (D : Def K mg "_law_good" s_good ["_law_bag_here"]) (T : Txt K mg) (XC : Fct P w K mg base c) (h_is_whole : Fn P w K mg base k "_law_is_whole" 1 F_is_whole) (h_take : Fn P w K mg base k "_law_take" 2 F_take)  (s_Script_len : Spc P w K mg base k_Script_len c.script "__len__" 1 F_Script_len) (l_Script_len : k_Script_len + 1 ≤ k) (s_Script_bool : Spc P w K mg base k_Script_bool c.script "__bool__" 1 F_Script_bool) (l_Script_bool : k_Script_bool + 2 ≤ k) (s_Script_none : CMt P w K mg base k_Script_none c.script "none" 1 F_Script_none) (l_Script_none : k_Script_none ≤ k) (mk_Script : MakK P w K mg base k_KScript "Script" c.script ["bits", "steps"] true 3 F_Script) (lk_Script : k_KScript + 1 ≤ k) (s_Script_eq : Spc P w K mg base k_Script_eq c.script "__eq__" 2 F_Script_eq) (l_Script_eq : k_Script_eq ≤ k) (m_Script : Mak' P w K mg base k_Script "Script" c.script 3 F_Script) (l_Script : k_Script + 1 ≤ k)  : Fn P w K mg base (k + 1) "_law_good" 1 (fnT true 8 (b_good c F_is_whole F_take F_Script_len F_Script_bool F_Script_none F_Script F_Script_eq)) :=
  D.mini sc_good rfl fun f cdv A outer s H E hg hr =>
    (fss_cons (fs_lcF (setLc (i := 1) (own := [("_law_turn", 6)]) rfl sc_good.nd rfl rfl (sw_true rfl rfl rfl (by decide +kernel)) (fi_range1 (by rfl) T.n_range (fa_cons (fe_call h_take (takes_of rfl rfl rfl rfl) hg hr (fa_cons (mv 0) (fa_cons fe_int fa_nil)) (hk := Nat.le_refl _)) fa_nil)) (blkOk_by (own := [("_law_turn", 6)]) (N := ["_law_bag_here", "_law_signs", "_law_count", "_law_handed", "_law_told", "_law_none", "_law_turn", "_law_one"]) (sc := defScope s_good) (by decide +kernel)) (cg_name (by decide)) (fun _ _ _ _ _ => (pg_name (i := 6) sc_good.nd rfl (by first | exact Or.inl rfl | exact Or.inr rfl))) (fun _ _ _ _ _ => fts_nil) (fun _ _ _ _ _ => (fe_call h_take takes_none5 hg hr (fa_cons (mv 0) (fa_cons fe_int fa_nil)) (hk := Nat.le_refl _)))))
      (fss_cons (fs_set (i := 2) sc_good.nd rfl (by first | exact Or.inl rfl | exact Or.inr rfl) (fe_op o_add d_add (fe_callB call_len c_len (by rfl) T.n_len (by decide +kernel) (fa_cons (mv 1) fa_nil)) (fe_ix ix_seq d_ix (fe_tup (fa_cons fe_int (fa_cons fe_int (fa_cons (fe_call h_take (takes_of rfl rfl rfl rfl) hg hr (fa_cons (mv 0) (fa_cons fe_int fa_nil)) (hk := Nat.le_refl _)) (fa_cons (fe_op op_pow d_pow fe_int fe_int) fa_nil))))) (fe_call h_take (takes_of rfl rfl rfl rfl) hg hr (fa_cons (mv 0) (fa_cons fe_int fa_nil)) (hk := Nat.le_refl _)) (fun _ _ => rfl))))
      (fss_cons (fs_set (i := 3) sc_good.nd rfl (by first | exact Or.inl rfl | exact Or.inr rfl) (fe_own (fl_callTy call_list_of cl_list (by rfl) T.n_list (by decide +kernel) (fa_cons (mv 1) fa_nil))))
      (fss_cons (fs_set (i := 4) sc_good.nd rfl (by first | exact Or.inl rfl | exact Or.inr rfl) (fe_mkZ m_Script (takes_of rfl rfl rfl rfl) hg hr (fa_cons (mv 2) (fa_cons (mv 3) fa_nil)) (hk := l_Script)))
      (fss_cons (fs_expr (fe_mut PySem.F.plainAttrs_list PySem.F.slot_list_append PySem.F.type_list_append mt_append m_append (mv 3) (fa_cons fe_int fa_nil)))
      (fss_cons (fs_if (PW.pt (fw_or (ft_not (ft_truth (fe_call h_is_whole (takes_of rfl rfl rfl rfl) hg hr (fa_cons (fe_fld XC.cl_Script XC.no_Script_steps (mv 4)) fa_nil) (hk := Nat.le_refl _)))) (fw_or (ft_cmp (o_ne hr.units) d_ne (fe_fld XC.cl_Script XC.no_Script_steps (mv 4)) (mv 2) (nomark _)) (fw_or1 (ft_cmp (o_ne hr.units) d_ne (fe_fld XC.cl_Script XC.no_Script_bits (mv 4)) (fe_callTy call_tuple_of c_tuple (by rfl) T.n_tuple (by decide +kernel) (fa_cons (mv 1) fa_nil)) (nomark _)))))) (fss_one (fs_ret fe_bl)) fss_nil)
      (fss_cons (fs_if (PW.pt (fw_or (ft_not (ft_truth (fe_callB call_isi c_isi (by rfl) T.n_isinstance (by decide +kernel) (fa_cons (fe_fld XC.cl_Script XC.no_Script_bits (mv 4)) (fa_cons (fe_ty T.n_tuple (by decide +kernel)) fa_nil))))) (fw_or1 (ft_not (ft_truth (fe_callB (cr_all rfl) c_all (by rfl) T.n_all (by decide +kernel) (fa_cons (fe_fz (fl_lc (own := [("_law_one", 7)]) rfl sc_good.nd (fi_val (fe_fld XC.cl_Script XC.no_Script_bits (mv 4))) (blkOk_by (own := [("_law_one", 7)]) (N := ["_law_bag_here", "_law_signs", "_law_count", "_law_handed", "_law_told", "_law_none", "_law_turn", "_law_one"]) (sc := defScope s_good) (by decide +kernel)) (cg_name (by decide)) (fun _ _ _ _ _ => (pg_name (i := 7) sc_good.nd rfl (by first | exact Or.inl rfl | exact Or.inr rfl))) (fun _ _ _ _ _ => fts_nil) (fun _ _ _ _ _ => (fe_call h_is_whole takes_none5 hg hr (fa_cons (mv 7) fa_nil) (hk := Nat.le_refl _))))) fa_nil))))))) (fss_one (fs_ret fe_bl)) fss_nil)
      (fss_cons (fs_if (ft_cmp (o_ne hr.units) d_ne (fe_olen s_Script_len (takes_of rfl rfl rfl rfl) hg hr T.n_len (fa_cons (mv 4) fa_nil) (hk := l_Script_len)) (fe_callB call_len c_len (by rfl) T.n_len (by decide +kernel) (fa_cons (mv 1) fa_nil)) (nomark _)) (fss_one (fs_ret fe_bl)) fss_nil)
      (fss_cons (fs_if (PW.pt (fw_or (ft_cmp (o_ne hr.units) d_ne (fe_boolO s_Script_bool (takes_of rfl rfl rfl rfl) hg hr T.n_bool (fa_cons (mv 4) fa_nil) (hk := l_Script_bool)) (fe_cmp op_gt d_gt (mv 2) fe_int (nomark _)) (nomark _)) (fw_or1 (ft_not (ft_oeq s_Script_eq (takes_of rfl rfl rfl rfl) hg hr (mv 4) (fe_mkFK mk_Script (takes_of rfl rfl rfl rfl) hg hr (fk_cons (fe_callTy call_tuple_of c_tuple (by rfl) T.n_tuple (by decide +kernel) (fa_cons (mv 1) fa_nil)) (fk_cons (mv 2) fk_nil)) (hk := lk_Script)) (hk := l_Script_eq)))))) (fss_one (fs_ret fe_bl)) fss_nil)
      (fss_cons (fs_set (i := 5) sc_good.nd rfl (by first | exact Or.inl rfl | exact Or.inr rfl) (fe_cmeth0 s_Script_none XC.g_Script (takes_of rfl rfl rfl rfl) hg hr (hk := l_Script_none)))
      (fss_one (fs_ret (fe_and (fe_cmp (o_eq hr.units) d_eq (fe_cint XC.g_Script XC.rd_Script XC.cv_Script_MOST) fe_int (nomark _)) (fe_and (fe_cmp (o_eq hr.units) d_eq (fe_fld XC.cl_Script XC.no_Script_steps (mv 5)) fe_int (nomark _)) (fe_and (fe_cmp (o_eq hr.units) d_eq (fe_fld XC.cl_Script XC.no_Script_bits (mv 5)) (fe_tup fa_nil) (nomark _)) (fe_and (fe_notO s_Script_bool (takes_of rfl rfl rfl rfl) hg hr (mv 5) (hk := Nat.le_trans (by omega) l_Script_bool)) (fe_one (fe_cmp (o_eq hr.units) d_eq (fe_olen s_Script_len (takes_of rfl rfl rfl rfl) hg hr T.n_len (fa_cons (mv 5) fa_nil) (hk := l_Script_len)) fe_int (nomark _)))))))))))))))))))
noncomputable def b_wrong (F_take : MF) : MS :=
  (mSeq (mAsg (mFz (mLC (mItA rng1 (mCons (mCall F_take 2 (mCons (mVar 0) (mCons (mC (.int 9)) mNil))) mNil)) (gN 8) mYes (mCall F_take 2 (mCons (mVar 0) (mCons (mC (.int 2)) mNil))) [8])) (gN 1))
  (mSeq (mPar2 2 3 (mCons (mCall F_take 2 (mCons (mVar 0) (mCons (mBin addD (mN (one lenD) (mCons (mVar 1) mNil)) (mC (.int 1))) mNil))) (mCons (mCall F_take 2 (mCons (mVar 0) (mCons (mC (.int 3)) mNil))) mNil)))
  (mSeq (mIfS (mB (mBin eqD (mVar 3) (mC (.int 0)))) (mSeq (mAsg (mBin ixD (mTup (mCons (mUn negD (mC (.int 1))) (mCons (mUn negD (mBin powD (mC (.int 10)) (mC (.int 40)))) (mCons (mC (.bl true)) (mCons (mC (.bl false)) (mCons (mC .non) (mCons (mC (.str ("9" : Str))) (mCons (mTup (mCons (mC (.int 9)) mNil)) (mCons (mFz (mLst mNil)) mNil))))))))) (mCall F_take 2 (mCons (mVar 0) (mCons (mC (.int 8)) mNil)))) (gN 4))
  (mRet (mTup (mCons (mVar 4) (mCons (mBin ixD (mTup (mCons (mFz (mLst mNil)) (mCons (mVar 1) mNil))) (mCall F_take 2 (mCons (mVar 0) (mCons (mC (.int 2)) mNil)))) mNil))))) mNext)
  (mSeq (mIfS (mB (mBin eqD (mVar 3) (mC (.int 1)))) (mSeq (mAsg (mBin addD (mBin addD (mSlice (mVar 1) pNone (pSome (mVar 2))) (mFz (mLst (mCons (mC (.int 1)) mNil)))) (mSlice (mVar 1) (pSome (mVar 2)) pNone)) (gN 5))
  (mRet (mTup (mCons (mN (one lenD) (mCons (mVar 1) mNil)) (mCons (mBin ixD (mTup (mCons (mVar 5) (mCons (mN (one tupD) (mCons (mVar 5) mNil)) mNil))) (mCall F_take 2 (mCons (mVar 0) (mCons (mC (.int 2)) mNil)))) mNil))))) mNext)
  (mSeq (mAsg (mBin ixD (mTup (mCons (mC (.int 2)) (mCons (mUn negD (mC (.int 1))) (mCons (mC (.bl true)) (mCons (mC (.bl false)) (mCons (mC .non) (mCons (mC (.str ("1" : Str))) (mCons (mTup (mCons (mC (.int 1)) mNil)) (mCons (mBin powD (mC (.int 10)) (mC (.int 40))) mNil))))))))) (mCall F_take 2 (mCons (mVar 0) (mCons (mC (.int 8)) mNil)))) (gN 6))
  (mSeq (mAsg (mBin addD (mBin addD (mSlice (mVar 1) pNone (pSome (mVar 2))) (mFz (mLst (mCons (mVar 6) mNil)))) (mSlice (mVar 1) (pSome (mVar 2)) pNone)) (gN 7))
  (mSeq (mAsg (mBin addD (mN (one lenD) (mCons (mVar 7) mNil)) (mCall F_take 2 (mCons (mVar 0) (mCons (mC (.int 3)) mNil)))) (gN 4))
  (mRet (mTup (mCons (mVar 4) (mCons (mBin ixD (mTup (mCons (mVar 7) (mCons (mN (one tupD) (mCons (mVar 7) mNil)) (mCons (mC .non) (mCons (mC (.str ("10" : Str))) (mCons (mC (.dK [])) (mCons (mC (.int 1)) mNil))))))) (mCall F_take 2 (mCons (mVar 0) (mCons (mC (.int 6)) mNil)))) mNil)))))))))))
theorem f_wrong {k : Nat} {F_take : MF} (D : Def K mg "_law_wrong" s_wrong ["_law_bag_here"]) (T : Txt K mg) (h_take : Fn P w K mg base k "_law_take" 2 F_take)    : Fn P w K mg base (k + 1) "_law_wrong" 1 (fnT true 9 (b_wrong  F_take)) :=
  D.mini sc_wrong rfl fun f cdv A outer s H E hg hr =>
    (fss_cons (fs_lcF (setLc (i := 1) (own := [("_law_turn", 8)]) rfl sc_wrong.nd rfl rfl (sw_true rfl rfl rfl (by decide +kernel)) (fi_range1 (by rfl) T.n_range (fa_cons (fe_call h_take (takes_of rfl rfl rfl rfl) hg hr (fa_cons (mv 0) (fa_cons fe_int fa_nil)) (hk := Nat.le_refl _)) fa_nil)) (blkOk_by (own := [("_law_turn", 8)]) (N := ["_law_bag_here", "_law_signs", "_law_at", "_law_road", "_law_count", "_law_longer", "_law_odd", "_law_spoilt", "_law_turn"]) (sc := defScope s_wrong) (by decide +kernel)) (cg_name (by decide)) (fun _ _ _ _ _ => (pg_name (i := 8) sc_wrong.nd rfl (by first | exact Or.inl rfl | exact Or.inr rfl))) (fun _ _ _ _ _ => fts_nil) (fun _ _ _ _ _ => (fe_call h_take takes_none5 hg hr (fa_cons (mv 0) (fa_cons fe_int fa_nil)) (hk := Nat.le_refl _)))))
      (fss_cons (fs_par (i := 2) (j := 3) rfl sc_wrong.nd rfl rfl (by decide) rfl rfl (fa_cons (fe_call h_take (takes_of rfl rfl rfl rfl) hg hr (fa_cons (mv 0) (fa_cons (fe_op o_add d_add (fe_callB call_len c_len (by rfl) T.n_len (by decide +kernel) (fa_cons (mv 1) fa_nil)) fe_int) fa_nil)) (hk := Nat.le_refl _)) (fa_cons (fe_call h_take (takes_of rfl rfl rfl rfl) hg hr (fa_cons (mv 0) (fa_cons fe_int fa_nil)) (hk := Nat.le_refl _)) fa_nil)) (by rfl))
      (fss_cons (fs_if (ft_cmp (o_eq hr.units) d_eq (mv 3) fe_int (nomark _)) (fss_cons (fs_set (i := 4) sc_wrong.nd rfl (by first | exact Or.inl rfl | exact Or.inr rfl) (fe_ix ix_seq d_ix (fe_tup (fa_cons (fe_un un_neg u_neg fe_int) (fa_cons (fe_un un_neg u_neg (fe_op op_pow d_pow fe_int fe_int)) (fa_cons fe_bl (fa_cons fe_bl (fa_cons fe_non (fa_cons fe_str (fa_cons (fe_tup (fa_cons fe_int fa_nil)) (fa_cons (fe_fz (fl_lst fa_nil)) fa_nil))))))))) (fe_call h_take (takes_of rfl rfl rfl rfl) hg hr (fa_cons (mv 0) (fa_cons fe_int fa_nil)) (hk := Nat.le_refl _)) (fun _ _ => rfl)))
      (fss_one (fs_ret (fe_tup (fa_cons (mv 4) (fa_cons (fe_ix ix_seq d_ix (fe_tup (fa_cons (fe_fz (fl_lst fa_nil)) (fa_cons (mv 1) fa_nil))) (fe_call h_take (takes_of rfl rfl rfl rfl) hg hr (fa_cons (mv 0) (fa_cons fe_int fa_nil)) (hk := Nat.le_refl _)) (fun _ _ => rfl)) fa_nil)))))) fss_nil)
      (fss_cons (fs_if (ft_cmp (o_eq hr.units) d_eq (mv 3) fe_int (nomark _)) (fss_cons (fs_set (i := 5) sc_wrong.nd rfl (by first | exact Or.inl rfl | exact Or.inr rfl) (fe_op o_add d_add (fe_op o_add d_add (fe_slice (mv 1) fp_none (fp_some (mv 2))) (fe_fz (fl_lst (fa_cons fe_int fa_nil)))) (fe_slice (mv 1) (fp_some (mv 2)) fp_none)))
      (fss_one (fs_ret (fe_tup (fa_cons (fe_callB call_len c_len (by rfl) T.n_len (by decide +kernel) (fa_cons (mv 1) fa_nil)) (fa_cons (fe_ix ix_seq d_ix (fe_tup (fa_cons (mv 5) (fa_cons (fe_callTy call_tuple_of c_tuple (by rfl) T.n_tuple (by decide +kernel) (fa_cons (mv 5) fa_nil)) fa_nil))) (fe_call h_take (takes_of rfl rfl rfl rfl) hg hr (fa_cons (mv 0) (fa_cons fe_int fa_nil)) (hk := Nat.le_refl _)) (fun _ _ => rfl)) fa_nil)))))) fss_nil)
      (fss_cons (fs_set (i := 6) sc_wrong.nd rfl (by first | exact Or.inl rfl | exact Or.inr rfl) (fe_ix ix_seq d_ix (fe_tup (fa_cons fe_int (fa_cons (fe_un un_neg u_neg fe_int) (fa_cons fe_bl (fa_cons fe_bl (fa_cons fe_non (fa_cons fe_str (fa_cons (fe_tup (fa_cons fe_int fa_nil)) (fa_cons (fe_op op_pow d_pow fe_int fe_int) fa_nil))))))))) (fe_call h_take (takes_of rfl rfl rfl rfl) hg hr (fa_cons (mv 0) (fa_cons fe_int fa_nil)) (hk := Nat.le_refl _)) (fun _ _ => rfl)))
      (fss_cons (fs_set (i := 7) sc_wrong.nd rfl (by first | exact Or.inl rfl | exact Or.inr rfl) (fe_op o_add d_add (fe_op o_add d_add (fe_slice (mv 1) fp_none (fp_some (mv 2))) (fe_fz (fl_lst (fa_cons (mv 6) fa_nil)))) (fe_slice (mv 1) (fp_some (mv 2)) fp_none)))
      (fss_cons (fs_set (i := 4) sc_wrong.nd rfl (by first | exact Or.inl rfl | exact Or.inr rfl) (fe_op o_add d_add (fe_callB call_len c_len (by rfl) T.n_len (by decide +kernel) (fa_cons (mv 7) fa_nil)) (fe_call h_take (takes_of rfl rfl rfl rfl) hg hr (fa_cons (mv 0) (fa_cons fe_int fa_nil)) (hk := Nat.le_refl _))))
      (fss_one (fs_ret (fe_tup (fa_cons (mv 4) (fa_cons (fe_ix ix_seq d_ix (fe_tup (fa_cons (mv 7) (fa_cons (fe_callTy call_tuple_of c_tuple (by rfl) T.n_tuple (by decide +kernel) (fa_cons (mv 7) fa_nil)) (fa_cons fe_non (fa_cons fe_str (fa_cons fe_dnew (fa_cons fe_int fa_nil))))))) (fe_call h_take (takes_of rfl rfl rfl rfl) hg hr (fa_cons (mv 0) (fa_cons fe_int fa_nil)) (hk := Nat.le_refl _)) (fun _ _ => rfl)) fa_nil))))))))))))
noncomputable def b_refused (c : Ad) (F_Script : MF) : MS :=
  (mSeq (mTry2 (mExpr (mMkF c.script F_Script 3 (mCons (mVar 0) (mCons (mVar 1) mNil)))) (⟨[c.scr], [], some 2, fun C a d => (mSeq (mIfS (mOr (mNot (mT (mN (isEG a d c.scr (decide (C = c.scr))) (mCons (mVar 2) (mCons (mC (.gl c.scr)) mNil))))) (mOr (mT (mN (isEG a d c.ans (decide (C = c.ans))) (mCons (mVar 2) (mCons (mC (.gl c.ans)) mNil)))) (mNot (mT (mN (isET a d "ValueError" true) (mCons (mVar 2) (mCons (mC (.ty "ValueError")) mNil))))))) (mRet (mC (.bl false))) mNext)
  (mRet (mBin eqD (mN reprX (mCons (mTup (mCons (mXf a d "steps" (mVar 2)) (mCons (mXf a d "bits" (mVar 2)) mNil))) mNil)) (mN reprX (mCons (mTup (mCons (mVar 0) (mCons (mVar 1) mNil))) mNil)))))⟩ :: []))
  (mRet (mC (.bl false))))
theorem f_refused {c : Ad} {k k_Script : Nat} {F_Script : MF} (D : Def K mg "_law_refused" s_refused ["_law_count", "_law_signs"]) (T : Txt K mg) (XC : Fct P w K mg base c)   (m_Script : Mak' P w K mg base k_Script "Script" c.script 3 F_Script) (l_Script : k_Script + 1 ≤ k)  : Fn P w K mg base (k + 1) "_law_refused" 2 (fnT true 3 (b_refused c F_Script)) :=
  D.mini sc_refused rfl fun f cdv A outer s H E hg hr =>
    (fss_cons (fs_try2 rfl rfl sc_refused.nd (takes_of rfl rfl rfl rfl) (fun W' pn xe tk' pw' => (fss_one (fs_expr (fe_mkF m_Script tk' hg hr (fa_cons (mv 0) (fa_cons (mv 1) fa_nil)) (hk := l_Script)))))
      (HMs2.named (i := 2) (yes := [c.scr]) (no := []) (h := fun C a d => (mSeq (mIfS (mOr (mNot (mT (mN (isEG a d c.scr (decide (C = c.scr))) (mCons (mVar 2) (mCons (mC (.gl c.scr)) mNil))))) (mOr (mT (mN (isEG a d c.ans (decide (C = c.ans))) (mCons (mVar 2) (mCons (mC (.gl c.ans)) mNil)))) (mNot (mT (mN (isET a d "ValueError" true) (mCons (mVar 2) (mCons (mC (.ty "ValueError")) mNil))))))) (mRet (mC (.bl false))) mNext)
  (mRet (mBin eqD (mN reprX (mCons (mTup (mCons (mXf a d "steps" (mVar 2)) (mCons (mXf a d "bits" (mVar 2)) mNil))) mNil)) (mN reprX (mCons (mTup (mCons (mVar 0) (mCons (mVar 1) mNil))) mNil)))))) (⟨by rfl, by decide, .inl XC.g_TablesError⟩ : Names _ _ _) rfl rfl (by
        intro C hC
        have eC := List.mem_singleton.mp hC
        subst eC
        exact XC.e_BadScript_TablesError)
      (by intro C hC; cases hC)
      (fun a oe C d pn hC hz hf => by
        have eC := List.mem_singleton.mp hC
        subst eC
        exact (fss_cons (fs_if (PW.pt (fw_or (ft_not (ft_truth (fe_callB (call_isD XC.ec_BadScript hz hf) (c_isG XC.kt_BadScript_BadScript) (by rfl) T.n_isinstance (by decide +kernel) (fa_cons (mv 2) (fa_cons (fe_gfn XC.g_BadScript) fa_nil))))) (fw_or (ft_truth (fe_callB (call_isD XC.ec_BadScript hz hf) (c_isG XC.kt_BadScript_BadAnswer) (by rfl) T.n_isinstance (by decide +kernel) (fa_cons (mv 2) (fa_cons (fe_gfn XC.g_BadAnswer) fa_nil)))) (fw_or1 (ft_not (ft_truth (fe_callB (call_isD XC.ec_BadScript hz hf) (c_isT XC.kt_BadScript_ValueError) (by rfl) T.n_isinstance (by decide +kernel) (fa_cons (mv 2) (fa_cons (fe_ty T.n_ValueError (by decide +kernel)) fa_nil))))))))) (fss_one (fs_ret fe_bl)) fss_nil)
      (fss_one (fs_ret (fe_cmp (o_eq hr.units) d_eq (fe_callB (callr_or (call_reprE hg hr.units2) (call_repr hg hr.units2)) (calld_or c_reprE c_repr) (by rfl) T.n_repr (by decide +kernel) (fa_cons (fe_tup (fa_cons (fe_xf XC.xf_BadScript XC.xn_BadScript_steps hz hf (mv 2)) (fa_cons (fe_xf XC.xf_BadScript XC.xn_BadScript_bits hz hf (mv 2)) fa_nil))) fa_nil)) (fe_callB (callr_or (call_reprE hg hr.units2) (call_repr hg hr.units2)) (calld_or c_reprE c_repr) (by rfl) T.n_repr (by decide +kernel) (fa_cons (fe_tup (fa_cons (mv 0) (fa_cons (mv 1) fa_nil))) fa_nil)) (nomark _))))))
      HMs2.nil))
      (fss_one (fs_ret fe_bl)))
noncomputable def b_law (F_refused F_wrong F_good F_bag : MF) : MS :=
  (mSeq (mFor (mItA rng1 (mCons (mN max2 (mCons (mC (.int 1)) (mCons (mN min2 (mCons (mC (.int 6)) (mCons (mN (one lenD) (mCons (mVar 0) mNil)) mNil))) mNil))) mNil)) (gN 1) (mSeq (mAsg (mCall F_bag 2 (mCons (mVar 0) (mCons (mVar 1) mNil))) (gN 2))
  (mSeq (mIfS (mNot (mT (mCall F_good 1 (mCons (mVar 2) mNil)))) (mRet (mC (.bl false))) mNext)
  (mSeq (mAsg (mCall F_wrong 1 (mCons (mVar 2) mNil)) (gT 2 (gC (gN 3) (gC (gN 4) gE))))
  (mIfS (mNot (mT (mCall F_refused 2 (mCons (mVar 3) (mCons (mVar 4) mNil))))) (mRet (mC (.bl false))) mNext)))))
  (mRet (mC (.bl true))))
theorem f_law {k : Nat} {F_refused F_wrong F_good F_bag : MF} (D : Def K mg "law" s_law ["_law_script"]) (T : Txt K mg) (h_refused : Fn P w K mg base k "_law_refused" 2 F_refused) (h_wrong : Fn P w K mg base k "_law_wrong" 1 F_wrong) (h_good : Fn P w K mg base k "_law_good" 1 F_good) (h_bag : Fn P w K mg base k "_law_bag" 2 F_bag)    : Fn P w K mg base (k + 1) "law" 1 (fnT true 5 (b_law  F_refused F_wrong F_good F_bag)) :=
  D.mini sc_law rfl fun f cdv A outer s H E hg hr =>
    (fss_cons (fs_for (passes_of rfl) rfl (fi_range1 (by rfl) T.n_range (fa_cons (fe_callB (call_max2 rfl) c_max2 (by rfl) T.n_max (by decide +kernel) (fa_cons fe_int (fa_cons (fe_callB (call_min2 rfl) c_min2 (by rfl) T.n_min (by decide +kernel) (fa_cons fe_int (fa_cons (fe_callB call_len c_len (by rfl) T.n_len (by decide +kernel) (fa_cons (mv 0) fa_nil)) fa_nil))) fa_nil))) fa_nil)) (fg_name (i := 1) sc_law.nd rfl (by first | exact Or.inl rfl | exact Or.inr rfl)) (fss_cons (fs_set (i := 2) sc_law.nd rfl (by first | exact Or.inl rfl | exact Or.inr rfl) (fe_call h_bag (takes_of rfl rfl rfl rfl) hg hr (fa_cons (mv 0) (fa_cons (mv 1) fa_nil)) (hk := Nat.le_refl _)))
      (fss_cons (fs_if (ft_not (ft_truth (fe_call h_good (takes_of rfl rfl rfl rfl) hg hr (fa_cons (mv 2) fa_nil) (hk := Nat.le_refl _)))) (fss_one (fs_ret fe_bl)) fss_nil)
      (fss_cons (fs_asg (fe_call h_wrong (takes_of rfl rfl rfl rfl) hg hr (fa_cons (mv 2) fa_nil) (hk := Nat.le_refl _)) (fg_tup rfl (fgs_cons (fg_name (i := 3) sc_law.nd rfl (by first | exact Or.inl rfl | exact Or.inr rfl)) (fgs_cons (fg_name (i := 4) sc_law.nd rfl (by first | exact Or.inl rfl | exact Or.inr rfl)) fgs_nil))))
      (fss_one (fs_if (ft_not (ft_truth (fe_call h_refused (takes_of rfl rfl rfl rfl) hg hr (fa_cons (mv 3) (fa_cons (mv 4) fa_nil)) (hk := Nat.le_refl _)))) (fss_one (fs_ret fe_bl)) fss_nil))))))
      (fss_one (fs_ret fe_bl)))
end
end TT
namespace TT
open PySem L2
section
variable [TB]
noncomputable def F_is_integer : MF := (fnT true 1 (b_is_integer))
@[irreducible] noncomputable def F_are_bits : MF := (fnT true 2 (b_are_bits  F_is_integer))
noncomputable def F_Script___init__ (c : Ad) : MF := (fnT true 3 (b_Script___init__ c F_are_bits F_is_integer))
@[irreducible] noncomputable def F_Script_none (c : Ad) : MF := (fnT true 1 (b_Script_none c (F_Script___init__ c)))
@[irreducible] noncomputable def F_Script___eq__ (c : Ad) : MF := (fnT true 2 (b_Script___eq__ c))
@[irreducible] noncomputable def F_Script___len__ (c : Ad) : MF := (fnT true 1 (b_Script___len__ c))
@[irreducible] noncomputable def F_Script___bool__ (c : Ad) : MF := (fnT true 1 (b_Script___bool__ c))
@[irreducible] noncomputable def F_bag : MF := (fnT false 4 (b_bag))
@[irreducible] noncomputable def F_take : MF := (fnT true 5 (b_take))
@[irreducible] noncomputable def F_is_whole : MF := (fnT true 1 (b_is_whole))
@[irreducible] noncomputable def F_good (c : Ad) : MF := (fnT true 8 (b_good c F_is_whole F_take (F_Script___len__ c) (F_Script___bool__ c) (F_Script_none c) (F_Script___init__ c) (F_Script___eq__ c)))
@[irreducible] noncomputable def F_wrong : MF := (fnT true 9 (b_wrong  F_take))
@[irreducible] noncomputable def F_refused (c : Ad) : MF := (fnT true 3 (b_refused c (F_Script___init__ c)))
noncomputable def F_law (c : Ad) : MF := (fnT true 5 (b_law  (F_refused c) F_wrong (F_good c) F_bag))
set_option maxHeartbeats 20000000 in
theorem all_mk {P : Program} {w : World} {K : PySem.W.Frag} {h : Heap} {mg : Str → Option Value} {fa C_TablesError C_BadAnswer C_BadScript f_iBadScript C_Script f_is_integer f_are_bits f_Script___init__ f_Script_none p_Script_none f_Script___eq__ f_Script___len__ f_Script___bool__ f_bag f_take f_is_whole f_good f_wrong f_refused f_law : Addr} (X : K.In h) (G : h.Ns mainGlobals mg) (hfa : mg "law" = some (.ref fa))
    {nm_BadScript qn_BadScript : Str} {N_BadScript : Addr} {bs_BadScript sub_BadScript : List Value} {sn_BadScript : List Str} {ab_BadScript : Bool} {co_BadScript : Option Bool} {dd_BadScript : Option Addr} {m0_BadScript m1_BadScript m2_BadScript m3_BadScript m5_BadScript : Option Value}
    {od_iBadScript an_iBadScript : Option Addr} {sl_iBadScript : Array (Option Value)} {oc_iBadScript kV_iBadScript dc_iBadScript pm_iBadScript cd_iBadScript ct_iBadScript : Value}
    {u_Script_MOST : Value}
    {od_is_integer an_is_integer : Option Addr} {sl_is_integer : Array (Option Value)} {oc_is_integer kV_is_integer dc_is_integer pm_is_integer cd_is_integer ct_is_integer : Value}
    {od_are_bits an_are_bits : Option Addr} {sl_are_bits : Array (Option Value)} {oc_are_bits kV_are_bits dc_are_bits pm_are_bits cd_are_bits ct_are_bits : Value}
    {od_Script___init__ an_Script___init__ : Option Addr} {sl_Script___init__ : Array (Option Value)} {oc_Script___init__ kV_Script___init__ dc_Script___init__ pm_Script___init__ cd_Script___init__ ct_Script___init__ : Value}
    {rc_Script_none : List Value}
    {od_Script_none an_Script_none : Option Addr} {sl_Script_none : Array (Option Value)} {oc_Script_none kV_Script_none dc_Script_none pm_Script_none cd_Script_none ct_Script_none : Value}
    {od_Script___eq__ an_Script___eq__ : Option Addr} {sl_Script___eq__ : Array (Option Value)} {oc_Script___eq__ kV_Script___eq__ dc_Script___eq__ pm_Script___eq__ cd_Script___eq__ ct_Script___eq__ : Value}
    {od_Script___len__ an_Script___len__ : Option Addr} {sl_Script___len__ : Array (Option Value)} {oc_Script___len__ kV_Script___len__ dc_Script___len__ pm_Script___len__ cd_Script___len__ ct_Script___len__ : Value}
    {od_Script___bool__ an_Script___bool__ : Option Addr} {sl_Script___bool__ : Array (Option Value)} {oc_Script___bool__ kV_Script___bool__ dc_Script___bool__ pm_Script___bool__ cd_Script___bool__ ct_Script___bool__ : Value}
    {od_bag an_bag : Option Addr} {sl_bag : Array (Option Value)} {oc_bag kV_bag dc_bag pm_bag cd_bag ct_bag : Value}
    {od_take an_take : Option Addr} {sl_take : Array (Option Value)} {oc_take kV_take dc_take pm_take cd_take ct_take : Value}
    {od_is_whole an_is_whole : Option Addr} {sl_is_whole : Array (Option Value)} {oc_is_whole kV_is_whole dc_is_whole pm_is_whole cd_is_whole ct_is_whole : Value}
    {od_good an_good : Option Addr} {sl_good : Array (Option Value)} {oc_good kV_good dc_good pm_good cd_good ct_good : Value}
    {od_wrong an_wrong : Option Addr} {sl_wrong : Array (Option Value)} {oc_wrong kV_wrong dc_wrong pm_wrong cd_wrong ct_wrong : Value}
    {od_refused an_refused : Option Addr} {sl_refused : Array (Option Value)} {oc_refused kV_refused dc_refused pm_refused cd_refused ct_refused : Value}
    {od_law an_law : Option Addr} {sl_law : Array (Option Value)} {oc_law kV_law dc_law pm_law cd_law ct_law : Value}
    (aC_TablesError : PySem.W.nsIn K mainGlobals "TablesError" = some (some (.ref C_TablesError)))
    (aC_BadAnswer : PySem.W.nsIn K mainGlobals "BadAnswer" = some (some (.ref C_BadAnswer)))
    (aC_BadScript : PySem.W.nsIn K mainGlobals "BadScript" = some (some (.ref C_BadScript)))
    (xL_BadScript : K.lookup C_BadScript = some (excClassObj nm_BadScript qn_BadScript C_BadScript N_BadScript bs_BadScript [.ref C_TablesError, .type "ValueError", .type "Exception", .type "BaseException", .type "object"] true sn_BadScript sub_BadScript ab_BadScript co_BadScript dd_BadScript m0_BadScript m1_BadScript m2_BadScript m3_BadScript m5_BadScript "ValueError.__new__"))
    (sa_BadScript : PySem.W.findIn K (.ref C_BadScript) "__setattr__" = some (some (.builtin "object.__setattr__")))
    (ec_BadScript : PySem.W.subIn K (.ref C_BadScript) (.type "BaseException") = some true)
    (tc_BadScript : PySem.W.typeIn K (.ref C_BadScript) = some (.type "type"))
    (kc_BadScript : PySem.W.keepIn K (.ref C_BadScript) = true)
    (xf_BadScript : xfB K C_BadScript = true)
    (xn_BadScript_steps : PySem.W.findIn K (.ref C_BadScript) "steps" = some none)
    (xn_BadScript_bits : PySem.W.findIn K (.ref C_BadScript) "bits" = some none)
    (a_iBadScript : PySem.W.findIn K (.ref C_BadScript) "__init__" = some (some (.ref f_iBadScript)))
    (t_iBadScript : PySem.W.typeIn K (.ref f_iBadScript) = some (.type "function"))
    (l_iBadScript : K.lookup f_iBadScript = some ⟨oc_iBadScript, od_iBadScript, .func (PySem.W.fnOf "__init__" "BadScript.__init__" (defArgs s_BadScript___init__) (defBody s_BadScript___init__) (defScope s_BadScript___init__) .none kV_iBadScript dc_iBadScript pm_iBadScript an_iBadScript cd_iBadScript ct_iBadScript), sl_iBadScript⟩)
    (hc_iBadScript : PySem.W.codeIn K cd_iBadScript "BadScript.__init__" = true)
    (k_iBadScript : PySem.W.keepIn K (.ref f_iBadScript) = true)
    (eb_BadScript : excB K C_BadScript = true)
    (e_BadScript_TablesError : PySem.W.exmOne K (.ref C_BadScript) (.ref C_TablesError) = some true)
    (kt_BadScript_BadScript : PySem.W.kitOne K (.ref C_BadScript) (.ref C_BadScript) = some (decide (C_BadScript = C_BadScript)))
    (kt_BadScript_BadAnswer : PySem.W.kitOne K (.ref C_BadScript) (.ref C_BadAnswer) = some (decide (C_BadScript = C_BadAnswer)))
    (kt_BadScript_ValueError : PySem.W.kitOne K (.ref C_BadScript) (.type "ValueError") = some true)
    (aC_Script : PySem.W.nsIn K mainGlobals "Script" = some (some (.ref C_Script)))
    (pg_Script : PySem.W.plainGet K C_Script Str.empty = true)
    (hd_Script : PySem.W.hasDictIn K C_Script = true)
    (po_Script : PySem.W.plainOver K C_Script = true)
    (sa_Script : PySem.W.findIn K (.ref C_Script) "__setattr__" = some (some (.builtin "object.__setattr__")))
    (mk_Script : PySem.W.makesIn K C_Script = true)
    (kc_Script : PySem.W.keepIn K (.ref C_Script) = true)
    (no_Script_steps : PySem.W.findIn K (.ref C_Script) "steps" = some none)
    (no_Script_bits : PySem.W.findIn K (.ref C_Script) "bits" = some none)
    (rd_Script : PySem.W.readsIn K C_Script (.type "type") = true)
    (ga_Script : PySem.W.specialIn K (.ref C_Script) "__getattribute__" = some (some (.builtin "type.__getattribute__")))
    (cv_Script_MOST : PySem.W.findCls K (.ref C_Script) (.type "type") "MOST" = some (.val u_Script_MOST))
    (rv_Script_MOST : RelV (.int 1000) u_Script_MOST)
    (is1_Script : PySem.W.findIn K (.ref C_Script) "__class__" = some (some (.builtin "object.__class__")))
    (is2_Script : PySem.W.specialIn K (.builtin "object.__class__") "__get__" = some (some (.builtin "getset_descriptor.__get__")))
    (is3_Script : PySem.W.takesIn K (.builtin "object.__class__") = some true)
    (is4_Script : PySem.W.mroIn K C_Script (.type "object") = some true)
    (is5_Script : PySem.W.kitOne K (.ref C_Script) (.ref C_Script) = some true)
    (a_is_integer : PySem.W.nsIn K mainGlobals "is_integer" = some (some (.ref f_is_integer)))
    (l_is_integer : K.lookup f_is_integer = some ⟨oc_is_integer, od_is_integer, .func (PySem.W.fnOf "is_integer" "is_integer" (defArgs s_is_integer) (defBody s_is_integer) (defScope s_is_integer) .none kV_is_integer dc_is_integer pm_is_integer an_is_integer cd_is_integer ct_is_integer), sl_is_integer⟩)
    (hc_is_integer : PySem.W.codeIn K cd_is_integer "is_integer" = true)
    (k_is_integer : PySem.W.keepIn K (.ref f_is_integer) = true)
    (a_are_bits : PySem.W.nsIn K mainGlobals "are_bits" = some (some (.ref f_are_bits)))
    (l_are_bits : K.lookup f_are_bits = some ⟨oc_are_bits, od_are_bits, .func (PySem.W.fnOf "are_bits" "are_bits" (defArgs s_are_bits) (defBody s_are_bits) (defScope s_are_bits) .none kV_are_bits dc_are_bits pm_are_bits an_are_bits cd_are_bits ct_are_bits), sl_are_bits⟩)
    (hc_are_bits : PySem.W.codeIn K cd_are_bits "are_bits" = true)
    (k_are_bits : PySem.W.keepIn K (.ref f_are_bits) = true)
    (a_Script___init__ : PySem.W.findIn K (.ref C_Script) "__init__" = some (some (.ref f_Script___init__)))
    (l_Script___init__ : K.lookup f_Script___init__ = some ⟨oc_Script___init__, od_Script___init__, .func (PySem.W.fnOf "__init__" "Script.__init__" (defArgs s_Script___init__) (defBody s_Script___init__) (defScope s_Script___init__) .none kV_Script___init__ dc_Script___init__ pm_Script___init__ an_Script___init__ cd_Script___init__ ct_Script___init__), sl_Script___init__⟩)
    (hc_Script___init__ : PySem.W.codeIn K cd_Script___init__ "Script.__init__" = true)
    (k_Script___init__ : PySem.W.keepIn K (.ref f_Script___init__) = true)
    (i_Script___init__ : PySem.W.isFn K (.ref f_Script___init__) = true)
    (m_Script_none : PySem.W.findCls K (.ref C_Script) (.type "type") "none" = some (.get (.builtin "classmethod.__get__") (.ref p_Script_none) .none (.ref C_Script)))
    (r_Script_none : PySem.W.recIn K p_Script_none "classmethod" = some (.ref f_Script_none :: rc_Script_none))
    (l_Script_none : K.lookup f_Script_none = some ⟨oc_Script_none, od_Script_none, .func (PySem.W.fnOf "none" "Script.none" (defArgs s_Script_none) (defBody s_Script_none) (defScope s_Script_none) .none kV_Script_none dc_Script_none pm_Script_none an_Script_none cd_Script_none ct_Script_none), sl_Script_none⟩)
    (hc_Script_none : PySem.W.codeIn K cd_Script_none "Script.none" = true)
    (k_Script_none : PySem.W.keepIn K (.ref f_Script_none) = true)
    (n_Script_none : PySem.W.fnIn K f_Script_none = true)
    (a_Script___eq__ : PySem.W.findIn K (.ref C_Script) "__eq__" = some (some (.ref f_Script___eq__)))
    (l_Script___eq__ : K.lookup f_Script___eq__ = some ⟨oc_Script___eq__, od_Script___eq__, .func (PySem.W.fnOf "__eq__" "Script.__eq__" (defArgs s_Script___eq__) (defBody s_Script___eq__) (defScope s_Script___eq__) .none kV_Script___eq__ dc_Script___eq__ pm_Script___eq__ an_Script___eq__ cd_Script___eq__ ct_Script___eq__), sl_Script___eq__⟩)
    (hc_Script___eq__ : PySem.W.codeIn K cd_Script___eq__ "Script.__eq__" = true)
    (k_Script___eq__ : PySem.W.keepIn K (.ref f_Script___eq__) = true)
    (i_Script___eq__ : PySem.W.isFn K (.ref f_Script___eq__) = true)
    (n_Script___eq__ : PySem.W.fnIn K f_Script___eq__ = true)
    (a_Script___len__ : PySem.W.findIn K (.ref C_Script) "__len__" = some (some (.ref f_Script___len__)))
    (l_Script___len__ : K.lookup f_Script___len__ = some ⟨oc_Script___len__, od_Script___len__, .func (PySem.W.fnOf "__len__" "Script.__len__" (defArgs s_Script___len__) (defBody s_Script___len__) (defScope s_Script___len__) .none kV_Script___len__ dc_Script___len__ pm_Script___len__ an_Script___len__ cd_Script___len__ ct_Script___len__), sl_Script___len__⟩)
    (hc_Script___len__ : PySem.W.codeIn K cd_Script___len__ "Script.__len__" = true)
    (k_Script___len__ : PySem.W.keepIn K (.ref f_Script___len__) = true)
    (i_Script___len__ : PySem.W.isFn K (.ref f_Script___len__) = true)
    (n_Script___len__ : PySem.W.fnIn K f_Script___len__ = true)
    (a_Script___bool__ : PySem.W.findIn K (.ref C_Script) "__bool__" = some (some (.ref f_Script___bool__)))
    (l_Script___bool__ : K.lookup f_Script___bool__ = some ⟨oc_Script___bool__, od_Script___bool__, .func (PySem.W.fnOf "__bool__" "Script.__bool__" (defArgs s_Script___bool__) (defBody s_Script___bool__) (defScope s_Script___bool__) .none kV_Script___bool__ dc_Script___bool__ pm_Script___bool__ an_Script___bool__ cd_Script___bool__ ct_Script___bool__), sl_Script___bool__⟩)
    (hc_Script___bool__ : PySem.W.codeIn K cd_Script___bool__ "Script.__bool__" = true)
    (k_Script___bool__ : PySem.W.keepIn K (.ref f_Script___bool__) = true)
    (i_Script___bool__ : PySem.W.isFn K (.ref f_Script___bool__) = true)
    (n_Script___bool__ : PySem.W.fnIn K f_Script___bool__ = true)
    (a_bag : PySem.W.nsIn K mainGlobals "_law_bag" = some (some (.ref f_bag)))
    (l_bag : K.lookup f_bag = some ⟨oc_bag, od_bag, .func (PySem.W.fnOf "_law_bag" "_law_bag" (defArgs s_bag) (defBody s_bag) (defScope s_bag) .none kV_bag dc_bag pm_bag an_bag cd_bag ct_bag), sl_bag⟩)
    (hc_bag : PySem.W.codeIn K cd_bag "_law_bag" = true)
    (k_bag : PySem.W.keepIn K (.ref f_bag) = true)
    (a_take : PySem.W.nsIn K mainGlobals "_law_take" = some (some (.ref f_take)))
    (l_take : K.lookup f_take = some ⟨oc_take, od_take, .func (PySem.W.fnOf "_law_take" "_law_take" (defArgs s_take) (defBody s_take) (defScope s_take) .none kV_take dc_take pm_take an_take cd_take ct_take), sl_take⟩)
    (hc_take : PySem.W.codeIn K cd_take "_law_take" = true)
    (k_take : PySem.W.keepIn K (.ref f_take) = true)
    (a_is_whole : PySem.W.nsIn K mainGlobals "_law_is_whole" = some (some (.ref f_is_whole)))
    (l_is_whole : K.lookup f_is_whole = some ⟨oc_is_whole, od_is_whole, .func (PySem.W.fnOf "_law_is_whole" "_law_is_whole" (defArgs s_is_whole) (defBody s_is_whole) (defScope s_is_whole) .none kV_is_whole dc_is_whole pm_is_whole an_is_whole cd_is_whole ct_is_whole), sl_is_whole⟩)
    (hc_is_whole : PySem.W.codeIn K cd_is_whole "_law_is_whole" = true)
    (k_is_whole : PySem.W.keepIn K (.ref f_is_whole) = true)
    (a_good : PySem.W.nsIn K mainGlobals "_law_good" = some (some (.ref f_good)))
    (l_good : K.lookup f_good = some ⟨oc_good, od_good, .func (PySem.W.fnOf "_law_good" "_law_good" (defArgs s_good) (defBody s_good) (defScope s_good) .none kV_good dc_good pm_good an_good cd_good ct_good), sl_good⟩)
    (hc_good : PySem.W.codeIn K cd_good "_law_good" = true)
    (k_good : PySem.W.keepIn K (.ref f_good) = true)
    (a_wrong : PySem.W.nsIn K mainGlobals "_law_wrong" = some (some (.ref f_wrong)))
    (l_wrong : K.lookup f_wrong = some ⟨oc_wrong, od_wrong, .func (PySem.W.fnOf "_law_wrong" "_law_wrong" (defArgs s_wrong) (defBody s_wrong) (defScope s_wrong) .none kV_wrong dc_wrong pm_wrong an_wrong cd_wrong ct_wrong), sl_wrong⟩)
    (hc_wrong : PySem.W.codeIn K cd_wrong "_law_wrong" = true)
    (k_wrong : PySem.W.keepIn K (.ref f_wrong) = true)
    (a_refused : PySem.W.nsIn K mainGlobals "_law_refused" = some (some (.ref f_refused)))
    (l_refused : K.lookup f_refused = some ⟨oc_refused, od_refused, .func (PySem.W.fnOf "_law_refused" "_law_refused" (defArgs s_refused) (defBody s_refused) (defScope s_refused) .none kV_refused dc_refused pm_refused an_refused cd_refused ct_refused), sl_refused⟩)
    (hc_refused : PySem.W.codeIn K cd_refused "_law_refused" = true)
    (k_refused : PySem.W.keepIn K (.ref f_refused) = true)
    (a_law : PySem.W.nsIn K mainGlobals "law" = some (some (.ref f_law)))
    (l_law : K.lookup f_law = some ⟨oc_law, od_law, .func (PySem.W.fnOf "law" "law" (defArgs s_law) (defBody s_law) (defScope s_law) .none kV_law dc_law pm_law an_law cd_law ct_law), sl_law⟩)
    (hc_law : PySem.W.codeIn K cd_law "law" = true)
    (k_law : PySem.W.keepIn K (.ref f_law) = true)
    (z_len : PySem.W.nsIn K mainGlobals "len" = some none)
    (z_int : PySem.W.nsIn K mainGlobals "int" = some none)
    (z_abs : PySem.W.nsIn K mainGlobals "abs" = some none)
    (z_bool : PySem.W.nsIn K mainGlobals "bool" = some none)
    (z_list : PySem.W.nsIn K mainGlobals "list" = some none)
    (z_tuple : PySem.W.nsIn K mainGlobals "tuple" = some none)
    (z_range : PySem.W.nsIn K mainGlobals "range" = some none)
    (z_min : PySem.W.nsIn K mainGlobals "min" = some none)
    (z_max : PySem.W.nsIn K mainGlobals "max" = some none)
    (z_all : PySem.W.nsIn K mainGlobals "all" = some none)
    (z_isinstance : PySem.W.nsIn K mainGlobals "isinstance" = some none)
    (z_repr : PySem.W.nsIn K mainGlobals "repr" = some none)
    (z_ValueError : PySem.W.nsIn K mainGlobals "ValueError" = some none) :
    ∀ base : Heap, K.In base → base.Ns mainGlobals mg → (∀ p ∈ ([] : List (Addr × Addr)), LamX.TabB base mg p.1 p.2) → FnG P w K mg base (L2.CX P w) 8 fa (spF K 1 (F_law ⟨C_BadScript, C_BadAnswer, C_TablesError, C_Script⟩)) := by
  have TO_BadScript : OexC K C_BadScript := ⟨⟨_, _, _, _, _, _, _, _, _, _, _, _, _, _, _, xL_BadScript, (show PySem.HandSPX.refsVE [.type "ValueError", .type "Exception", .type "BaseException", .type "object"] = true by decide +kernel)⟩, sa_BadScript, ec_BadScript, tc_BadScript, kc_BadScript⟩
  have FU_BadScript := fun_mk (st := s_BadScript___init__) l_iBadScript hc_iBadScript k_iBadScript
  have cl_Script : Cls K C_Script := ⟨pg_Script, hd_Script, po_Script, sa_Script⟩
  have mgC_Script := PySem.W.mg_of X G aC_Script
  have D_is_integer : Def K mg "is_integer" s_is_integer ["thing"] := ⟨f_is_integer, _, fun_mk (st := s_is_integer) l_is_integer hc_is_integer k_is_integer, PySem.W.mg_of X G a_is_integer, (fun_mk (st := s_is_integer) l_is_integer hc_is_integer k_is_integer).binds fun _ _ _ _ _ _ us hl => match us, hl with | [_], _ => rfl⟩
  have D_are_bits : Def K mg "are_bits" s_are_bits ["things"] := ⟨f_are_bits, _, fun_mk (st := s_are_bits) l_are_bits hc_are_bits k_are_bits, PySem.W.mg_of X G a_are_bits, (fun_mk (st := s_are_bits) l_are_bits hc_are_bits k_are_bits).binds fun _ _ _ _ _ _ us hl => match us, hl with | [_], _ => rfl⟩
  have D_Script___init__ : Mdef K "__init__" "Script.__init__" s_Script___init__ ["self", "steps", "bits"] f_Script___init__ := ⟨_, fun_mk (st := s_Script___init__) l_Script___init__ hc_Script___init__ k_Script___init__, (fun_mk (st := s_Script___init__) l_Script___init__ hc_Script___init__ k_Script___init__).binds fun _ _ _ _ _ _ us hl => match us, hl with | [_, _, _], _ => rfl⟩
  have M_Script___init__ : Mk K C_Script f_Script___init__ := ⟨mk_Script, a_Script___init__, i_Script___init__, kc_Script⟩
  have DK_Script___init__ : MdefK K "__init__" "Script.__init__" s_Script___init__ ["self", "steps", "bits"] ["bits", "steps"] true f_Script___init__ := ⟨_, fun_mk (st := s_Script___init__) l_Script___init__ hc_Script___init__ k_Script___init__, fun u ws hl => match ws, hl with | [_, _], _ => rfl⟩
  have D_Script_none : Mdef K "none" "Script.none" s_Script_none ["cls"] f_Script_none := ⟨_, fun_mk (st := s_Script_none) l_Script_none hc_Script_none k_Script_none, (fun_mk (st := s_Script_none) l_Script_none hc_Script_none k_Script_none).binds fun _ _ _ _ _ _ us hl => match us, hl with | [_], _ => rfl⟩
  have D_Script___eq__ : Mdef K "__eq__" "Script.__eq__" s_Script___eq__ ["self", "other"] f_Script___eq__ := ⟨_, fun_mk (st := s_Script___eq__) l_Script___eq__ hc_Script___eq__ k_Script___eq__, (fun_mk (st := s_Script___eq__) l_Script___eq__ hc_Script___eq__ k_Script___eq__).binds fun _ _ _ _ _ _ us hl => match us, hl with | [_, _], _ => rfl⟩
  have M_Script___eq__ : Meth K C_Script "__eq__" f_Script___eq__ := ⟨a_Script___eq__, i_Script___eq__, k_Script___eq__⟩
  have D_Script___len__ : Mdef K "__len__" "Script.__len__" s_Script___len__ ["self"] f_Script___len__ := ⟨_, fun_mk (st := s_Script___len__) l_Script___len__ hc_Script___len__ k_Script___len__, (fun_mk (st := s_Script___len__) l_Script___len__ hc_Script___len__ k_Script___len__).binds fun _ _ _ _ _ _ us hl => match us, hl with | [_], _ => rfl⟩
  have M_Script___len__ : Meth K C_Script "__len__" f_Script___len__ := ⟨a_Script___len__, i_Script___len__, k_Script___len__⟩
  have D_Script___bool__ : Mdef K "__bool__" "Script.__bool__" s_Script___bool__ ["self"] f_Script___bool__ := ⟨_, fun_mk (st := s_Script___bool__) l_Script___bool__ hc_Script___bool__ k_Script___bool__, (fun_mk (st := s_Script___bool__) l_Script___bool__ hc_Script___bool__ k_Script___bool__).binds fun _ _ _ _ _ _ us hl => match us, hl with | [_], _ => rfl⟩
  have M_Script___bool__ : Meth K C_Script "__bool__" f_Script___bool__ := ⟨a_Script___bool__, i_Script___bool__, k_Script___bool__⟩
  have D_bag : Def K mg "_law_bag" s_bag ["_law_script", "_law_at"] := ⟨f_bag, _, fun_mk (st := s_bag) l_bag hc_bag k_bag, PySem.W.mg_of X G a_bag, (fun_mk (st := s_bag) l_bag hc_bag k_bag).binds fun _ _ _ _ _ _ us hl => match us, hl with | [_, _], _ => rfl⟩
  have D_take : Def K mg "_law_take" s_take ["_law_bag_here", "_law_many"] := ⟨f_take, _, fun_mk (st := s_take) l_take hc_take k_take, PySem.W.mg_of X G a_take, (fun_mk (st := s_take) l_take hc_take k_take).binds fun _ _ _ _ _ _ us hl => match us, hl with | [_, _], _ => rfl⟩
  have D_is_whole : Def K mg "_law_is_whole" s_is_whole ["_law_thing"] := ⟨f_is_whole, _, fun_mk (st := s_is_whole) l_is_whole hc_is_whole k_is_whole, PySem.W.mg_of X G a_is_whole, (fun_mk (st := s_is_whole) l_is_whole hc_is_whole k_is_whole).binds fun _ _ _ _ _ _ us hl => match us, hl with | [_], _ => rfl⟩
  have D_good : Def K mg "_law_good" s_good ["_law_bag_here"] := ⟨f_good, _, fun_mk (st := s_good) l_good hc_good k_good, PySem.W.mg_of X G a_good, (fun_mk (st := s_good) l_good hc_good k_good).binds fun _ _ _ _ _ _ us hl => match us, hl with | [_], _ => rfl⟩
  have D_wrong : Def K mg "_law_wrong" s_wrong ["_law_bag_here"] := ⟨f_wrong, _, fun_mk (st := s_wrong) l_wrong hc_wrong k_wrong, PySem.W.mg_of X G a_wrong, (fun_mk (st := s_wrong) l_wrong hc_wrong k_wrong).binds fun _ _ _ _ _ _ us hl => match us, hl with | [_], _ => rfl⟩
  have D_refused : Def K mg "_law_refused" s_refused ["_law_count", "_law_signs"] := ⟨f_refused, _, fun_mk (st := s_refused) l_refused hc_refused k_refused, PySem.W.mg_of X G a_refused, (fun_mk (st := s_refused) l_refused hc_refused k_refused).binds fun _ _ _ _ _ _ us hl => match us, hl with | [_, _], _ => rfl⟩
  have D_law : Def K mg "law" s_law ["_law_script"] := ⟨f_law, _, fun_mk (st := s_law) l_law hc_law k_law, PySem.W.mg_of X G a_law, (fun_mk (st := s_law) l_law hc_law k_law).binds fun _ _ _ _ _ _ us hl => match us, hl with | [_], _ => rfl⟩
  have T : Txt K mg := ⟨PySem.W.mg_none_of X G z_len, PySem.W.mg_none_of X G z_int, PySem.W.mg_none_of X G z_abs, PySem.W.mg_none_of X G z_bool, PySem.W.mg_none_of X G z_list, PySem.W.mg_none_of X G z_tuple, PySem.W.mg_none_of X G z_range, PySem.W.mg_none_of X G z_min, PySem.W.mg_none_of X G z_max, PySem.W.mg_none_of X G z_all, PySem.W.mg_none_of X G z_isinstance, PySem.W.mg_none_of X G z_repr, PySem.W.mg_none_of X G z_ValueError⟩
  intro base KB GB TBs
  have X_BadScript : Exc P w K mg base 1 "BadScript" C_BadScript 2 (spX2 C_BadScript "steps" "bits") := ⟨TO_BadScript, PySem.W.mg_of X G aC_BadScript, f_iBadScript, _, ["self", "steps", "bits"], a_iBadScript, t_iBadScript, x2_init TO_BadScript xn_BadScript_steps xn_BadScript_bits FU_BadScript sc_BadScript___init__ rfl rfl rfl rfl (by decide) (by decide) (by decide) (by decide) (fun _ => rfl) (fun _ => rfl), FU_BadScript.binds fun _ _ _ _ _ _ us hl => match us, hl with | [_, _, _], _ => rfl⟩
  let c : Ad := ⟨C_BadScript, C_BadAnswer, C_TablesError, C_Script⟩
  have XC : Fct P w K mg base c := ⟨X_BadScript, PySem.W.mg_of X G aC_BadScript, xfB_ok xf_BadScript, xn_BadScript_steps, xn_BadScript_bits, excB_ok eb_BadScript, e_BadScript_TablesError, kt_BadScript_BadScript, kt_BadScript_BadAnswer, kt_BadScript_ValueError, PySem.W.mg_of X G aC_BadAnswer, PySem.W.mg_of X G aC_TablesError, mgC_Script, cl_Script, no_Script_steps, no_Script_bits, ⟨rd_Script, ga_Script⟩, ⟨_, cv_Script_MOST, rv_Script_MOST⟩, ⟨cl_Script, is1_Script, is2_Script, is3_Script, is4_Script, is5_Script⟩⟩
  have cc_is_integer : Fn P w K mg base 1 "is_integer" 1 F_is_integer := TT.f_is_integer (k := 0) D_is_integer T
  have cc_are_bits : Fn P w K mg base 2 "are_bits" 1 F_are_bits := by unfold F_are_bits; exact TT.f_are_bits (k := 1) D_are_bits T (cc_is_integer.mono (by decide))
  have cc_Script___init__ : FnG P w K mg base (L2.CX P w) 3 f_Script___init__ (spF K 3 (F_Script___init__ c)) := TT.f_Script___init__ (k := 2) D_Script___init__ T XC (cc_are_bits.mono (by decide)) (cc_is_integer.mono (by decide)) (by decide)
  have M_Script : Mak' P w K mg base 3 "Script" C_Script 3 (F_Script___init__ c) := ⟨PySem.W.mg_of X G aC_Script, f_Script___init__, M_Script___init__, cc_Script___init__⟩
  have MK_Script : MakK P w K mg base 3 "Script" C_Script ["bits", "steps"] true 3 (F_Script___init__ c) := ⟨PySem.W.mg_of X G aC_Script, f_Script___init__, M_Script___init__, TT.fk_Script___init__ (k := 2) DK_Script___init__ T XC (cc_are_bits.mono (by decide)) (cc_is_integer.mono (by decide)) (by decide)⟩
  have cc_Script_none : FnG P w K mg base (L2.CX P w) 5 f_Script_none (spF K 1 (F_Script_none c)) := by unfold F_Script_none; exact TT.f_Script_none (k := 4) D_Script_none T XC M_Script (by decide)
  have S_Script_none : CMt P w K mg base 5 C_Script "none" 1 (F_Script_none c) := ⟨_, p_Script_none, f_Script_none, ⟨rd_Script, ga_Script⟩, ⟨m_Script_none, ⟨_, r_Script_none⟩, n_Script_none⟩, cc_Script_none⟩
  have cc_Script___eq__ : FnG P w K mg base (L2.CX P w) 1 f_Script___eq__ (spF K 2 (F_Script___eq__ c)) := by unfold F_Script___eq__; exact TT.f_Script___eq__ (k := 0) D_Script___eq__ T XC
  have S_Script_eq : Spc P w K mg base 1 C_Script "__eq__" 2 (F_Script___eq__ c) := ⟨f_Script___eq__, a_Script___eq__, i_Script___eq__, n_Script___eq__, cc_Script___eq__⟩
  have cc_Script___len__ : FnG P w K mg base (L2.CX P w) 1 f_Script___len__ (spF K 1 (F_Script___len__ c)) := by unfold F_Script___len__; exact TT.f_Script___len__ (k := 0) D_Script___len__ T XC
  have S_Script_len : Spc P w K mg base 1 C_Script "__len__" 1 (F_Script___len__ c) := ⟨f_Script___len__, a_Script___len__, i_Script___len__, n_Script___len__, cc_Script___len__⟩
  have cc_Script___bool__ : FnG P w K mg base (L2.CX P w) 1 f_Script___bool__ (spF K 1 (F_Script___bool__ c)) := by unfold F_Script___bool__; exact TT.f_Script___bool__ (k := 0) D_Script___bool__ T XC
  have S_Script_bool : Spc P w K mg base 1 C_Script "__bool__" 1 (F_Script___bool__ c) := ⟨f_Script___bool__, a_Script___bool__, i_Script___bool__, n_Script___bool__, cc_Script___bool__⟩
  have cc_bag : Fn P w K mg base 1 "_law_bag" 2 F_bag := by unfold F_bag; exact TT.f_bag (k := 0) D_bag T
  have cc_take : Fn P w K mg base 1 "_law_take" 2 F_take := by unfold F_take; exact TT.f_take (k := 0) D_take T
  have cc_is_whole : Fn P w K mg base 1 "_law_is_whole" 1 F_is_whole := by unfold F_is_whole; exact TT.f_is_whole (k := 0) D_is_whole T
  have cc_good : Fn P w K mg base 7 "_law_good" 1 (F_good c) := by unfold F_good; exact TT.f_good (k := 6) D_good T XC (cc_is_whole.mono (by decide)) (cc_take.mono (by decide)) S_Script_len (by decide) S_Script_bool (by decide) S_Script_none (by decide) MK_Script (by decide) S_Script_eq (by decide) M_Script (by decide)
  have cc_wrong : Fn P w K mg base 2 "_law_wrong" 1 F_wrong := by unfold F_wrong; exact TT.f_wrong (k := 1) D_wrong T (cc_take.mono (by decide))
  have cc_refused : Fn P w K mg base 5 "_law_refused" 2 (F_refused c) := by unfold F_refused; exact TT.f_refused (k := 4) D_refused T XC M_Script (by decide)
  have cc_law : Fn P w K mg base 8 "law" 1 (F_law c) := TT.f_law (k := 7) D_law T (cc_refused.mono (by decide)) (cc_wrong.mono (by decide)) (cc_good.mono (by decide)) (cc_bag.mono (by decide))
  obtain ⟨fz, FZ, mz, _⟩ := cc_law.ex
  have ez := hfa.symm.trans mz
  cases ez
  exact FZ
end
end TT
namespace TT
open PySem L2
variable [TB]
def Bag (n : Nat) (b : List D) : Prop := ∃ x y z : Int, b = [.int x, .int y, .int z] ∧ 0 ≤ x ∧ 0 ≤ y ∧ y < 2 ^ 63 ∧ 0 ≤ z ∧ z + n ≤ 2 ^ 60
theorem Bag.mono {n m : Nat} {b : List D} (h : Bag n b) (hm : m ≤ n) : Bag m b := by
  obtain ⟨x, y, z, e, h1, h2, h3, h4, h5⟩ := h
  exact ⟨x, y, z, e, h1, h2, h3, h4, by omega⟩
theorem take_a (x y z m : Int) (hx : 0 < x) (hm : 0 < m) (hb : m.natAbs.log2 < 9000) : F_take [.ref 0, .d (.int m)] [.lst [.int x, .int y, .int z]] = .ok (.d (.int (x % m))) [.lst [.int (x / m), .int y, .int z]] := by
  simp [F_take, b_take, hx, hm, hb]
theorem log2_small (z : Int) (h0 : 0 ≤ z) (h1 : z < 2 ^ 300) : z.natAbs.log2 < 9000 := by
  have : z.natAbs < 2 ^ 9000 := by
    have h2 : z.natAbs < 2 ^ 300 := by omega
    exact Nat.lt_of_lt_of_le h2 (Nat.pow_le_pow_right (by decide) (by decide))
  rcases Nat.eq_zero_or_pos z.natAbs with h | h
  · rw [h]; decide
  · exact (Nat.log2_lt (by omega)).mpr this
theorem mulI (a b : Int) (h : CMul a b) : mulD (.int a) (.int b) = some (.int (a * b)) := if_pos h
theorem addI_ (a b : Int) : addD (.int a) (.int b) = some (.int (a + b)) := by simp [addD]
theorem modI (a b : Int) (h : 0 < b) (h2 : b.natAbs.log2 < 9000) : modD (.int a) (.int b) = some (.int (a % b)) := by simp [modD, h, h2]
theorem cm_r (a b : Int) (h0 : 0 ≤ b) (h1 : b < 2 ^ 64) : CMul a b := .inr ⟨by omega, h1⟩
theorem cm_l (a b : Int) (h0 : 0 ≤ a) (h1 : a < 2 ^ 64) : CMul a b := .inl ⟨by omega, h1⟩
theorem take_b (y z m : Int) (hy : 0 ≤ y) (hy2 : y < 2 ^ 63) (hz : 0 ≤ z) (hz2 : z < 2 ^ 60) (hm : 0 < m) (hb : m.natAbs.log2 < 9000) : ∃ r, F_take [.ref 0, .d (.int m)] [.lst [.int 0, .int y, .int z]] = .ok (.d (.int (r % m))) [.lst [.int 0, .int y, .int (z + 1)]] := by
  obtain ⟨a, ha⟩ : ∃ a, a = y * 2236067977499789697 + 8191 := ⟨_, rfl⟩
  obtain ⟨w, hw⟩ : ∃ w, w = z + 1 := ⟨_, rfl⟩
  obtain ⟨o, ho⟩ : ∃ o, o = (a + 3037000507 * w * w) % 2305843009213693951 := ⟨_, rfl⟩
  have o0 : 0 ≤ o := by rw [ho]; exact Int.emod_nonneg _ (by decide)
  have o1 : o < 2305843009213693951 := by rw [ho]; exact Int.emod_lt_of_pos _ (by decide)
  obtain ⟨t, ht⟩ : ∃ t, t = (o * (o + w) + 69071 * w) % 4611686018427387847 := ⟨_, rfl⟩
  have l1 : (2305843009213693951 : Int).natAbs.log2 < 9000 := by decide
  have l2 : (4611686018427387847 : Int).natAbs.log2 < 9000 := by decide
  have l3 : (65536 : Int).natAbs.log2 < 9000 := by decide
  have c1 : mulD (.int y) (.int 2236067977499789697) = some (.int (y * 2236067977499789697)) := mulI _ _ (cm_r _ _ (by decide) (by decide))
  have c2 : mulD (.int 3037000507) (.int w) = some (.int (3037000507 * w)) := mulI _ _ (cm_l _ _ (by decide) (by decide))
  have c3 : mulD (.int (3037000507 * w)) (.int w) = some (.int (3037000507 * w * w)) := mulI _ _ (cm_r _ _ (by omega) (by omega))
  have c4 : mulD (.int o) (.int (o + w)) = some (.int (o * (o + w))) := mulI _ _ (cm_l _ _ o0 (by omega))
  have c5 : mulD (.int 69071) (.int w) = some (.int (69071 * w)) := mulI _ _ (cm_l _ _ (by decide) (by decide))
  have key : (F_take [.ref 0, .d (.int m)] [.lst [.int 0, .int y, .int z]]).to (fun v μ => v = .d (.int (t / 65536 % m)) ∧ μ = [.lst [.int 0, .int y, .int w]]) no3 := by
    unfold F_take b_take
    refine fn_to ?_
    with_reducible refine w_seqG fun rest hrest => ?_
    wtm_at "wr"
    refine brF rfl ?_
    wtm_at "wr"
    subst hrest
    with_reducible refine w_seqG fun rest hrest => ?_
    wtm_at "wr"
    rw [← hw]
    subst hrest
    with_reducible refine w_seqG fun rest hrest => ?_
    wtm_at "wr"
    with_reducible refine e_op2 (by with_unfolding_all rfl) (by with_unfolding_all rfl) c1 ?_
    wtm_at "wr"
    rw [← ha]
    subst hrest
    with_reducible refine w_seqG fun rest hrest => ?_
    wtm_at "wr"
    with_reducible refine e_op2 (by with_unfolding_all rfl) (by with_unfolding_all rfl) c3 ?_
    wtm_at "wr"
    rw [← ho]
    subst hrest
    with_reducible refine w_seqG fun rest hrest => ?_
    wtm_at "wr"
    with_reducible refine e_op2 (by with_unfolding_all rfl) (by with_unfolding_all rfl) c4 ?_
    wtm_at "wr"
    rw [← ht]
    subst hrest
    wtm_at "wr"
    with_reducible refine e_op2 (by with_unfolding_all rfl) (by with_unfolding_all rfl) (modI _ _ hm hb) ?_
    exact ⟨_, rfl, rfl, rfl, rfl⟩
  obtain ⟨v, μ, e, rfl, rfl⟩ := ok_to key
  exact ⟨t / 65536, by rw [e, hw]⟩
/-- some number below m, and the bag behind -/
theorem take_ok {n : Nat} {b : List D} (h : Bag (n + 1) b) (m : Int) (hm : 0 < m) (hm2 : m < 2 ^ 300) : ∃ r b', F_take [.ref 0, .d (.int m)] [.lst b] = .ok (.d (.int r)) [.lst b'] ∧ 0 ≤ r ∧ r < m ∧ Bag n b' := by
  obtain ⟨x, y, z, rfl, hx, hy, hy2, hz, hz2⟩ := h
  by_cases h : 0 < x
  · exact ⟨_, _, take_a x y z m h hm (log2_small m (by omega) hm2), Int.emod_nonneg _ (by omega), Int.emod_lt_of_pos _ hm, _, _, _, rfl, Int.ediv_nonneg hx (by omega), hy, hy2, hz, by omega⟩
  · have : x = 0 := by omega
    subst this
    obtain ⟨r, e⟩ := take_b y z m hy hy2 hz (by omega) hm (log2_small m (by omega) hm2)
    exact ⟨_, _, e, Int.emod_nonneg _ (by omega), Int.emod_lt_of_pos _ hm, _, _, _, rfl, Int.le_refl _, hy, hy2, by omega, by omega⟩
theorem callNew {F : MF} {μ : List MO} {ds xs : List D} (h : F (ds.map MV.d) [] = .ok (.ref 0) [.lst xs]) : callF F (ds.map MV.d) μ = .ok (.ref μ.length) (μ ++ [.lst xs]) := by
  unfold callF
  rw [selOf_d]
  simp [toCs_d, pick, h, back, wb, putAll, backO]
theorem bag_ok (ns : List Int) (hl : ns.length ≤ 63) (a : Int) (ha : 0 ≤ a) (ha2 : a < 100) : ∃ b, F_bag [.d (.fl (ns.map D.int)), .d (.int a)] [] = .ok (.ref 0) [.lst b] ∧ Bag (2 ^ 60) b := by
  have hz : (ns.map D.int).length ≤ sizeLine := by rw [List.length_map]; exact Nat.le_trans hl (by decide)
  obtain ⟨c, hc⟩ : ∃ c : Int, (mIf (mB (mBin ltI (mVar 1) (mN (one lenD) (mCons (mVar 0) mNil)))) (mBin ixD (mVar 0) (mVar 1)) (mC (.int 0))) [some (.d (.fl (ns.map D.int))), some (.d (.int a)), none, none] [] = .ok (.d (.int c)) [] := by
    by_cases h : a < ns.length
    · obtain ⟨k, rfl⟩ : ∃ k : Nat, a = k := ⟨a.toNat, by omega⟩
      have hk : k < ns.length := by omega
      exact ⟨ns[k], by simp [hz, hk]⟩
    · exact ⟨0, by simp [hz, h]⟩
  obtain ⟨v, hv, hv0⟩ : ∃ v : Int, one absD [.int c] = some (.int v) ∧ 0 ≤ v := ⟨if c < 0 then -c else c, by simp [one, absD], by split <;> omega⟩
  have s1 : mAsg (mIf (mB (mBin ltI (mVar 1) (mN (one lenD) (mCons (mVar 0) mNil)))) (mBin ixD (mVar 0) (mVar 1)) (mC (.int 0))) (gN 2) [some (.d (.fl (ns.map D.int))), some (.d (.int a)), none, none] [] = .nx [some (.d (.fl (ns.map D.int))), some (.d (.int a)), some (.d (.int c)), none] [] := asg_eq hc rfl
  have s2 : mAsg (mN (one absD) (mCons (mVar 2) mNil)) (gN 3) [some (.d (.fl (ns.map D.int))), some (.d (.int a)), some (.d (.int c)), none] [] = .nx [some (.d (.fl (ns.map D.int))), some (.d (.int a)), some (.d (.int c)), some (.d (.int v))] [] := asg_eq (n_eq (cons_eq rfl rfl) rfl hv) rfl
  have l1 : (4611686018427387847 : Int).natAbs.log2 < 9000 := by decide
  obtain ⟨x, hx, hx0⟩ : ∃ x : Int, (mIf (mB (mBin geI (mVar 3) (mBin powD (mC (.int 10)) (mC (.int 18))))) (mVar 3) (mC (.int 0))) [some (.d (.fl (ns.map D.int))), some (.d (.int a)), some (.d (.int c)), some (.d (.int v))] [] = .ok (.d (.int x)) [] ∧ 0 ≤ x := by
    have hp : powD (.int 10) (.int 18) = some (.int 1000000000000000000) := by with_unfolding_all rfl
    by_cases h : 1000000000000000000 ≤ v
    · exact ⟨v, by simp [h, hp], hv0⟩
    · exact ⟨0, by simp [h, hp], Int.le_refl _⟩
  have m0 := Int.emod_nonneg c (show (4611686018427387847 : Int) ≠ 0 by decide)
  have m1 := Int.emod_lt_of_pos c (show (0 : Int) < 4611686018427387847 by decide)
  have hy : (mBin addD (mBin addD (mBin modD (mN (one intD) (mCons (mVar 2) mNil)) (mC (.int 4611686018427387847))) (mBin mulD (mC (.int 131071)) (mVar 1))) (mC (.int 257))) [some (.d (.fl (ns.map D.int))), some (.d (.int a)), some (.d (.int c)), some (.d (.int v))] [] = .ok (.d (.int (c % 4611686018427387847 + 131071 * a + 257))) [] :=
    bin_eq (bin_eq (bin_eq (n_eq (hn := one intD) (z := .int c) (cons_eq rfl rfl) rfl rfl) rfl rfl rfl (modI _ _ (by decide) l1)) (bin_eq (x := .int 131071) (y := .int a) rfl rfl rfl rfl (mulI _ _ (cm_l _ _ (by decide) (by decide)))) rfl rfl (addI_ _ _)) rfl rfl rfl (addI_ _ _)
  refine ⟨[.int x, .int (c % 4611686018427387847 + 131071 * a + 257), .int 0], ?_, x, _, 0, rfl, hx0, by omega, by omega, Int.le_refl _, by decide⟩
  unfold F_bag b_bag
  have e3 : mOwn (mLst (mCons (mIf (mB (mBin geI (mVar 3) (mBin powD (mC (.int 10)) (mC (.int 18))))) (mVar 3) (mC (.int 0))) (mCons (mBin addD (mBin addD (mBin modD (mN (one intD) (mCons (mVar 2) mNil)) (mC (.int 4611686018427387847))) (mBin mulD (mC (.int 131071)) (mVar 1))) (mC (.int 257))) (mCons (mC (.int 0)) mNil)))) [some (.d (.fl (ns.map D.int))), some (.d (.int a)), some (.d (.int c)), some (.d (.int v))] [] = .ok (.ref 0) [.lst [.int x, .int (c % 4611686018427387847 + 131071 * a + 257), .int 0]] := by
    have e := cons_eq hx (cons_eq hy (cons_eq (ma := mC (.int 0)) (a := .d (.int 0)) (μ := []) rfl (ms := mNil) rfl))
    simp only [mOwn, mLst, e, Res.bind_ok]
    simp [datas]
  show SR.finT false 0 (mSeq _ (mSeq _ _) [some (.d (.fl (ns.map D.int))), some (.d (.int a)), none, none] []) = _
  rw [seq_nx s1, seq_nx s2, ret_eq e3]
  rfl
end TT
namespace TT
open PySem L2
variable [TB]
abbrev theAd : Ad := ⟨63, 44, 24, 167⟩
set_option maxHeartbeats 8000000 in
theorem eq_of {r : Res MV} {v : MV} {μ : List MO} (h : r.to (fun w μ' => w = v ∧ μ' = μ) no3) : r = .ok v μ := by
  obtain ⟨w, μ', e, rfl, rfl⟩ := ok_to h
  exact e
set_option maxHeartbeats 8000000 in
theorem exc_of {r : Res MV} {C : Addr} {fs : List (Str × D)} {μ : List MO} (h : r.to (fun _ _ => False) (fun C' fs' μ' => C' = C ∧ fs' = fs ∧ μ' = μ)) : r = .exc C fs μ := by
  cases r with
  | ok v μ' => exact h.elim
  | exc C' fs' μ' => obtain ⟨rfl, rfl, rfl⟩ := h; rfl
  | bad => exact h.elim
set_option maxHeartbeats 8000000 in
/-- the drawn number -/
theorem call_take {k : Nat} {b : List D} {μ : List MO} (n : Nat) (hn : μ[n]? = some (.lst b)) (h : Bag (k + 1) b) (m : Int) (hm : 0 < m) (hm2 : m < 2 ^ 300) : ∃ r b', callF F_take [.ref n, .d (.int m)] μ = .ok (.d (.int r)) (μ.set n (.lst b')) ∧ 0 ≤ r ∧ r < m ∧ Bag k b' := by
  obtain ⟨r, b', h1, h2, h3, h4⟩ := take_ok h m hm hm2
  exact ⟨r, b', callB2 hn h1, h2, h3, h4⟩
section
variable {r : List MO} {n : Nat} {b : List D} {K : MV → List MO → Prop} {E : Addr → List (Str × D) → List MO → Prop}
set_option maxHeartbeats 8000000 in
theorem p_take (h : Bag (n + 1) b) {m : Int} (hm : 0 < m) (hm2 : m < 2 ^ 300) (k : ∀ q b', 0 ≤ q → q < m → Bag n b' → K (.d (.int q)) (.lst b' :: r)) : (callF F_take [.ref 0, .d (.int m)] (.lst b :: r)).to K E := by
  obtain ⟨q, b', e1, e2, e3, e4⟩ := call_take (μ := .lst b :: r) 0 rfl h m hm hm2
  exact to_ok e1 (k q b' e2 e3 e4)
end
set_option maxHeartbeats 8000000 in
theorem rng1_eq {μ : List MO} (j : Int) (h0 : 0 ≤ j) (h1 : j < 1000000) : rng1 [.d (.int j)] μ = .ok (intsD 0 j.toNat, none) μ := by
  have : -(2 ^ 62) ≤ j ∧ j < 2 ^ 62 := by constructor <;> omega
  simp only [rng1, if_pos this]
set_option maxHeartbeats 8000000 in
theorem lcr_ok {α : Type} {q : List D × Option Nat} {g : MG} {el : ME} {ρ : En} {μ : List MO} (hq : q.2 = none) (h : α → D) (f : α → D) : ∀ (rs : List α) (acc : List D), (∀ r ∈ rs, ∃ ρ1, g (.d (h r)) ρ = some ρ1 ∧ el ρ1 μ = .ok (.d (f r)) μ) → lcD q g mYes el ρ (rs.map h) acc μ = .ok (acc ++ rs.map f) μ
  | [], acc, _ => by show lcD q g mYes el ρ [] acc μ = _; unfold lcD chk; rw [hq]; simp
  | r :: rs, acc, hh => by
    obtain ⟨ρ1, h1, h2⟩ := hh r List.mem_cons_self
    show lcD q g mYes el ρ (h r :: rs.map h) acc μ = _
    rw [lcD]
    unfold chk
    rw [hq]
    simp only [if_true, h1, mYes, Res.calm_ok, Res.bind_ok, h2]
    have := lcr_ok hq h f rs (acc ++ [f r]) fun y hy => hh y (List.mem_cons_of_mem _ hy)
    rw [this]
    simp
set_option maxHeartbeats 8000000 in
theorem lcr_eq {α : Type} {mi : MI} {q : List D × Option Nat} {g : MG} {el : ME} {vs : List Nat} {ρ : En} {μ : List MO} (h : α → D) (f : α → D) (rs : List α) (hi : mi ρ μ = .ok q μ) (hq : q.2 = none) (hr : q.1 = rs.map h) (hl : rs.length ≤ 1000) (hh : ∀ r ∈ rs, ∃ ρ1, g (.d (h r)) (wipeM ρ vs) = some ρ1 ∧ el ρ1 μ = .ok (.d (f r)) μ) : mFz (mLC mi g mYes el vs) ρ μ = .ok (.d (.lst (rs.map f))) μ := by
  unfold mFz mLC
  rw [hi]
  have hl2 : q.1.length ≤ sizeLine := by rw [hr, List.length_map, sizeLine_eq]; omega
  simp only [Res.bind_ok, if_pos hl2]
  rw [hr, lcr_ok hq h f rs [] hh]
  rfl
def isI : D → Bool
  | .int _ => true
  | _ => false
/-- what may stand in the place of a bit -/
def El : D → Prop
  | .int _ => True
  | .bl _ => True
  | .non => True
  | .str _ => True
  | .tup _ => True
  | .lst _ => True
  | _ => False
def bitOf : D → Bool
  | .int i => decide (0 ≤ i) && decide (i ≤ 1)
  | _ => false
set_option maxHeartbeats 8000000 in
theorem is_integer_ok {d : D} (h : El d) : F_is_integer [.d d] [] = .ok (.d (.bl (isI d))) [] := by
  cases d <;> first | exact h.elim | with_unfolding_all rfl
set_option maxHeartbeats 8000000 in
theorem is_whole_ok {d : D} (h : El d) : F_is_whole [.d d] [] = .ok (.d (.bl (isI d))) [] := by
  unfold F_is_whole
  cases d <;> first | exact h.elim | with_unfolding_all rfl
set_option maxHeartbeats 8000000 in
theorem bools_map {α : Type} (f : α → Bool) : ∀ l : List α, bools (l.map fun x => D.bl (f x)) = some (l.map f)
  | [] => rfl
  | a :: l => by
    show (bools (l.map fun x => D.bl (f x))).map (f a :: ·) = _
    rw [bools_map f l]
    rfl
set_option maxHeartbeats 8000000 in
theorem all_map {α : Type} (f : α → Bool) (l : List α) : one allD [.lst (l.map fun x => D.bl (f x))] = some (.bl (l.all f)) := by
  show (bools (l.map fun x => D.bl (f x))).map (fun bs => D.bl (bs.all id)) = _
  rw [bools_map]
  simp [Function.comp_def]
set_option maxHeartbeats 8000000 in
theorem el_ok {d : D} (h : El d) {ρ : En} {μ : List MO} (hr : ρ[1]? = some (some (.d d))) : (mAndV (mCall F_is_integer 1 (mCons (mVar 1) mNil)) (mChain leI leI (mC (.int 0)) (mVar 1) (mC (.int 1)))) ρ μ = .ok (.d (.bl (bitOf d))) μ := by
  have hv : mVar 1 ρ μ = .ok (.d d) μ := by simp [mVar, hr]
  have e1 : mCall F_is_integer 1 (mCons (mVar 1) mNil) ρ μ = .ok (.d (.bl (isI d))) μ := call_eq (cons_eq hv rfl) rfl (call1 (is_integer_ok h))
  unfold mAndV
  rw [e1]
  cases d with
  | int i =>
    show mChain leI leI (mC (.int 0)) (mVar 1) (mC (.int 1)) ρ μ = _
    unfold mChain
    by_cases h0 : 0 ≤ i
    · by_cases h1 : i ≤ 1 <;> simp [hr, leI, intOp, h0, h1, bitOf]
    · simp [hr, leI, intOp, h0, bitOf]
  | _ => first | exact h.elim | rfl
set_option maxHeartbeats 8000000 in
theorem are_bits_ok {b : D} {xs : List D} (hb : b = .lst xs ∨ b = .tup xs) (hx : ∀ d ∈ xs, El d) (hl : xs.length ≤ 1000) : F_are_bits [.d b] [] = .ok (.d (.bl (xs.all bitOf))) [] := by
  unfold F_are_bits b_are_bits
  have e1 : (mN isiD2 (mCons (mVar 0) (mCons (mTup (mCons (mC (.ty "list")) (mCons (mC (.ty "tuple")) mNil))) mNil))) [some (.d b), none] [] = .ok (.d (.bl true)) [] := by
    rcases hb with rfl | rfl <;> with_unfolding_all rfl
  have e2 : mIt (mVar 0) [some (.d b), none] [] = .ok (xs, none) [] := by rcases hb with rfl | rfl <;> rfl
  have e3 := lcr_eq (mi := mIt (mVar 0)) (el := (mAndV (mCall F_is_integer 1 (mCons (mVar 1) mNil)) (mChain leI leI (mC (.int 0)) (mVar 1) (mC (.int 1))))) (g := gN 1) (vs := [1]) (ρ := [some (.d b), none]) (μ := []) id (fun d => .bl (bitOf d)) xs e2 rfl (by simp) hl fun d hd => ⟨[some (.d b), some (.d d)], rfl, el_ok (hx d hd) rfl⟩
  have s1 : mIfS (mNot (mT (mN isiD2 (mCons (mVar 0) (mCons (mTup (mCons (mC (.ty "list")) (mCons (mC (.ty "tuple")) mNil))) mNil))))) (mRet (mC (.bl false))) mNext [some (.d b), none] [] = .nx [some (.d b), none] [] := by
    rcases hb with rfl | rfl <;> with_unfolding_all rfl
  exact fn_rt (μ1 := []) ((seq_nx s1).trans (ret_eq (n_eq (hn := one allD) (cons_eq (ms := mNil) e3 rfl) rfl (all_map bitOf xs)))) rfl
abbrev fS (n : Int) (xs : List D) : List (Str × MV) := [("steps", .d (.int n)), ("bits", .d (.tup xs))]
abbrev oS (n : Int) (xs : List D) : D := .obj theAd.script [("steps", .int n), ("bits", .tup xs)]
set_option maxHeartbeats 8000000 in
theorem len_b {b : D} {xs : List D} (hb : b = .lst xs ∨ b = .tup xs) : one lenD [b] = some (.int xs.length) := by
  rcases hb with rfl | rfl <;> simp [one, lenD]
set_option maxHeartbeats 8000000 in
theorem tup_b {b : D} {xs : List D} (hb : b = .lst xs ∨ b = .tup xs) : one tupD [b] = some (.tup xs) := by
  rcases hb with rfl | rfl <;> simp [one, tupD]
set_option maxHeartbeats 8000000 in
theorem init_ok {n : Int} {b : D} {xs : List D} (hb : b = .lst xs ∨ b = .tup xs) (h0 : 0 ≤ n) (hx : ∀ d ∈ xs, El d) (ha : xs.all bitOf = true) (hl : (xs.length : Int) ≤ n) (hl2 : xs.length ≤ 1000) : F_Script___init__ theAd [.ref 0, .d (.int n), .d b] [.ins theAd.script []] = .ok (.d .non) [.ins theAd.script (fS n xs)] := by
  refine eq_of ?_
  unfold F_Script___init__ b_Script___init__
  have hbits := are_bits_ok hb hx hl2
  rw [ha] at hbits
  obtain ⟨z, hz⟩ : ∃ z : Int, z = xs.length := ⟨_, rfl⟩
  have hlen := len_b hb
  rw [← hz] at hlen hl
  have htup := tup_b hb
  generalize b = bb at *
  refine fn_to ?_
  with_reducible refine w_seqG fun rest hrest => ?_
  wtm_at "wr"
  refine to_ok (call1 (is_integer_ok (d := .int n) trivial)) ?_
  wtm_at "wr"
  refine brF (by with_unfolding_all rfl) ?_
  wtm_at "wr"
  refine brF (decide_eq_false (by omega)) ?_
  wtm_at "wr"
  refine to_ok (call1 hbits) ?_
  wtm_at "wr"
  refine e_opN (xs := [bb]) rfl hlen ?_
  wtm_at "wr"
  refine brF (decide_eq_false (by omega)) ?_
  wtm_at "wr"
  subst hrest
  with_reducible refine w_seqG fun rest hrest => ?_
  wtm_at "wr"
  refine k_setf (μ1 := [.ins theAd.script [("steps", .d (.int n))]]) (by with_unfolding_all rfl) ?_
  subst hrest
  wtm_at "wr"
  refine e_opN (xs := [bb]) rfl htup ?_
  wtm_at "wr"
  refine k_setf (μ1 := [.ins theAd.script (fS n xs)]) (by with_unfolding_all rfl) ?_
  exact ⟨rfl, rfl, rfl⟩
/-- .. and its errors -/
inductive BadS : D → D → Prop
  | num {a b : D} : El a → isI a = false → BadS a b
  | neg {n : Int} {b : D} : n < 0 → BadS (.int n) b
  | bits {n : Int} {b : D} : 0 ≤ n → F_are_bits [.d b] [] = .ok (.d (.bl false)) [] → BadS (.int n) b
  | long {n : Int} {b : D} {xs : List D} : 0 ≤ n → (b = .lst xs ∨ b = .tup xs) → (∀ d ∈ xs, El d) → xs.all bitOf = true → n < xs.length → xs.length ≤ 1000 → BadS (.int n) b
set_option maxHeartbeats 8000000 in
theorem init_bad {a b : D} (h : BadS a b) : F_Script___init__ theAd [.ref 0, .d a, .d b] [.ins theAd.script []] = .exc theAd.scr [("bits", b), ("steps", a)] [.ins theAd.script []] := by
  refine exc_of ?_
  unfold F_Script___init__ b_Script___init__
  refine fn_to ?_
  with_reducible refine w_seqG fun rest hrest => ?_
  cases h with
  | num h1 h2 =>
    wtm_at "wr"
    refine to_ok (call1 (is_integer_ok h1)) ?_
    rw [h2]
    wtm_at "wr"
    exact ⟨rfl, rfl, rfl, rfl⟩
  | neg h1 =>
    wtm_at "wr"
    refine to_ok (call1 (is_integer_ok (d := .int _) trivial)) ?_
    wtm_at "wr"
    refine brF (by with_unfolding_all rfl) ?_
    wtm_at "wr"
    refine brT (decide_eq_true h1) ?_
    wtm_at "wr"
    exact ⟨rfl, rfl, rfl, rfl⟩
  | bits h1 h2 =>
    wtm_at "wr"
    refine to_ok (call1 (is_integer_ok (d := .int _) trivial)) ?_
    wtm_at "wr"
    refine brF (by with_unfolding_all rfl) ?_
    wtm_at "wr"
    refine brF (decide_eq_false (by omega)) ?_
    wtm_at "wr"
    refine to_ok (call1 h2) ?_
    wtm_at "wr"
    exact ⟨rfl, rfl, rfl, rfl⟩
  | long h1 h2 h3 h4 h5 h6 =>
    rename_i n xs
    have hbits := are_bits_ok h2 h3 h6
    rw [h4] at hbits
    obtain ⟨z, hz⟩ : ∃ z : Int, z = xs.length := ⟨_, rfl⟩
    have hlen := len_b h2
    rw [← hz] at hlen h5
    wtm_at "wr"
    refine to_ok (call1 (is_integer_ok (d := .int _) trivial)) ?_
    wtm_at "wr"
    refine brF (by with_unfolding_all rfl) ?_
    wtm_at "wr"
    refine brF (decide_eq_false (by omega)) ?_
    wtm_at "wr"
    refine to_ok (call1 hbits) ?_
    wtm_at "wr"
    refine e_opN (xs := [b]) rfl hlen ?_
    wtm_at "wr"
    refine brT (decide_eq_true (by omega)) ?_
    wtm_at "wr"
    exact ⟨rfl, rfl, rfl, rfl⟩
end TT
namespace TT
open PySem L2
variable [TB]
def Sm (n k : Nat) (d : D) : Prop := ∃ p, toPy d = some p ∧ Sh p n k
set_option maxHeartbeats 8000000 in
theorem Sm.mono {n k n' k' : Nat} {d : D} (h : Sm n k d) (hn : n ≤ n') (hk : k ≤ k') : Sm n' k' d := by
  obtain ⟨p, h1, h2⟩ := h
  exact ⟨p, h1, h2.mono hn hk⟩
set_option maxHeartbeats 8000000 in
theorem sm_int {i : Int} (h : i.natAbs < 10 ^ 60) : Sm 100 0 (.int i) := ⟨_, rfl, (Sh.int h).mono (by decide) (Nat.le_refl _)⟩
set_option maxHeartbeats 8000000 in
theorem sm_non : Sm 100 0 .non := ⟨_, rfl, Sh.none.mono (by decide) (Nat.le_refl _)⟩
set_option maxHeartbeats 8000000 in
theorem sm_s {s : Str} (h : s.length ≤ 9) (h2 : ∀ c ∈ s.cps.toList, c < 16 ^ 8) : Sm 100 0 (.str s) := ⟨_, rfl, (Sh.str h2).mono (by omega) (Nat.le_refl _)⟩
set_option maxHeartbeats 8000000 in
theorem sm_all {n k : Nat} : ∀ xs : List D, (∀ x ∈ xs, Sm n k x) → ∃ ps, toPys xs = some ps ∧ ps.length = xs.length ∧ ∀ p ∈ ps, Sh p n k
  | [], _ => ⟨[], rfl, rfl, fun _ h => by cases h⟩
  | x :: xs, h => by
    obtain ⟨p, h1, h2⟩ := h x List.mem_cons_self
    obtain ⟨ps, h3, h4, h5⟩ := sm_all xs fun y hy => h y (List.mem_cons_of_mem _ hy)
    refine ⟨p :: ps, by simp only [toPys, h1, h3], by simp [h4], fun q hq => ?_⟩
    rcases List.mem_cons.mp hq with rfl | hq
    · exact h2
    · exact h5 q hq
set_option maxHeartbeats 8000000 in
theorem sm_tup {n k m n' : Nat} {xs : List D} (h : ∀ x ∈ xs, Sm n k x) (hl : xs.length ≤ m) (hn : m * (n + 2) + 3 ≤ n') : Sm n' (k + 1) (.tup xs) := by
  obtain ⟨ps, h3, h4, h5⟩ := sm_all xs h
  refine ⟨.tuple ps, by simp [toPy, h3], (Sh.tuple (ShAll.of ps h5)).mono ?_ (Nat.le_refl _)⟩
  have : ps.length * (n + 2) ≤ m * (n + 2) := Nat.mul_le_mul_right _ (by omega)
  omega
set_option maxHeartbeats 8000000 in
theorem repr_sm {n k : Nat} {d : D} (h : Sm n k d) (hn : n ≤ sizeLine) (hk : k ≤ 180) : ∃ t, reprD d = some (.str t) := by
  obtain ⟨p, h1, h2⟩ := h
  exact ⟨p.shown, by unfold reprD; rw [h1]; exact if_pos ⟨h2.so, Nat.le_trans h2.le hn, Nat.le_trans h2.dp hk⟩⟩
def Ly (n : Nat) (d : D) : Prop := ∃ p, toPy d = some p ∧ p.canLay0 = true ∧ p.depth ≤ n
set_option maxHeartbeats 8000000 in
theorem Ly.mono {n m : Nat} {d : D} (h : Ly n d) (hn : n ≤ m) : Ly m d := by
  obtain ⟨p, h1, h2, h3⟩ := h
  exact ⟨p, h1, h2, Nat.le_trans h3 hn⟩
set_option maxHeartbeats 8000000 in
theorem ly_all {n : Nat} : ∀ xs : List D, (∀ x ∈ xs, Ly n x) → ∃ ps, toPys xs = some ps ∧ PyData.canLayAll0 ps = true ∧ PyData.depthAll ps ≤ n
  | [], _ => ⟨[], rfl, rfl, Nat.zero_le _⟩
  | x :: xs, h => by
    obtain ⟨p, h1, h2, h3⟩ := h x List.mem_cons_self
    obtain ⟨ps, h4, h5, h6⟩ := ly_all xs fun y hy => h y (List.mem_cons_of_mem _ hy)
    exact ⟨p :: ps, by simp only [toPys, h1, h4], by simp [PyData.canLayAll0, h2, h5], by simp only [PyData.depthAll]; omega⟩
set_option maxHeartbeats 8000000 in
theorem ly_tup {n : Nat} {xs : List D} (h : ∀ x ∈ xs, Ly n x) : Ly (n + 1) (.tup xs) := by
  obtain ⟨ps, h1, h2, h3⟩ := ly_all xs h
  exact ⟨.tuple ps, by simp [toPy, h1], by simp [PyData.canLay0, h2], by simp only [PyData.depth]; omega⟩
set_option maxHeartbeats 8000000 in
theorem ly_int (i : Int) : Ly 0 (.int i) := ⟨_, rfl, by simp [PyData.canLay0], by simp [PyData.depth]⟩
set_option maxHeartbeats 8000000 in
theorem eq_self {d : D} {n : Nat} (h : Ly n d) (hn : n ≤ 64) : eqL d d = some true := by
  obtain ⟨p, h1, h2, h3⟩ := h
  have hs : SeqAt.shaped p = true := by
    show (p.canLay0 && decide (p.depth ≤ 64)) = true
    rw [h2, Bool.true_and]
    exact decide_eq_true (by omega)
  unfold eqL
  simp only [h1]
  rw [if_pos ⟨hs, hs⟩]
  exact congrArg some (PySem.SeqAt.eqv_refl _ h2)
set_option maxHeartbeats 8000000 in
theorem ne_tup_self {xs : List D} {n : Nat} (h : ∀ x ∈ xs, Ly n x) (hn : n + 1 ≤ 64) : neD (.tup xs) (.tup xs) = some (.bl false) := by
  have e : eqB (.tup xs) (.tup xs) = some true := eq_self (ly_tup h) hn
  unfold neD
  rw [e]
  rfl
set_option maxHeartbeats 8000000 in
theorem sel_ins2 (C : Addr) (x y : D) : selOf [.ins C []] [.ref 0, .d x, .d y] = [0] := by
  unfold selOf
  have e1 : argRefs [.ref 0, .d x, .d y] = [0] := rfl
  rw [e1]
  rfl
set_option maxHeartbeats 8000000 in
theorem mkd_exc {F : MF} {C C' : Addr} {x y : D} {fs : List (Str × D)} {gs : List (Str × MV)} (h : F [.ref 0, .d x, .d y] [.ins C []] = .exc C' fs [.ins C gs]) : mkF C F 3 [.d x, .d y] [] = .exc C' fs [] := by
  have e : callF F [.ref 0, .d x, .d y] [.ins C []] = .exc C' fs [.ins C (backF [0] 1 gs)] := by
    unfold callF
    rw [sel_ins2]
    have t : toCs [0] [.ref 0, .d x, .d y] = some [.ref 0, .d x, .d y] := rfl
    have p : pick [.ins C []] [0] [0] = some [.ins C []] := rfl
    simp only [t, p, h]
    rfl
  unfold mkF mkO
  simp [e]
set_option maxHeartbeats 8000000 in
theorem mkd_ok {F : MF} {C : Addr} {x y : D} {gs : List (Str × MV)} {ds : List (Str × D)} (h : F [.ref 0, .d x, .d y] [.ins C []] = .ok (.d .non) [.ins C gs]) (hd : dataF gs = some ds) (hb : backF [0] 1 gs = gs) : mkF C F 3 [.d x, .d y] [] = .ok (.d (.obj C ds)) [] := by
  have e : callF F [.ref 0, .d x, .d y] [.ins C []] = .ok (.d .non) [.ins C gs] := by
    unfold callF
    rw [sel_ins2]
    have t : toCs [0] [.ref 0, .d x, .d y] = some [.ref 0, .d x, .d y] := rfl
    have p : pick [.ins C []] [0] [0] = some [.ins C []] := rfl
    simp only [t, p, h]
    show Res.ok (MV.d .non) [.ins C (backF [0] 1 gs)] = _
    rw [hb]
  have tr : trimmable 0 (.d .non) [.ins C gs] = true := rfl
  unfold mkF mkO
  simp [e, hd]
section
variable {K : MV → List MO → Prop} {E : Addr → List (Str × D) → List MO → Prop} {ρ : En} {μ : List MO} {ma mb : ME} {ms : MA} {C : Addr} {F : MF} {n : Nat}
set_option maxHeartbeats 8000000 in
theorem e_mkZ (h : (ms ρ μ).to (fun as μ1 => ∃ ds v m', views μ1 as = some ds ∧ mkF C F n (ds.map .d) [] = .ok (.d v) m' ∧ okD ds v = true ∧ K (.d v) μ1) E) : (mMkZ C F n ms ρ μ).to K E := by
  refine to_bind (tom h (fun as μ1 h => ?_) fun _ _ _ z => z)
  obtain ⟨ds, v, m', h1, h2, h3, h4⟩ := h
  rw [h1]
  simp only [h2, zRes, if_pos h3]
  exact h4
set_option maxHeartbeats 8000000 in
theorem truO_eq {C : Addr} {F : MF} {v : MV} {μ μ1 : List MO} {b : Bool} (hi : isInsC C v μ = true) (h : callF F [v] μ = .ok (.d (.bl b)) μ1) : truO C F v μ = .ok b μ1 := by
  unfold truO
  rw [if_pos hi, h]
  rfl
end
def Sg (l : List Int) : Prop := ∀ i ∈ l, 0 ≤ i ∧ i ≤ 1
abbrev sg (l : List Int) : List D := l.map D.int
set_option maxHeartbeats 8000000 in
theorem sg_el {l : List Int} : ∀ d ∈ sg l, El d := fun d hd => by
  obtain ⟨i, hi, rfl⟩ := List.mem_map.mp hd
  trivial
set_option maxHeartbeats 8000000 in
theorem sg_all {l : List Int} (h : Sg l) : (sg l).all bitOf = true := by
  rw [List.all_eq_true]
  intro d hd
  obtain ⟨i, hi, rfl⟩ := List.mem_map.mp hd
  have := h i hi
  simp [bitOf, this.1, this.2]
set_option maxHeartbeats 8000000 in
theorem sg_isI {l : List Int} : (sg l).all isI = true := by
  rw [List.all_eq_true]
  intro d hd
  obtain ⟨i, hi, rfl⟩ := List.mem_map.mp hd
  rfl
set_option maxHeartbeats 8000000 in
theorem sg_ly {l : List Int} : ∀ d ∈ sg l, Ly 0 d := fun d hd => by
  obtain ⟨i, hi, rfl⟩ := List.mem_map.mp hd
  exact ly_int i
set_option maxHeartbeats 8000000 in
theorem okD_sg (bs : List D) : ∀ l : List Int, okDs bs (sg l) = true
  | [] => rfl
  | i :: l => by
    show (okD bs (.int i) && okDs bs (sg l)) = true
    rw [okD_sg bs l]
    rfl
set_option maxHeartbeats 8000000 in
theorem okD_oS (bs : List D) (n : Int) (l : List Int) : okD bs (oS n (sg l)) = true := by
  show okDf bs [("steps", .int n), ("bits", .tup (sg l))] = true
  show (okD bs (.int n) && (okD bs (.tup (sg l)) && true)) = true
  have : okD bs (.tup (sg l)) = true := okD_sg bs l
  rw [this]
  rfl
set_option maxHeartbeats 8000000 in
theorem mk_ok {n : Int} {b : D} {l : List Int} (hb : b = .lst (sg l) ∨ b = .tup (sg l)) (h0 : 0 ≤ n) (hs : Sg l) (hl : (l.length : Int) ≤ n) (hl2 : l.length ≤ 1000) : mkF theAd.script (F_Script___init__ theAd) 3 [.d (.int n), .d b] [] = .ok (.d (oS n (sg l))) [] :=
  mkd_ok (init_ok hb h0 sg_el (sg_all hs) (by simpa using hl) (by simpa using hl2)) rfl rfl
set_option maxHeartbeats 8000000 in
/-- the drawn bits -/
theorem signs_to {n : Nat} {b : List D} {m : Int} (hm : 0 < m) (hm2 : m ≤ 20) (hb : Bag (n + 21) b) {j : Nat} {ρ : En} (h0 : ρ[0]? = some (some (.ref 0))) (hj : j < ρ.length) (hj0 : j ≠ 0) {K : MV → List MO → Prop} {E : Addr → List (Str × D) → List MO → Prop}
    (k : ∀ (l : List Int) b', Sg l → (l.length : Int) < m → Bag n b' → K (.d (.lst (sg l))) [.lst b']) :
    (mFz (mLC (mItA rng1 (mCons (mCall F_take 2 (mCons (mVar 0) (mCons (mC (.int m)) mNil))) mNil)) (gN j) mYes (mCall F_take 2 (mCons (mVar 0) (mCons (mC (.int 2)) mNil))) [j]) ρ [.lst b]).to K E := by
  have v0 : ∀ μ, mVar 0 ρ μ = .ok (.ref 0) μ := fun μ => by simp [mVar, h0]
  refine e_fz (e_lc (fun xs acc μ => ∃ (l : List Int) (b : List D), acc = sg l ∧ Sg l ∧ ((l.length + xs.length : Nat) : Int) < m ∧ Bag (n + xs.length) b ∧ μ = [.lst b]) ?_)
  refine e_ita (e_cons (e_call (e_cons (to_ok (v0 _) (e_cons (e_c (e_nil ⟨rfl, ?_⟩)))))))
  refine p_take (n := n + 20) hb hm (by omega) fun q b q0 q1 hb => ?_
  refine e_nil (to_ok (rng1_eq q q0 (by omega)) ⟨rfl, by simp [intsD, sizeLine_eq]; omega, ⟨[], b, rfl, (fun i h => by cases h), by simp [intsD]; omega, hb.mono (by simp [intsD]; omega), rfl⟩, ?_, ?_⟩)
  · rintro x xs acc μ ⟨l, b, rfl, hs, hn, hb, rfl⟩
    refine ⟨(wipeM ρ [j]).set j (some (.d x)), ?_, ?_⟩
    · simp [gN, wipeM, hj]
    · have v1 : ∀ μ, mVar 0 ((wipeM ρ [j]).set j (some (.d x))) μ = .ok (.ref 0) μ := fun μ => by
        have : ((wipeM ρ [j]).set j (some (.d x)))[0]? = some (some (.ref 0)) := by
          rw [List.getElem?_set_ne (by omega)]
          simp [wipeM, List.getElem?_set_ne, hj0, h0]
        simp [mVar, this]
      refine e_call (e_cons (to_ok (v1 _) (e_cons (e_c (e_nil ⟨rfl, ?_⟩)))))
      refine p_take (n := n + xs.length) (hb.mono (by simp; omega)) (by decide) (by decide) fun q b q0 q1 hb => ?_
      refine ⟨_, rfl, l ++ [q], b, by simp, fun i hi => ?_, by simp at hn ⊢; omega, hb, rfl⟩
      rcases List.mem_append.mp hi with h | h
      · exact hs i h
      · rw [List.mem_singleton.mp h]; omega
  · rintro acc μ ⟨l, b, rfl, hs, hn, hb, rfl⟩
    exact k l b hs (by simpa using hn) (hb.mono (by simp))
end TT
namespace TT
open PySem L2
variable [TB]
set_option maxHeartbeats 8000000 in
theorem lst_refs {μ : List MO} (h : ∀ o ∈ μ, ∃ b, o = MO.lst b) (n : Nat) : (μ.take n).all (fun o => o.refs.all fun k => decide (k < n)) = true := by
  rw [List.all_eq_true]
  intro o ho
  obtain ⟨b, rfl⟩ := h o (List.mem_of_mem_take ho)
  rfl
set_option maxHeartbeats 8000000 in
theorem leadsI (μ : List MO) (C : Addr) : leads (μ ++ [.ins C []]) [μ.length] = [] := by
  have hn : (μ ++ [MO.ins C []])[μ.length]? = some (.ins C []) := by simp
  unfold leads
  rw [hn]
  rfl
set_option maxHeartbeats 8000000 in
theorem selI2 (μ : List MO) (C : Addr) (x y : D) : selOf (μ ++ [.ins C []]) [.ref μ.length, .d x, .d y] = [μ.length] := by
  unfold selOf
  have e : argRefs [.ref μ.length, .d x, .d y] = [μ.length] := rfl
  rw [e]
  have e2 : addAll [] [μ.length] = [μ.length] := by simp [addAll]
  have e3 : addAll [μ.length] [] = [μ.length] := rfl
  show addAll (addAll (addAll [] [μ.length]) (leads _ (addAll [] [μ.length]))) (leads _ (addAll (addAll [] [μ.length]) (leads _ (addAll [] [μ.length])))) = [μ.length]
  rw [e2, leadsI, e3, leadsI, e3]
set_option maxHeartbeats 8000000 in
theorem backF_data (sel : List Nat) (L : Nat) : ∀ {gs : List (Str × MV)} {ds : List (Str × D)}, dataF gs = some ds → backF sel L gs = gs
  | [], _, _ => rfl
  | (f, .d x) :: r, ds, h => by
    simp only [dataF] at h
    obtain ⟨r', h1, _⟩ := Option.map_eq_some_iff.mp h
    simp only [backF, back, backF_data sel L h1]
  | (f, .ref k) :: r, ds, h => by simp [dataF] at h
set_option maxHeartbeats 8000000 in
theorem mk_lift2 {F : MF} {C : Addr} {x y : D} {gs : List (Str × MV)} {ds : List (Str × D)} (h : F [.ref 0, .d x, .d y] [.ins C []] = .ok (.d .non) [.ins C gs]) (hd : dataF gs = some ds) {μ : List MO} (hμ : ∀ o ∈ μ, ∃ b, o = MO.lst b) : mkF C F 3 [.d x, .d y] μ = .ok (.d (.obj C ds)) μ := by
  have hn : (μ ++ [MO.ins C []])[μ.length]? = some (.ins C []) := by simp
  have e : callF F [.ref μ.length, .d x, .d y] (μ ++ [.ins C []]) = .ok (.d .non) (μ ++ [.ins C gs]) := by
    unfold callF
    rw [selI2]
    have t : toCs [μ.length] [.ref μ.length, .d x, .d y] = some [.ref 0, .d x, .d y] := by simp [toCs, toC]
    have p : pick (μ ++ [.ins C []]) [μ.length] [μ.length] = some [.ins C []] := by simp [pick, hn, toCO, toCf]
    simp only [t, p, h]
    simp [back, wb, putAll, backO, backF_data _ _ hd]
  have tr : trimmable μ.length (.d .non) (μ ++ [.ins C gs]) = true := by
    unfold trimmable
    rw [show (MV.d D.non).refs.all (fun k => decide (k < μ.length)) = true from rfl, Bool.true_and, List.take_left]
    have := lst_refs hμ μ.length
    rwa [List.take_length] at this
  unfold mkF mkO
  rw [if_pos (by rfl), e]
  simp only [Res.bind_ok, List.getElem?_concat_length, hd, tr, and_self, if_true, List.take_left]
set_option maxHeartbeats 8000000 in
theorem fld_s (n : Int) (xs : List D) (μ : List MO) : fldOf theAd.script "steps" (.d (oS n xs)) μ = .ok (.d (.int n)) μ := by with_unfolding_all rfl
set_option maxHeartbeats 8000000 in
theorem fld_b (n : Int) (xs : List D) (μ : List MO) : fldOf theAd.script "bits" (.d (oS n xs)) μ = .ok (.d (.tup xs)) μ := by with_unfolding_all rfl
set_option maxHeartbeats 8000000 in
theorem fldE {f : Str} {o v : D} {i : Nat} {ρ : En} {μ : List MO} (hr : ρ[i]? = some (some (.d o))) (h : fldOf theAd.script f (.d o) μ = .ok (.d v) μ) : mFld theAd.script f (mVar i) ρ μ = .ok (.d v) μ := by
  unfold mFld mVar
  rw [hr]
  exact h
set_option maxHeartbeats 8000000 in
theorem len_ok (n : Int) (xs : List D) : F_Script___len__ theAd [.d (oS n xs)] [] = .ok (.d (.int xs.length)) [] := by
  unfold F_Script___len__ b_Script___len__
  exact fn_rt (μ1 := []) (ret_eq (n_eq (hn := one lenD) (xs := [.tup xs]) (cons_eq (ms := mNil) (fldE (ρ := [some (.d (oS n xs))]) (i := 0) rfl (fld_b n xs [])) rfl) rfl (by simp [one, lenD]))) rfl
set_option maxHeartbeats 8000000 in
theorem bool_ok (n : Int) (xs : List D) : F_Script___bool__ theAd [.d (oS n xs)] [] = .ok (.d (.bl (decide (0 < n)))) [] := by
  unfold F_Script___bool__ b_Script___bool__
  have e1 : mBin gtI (mFld theAd.script "steps" (mVar 0)) (mC (.int 0)) [some (.d (oS n xs))] [] = .ok (.d (.bl (decide (0 < n)))) [] := bin_eq (x := .int n) (y := .int 0) (fldE (ρ := [some (.d (oS n xs))]) (i := 0) rfl (fld_s n xs [])) rfl rfl rfl (by simp [gtI, intOp])
  exact fn_rt (μ1 := []) (ret_eq (n_eq (hn := one boolD) (xs := [.bl (decide (0 < n))]) (cons_eq (ms := mNil) e1 rfl) rfl (by with_unfolding_all rfl))) rfl
set_option maxHeartbeats 8000000 in
theorem eq_tup_self {xs : List D} {n : Nat} (h : ∀ x ∈ xs, Ly n x) (hn : n + 1 ≤ 64) : eqD (.tup xs) (.tup xs) = some (.bl true) := by
  have e : eqB (.tup xs) (.tup xs) = some true := eq_self (ly_tup h) hn
  unfold eqD
  rw [e]
  rfl
set_option maxHeartbeats 8000000 in
theorem ne_int_self (n : Int) : neD (.int n) (.int n) = some (.bl false) := by simp [neD, eqB]
set_option maxHeartbeats 8000000 in
theorem eqs_ok (n : Int) (l : List Int) : F_Script___eq__ theAd [.d (oS n (sg l)), .d (oS n (sg l))] [] = .ok (.d (.bl true)) [] := by
  unfold F_Script___eq__ b_Script___eq__
  have f1 := fun i (h : ([some (MV.d (oS n (sg l))), some (MV.d (oS n (sg l)))] : En)[i]? = some (some (MV.d (oS n (sg l))))) => fldE h (fld_s n (sg l) [])
  have f2 := fun i (h : ([some (MV.d (oS n (sg l))), some (MV.d (oS n (sg l)))] : En)[i]? = some (some (MV.d (oS n (sg l))))) => fldE h (fld_b n (sg l) [])
  have e1 : mN (isiO theAd.script) (mCons (mVar 1) (mCons (mC (.gl theAd.script)) mNil)) [some (.d (oS n (sg l))), some (.d (oS n (sg l)))] [] = .ok (.d (.bl true)) [] := by with_unfolding_all rfl
  have e2 : mBin eqD (mFld theAd.script "steps" (mVar 0)) (mFld theAd.script "steps" (mVar 1)) [some (.d (oS n (sg l))), some (.d (oS n (sg l)))] [] = .ok (.d (.bl true)) [] := bin_eq (f1 0 rfl) (f1 1 rfl) rfl rfl (by simp [eqD, eqB])
  have e3 : mBin eqD (mFld theAd.script "bits" (mVar 0)) (mFld theAd.script "bits" (mVar 1)) [some (.d (oS n (sg l))), some (.d (oS n (sg l)))] [] = .ok (.d (.bl true)) [] := bin_eq (f2 0 rfl) (f2 1 rfl) rfl rfl (eq_tup_self (n := 0) sg_ly (by decide))
  have e4 : mAndV (mN (isiO theAd.script) (mCons (mVar 1) (mCons (mC (.gl theAd.script)) mNil))) (mAndV (mBin eqD (mFld theAd.script "steps" (mVar 0)) (mFld theAd.script "steps" (mVar 1))) (mBin eqD (mFld theAd.script "bits" (mVar 0)) (mFld theAd.script "bits" (mVar 1)))) [some (.d (oS n (sg l))), some (.d (oS n (sg l)))] [] = .ok (.d (.bl true)) [] := by
    unfold mAndV
    simp only [e1, e2, e3, Res.bind_ok]
  exact fn_rt (μ1 := []) (ret_eq e4) rfl
set_option maxHeartbeats 8000000 in
theorem and_eq {ma mb : ME} {ρ : En} {μ : List MO} {v : MV} (h : ma ρ μ = .ok (.d (.bl true)) μ) (h2 : mb ρ μ = .ok v μ) : mAndV ma mb ρ μ = .ok v μ := by
  unfold mAndV
  simp only [h, h2, Res.bind_ok]
set_option maxHeartbeats 8000000 in
theorem none_ok : F_Script_none theAd [.d (.gl theAd.script)] [] = .ok (.d (oS 0 [])) [] := by
  unfold F_Script_none b_Script_none
  have hm := mk_ok (n := 0) (b := .tup []) (l := []) (.inr rfl) (by omega) (fun i h => by cases h) (by simp) (by simp)
  have e : mMkV theAd.script (F_Script___init__ theAd) 3 0 (mCons (mC (.int 0)) (mCons (mTup mNil) mNil)) [some (.d (.gl theAd.script))] [] = .ok (.d (oS 0 [])) [] := by
    unfold mMkV
    show (if theAd.script = theAd.script then _ else _) = _
    rw [if_pos rfl]
    have e2 : mCons (mC (.int 0)) (mCons (mTup mNil) mNil) [some (.d (.gl theAd.script))] [] = .ok [.d (.int 0), .d (.tup [])] [] := by with_unfolding_all rfl
    rw [e2]
    exact hm
  exact fn_rt (μ1 := []) (ret_eq e) rfl
set_option maxHeartbeats 8000000 in
theorem ix4 {a b c d : Int} (h : 0 ≤ a ∧ 0 ≤ b ∧ 0 ≤ c ∧ 0 ≤ d) {q : Int} (q0 : 0 ≤ q) (q1 : q < 4) : ∃ z, 0 ≤ z ∧ ixD (.tup [.int a, .int b, .int c, .int d]) (.int q) = some (.int z) := by
  rcases (by omega : q = 0 ∨ q = 1 ∨ q = 2 ∨ q = 3) with rfl | rfl | rfl | rfl
  · exact ⟨a, h.1, by simp [ixD, sizeLine_eq]⟩
  · exact ⟨b, h.2.1, by simp [ixD, sizeLine_eq]⟩
  · exact ⟨c, h.2.2.1, by simp [ixD, sizeLine_eq]⟩
  · exact ⟨d, h.2.2.2, by simp [ixD, sizeLine_eq]⟩
set_option maxHeartbeats 8000000 in
theorem is_all (xs : List D) (h : ∀ d ∈ xs, El d) (hl : xs.length ≤ 1000) {o : D} {j : Nat} {ρ : En} {μ : List MO} (hi : mIt (mFld theAd.script "bits" (mVar 4)) ρ μ = .ok (xs, none) μ) (hj : 7 < ρ.length) : mFz (mLC (mIt (mFld theAd.script "bits" (mVar 4))) (gN 7) mYes (mCall F_is_whole 1 (mCons (mVar 7) mNil)) [7]) ρ μ = .ok (.d (.lst (xs.map fun d => .bl (isI d)))) μ :=
  lcr_eq id (fun d => .bl (isI d)) xs hi rfl (by simp) hl fun d hd => ⟨(wipeM ρ [7]).set 7 (some (.d d)), rfl, call_eq (cons_eq (a := .d d) (by simp [mVar, wipeM, hj]) rfl) rfl (call1 (is_whole_ok (h d hd)))⟩
set_option maxHeartbeats 8000000 in
theorem olen_eq {C : Addr} {F : MF} {ms : MA} {ρ : En} {μ : List MO} {v : MV} {k : Int} (h : ms ρ μ = .ok [v] μ) (hi : isInsC C v μ = true) (hc : callF F [v] μ = .ok (.d (.int k)) μ) (h0 : 0 ≤ k) (h1 : k < 1000000) : mOLen C F ms ρ μ = .ok (.d (.int k)) μ := by
  have h2 : 0 ≤ k ∧ k < 2 ^ 63 := ⟨h0, by omega⟩
  simp only [mOLen, h, Res.bind_ok, if_pos hi, hc, if_pos h2]
set_option maxHeartbeats 8000000 in
theorem good_ok {n : Nat} {b : List D} (hb : Bag (n + 40) b) : (F_good theAd [.ref 0] [.lst b]).to (fun v μ' => ∃ b', v = .d (.bl true) ∧ Bag n b' ∧ μ' = [.lst b']) no3 := by
  unfold F_good b_good
  refine fn_to ?_
  with_reducible refine w_seqG fun rest hrest => ?_
  refine w_set (signs_to (n := n + 19) (m := 13) (by decide) (by decide) hb rfl (by decide) (by decide) fun l b hs hl hb => ?_)
  subst hrest
  have hl1 : l.length ≤ 12 := by omega
  obtain ⟨k, hk⟩ : ∃ k : Int, k = l.length := ⟨_, rfl⟩
  have hlen : one lenD [.lst (sg l)] = some (.int k) := by rw [hk]; simp [one, lenD]
  -- the count
  with_reducible refine w_seqG fun rest hrest => ?_
  with_reducible refine w_set ?_
  with_reducible refine e_bin ?_
  refine to_ok (v := .d (.int k)) (μ' := [.lst b]) (n_eq (hn := one lenD) (xs := [.lst (sg l)]) rfl rfl hlen) ?_
  wtm_at "wr"
  refine p_take (n := n + 18) hb (by decide) (by decide) fun q b q0 q1 hb => ?_
  wtm_at "wr"
  refine p_take (n := n + 17) hb (by decide) (by decide) fun q2 b r0 r1 hb => ?_
  obtain ⟨z, hz, ez⟩ := ix4 (a := 0) (b := 1) (c := q) (d := 10000000000000000000000000000000000000000) ⟨by omega, by omega, q0, by omega⟩ r0 r1
  refine e_op2 rfl (by with_unfolding_all rfl) ez ?_
  have hadd : addD (.int k) (.int z) = some (.int (k + z)) := addI_ _ _
  refine e_op2 rfl rfl hadd ?_
  obtain ⟨c, hc⟩ : ∃ c : Int, c = k + z := ⟨_, rfl⟩
  rw [← hc]
  have hc0 : 0 ≤ c := by omega
  have hcl : (l.length : Int) ≤ c := by omega
  subst hrest
  -- the list that is handed on
  with_reducible refine w_seqG fun rest hrest => ?_
  have e3 : mOwn (mNL listL (mCons (mVar 1) mNil)) [some (.ref 0), some (.d (.lst (sg l))), some (.d (.int c)), none, none, none, none, none] [.lst b] = .ok (.ref 1) [.lst b, .lst (sg l)] := by with_unfolding_all rfl
  refine w_set (to_ok e3 ?_)
  subst hrest
  with_reducible refine w_seqG fun rest hrest => ?_
  have e4 : (mCons (mVar 2) (mCons (mVar 3) mNil)) [some (.ref 0), some (.d (.lst (sg l))), some (.d (.int c)), some (.ref 1), none, none, none, none] [.lst b, .lst (sg l)] = .ok [.d (.int c), .ref 1] [.lst b, .lst (sg l)] := rfl
  refine w_set (e_mkZ (to_ok e4 ⟨[.int c, .lst (sg l)], oS c (sg l), [], rfl, mk_ok (.inl rfl) hc0 hs hcl (by omega), okD_oS _ _ _, ?_⟩))
  subst hrest
  with_reducible refine w_seqG fun rest hrest => ?_
  wtm_at "wr"
  have hap : apD (sg l) [.int 1] = some (.non, sg l ++ [.int 1]) := if_pos (by rw [sizeLine_eq]; simp; omega)
  refine k_mut2s rfl rfl hap rfl ?_
  obtain ⟨μ1, hμ⟩ : ∃ μ1 : List MO, μ1 = [.lst b, .lst (sg l ++ [.int 1])] := ⟨_, rfl⟩
  change (rest [some (.ref 0), some (.d (.lst (sg l))), some (.d (.int c)), some (.ref 1), some (.d (oS c (sg l))), none, none, none] [.lst b, .lst (sg l ++ [.int 1])]).to _ _ _ _ _
  rw [← hμ]
  subst hrest
  obtain ⟨ρ1, hρ⟩ : ∃ ρ1 : En, ρ1 = [some (.ref 0), some (.d (.lst (sg l))), some (.d (.int c)), some (.ref 1), some (.d (oS c (sg l))), none, none, none] := ⟨_, rfl⟩
  rw [← hρ]
  have v1 : mVar 1 ρ1 μ1 = .ok (.d (.lst (sg l))) μ1 := by rw [hρ]; rfl
  have v2 : mVar 2 ρ1 μ1 = .ok (.d (.int c)) μ1 := by rw [hρ]; rfl
  have v4 : mVar 4 ρ1 μ1 = .ok (.d (oS c (sg l))) μ1 := by rw [hρ]; rfl
  have fs : mFld theAd.script "steps" (mVar 4) ρ1 μ1 = .ok (.d (.int c)) μ1 := fldE (by rw [hρ]; rfl) (fld_s c (sg l) μ1)
  have fb : mFld theAd.script "bits" (mVar 4) ρ1 μ1 = .ok (.d (.tup (sg l))) μ1 := fldE (by rw [hρ]; rfl) (fld_b c (sg l) μ1)
  have tp : mN (one tupD) (mCons (mVar 1) mNil) ρ1 μ1 = .ok (.d (.tup (sg l))) μ1 := n_eq (hn := one tupD) (xs := [.lst (sg l)]) (cons_eq v1 rfl) rfl (by simp [one, tupD])
  have ln : mN (one lenD) (mCons (mVar 1) mNil) ρ1 μ1 = .ok (.d (.int k)) μ1 := n_eq (hn := one lenD) (xs := [.lst (sg l)]) (cons_eq v1 rfl) rfl hlen
  have nt : neD (.tup (sg l)) (.tup (sg l)) = some (.bl false) := ne_tup_self (n := 0) sg_ly (by decide)
  -- the fields
  with_reducible refine w_seqG fun rest hrest => ?_
  refine z_ifs (z_or (z_not (e_t (z_call (e_cons (to_ok fs (e_nil (k_call rfl ?_))))))))
  refine to_ok (call1 (is_whole_ok (d := .int c) trivial)) ?_
  wtm_at "wr"
  refine brF (by with_unfolding_all rfl) ?_
  refine z_or (e_b (e_bin (to_ok fs (to_ok v2 (e_op2 rfl rfl (ne_int_self c) (e_bl (brF rfl ?_)))))))
  refine e_b (e_bin (to_ok fb (to_ok tp (e_op2 rfl rfl nt (e_bl (brF rfl ?_))))))
  wtm_at "wr"
  subst hrest
  with_reducible refine w_seqG fun rest hrest => ?_
  have i1 : mN isiD (mCons (mFld theAd.script "bits" (mVar 4)) (mCons (mC (.ty "tuple")) mNil)) ρ1 μ1 = .ok (.d (.bl true)) μ1 := n_eq (hn := isiD) (xs := [.tup (sg l), .ty "tuple"]) (cons_eq fb rfl) rfl (by with_unfolding_all rfl)
  have i2 : mIt (mFld theAd.script "bits" (mVar 4)) ρ1 μ1 = .ok (sg l, none) μ1 := (congrArg (fun r : Res MV => r.bind itemsOf) fb).trans rfl
  have i3 := is_all (sg l) sg_el (by simp; omega) (o := .non) (j := 0) i2 (by rw [hρ]; show 7 < 8; decide)
  have i4 : mN (one allD) (mCons (mFz (mLC (mIt (mFld theAd.script "bits" (mVar 4))) (gN 7) mYes (mCall F_is_whole 1 (mCons (mVar 7) mNil)) [7])) mNil) ρ1 μ1 = .ok (.d (.bl true)) μ1 := by
    refine n_eq (hn := one allD) (cons_eq (ms := mNil) i3 rfl) rfl ?_
    rw [all_map, sg_isI]
  refine z_ifs (z_or (z_not (e_t (to_ok i1 (e_tru rfl rfl (k_not_t (br_f ?_)))))))
  refine z_not (e_t (to_ok i4 (e_tru rfl rfl (k_not_t (br_f ?_)))))
  wtm_at "wr"
  subst hrest
  -- len
  with_reducible refine w_seqG fun rest hrest => ?_
  have o1 : mOLen theAd.script (F_Script___len__ theAd) (mCons (mVar 4) mNil) ρ1 μ1 = .ok (.d (.int k)) μ1 := by
    have h1 : callF (F_Script___len__ theAd) [.d (oS c (sg l))] μ1 = .ok (.d (.int k)) μ1 := by
      have h0 := call1 (μ := μ1) (len_ok c (sg l))
      have h3 : ((sg l).length : Int) = k := by rw [hk, List.length_map]
      rw [h3] at h0
      exact h0
    exact olen_eq (cons_eq v4 rfl) rfl h1 (by omega) (by omega)
  refine z_ifs (e_b (e_bin (to_ok o1 (to_ok ln (e_op2 rfl rfl (ne_int_self k) (e_bl (brF rfl ?_)))))))
  wtm_at "wr"
  subst hrest
  -- truth and ==
  with_reducible refine w_seqG fun rest hrest => ?_
  have b1 : mBoolO theAd.script (F_Script___bool__ theAd) (mCons (mVar 4) mNil) ρ1 μ1 = .ok (.d (.bl (decide (0 < c)))) μ1 := by
    unfold mBoolO
    rw [cons_eq v4 rfl]
    simp only [Res.bind_ok]
    rw [truO_eq rfl (call1 (μ := μ1) (bool_ok c (sg l)))]
    rfl
  have b2 : mBin gtI (mVar 2) (mC (.int 0)) ρ1 μ1 = .ok (.d (.bl (decide (0 < c)))) μ1 := bin_eq (x := .int c) (y := .int 0) v2 rfl rfl rfl (by simp [gtI, intOp])
  have nb : neD (.bl (decide (0 < c))) (.bl (decide (0 < c))) = some (.bl false) := by simp [neD, eqB]
  have m1 : mMkFK theAd.script (F_Script___init__ theAd) 3 2 true (mCons (mN (one tupD) (mCons (mVar 1) mNil)) (mCons (mVar 2) mNil)) ρ1 μ1 = .ok (.d (oS c (sg l))) μ1 := by
    have h0 := init_ok (n := c) (b := .tup (sg l)) (xs := sg l) (.inr rfl) hc0 sg_el (sg_all hs) (by simpa using hcl) (by simp; omega)
    unfold mMkFK
    rw [cons_eq tp (cons_eq v2 rfl)]
    show (if [MV.d (.tup (sg l)), .d (.int c)].length = 2 then mkF theAd.script (F_Script___init__ theAd) 3 [.d (.int c), .d (.tup (sg l))] μ1 else .bad) = _
    rw [if_pos (show [MV.d (D.tup (sg l)), MV.d (D.int c)].length = 2 from rfl)]
    exact mk_lift2 h0 rfl (fun o ho => by
      rw [hμ] at ho
      simp only [List.mem_cons, List.not_mem_nil, or_false] at ho
      rcases ho with rfl | rfl <;> exact ⟨_, rfl⟩)
  have q1 : mOEq theAd.script (F_Script___eq__ theAd) (mVar 4) (mMkFK theAd.script (F_Script___init__ theAd) 3 2 true (mCons (mN (one tupD) (mCons (mVar 1) mNil)) (mCons (mVar 2) mNil))) ρ1 μ1 = .ok (.d (.bl true)) μ1 := by
    unfold mOEq
    rw [v4]
    simp only [Res.bind_ok, m1]
    rw [if_pos ⟨rfl, rfl⟩, call2 (μ := μ1) (eqs_ok c l)]
    rfl
  refine z_ifs (z_or (e_b (e_bin (to_ok b1 (to_ok b2 (e_op2 rfl rfl nb (e_bl (brF rfl ?_))))))))
  refine z_not (e_b (to_ok q1 ?_))
  wtm_at "wr"
  subst hrest
  -- none
  with_reducible refine w_seqG fun rest hrest => ?_
  have n1 : mCall (F_Script_none theAd) 1 (mCons (mC (.gl theAd.script)) mNil) ρ1 μ1 = .ok (.d (oS 0 [])) μ1 := call_eq (as := [.d (.gl theAd.script)]) rfl rfl (call1 (μ := μ1) none_ok)
  refine w_set (to_ok n1 ?_)
  obtain ⟨ρ2, hρ2⟩ : ∃ ρ2 : En, ρ2 = ρ1.set 5 (some (.d (oS 0 []))) := ⟨_, rfl⟩
  rw [← hρ2]
  subst hrest
  have v5 : mVar 5 ρ2 μ1 = .ok (.d (oS 0 [])) μ1 := by rw [hρ2, hρ]; rfl
  have g1 : mFld theAd.script "steps" (mVar 5) ρ2 μ1 = .ok (.d (.int 0)) μ1 := fldE (by rw [hρ2, hρ]; rfl) (fld_s 0 [] μ1)
  have g2 : mFld theAd.script "bits" (mVar 5) ρ2 μ1 = .ok (.d (.tup [])) μ1 := fldE (by rw [hρ2, hρ]; rfl) (fld_b 0 [] μ1)
  have t1 : mBin eqD (mC (.int 1000)) (mC (.int 1000)) ρ2 μ1 = .ok (.d (.bl true)) μ1 := bin_eq (x := .int 1000) (y := .int 1000) rfl rfl rfl rfl (by with_unfolding_all rfl)
  have t2 : mBin eqD (mFld theAd.script "steps" (mVar 5)) (mC (.int 0)) ρ2 μ1 = .ok (.d (.bl true)) μ1 := bin_eq (y := .int 0) g1 rfl rfl rfl (by with_unfolding_all rfl)
  have t3 : mBin eqD (mFld theAd.script "bits" (mVar 5)) (mTup mNil) ρ2 μ1 = .ok (.d (.bl true)) μ1 := bin_eq (y := .tup []) g2 (by with_unfolding_all rfl) rfl rfl (by with_unfolding_all rfl)
  have t4 : mNotO theAd.script (F_Script___bool__ theAd) (mVar 5) ρ2 μ1 = .ok (.d (.bl true)) μ1 := by
    unfold mNotO
    rw [v5]
    simp only [Res.bind_ok]
    rw [truO_eq rfl (call1 (μ := μ1) (bool_ok 0 []))]
    rfl
  have t5 : mBin eqD (mOLen theAd.script (F_Script___len__ theAd) (mCons (mVar 5) mNil)) (mC (.int 0)) ρ2 μ1 = .ok (.d (.bl true)) μ1 := by
    have h1 : callF (F_Script___len__ theAd) [.d (oS 0 [])] μ1 = .ok (.d (.int 0)) μ1 := call1 (μ := μ1) (len_ok 0 [])
    have h2 : isInsC theAd.script (.d (oS 0 [])) μ1 = true := rfl
    refine bin_eq (x := .int 0) (y := .int 0) (a := .d (.int 0)) (μ1 := μ1) ?_ rfl rfl rfl (by with_unfolding_all rfl)
    exact olen_eq (cons_eq v5 rfl) rfl h1 (by omega) (by omega)
  have t6 := ret_eq (and_eq t1 (and_eq t2 (and_eq t3 (and_eq t4 t5))))
  rw [t6, hμ]
  exact ⟨_, rfl, rfl, b, rfl, hb.mono (by omega), rfl⟩
end TT
namespace TT
open PySem L2
variable [TB]
set_option maxHeartbeats 8000000 in
theorem six_nat (n d k : Nat) (hk : k ≤ n) : HT.sIx n d (some (k : Int)) = k := by
  unfold HT.sIx
  have h : ¬ ((k : Int) < 0) := by omega
  simp [h]
  omega
set_option maxHeartbeats 8000000 in
theorem six_none (n d : Nat) : HT.sIx n d none = d := rfl
set_option maxHeartbeats 8000000 in
theorem cut_to (xs : List D) (k : Nat) (hk : k ≤ xs.length) : cutD xs none (some (k : Int)) = xs.take k := by
  unfold cutD
  rw [six_nat _ _ _ hk, six_none]
  simp
set_option maxHeartbeats 8000000 in
theorem cut_from (xs : List D) (k : Nat) (hk : k ≤ xs.length) : cutD xs (some (k : Int)) none = xs.drop k := by
  unfold cutD
  rw [six_nat _ _ _ hk, six_none]
  exact List.take_of_length_le (by simp)
set_option maxHeartbeats 8000000 in
theorem ix_memT {xs : List D} (hl : xs.length ≤ 1000) {q : Int} (h0 : 0 ≤ q) (h1 : q < xs.length) : ∃ x ∈ xs, ixD (.tup xs) (.int q) = some x := by
  obtain ⟨m, rfl⟩ : ∃ m : Nat, q = m := ⟨q.toNat, by omega⟩
  have hm : m < xs.length := by omega
  refine ⟨xs[m], List.getElem_mem hm, ?_⟩
  simp [ixD, sizeLine_eq, hm]
set_option maxHeartbeats 8000000 in
theorem mix_eq {xs : List D} {q : Nat} (hq : q ≤ xs.length) (hl : xs.length ≤ 1000) {d : D} {ρ : En} {μ : List MO} (h1 : ρ[1]? = some (some (.d (.lst xs)))) (h2 : ρ[2]? = some (some (.d (.int q)))) {me : ME} (hme : me ρ μ = .ok (.d d) μ) :
    (mBin addD (mBin addD (mSlice (mVar 1) pNone (pSome (mVar 2))) (mFz (mLst (mCons me mNil)))) (mSlice (mVar 1) (pSome (mVar 2)) pNone)) ρ μ = .ok (.d (.lst (xs.take q ++ [d] ++ xs.drop q))) μ := by
  have s1 : mSlice (mVar 1) pNone (pSome (mVar 2)) ρ μ = .ok (.d (.lst (xs.take q))) μ := by simp [mSlice, pNone, pSome, h1, h2, sliceD, cut_to xs q hq]
  have s2 : mSlice (mVar 1) (pSome (mVar 2)) pNone ρ μ = .ok (.d (.lst (xs.drop q))) μ := by simp [mSlice, pNone, pSome, h1, h2, sliceD, cut_from xs q hq]
  have s3 : mFz (mLst (mCons me mNil)) ρ μ = .ok (.d (.lst [d])) μ := by
    have e : mCons me mNil ρ μ = .ok [.d d] μ := cons_eq hme rfl
    unfold mFz mLst
    rw [e]
    rfl
  exact bin_eq (bin_eq s1 s3 rfl rfl (addD_lst (by rw [sizeLine_eq]; simp; omega))) s2 rfl rfl (addD_lst (by rw [sizeLine_eq]; simp; omega))
set_option maxHeartbeats 8000000 in
theorem sm_bl (b : Bool) : Sm 100 0 (.bl b) := ⟨_, rfl, (Sh.bool b).mono (by decide) (Nat.le_refl _)⟩
set_option maxHeartbeats 8000000 in
theorem sm_lst {n k m n' : Nat} {xs : List D} (h : ∀ x ∈ xs, Sm n k x) (hl : xs.length ≤ m) (hn : m * (n + 2) + 3 ≤ n') : Sm n' (k + 1) (.lst xs) := by
  obtain ⟨ps, h3, h4, h5⟩ := sm_all xs h
  refine ⟨.list ps, by simp [toPy, h3], (Sh.list (ShAll.of ps h5)).mono ?_ (Nat.le_refl _)⟩
  have : ps.length * (n + 2) ≤ m * (n + 2) := Nat.mul_le_mul_right _ (by omega)
  omega
abbrev badL : List D := [.int (-1), .int (-10000000000000000000000000000000000000000), .bl true, .bl false, .non, .str ("9" : Str), .tup [.int 9], .lst []]
abbrev oddL : List D := [.int 2, .int (-1), .bl true, .bl false, .non, .str ("1" : Str), .tup [.int 1], .int 10000000000000000000000000000000000000000]
set_option maxHeartbeats 8000000 in
theorem sm_i {i : Int} (h : i.natAbs ≤ 10000000000000000000000000000000000000000) : Sm 210 1 (.int i) := (sm_int (Nat.lt_of_le_of_lt h (by decide))).mono (by omega) (by omega)
set_option maxHeartbeats 8000000 in
theorem bad_at (b : D) : ∀ x ∈ badL, BadS x b ∧ Sm 210 1 x := by
  intro x hx
  simp only [List.mem_cons, List.not_mem_nil, or_false] at hx
  rcases hx with rfl | rfl | rfl | rfl | rfl | rfl | rfl | rfl
  · exact ⟨.neg (by decide), sm_i (by decide)⟩
  · exact ⟨.neg (by decide), sm_i (by decide)⟩
  · exact ⟨.num trivial rfl, (sm_bl _).mono (by omega) (by omega)⟩
  · exact ⟨.num trivial rfl, (sm_bl _).mono (by omega) (by omega)⟩
  · exact ⟨.num trivial rfl, sm_non.mono (by omega) (by omega)⟩
  · exact ⟨.num trivial rfl, (sm_s (by decide) (by decide)).mono (by omega) (by omega)⟩
  · exact ⟨.num trivial rfl, sm_tup (n := 100) (k := 0) (m := 1) (fun y hy => by rw [List.mem_singleton.mp hy]; exact sm_int (by decide)) (by decide) (by omega)⟩
  · exact ⟨.num trivial rfl, sm_lst (n := 100) (k := 0) (m := 1) (fun y hy => by cases hy) (by decide) (by omega)⟩
set_option maxHeartbeats 8000000 in
theorem odd_at : ∀ x ∈ oddL, El x ∧ bitOf x = false ∧ Sm 210 1 x := by
  intro x hx
  simp only [List.mem_cons, List.not_mem_nil, or_false] at hx
  rcases hx with rfl | rfl | rfl | rfl | rfl | rfl | rfl | rfl
  · exact ⟨trivial, by decide, sm_i (by decide)⟩
  · exact ⟨trivial, by decide, sm_i (by decide)⟩
  · exact ⟨trivial, rfl, (sm_bl _).mono (by omega) (by omega)⟩
  · exact ⟨trivial, rfl, (sm_bl _).mono (by omega) (by omega)⟩
  · exact ⟨trivial, rfl, sm_non.mono (by omega) (by omega)⟩
  · exact ⟨trivial, rfl, (sm_s (by decide) (by decide)).mono (by omega) (by omega)⟩
  · exact ⟨trivial, rfl, sm_tup (n := 100) (k := 0) (m := 1) (fun y hy => by rw [List.mem_singleton.mp hy]; exact sm_int (by decide)) (by decide) (by omega)⟩
  · exact ⟨trivial, by decide, sm_i (by decide)⟩
/-- its repr -/
def Shw (x y : D) : Prop := ∃ t, reprX [.tup [x, y]] = some (.str t)
set_option maxHeartbeats 8000000 in
theorem reprE_str {d y : D} (h : reprE d = some y) : ∃ t, y = .str t := by
  unfold reprE at h
  split at h
  · split at h
    · cases h; exact ⟨_, rfl⟩
    · cases h
  · cases h
set_option maxHeartbeats 8000000 in
theorem shw_sm {x y : D} (hx : Sm 210 1 x) (hy : Sm 9000 3 y) : Shw x y := by
  obtain ⟨t, ht⟩ := repr_sm (sm_tup (n := 9000) (k := 3) (m := 2) (n' := 20000) (xs := [x, y]) (fun z hz => by
    simp only [List.mem_cons, List.not_mem_nil, or_false] at hz
    rcases hz with rfl | rfl
    · exact hx.mono (by omega) (by omega)
    · exact hy) (Nat.le_refl 2) (by omega)) (by rw [sizeLine_eq]; omega) (by omega)
  show ∃ t, (reprE (.tup [x, y])).or (reprD (.tup [x, y])) = some (.str t)
  cases e : reprE (.tup [x, y]) with
  | none => exact ⟨t, ht⟩
  | some z =>
    obtain ⟨t, rfl⟩ := reprE_str e
    exact ⟨t, rfl⟩
set_option maxHeartbeats 8000000 in
theorem shw_em {i : Int} (h : i.natAbs < 10 ^ 60) : Shw (.int i) (.dK []) := by
  have hd : Sh (.dict []) 10 1 := ⟨by decide, by decide, by decide⟩
  have hs : Sh (emP i) 200 2 := (Sh.tuple (ShAll.cons ((Sh.int h).mono (Nat.le_refl _) (Nat.zero_le _)) (ShAll.cons hd ShAll.nil))).mono (by omega) (by omega)
  have e : reprE (.tup [.int i, .dK []]) = some (.str (emP i).shown) := if_pos ⟨hs.so, Nat.le_trans hs.le (by rw [sizeLine_eq]; omega)⟩
  exact ⟨(emP i).shown, by show (reprE (.tup [.int i, .dK []])).or (reprD (.tup [.int i, .dK []])) = _; rw [e]; rfl⟩
set_option maxHeartbeats 8000000 in
theorem sm_sgl {l : List Int} (hs : Sg l) (hl : l.length ≤ 12) : Sm 9000 3 (.lst (sg l)) := (sm_lst (n := 100) (k := 0) (m := 12) (fun y hy => by
  obtain ⟨i, hi, rfl⟩ := List.mem_map.mp hy
  have := hs i hi
  exact sm_int (Nat.lt_of_le_of_lt (show i.natAbs ≤ 1 by omega) (by decide))) (by simpa using hl) (Nat.le_refl _)).mono (by omega) (by omega)
section
variable {l : List Int} {d : D} {q : Nat}
abbrev mixL (l : List Int) (d : D) (q : Nat) : List D := (sg l).take q ++ [d] ++ (sg l).drop q
set_option maxHeartbeats 8000000 in
theorem mix_mem {x : D} (h : x ∈ mixL l d q) : x ∈ sg l ∨ x = d := by
  simp only [mixL, List.mem_append, List.mem_singleton] at h
  rcases h with (h | h) | h
  · exact .inl (List.mem_of_mem_take h)
  · exact .inr h
  · exact .inl (List.mem_of_mem_drop h)
set_option maxHeartbeats 8000000 in
theorem mix_el (hd : El d) : ∀ x ∈ mixL l d q, El x := fun x hx => by
  rcases mix_mem hx with h | rfl
  · exact sg_el x h
  · exact hd
set_option maxHeartbeats 8000000 in
theorem mix_len (hq : q ≤ l.length) : (mixL l d q).length = l.length + 1 := by
  simp [mixL]
  omega
set_option maxHeartbeats 8000000 in
theorem mix_all (hs : Sg l) (hq : q ≤ l.length) : (mixL l d q).all bitOf = bitOf d := by
  have h := sg_all hs
  rw [List.all_eq_true] at h
  have h1 : ((sg l).take q).all bitOf = true := List.all_eq_true.mpr fun x hx => h x (List.mem_of_mem_take hx)
  have h2 : ((sg l).drop q).all bitOf = true := List.all_eq_true.mpr fun x hx => h x (List.mem_of_mem_drop hx)
  rw [mixL, List.all_append, List.all_append, h1, h2]
  simp
set_option maxHeartbeats 8000000 in
theorem sm_mix (hs : Sg l) (hq : q ≤ l.length) (hl : l.length ≤ 12) (hd : Sm 210 1 d) : Sm 9000 3 (.lst (mixL l d q)) ∧ Sm 9000 3 (.tup (mixL l d q)) := by
  have h : ∀ x ∈ mixL l d q, Sm 210 1 x := fun x hx => by
    rcases mix_mem hx with h | rfl
    · obtain ⟨i, hi, rfl⟩ := List.mem_map.mp h
      have := hs i hi
      exact (sm_int (Nat.lt_of_le_of_lt (show i.natAbs ≤ 1 by omega) (by decide))).mono (by omega) (by omega)
    · exact hd
  have hm : (mixL l d q).length ≤ 13 := by rw [mix_len hq]; omega
  exact ⟨(sm_lst h hm (Nat.le_refl _)).mono (by omega) (by omega), (sm_tup h hm (Nat.le_refl _)).mono (by omega) (by omega)⟩
end
set_option maxHeartbeats 8000000 in
theorem wrong_to {n : Nat} {b : List D} (hb : Bag (n + 40) b) : (F_wrong [.ref 0] [.lst b]).to (fun v μ' => ∃ x y b', v = .d (.tup [x, y]) ∧ BadS x y ∧ Shw x y ∧ Bag n b' ∧ μ' = [.lst b']) no3 := by
  unfold F_wrong b_wrong
  refine fn_to ?_
  with_reducible refine w_seqG fun rest hrest => ?_
  refine w_set (signs_to (n := n + 19) (m := 9) (by decide) (by decide) hb rfl (by decide) (by decide) fun l b hs hl hb => ?_)
  subst hrest
  have hl1 : l.length ≤ 8 := by omega
  obtain ⟨k, hk⟩ : ∃ k : Int, k = l.length := ⟨_, rfl⟩
  have hlen : one lenD [.lst (sg l)] = some (.int k) := by rw [hk]; simp [one, lenD]
  with_reducible refine w_seqG fun rest hrest => ?_
  have ln : ∀ b : List D, mBin addD (mN (one lenD) (mCons (mVar 1) mNil)) (mC (.int 1)) [some (.ref 0), some (.d (.lst (sg l))), none, none, none, none, none, none, none] [.lst b] = .ok (.d (.int (k + 1))) [.lst b] := fun b => bin_eq (x := .int k) (y := .int 1) (n_eq (hn := one lenD) (xs := [.lst (sg l)]) rfl rfl hlen) rfl rfl rfl (addI_ _ _)
  refine z_par2 (e_cons (z_call (e_cons (e_var (v := .ref 0) rfl (e_cons (to_ok (ln b) (e_nil (k_call rfl ?_))))))))
  refine p_take (n := n + 18) hb (by omega) (by omega) fun q b q0 q1 hb => ?_
  wtm_at "wr"
  refine p_take (n := n + 17) hb (by decide) (by decide) fun road b r0 r1 hb => ?_
  obtain ⟨qn, rfl⟩ : ∃ qn : Nat, q = qn := ⟨q.toNat, by omega⟩
  have hqn : qn ≤ l.length := by omega
  wtm_at "wr"
  subst hrest
  -- the number
  with_reducible refine w_seqG fun rest hrest => ?_
  wtm_at "wr"
  refine br_ok (fun h => ?_) (fun h => ?_)
  · with_reducible refine w_seqG fun rest2 hrest2 => ?_
    wtm_at "wr"
    refine p_take (n := n + 16) hb (by decide) (by decide) fun q b q0 q1 hb => ?_
    obtain ⟨x, hx, e⟩ := ix_memT (xs := badL) (by simp) q0 (by simpa using q1)
    with_reducible refine e_op2 (x := .tup badL) (by with_unfolding_all rfl) (by with_unfolding_all rfl) e ?_
    subst hrest2
    wtm_at "wr"
    refine p_take (n := n + 15) hb (by decide) (by decide) fun q b q0 q1 hb => ?_
    obtain ⟨y, hy, e⟩ := ix_memT (xs := [.lst [], .lst (sg l)]) (by simp) q0 (by simpa using q1)
    with_reducible refine e_op2 (x := .tup [.lst [], .lst (sg l)]) (by with_unfolding_all rfl) (by with_unfolding_all rfl) e ?_
    wtm_at "wr"
    have hb1 := bad_at y x hx
    have hy2 : Sm 9000 3 y := by
      simp only [List.mem_cons, List.not_mem_nil, or_false] at hy
      rcases hy with rfl | rfl
      · exact (sm_lst (n := 100) (k := 0) (m := 1) (fun y hy => by cases hy) (by decide) (Nat.le_refl _)).mono (by omega) (by omega)
      · exact sm_sgl hs (by omega)
    exact ⟨_, rfl, rfl, x, y, b, rfl, hb1.1, shw_sm hb1.2 hy2, hb.mono (by omega), rfl⟩
  wtm_at "wr"
  subst hrest
  -- too long
  with_reducible refine w_seqG fun rest hrest => ?_
  wtm_at "wr"
  refine br_ok (fun h => ?_) (fun h => ?_)
  · with_reducible refine w_seqG fun rest2 hrest2 => ?_
    refine w_set (to_ok (mix_eq (xs := sg l) (q := qn) (d := .int 1) (by simpa using hqn) (by simp; omega) rfl rfl rfl) ?_)
    subst hrest2
    have hml := mix_len (d := .int 1) hqn
    have tpl : one tupD [.lst (mixL l (.int 1) qn)] = some (.tup (mixL l (.int 1) qn)) := by simp [one, tupD]
    with_reducible refine w_ret ?_
    with_reducible refine z_tup ?_
    with_reducible refine e_cons ?_
    refine to_ok (v := .d (.int k)) (μ' := [.lst b]) (n_eq (hn := one lenD) (xs := [.lst (sg l)]) rfl rfl hlen) ?_
    with_reducible refine e_cons ?_
    with_reducible refine e_bin ?_
    with_reducible refine z_tup ?_
    with_reducible refine e_cons ?_
    refine e_var (v := .d (.lst (mixL l (.int 1) qn))) rfl ?_
    with_reducible refine e_cons ?_
    refine to_ok (v := .d (.tup (mixL l (.int 1) qn))) (μ' := [.lst b]) (n_eq (hn := one tupD) (xs := [.lst (mixL l (.int 1) qn)]) rfl rfl tpl) ?_
    with_reducible refine e_nil ?_
    refine k_tup rfl (by simp [sizeLine_eq]) ?_
    wtm_at "wr"
    refine p_take (n := n + 16) hb (by decide) (by decide) fun q b q0 q1 hb => ?_
    obtain ⟨y, hy, e⟩ := ix_memT (xs := [.lst (mixL l (.int 1) qn), .tup (mixL l (.int 1) qn)]) (by simp) q0 (by simpa using q1)
    refine e_op2 rfl rfl e ?_
    wtm_at "wr"
    have hy1 : y = .lst (mixL l (.int 1) qn) ∨ y = .tup (mixL l (.int 1) qn) := by simpa using hy
    have h1 : Sm 210 1 (.int 1) := sm_i (by decide)
    have hsm := sm_mix hs hqn (by omega) h1
    refine ⟨_, rfl, rfl, .int k, y, b, rfl, ?_, shw_sm (sm_i (by omega)) (by rcases hy1 with rfl | rfl; exact hsm.1; exact hsm.2), hb.mono (by omega), rfl⟩
    exact .long (by omega) hy1 (mix_el trivial) (by rw [mix_all hs hqn]; decide) (by rw [hml]; omega) (by omega)
  wtm_at "wr"
  subst hrest
  -- an odd bit
  with_reducible refine w_seqG fun rest hrest => ?_
  wtm_at "wr"
  refine p_take (n := n + 16) hb (by decide) (by decide) fun q b q0 q1 hb => ?_
  obtain ⟨x, hx, e⟩ := ix_memT (xs := oddL) (by simp) q0 (by simpa using q1)
  with_reducible refine e_op2 (x := .tup oddL) (by with_unfolding_all rfl) (by with_unfolding_all rfl) e ?_
  obtain ⟨o1, o2, o3⟩ := odd_at x hx
  subst hrest
  with_reducible refine w_seqG fun rest hrest => ?_
  refine w_set (to_ok (mix_eq (xs := sg l) (q := qn) (d := x) (by simpa using hqn) (by simp; omega) rfl rfl rfl) ?_)
  have hml := mix_len (d := x) hqn
  have hlen2 : one lenD [.lst (mixL l x qn)] = some (.int (k + 1)) := by
    have : ((mixL l x qn).length : Int) = k + 1 := by rw [hml]; omega
    rw [← this]
    simp [one, lenD]
  have tpl : one tupD [.lst (mixL l x qn)] = some (.tup (mixL l x qn)) := by simp [one, tupD]
  have hsm := sm_mix hs hqn (by omega) o3
  have hel := mix_el (l := l) (q := qn) o1
  have hall := (mix_all (d := x) hs hqn).trans o2
  change (rest [some (.ref 0), some (.d (.lst (sg l))), some (.d (.int qn)), some (.d (.int road)), none, none, some (.d x), some (.d (.lst (mixL l x qn))), none] [.lst b]).to _ _ _ _ _
  generalize mixL l x qn = sp at *
  subst hrest
  with_reducible refine w_seqG fun rest hrest => ?_
  with_reducible refine w_set ?_
  with_reducible refine e_bin ?_
  refine to_ok (v := .d (.int (k + 1))) (μ' := [.lst b]) (n_eq (hn := one lenD) (xs := [.lst sp]) rfl rfl hlen2) ?_
  wtm_at "wr"
  refine p_take (n := n + 15) hb (by decide) (by decide) fun q b q0 q1 hb => ?_
  have hadd : addD (.int (k + 1)) (.int q) = some (.int (k + 1 + q)) := addI_ _ _
  refine e_op2 rfl rfl hadd ?_
  obtain ⟨c, hc⟩ : ∃ c : Int, c = k + 1 + q := ⟨_, rfl⟩
  rw [← hc]
  subst hrest
  with_reducible refine w_ret ?_
  with_reducible refine z_tup ?_
  with_reducible refine e_cons ?_
  refine e_var (v := .d (.int c)) rfl ?_
  with_reducible refine e_cons ?_
  with_reducible refine e_bin ?_
  with_reducible refine z_tup ?_
  with_reducible refine e_cons ?_
  refine e_var (v := .d (.lst sp)) rfl ?_
  with_reducible refine e_cons ?_
  refine to_ok (v := .d (.tup sp)) (μ' := [.lst b]) (n_eq (hn := one tupD) (xs := [.lst sp]) rfl rfl tpl) ?_
  wtm_at "wr"
  refine p_take (n := n + 14) hb (by decide) (by decide) fun q b q0 q1 hb => ?_
  obtain ⟨y, hy, e⟩ := ix_memT (xs := [.lst sp, .tup sp, .non, .str ("10" : Str), .dK [], .int 1]) (by simp) q0 (by simpa using q1)
  refine e_op2 rfl rfl e ?_
  wtm_at "wr"
  have hci : Sm 210 1 (.int c) := sm_i (by omega)
  have hc0 : 0 ≤ c := by omega
  refine ⟨_, rfl, rfl, .int c, y, b, rfl, ?_, ?_, hb.mono (by omega), rfl⟩
  · simp only [List.mem_cons, List.not_mem_nil, or_false] at hy
    refine .bits hc0 ?_
    rcases hy with rfl | rfl | rfl | rfl | rfl | rfl
    · have := are_bits_ok (.inl rfl : D.lst sp = .lst sp ∨ _) hel (by rw [hml]; omega)
      rwa [hall] at this
    · have := are_bits_ok (.inr rfl : D.tup sp = .lst sp ∨ _) hel (by rw [hml]; omega)
      rwa [hall] at this
    all_goals (unfold F_are_bits; with_unfolding_all rfl)
  · simp only [List.mem_cons, List.not_mem_nil, or_false] at hy
    rcases hy with rfl | rfl | rfl | rfl | rfl | rfl
    · exact shw_sm hci hsm.1
    · exact shw_sm hci hsm.2
    · exact shw_sm hci (sm_non.mono (by omega) (by omega))
    · exact shw_sm hci ((sm_s (by decide) (by decide)).mono (by omega) (by omega))
    · exact shw_em (Nat.lt_of_le_of_lt (show c.natAbs ≤ 1000 by omega) (by decide))
    · exact shw_sm hci ((sm_i (by decide)).mono (by omega) (by omega))
end TT
namespace TT
open PySem L2
variable [TB]
section
variable {a d C : Addr} {fs : List (Str × D)} {ρ : En} {μ : List MO}
set_option maxHeartbeats 8000000 in
theorem eg2 (hρ : ρ[2]? = some (some (.d (.exn a d C fs)))) (A : Addr) (b : Bool) : mN (isEG a d A b) (mCons (mVar 2) (mCons (mC (.gl A)) mNil)) ρ μ = .ok (.d (.bl b)) μ := by
  have e : (mCons (mVar 2) (mCons (mC (.gl A)) mNil)) ρ μ = .ok [.d (.exn a d C fs), .d (.gl A)] μ := by simp [hρ]
  exact n_eq e rfl (if_pos ⟨rfl, rfl, rfl⟩)
set_option maxHeartbeats 8000000 in
theorem et2 (hρ : ρ[2]? = some (some (.d (.exn a d C fs)))) (A : String) (b : Bool) : mN (isET a d A b) (mCons (mVar 2) (mCons (mC (.ty A)) mNil)) ρ μ = .ok (.d (.bl b)) μ := by
  have e : (mCons (mVar 2) (mCons (mC (.ty A)) mNil)) ρ μ = .ok [.d (.exn a d C fs), .d (.ty A)] μ := by simp [hρ]
  exact n_eq e rfl (if_pos ⟨rfl, rfl, rfl⟩)
set_option maxHeartbeats 8000000 in
theorem xf2 {f : Str} {y : D} (hρ : ρ[2]? = some (some (.d (.exn a d C fs)))) (hf : fs.lookup f = some y) : mXf a d f (mVar 2) ρ μ = .ok (.d y) μ := by
  simp [mXf, hρ, hf]
end
set_option maxHeartbeats 8000000 in
theorem mkf_eq {C : Addr} {F : MF} {n : Nat} {ms : MA} {ρ : En} {μ μ1 : List MO} {as : List MV} {r : Res MV} (hs : ms ρ μ = .ok as μ1) (h : mkF C F n as μ1 = r) : mMkF C F n ms ρ μ = r := by
  simp only [mMkF, hs, Res.bind_ok, h]
set_option maxHeartbeats 8000000 in
theorem mexc_try {x y : D} {C : Addr} {fs : List (Str × D)} {gs : List (Str × MV)} (h : F_Script___init__ theAd [.ref 0, .d x, .d y] [.ins theAd.script []] = .exc C fs [.ins theAd.script gs]) (cs : List MC2) :
    mTry2 (mExpr (mMkF theAd.script (F_Script___init__ theAd) 3 (mCons (mVar 0) (mCons (mVar 1) mNil)))) cs [some (.d x), some (.d y), none] [] = tryI cs C fs [some (.d x), some (.d y), none] [] := by
  have hm := mkd_exc h
  have ha : mExpr (mMkF theAd.script (F_Script___init__ theAd) 3 (mCons (mVar 0) (mCons (mVar 1) mNil))) [some (.d x), some (.d y), none] [] = .exc C fs [some (.d x), some (.d y), none] [] := by
    have e := mkf_eq (ms := mCons (mVar 0) (mCons (mVar 1) mNil)) (ρ := [some (.d x), some (.d y), none]) (μ := []) (μ1 := []) (as := [.d x, .d y]) rfl hm
    simp [mExpr, e]
  unfold mTry2
  rw [ha]
set_option maxHeartbeats 8000000 in
theorem refused_ok {x y : D} (h : BadS x y) (hs : Shw x y) : F_refused theAd [.d x, .d y] [] = .ok (.d (.bl true)) [] := by
  obtain ⟨t, ht⟩ := hs
  unfold F_refused b_refused
  refine fn_rt (μ1 := []) (seq_rt ((mexc_try (init_bad h) _).trans ?_)) rfl
  rw [tryI, if_pos (by decide)]
  apply allAD_eq
  intro a d
  obtain ⟨ρ, hρ⟩ : ∃ ρ : En, ρ = [some (.d x), some (.d y), some (.d (.exn a d theAd.scr [("bits", y), ("steps", x)]))] := ⟨_, rfl⟩
  have h2 : ρ[2]? = some (some (.d (.exn a d theAd.scr [("bits", y), ("steps", x)]))) := by rw [hρ]; rfl
  have s1 : mIfS (mOr (mNot (mT (mN (isEG a d theAd.scr (decide (theAd.scr = theAd.scr))) (mCons (mVar 2) (mCons (mC (.gl theAd.scr)) mNil))))) (mOr (mT (mN (isEG a d theAd.ans (decide (theAd.scr = theAd.ans))) (mCons (mVar 2) (mCons (mC (.gl theAd.ans)) mNil)))) (mNot (mT (mN (isET a d "ValueError" true) (mCons (mVar 2) (mCons (mC (.ty "ValueError")) mNil))))))) (mRet (mC (.bl false))) mNext ρ [] = .nx ρ [] := by
    refine ifs_f ?_ rfl
    have e1 := t_eq (eg2 (μ := []) h2 theAd.scr (decide (theAd.scr = theAd.scr)))
    have e2 := t_eq (eg2 (μ := []) h2 theAd.ans (decide (theAd.scr = theAd.ans)))
    have e3 := t_eq (et2 (μ := []) h2 "ValueError" true)
    have n1 : ∀ {c : MT} {b : Bool}, c ρ [] = .ok b [] → mNot c ρ [] = .ok (!b) [] := fun {c b} h => by unfold mNot; rw [h]; rfl
    have o1 : ∀ {c c' : MT} {b : Bool}, c ρ [] = .ok false [] → c' ρ [] = .ok b [] → mOr c c' ρ [] = .ok b [] := fun {c c' b} h h' => by
      unfold mOr
      rw [h]
      exact h'
    exact o1 (n1 e1) (o1 e2 (n1 e3))
  have r1 : mN reprX (mCons (mTup (mCons (mXf a d "steps" (mVar 2)) (mCons (mXf a d "bits" (mVar 2)) mNil))) mNil) ρ [] = .ok (.d (.str t)) [] :=
    n_eq (hn := reprX) (xs := [.tup [x, y]]) (cons_eq (tup_eq (as := [.d x, .d y]) (xs := [x, y]) (cons_eq (xf2 h2 rfl) (cons_eq (xf2 h2 rfl) rfl)) rfl (by simp [sizeLine_eq])) rfl) rfl ht
  have r2 : mN reprX (mCons (mTup (mCons (mVar 0) (mCons (mVar 1) mNil))) mNil) ρ [] = .ok (.d (.str t)) [] := by
    refine n_eq (hn := reprX) (xs := [.tup [x, y]]) (cons_eq (tup_eq (as := [.d x, .d y]) (xs := [x, y]) (by rw [hρ]; rfl) rfl (by simp [sizeLine_eq])) rfl) rfl ht
  have r3 := ret_eq (bin_eq (g := eqD) r1 r2 rfl rfl (show eqD (.str t) (.str t) = some (.bl true) by simp [eqD, eqB]))
  have e := (congrArg (SR.off (some 2)) ((seq_nx s1).trans r3)).trans rfl
  rw [hρ] at e
  exact e
set_option maxHeartbeats 8000000 in
theorem law_plain0 (ns : List Int) (hl : ns.length ≤ 63) : (F_law theAd [.d (.fl (ns.map D.int))] []).to (fun v _ => v = .d (.bl true)) no3 := by
  unfold F_law b_law
  refine fn_to ?_
  with_reducible refine w_seqG fun rest hrest => ?_
  refine w_range (fun k ρ μ => ∃ x1 x2 x3 x4, ρ = [some (.d (.fl (ns.map D.int))), x1, x2, x3, x4]) ?_
  wtm_at "wr"
  refine to_ok (rng1_eq _ (by split <;> split <;> omega) (by split <;> split <;> omega)) ⟨_, rfl, ⟨_, _, _, _, rfl⟩, ?_, ?_⟩
  · rintro k ρ μ hk ⟨x1, x2, x3, x4, rfl⟩
    obtain ⟨b, e, hb⟩ := bag_ok ns hl (k : Int) (by omega) (by revert hk; split <;> split <;> omega)
    with_reducible refine w_seqG fun rest2 hrest2 => ?_
    wtm_at "wr"
    refine to_ok (callNew (ds := [.fl (ns.map D.int), .int (k : Int)]) e) ?_
    subst hrest2
    have g0 : (μ ++ [MO.lst b])[μ.length]? = some (.lst b) := by simp
    obtain ⟨n0, hn0⟩ : ∃ n0, n0 = μ.length := ⟨_, rfl⟩
    rw [← hn0] at g0 ⊢
    generalize μ ++ [MO.lst b] = μ at g0 ⊢
    with_reducible refine w_seqG fun rest2 hrest2 => ?_
    obtain ⟨v, μ', er, b1, rfl, hb1, rfl⟩ := ok_to (good_ok (n := 2 ^ 60 - 40) (b := b) (hb.mono (by decide)))
    have e1 := callB1 (F := F_good theAd) g0 er
    refine z_ifs (z_not (e_t (z_call (e_cons (e_var (v := .ref n0) rfl (e_nil (k_call rfl (to_ok e1 ?_))))))))
    wtm_at "wr"
    subst hrest2
    have g1 : (μ.set n0 (.lst b1))[n0]? = some (.lst b1) := by
      have : n0 < μ.length := (List.getElem?_eq_some_iff.mp g0).1
      rw [List.getElem?_set_self this]
    generalize μ.set n0 (.lst b1) = μ at g1 ⊢
    with_reducible refine w_seqG fun rest2 hrest2 => ?_
    obtain ⟨v, μ', er, x, y, b2, rfl, hbad, hshw, hb2, rfl⟩ := ok_to (wrong_to (n := 2 ^ 60 - 80) (b := b1) (hb1.mono (by decide)))
    have e1 := callB1 (F := F_wrong) g1 er
    refine z_asg (z_call (e_cons (e_var (v := .ref n0) rfl (e_nil (k_call rfl (to_ok e1 ?_))))))
    wtm_at "wr"
    subst hrest2
    wtm_at "wr"
    refine to_ok (call2 (refused_ok hbad hshw)) ?_
    wtm_at "wr"
    exact ⟨_, _, _, _, rfl⟩
  · rintro ρ μ ⟨x1, x2, x3, x4, rfl⟩
    subst hrest
    wtm_at "wr"
    exact ⟨_, rfl, rfl, rfl⟩
end TT
namespace TT
open PySem L2
instance theTB : TB := ⟨[]⟩
theorem law_plain (ns : List Int) (hl : ns.length ≤ 63) (hb : ∀ z ∈ ns, Builtin.Int.intBits z ≤ 1048576) : ∃ μ', F_law theAd [.d (.fl (ns.map D.int))] [] = .ok (.d (.bl true)) μ' := by
  obtain ⟨v, μ', e, rfl⟩ := ok_to (law_plain0 ns hl)
  exact ⟨μ', e⟩
end TT
open PySem PySem.W PyProof.Rows in
set_option maxRecDepth 100000 in
set_option maxHeartbeats 0 in
theorem PySem.Challenge.cw_tailtables_k34_scripts_made_holds : PySem.Challenge.rw_tailtables_k34_scripts_made.Holds := by
  w_on; o_law; k_head; (case hw => w_witness2)
  k_fill
  refine @TT.walkM TT.theTB PySem.Challenge.rw_tailtables_k34_scripts_made 63 8 _ _ _ _ _ _ (TT.F_law TT.theAd) [] rfl (by decide) rfl ⟨rfl, by decide, by decide⟩ (fun w h Y => PySem.W.kIn_of Y) (fun w h Y p hp => nomatch hp) (fun w p hp => nomatch hp) (fun w p hp => nomatch hp) (by decide) ?gF TT.law_plain
  case gF =>
    intro w mg fa h KX G hmg
    refine' TT.all_mk KX G hmg ?aC_TablesError ?aC_BadAnswer ?aC_BadScript ?xL_BadScript ?sa_BadScript ?ec_BadScript ?tc_BadScript ?kc_BadScript ?xf_BadScript ?xn_BadScript_steps ?xn_BadScript_bits ?a_iBadScript ?t_iBadScript ?l_iBadScript ?hc_iBadScript ?k_iBadScript ?eb_BadScript ?e_BadScript_TablesError ?kt_BadScript_BadScript ?kt_BadScript_BadAnswer ?kt_BadScript_ValueError ?aC_Script ?pg_Script ?hd_Script ?po_Script ?sa_Script ?mk_Script ?kc_Script ?no_Script_steps ?no_Script_bits ?rd_Script ?ga_Script ?cv_Script_MOST ?rv_Script_MOST ?is1_Script ?is2_Script ?is3_Script ?is4_Script ?is5_Script ?a_is_integer ?l_is_integer ?hc_is_integer ?k_is_integer ?a_are_bits ?l_are_bits ?hc_are_bits ?k_are_bits ?a_Script___init__ ?l_Script___init__ ?hc_Script___init__ ?k_Script___init__ ?i_Script___init__ ?m_Script_none ?r_Script_none ?l_Script_none ?hc_Script_none ?k_Script_none ?n_Script_none ?a_Script___eq__ ?l_Script___eq__ ?hc_Script___eq__ ?k_Script___eq__ ?i_Script___eq__ ?n_Script___eq__ ?a_Script___len__ ?l_Script___len__ ?hc_Script___len__ ?k_Script___len__ ?i_Script___len__ ?n_Script___len__ ?a_Script___bool__ ?l_Script___bool__ ?hc_Script___bool__ ?k_Script___bool__ ?i_Script___bool__ ?n_Script___bool__ ?a_bag ?l_bag ?hc_bag ?k_bag ?a_take ?l_take ?hc_take ?k_take ?a_is_whole ?l_is_whole ?hc_is_whole ?k_is_whole ?a_good ?l_good ?hc_good ?k_good ?a_wrong ?l_wrong ?hc_wrong ?k_wrong ?a_refused ?l_refused ?hc_refused ?k_refused ?a_law ?l_law ?hc_law ?k_law ?z_len ?z_int ?z_abs ?z_bool ?z_list ?z_tuple ?z_range ?z_min ?z_max ?z_all ?z_isinstance ?z_repr ?z_ValueError
    (case aC_TablesError => first | k_is | exact ⟨_, rfl⟩ | rfl)
    (case aC_BadAnswer => first | k_is | exact ⟨_, rfl⟩ | rfl)
    (case aC_BadScript => first | k_is | exact ⟨_, rfl⟩ | rfl)
    (case xL_BadScript => first | k_is | exact ⟨_, rfl⟩ | rfl)
    (case sa_BadScript => first | k_is | exact ⟨_, rfl⟩ | rfl)
    (case ec_BadScript => first | k_is | exact ⟨_, rfl⟩ | rfl)
    (case tc_BadScript => first | k_is | exact ⟨_, rfl⟩ | rfl)
    (case kc_BadScript => first | k_is | exact ⟨_, rfl⟩ | rfl)
    (case xf_BadScript => first | k_is | exact ⟨_, rfl⟩ | rfl)
    (case xn_BadScript_steps => first | k_is | exact ⟨_, rfl⟩ | rfl)
    (case xn_BadScript_bits => first | k_is | exact ⟨_, rfl⟩ | rfl)
    (case a_iBadScript => first | k_is | exact ⟨_, rfl⟩ | rfl)
    (case t_iBadScript => first | k_is | exact ⟨_, rfl⟩ | rfl)
    (case l_iBadScript => first | k_is | exact ⟨_, rfl⟩ | rfl)
    (case hc_iBadScript => first | k_is | exact ⟨_, rfl⟩ | rfl)
    (case k_iBadScript => first | k_is | exact ⟨_, rfl⟩ | rfl)
    (case eb_BadScript => first | k_is | exact ⟨_, rfl⟩ | rfl)
    (case e_BadScript_TablesError => first | k_is | exact ⟨_, rfl⟩ | rfl)
    (case kt_BadScript_BadScript => first | k_is | exact ⟨_, rfl⟩ | rfl)
    (case kt_BadScript_BadAnswer => first | k_is | exact ⟨_, rfl⟩ | rfl)
    (case kt_BadScript_ValueError => first | k_is | exact ⟨_, rfl⟩ | rfl)
    (case aC_Script => first | k_is | exact ⟨_, rfl⟩ | rfl)
    (case pg_Script => first | k_is | exact ⟨_, rfl⟩ | rfl)
    (case hd_Script => first | k_is | exact ⟨_, rfl⟩ | rfl)
    (case po_Script => first | k_is | exact ⟨_, rfl⟩ | rfl)
    (case sa_Script => first | k_is | exact ⟨_, rfl⟩ | rfl)
    (case mk_Script => first | k_is | exact ⟨_, rfl⟩ | rfl)
    (case kc_Script => first | k_is | exact ⟨_, rfl⟩ | rfl)
    (case no_Script_steps => first | k_is | exact ⟨_, rfl⟩ | rfl)
    (case no_Script_bits => first | k_is | exact ⟨_, rfl⟩ | rfl)
    (case rd_Script => first | k_is | exact ⟨_, rfl⟩ | rfl)
    (case ga_Script => first | k_is | exact ⟨_, rfl⟩ | rfl)
    (case cv_Script_MOST => first | k_is | exact ⟨_, rfl⟩ | rfl)
    (case rv_Script_MOST => first | k_is | exact ⟨_, rfl⟩ | rfl)
    (case is1_Script => first | k_is | exact ⟨_, rfl⟩ | rfl)
    (case is2_Script => first | k_is | exact ⟨_, rfl⟩ | rfl)
    (case is3_Script => first | k_is | exact ⟨_, rfl⟩ | rfl)
    (case is4_Script => first | k_is | exact ⟨_, rfl⟩ | rfl)
    (case is5_Script => first | k_is | exact ⟨_, rfl⟩ | rfl)
    (case a_is_integer => first | k_is | exact ⟨_, rfl⟩ | rfl)
    (case l_is_integer => first | k_is | exact ⟨_, rfl⟩ | rfl)
    (case hc_is_integer => first | k_is | exact ⟨_, rfl⟩ | rfl)
    (case k_is_integer => first | k_is | exact ⟨_, rfl⟩ | rfl)
    (case a_are_bits => first | k_is | exact ⟨_, rfl⟩ | rfl)
    (case l_are_bits => first | k_is | exact ⟨_, rfl⟩ | rfl)
    (case hc_are_bits => first | k_is | exact ⟨_, rfl⟩ | rfl)
    (case k_are_bits => first | k_is | exact ⟨_, rfl⟩ | rfl)
    (case a_Script___init__ => first | k_is | exact ⟨_, rfl⟩ | rfl)
    (case l_Script___init__ => first | k_is | exact ⟨_, rfl⟩ | rfl)
    (case hc_Script___init__ => first | k_is | exact ⟨_, rfl⟩ | rfl)
    (case k_Script___init__ => first | k_is | exact ⟨_, rfl⟩ | rfl)
    (case i_Script___init__ => first | k_is | exact ⟨_, rfl⟩ | rfl)
    (case m_Script_none => first | k_is | exact ⟨_, rfl⟩ | rfl)
    (case r_Script_none => first | k_is | exact ⟨_, rfl⟩ | rfl)
    (case l_Script_none => first | k_is | exact ⟨_, rfl⟩ | rfl)
    (case hc_Script_none => first | k_is | exact ⟨_, rfl⟩ | rfl)
    (case k_Script_none => first | k_is | exact ⟨_, rfl⟩ | rfl)
    (case n_Script_none => first | k_is | exact ⟨_, rfl⟩ | rfl)
    (case a_Script___eq__ => first | k_is | exact ⟨_, rfl⟩ | rfl)
    (case l_Script___eq__ => first | k_is | exact ⟨_, rfl⟩ | rfl)
    (case hc_Script___eq__ => first | k_is | exact ⟨_, rfl⟩ | rfl)
    (case k_Script___eq__ => first | k_is | exact ⟨_, rfl⟩ | rfl)
    (case i_Script___eq__ => first | k_is | exact ⟨_, rfl⟩ | rfl)
    (case n_Script___eq__ => first | k_is | exact ⟨_, rfl⟩ | rfl)
    (case a_Script___len__ => first | k_is | exact ⟨_, rfl⟩ | rfl)
    (case l_Script___len__ => first | k_is | exact ⟨_, rfl⟩ | rfl)
    (case hc_Script___len__ => first | k_is | exact ⟨_, rfl⟩ | rfl)
    (case k_Script___len__ => first | k_is | exact ⟨_, rfl⟩ | rfl)
    (case i_Script___len__ => first | k_is | exact ⟨_, rfl⟩ | rfl)
    (case n_Script___len__ => first | k_is | exact ⟨_, rfl⟩ | rfl)
    (case a_Script___bool__ => first | k_is | exact ⟨_, rfl⟩ | rfl)
    (case l_Script___bool__ => first | k_is | exact ⟨_, rfl⟩ | rfl)
    (case hc_Script___bool__ => first | k_is | exact ⟨_, rfl⟩ | rfl)
    (case k_Script___bool__ => first | k_is | exact ⟨_, rfl⟩ | rfl)
    (case i_Script___bool__ => first | k_is | exact ⟨_, rfl⟩ | rfl)
    (case n_Script___bool__ => first | k_is | exact ⟨_, rfl⟩ | rfl)
    (case a_bag => first | k_is | exact ⟨_, rfl⟩ | rfl)
    (case l_bag => first | k_is | exact ⟨_, rfl⟩ | rfl)
    (case hc_bag => first | k_is | exact ⟨_, rfl⟩ | rfl)
    (case k_bag => first | k_is | exact ⟨_, rfl⟩ | rfl)
    (case a_take => first | k_is | exact ⟨_, rfl⟩ | rfl)
    (case l_take => first | k_is | exact ⟨_, rfl⟩ | rfl)
    (case hc_take => first | k_is | exact ⟨_, rfl⟩ | rfl)
    (case k_take => first | k_is | exact ⟨_, rfl⟩ | rfl)
    (case a_is_whole => first | k_is | exact ⟨_, rfl⟩ | rfl)
    (case l_is_whole => first | k_is | exact ⟨_, rfl⟩ | rfl)
    (case hc_is_whole => first | k_is | exact ⟨_, rfl⟩ | rfl)
    (case k_is_whole => first | k_is | exact ⟨_, rfl⟩ | rfl)
    (case a_good => first | k_is | exact ⟨_, rfl⟩ | rfl)
    (case l_good => first | k_is | exact ⟨_, rfl⟩ | rfl)
    (case hc_good => first | k_is | exact ⟨_, rfl⟩ | rfl)
    (case k_good => first | k_is | exact ⟨_, rfl⟩ | rfl)
    (case a_wrong => first | k_is | exact ⟨_, rfl⟩ | rfl)
    (case l_wrong => first | k_is | exact ⟨_, rfl⟩ | rfl)
    (case hc_wrong => first | k_is | exact ⟨_, rfl⟩ | rfl)
    (case k_wrong => first | k_is | exact ⟨_, rfl⟩ | rfl)
    (case a_refused => first | k_is | exact ⟨_, rfl⟩ | rfl)
    (case l_refused => first | k_is | exact ⟨_, rfl⟩ | rfl)
    (case hc_refused => first | k_is | exact ⟨_, rfl⟩ | rfl)
    (case k_refused => first | k_is | exact ⟨_, rfl⟩ | rfl)
    (case a_law => first | k_is | exact ⟨_, rfl⟩ | rfl)
    (case l_law => first | k_is | exact ⟨_, rfl⟩ | rfl)
    (case hc_law => first | k_is | exact ⟨_, rfl⟩ | rfl)
    (case k_law => first | k_is | exact ⟨_, rfl⟩ | rfl)
    (case z_len => first | k_is | exact ⟨_, rfl⟩ | rfl)
    (case z_int => first | k_is | exact ⟨_, rfl⟩ | rfl)
    (case z_abs => first | k_is | exact ⟨_, rfl⟩ | rfl)
    (case z_bool => first | k_is | exact ⟨_, rfl⟩ | rfl)
    (case z_list => first | k_is | exact ⟨_, rfl⟩ | rfl)
    (case z_tuple => first | k_is | exact ⟨_, rfl⟩ | rfl)
    (case z_range => first | k_is | exact ⟨_, rfl⟩ | rfl)
    (case z_min => first | k_is | exact ⟨_, rfl⟩ | rfl)
    (case z_max => first | k_is | exact ⟨_, rfl⟩ | rfl)
    (case z_all => first | k_is | exact ⟨_, rfl⟩ | rfl)
    (case z_isinstance => first | k_is | exact ⟨_, rfl⟩ | rfl)
    (case z_repr => first | k_is | exact ⟨_, rfl⟩ | rfl)
    (case z_ValueError => first | k_is | exact ⟨_, rfl⟩ | rfl)
