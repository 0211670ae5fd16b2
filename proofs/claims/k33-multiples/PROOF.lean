import PyProof.Rows.All
import Wide.All
import OpenK.AllK
import Wide.FinOn
import HandS.ForMost
import HandS.IsInst
import HandS.Wide
import HandS.Flow
import HandS.Zip
import PyProof.ReprRoads
import PyProof.ReprLen
import HandS.Iter
import HandS.Style
import KE.GoesMore
import KE.GoesEnum
import PySem.Challenge.RW_readaround_k33_whole_multiples_that_fit
set_option Elab.async false
set_option linter.all false
set_option maxRecDepth 100000
set_option maxHeartbeats 4000000
/-! RaBase: promises that also know that nothing is being shown (guards), defs by name, values' operations by cases. -/
namespace RA
open PySem PySem.Spec L2
open PyProof.Rows hiding St

/-! ### promises under which repr may run -/
structure FnOkG (P : Program) (w : World) (K : PySem.W.Frag) (mg : Str → Option Value) (base : Heap) (k : Nat) (f : Addr) (fd : FuncData) (ps : List Str) (sp : Sp) : Prop where
  len : ∀ vs H Q E, sp vs H Q E → vs.length = ps.length
  go : ∀ (A : Around), Room k A → A.guards = some [] → ∀ (outer : List Env) (s : Shared) (H : Hp) (args : Args) (us : List Value) (vs : List V) (Q : VK) (E : XK),
    Env0 P w K mg base A outer s H → BindsTo s fd args (ps.zip us) → Vals vs us → sp vs H Q E →
    codeAny (model P w) A (.call (.ref f) args) (CR CX0 outer P w H s Q E) s

theorem FnOkG.of {P : Program} {w : World} {K : PySem.W.Frag} {mg : Str → Option Value} {base : Heap} {k : Nat} {f : Addr} {fd : FuncData} {ps : List Str} {sp : Sp}
    (F : FnOk P w K mg base CX0 k f fd ps sp) : FnOkG P w K mg base k f fd ps sp :=
  ⟨F.len, fun A r _ outer s H args us vs Q E e b v h => F.run A outer s H args us vs Q E r e b v h⟩

theorem guards_deeper (A : Around) (env : Env) : (A.deeper env).guards = A.guards := rfl

/-- a def's body under such a promise -/
theorem bodyG {P : Program} {w : World} {K : PySem.W.Frag} {mg : Str → Option Value} {base : Heap} {k : Nat} {x qual : Str} {st : Stmt} {f : Addr} {fd : FuncData} {N ps : List Str} {sp : Sp}
    (F : Fun K x qual st f fd) (S : FnScope N ps (defScope st)) (len : ∀ vs H Q E, sp vs H Q E → vs.length = ps.length)
    (hbody : ∀ (cdv : Value) (A : Around) (outer : List Env) (s : Shared) (H : Hp) (vs : List V) (Q : VK) (E : XK),
      Room k (A.deeper (envOfC qual (defScope st) s.heap.objs.size f cdv)) → (A.deeper (envOfC qual (defScope st) s.heap.objs.size f cdv)).guards = some [] → sp vs H Q E →
      ∃ t, PSs (cxOf CX0 P w K mg base N qual (defScope st) f cdv A outer s H E).nox (defBody st) t ∧ t { nx := fun _ H' => Q .non H', rt := Q } (start N vs) H) :
    FnOkG P w K mg base (k + 1) f fd ps sp := by
  obtain ⟨oc, od, kV, doc, pm, an, cdv, ct, osl, rfl, lk, hcd⟩ := F.ex
  refine ⟨len, ?_⟩
  intro A room gd outer s H args us vs Q E e0 hb rv hsp
  have KIn : K.In s.heap := e0.mod.kin.keeps (fun b o z => (e0.bs b o z).1)
  have noLim : s.heap.NoLimit := e0.mod.nolimit.keeps (fun b o z => (e0.bs b o z).1)
  refine codeAny_call_function room.depth (KIn _ _ lk) rfl S.co S.gen rfl (PySem.W.codeRec_of KIn hcd) (hb _ _ _ _ ?_)
  have kinds : ∀ y ∈ ps.zip us, (defScope st).names.lookup y.1 = some .local ∨ ((defScope st).names.lookup y.1 = some .cell ∧ ((cellsFrom (s.heap.objs.size + 1) (defScope st).names []).lookup y.1).isSome = true) := by
    rintro ⟨n, v⟩ hy
    cases S.par n (List.of_mem_zip hy).1 with
    | inl q => exact .inl q
    | inr q => exact .inr ⟨q, PySem.W.cellsFrom_some _ _ _ (.inl q)⟩
  refine wpAny_newFunctionEnv_cells S.kind kinds fun env he s1 inn => ?_
  subst he
  refine ⟨noLim.keeps inn.toInCall.keep, codeAny_func ?_⟩
  obtain ⟨t, hps, ht⟩ := hbody cdv A outer s H vs Q E (room.deeper _) gd hsp
  have I0 := inv_start (CX := CX0) (P := P) (E := E) S room.hd e0 (len _ _ _ _ hsp) rv inn
  refine wpAny_mono (hps.nox.run [] s1 (start N vs) H _ I0 ht) (fun fl s' hs => ?_) (fun _ _ z => z)
  match fl, hs with
  | .ret u, ⟨v, _, H', J, r, q⟩ => exact ⟨v, H', J.os, J.bare, J.base, J.hok, r, q⟩
  | .next, ⟨_, H', J, q⟩ => exact ⟨V.non, H', J.os, J.bare, J.base, J.hok, rfl, q⟩
  | .brk, ⟨_, _, _, q⟩ => exact q.elim
  | .cont, ⟨_, _, _, q⟩ => exact q.elim

/-- a call under such a promise -/
theorem runG {X : Cx} {k : Nat} {f : Addr} {fd : FuncData} {ps : List Str} {sp : Sp} {pins : List (Addr × Obj)} {σ : St} {H : Hp} {s : Shared} {Q : VK} {us : List Value} {vs : List V}
    (F : FnOkG X.prog X.w X.K X.mg X.base k f fd ps sp) (hr : Room k X.A) (gd : X.A.guards = some []) (hb : Binds X.K fd ps [])
    (I : Inv X pins σ H s) (r : Vals vs us) (h : sp vs H Q E0) : wpAny (model X.prog X.w) X.A (call (.ref f) us) (EP X pins σ Q) X.xe s := by
  have hl : (us ++ []).length = ps.length := by rw [List.append_nil, ← r.length]; exact F.len _ _ _ _ h
  have hb' : BindsTo s fd ⟨us, []⟩ (ps.zip us) := by
    have := hb s us I.kIn hl
    rwa [List.append_nil] at this
  refine wpAny_call (codeAny_mono (F.go X.A hr gd X.stack s H ⟨us, []⟩ us vs Q E0 I.env0 hb' r h) fun res s' hq => ?_)
  match res, hq with
  | .error _, hq => exact False.elim hq
  | .ok (.ret _), hq => exact I.after hq
  | .ok .next, hq => exact False.elim hq
  | .ok .brk, hq => exact False.elim hq
  | .ok .cont, hq => exact False.elim hq

/-! ### defs by their names -/
structure Raw (K : PySem.W.Frag) (mg : Str → Option Value) (x : Str) (st : Stmt) : Prop where
  ex : ∃ f fd, mg x = some (.ref f) ∧ Fun K x x st f fd
structure Has (P : Program) (w : World) (K : PySem.W.Frag) (mg : Str → Option Value) (base : Heap) (x : Str) (st : Stmt) (k : Nat) (ps : List Str) (sp : Sp) : Prop where
  ex : ∃ f fd, mg x = some (.ref f) ∧ Fun K x x st f fd ∧ Binds K fd ps [] ∧ FnOk P w K mg base CX0 k f fd ps sp
structure HasG (P : Program) (w : World) (K : PySem.W.Frag) (mg : Str → Option Value) (base : Heap) (x : Str) (st : Stmt) (k : Nat) (ps : List Str) (sp : Sp) : Prop where
  ex : ∃ f fd, mg x = some (.ref f) ∧ Fun K x x st f fd ∧ Binds K fd ps [] ∧ FnOkG P w K mg base k f fd ps sp

/-- how the arguments bind, by the def's text -/
def BindTxt (x : Str) (st : Stmt) (ps : List Str) : Prop := ∀ (kV doc pm : Value) (an : Option Addr) (cdv ct : Value) (us : List Value), us.length = ps.length →
  bindArgs (PySem.W.fnOf x x (defArgs st) (defBody st) (defScope st) .none kV doc pm an cdv ct) ⟨us, []⟩ = pure (ps.zip us)

section
variable {P : Program} {w : World} {K : PySem.W.Frag} {mg : Str → Option Value} {base : Heap} {x : Str} {st : Stmt} {k : Nat} {N ps : List Str} {sp : Sp}
theorem has_mk (R : Raw K mg x st) (S : FnScope N ps (defScope st)) (bt : BindTxt x st ps) (len : ∀ vs H Q E, sp vs H Q E → vs.length = ps.length)
    (hbody : ∀ (f : Addr) (cdv : Value) (A : Around) (outer : List Env) (s : Shared) (H : Hp) (vs : List V) (Q : VK) (E : XK), Room k (A.deeper (envOfC x (defScope st) s.heap.objs.size f cdv)) → sp vs H Q E →
      ∃ t, PSs (cxOf CX0 P w K mg base N x (defScope st) f cdv A outer s H E).nox (defBody st) t ∧ t { nx := fun _ H' => Q .non H', rt := Q } (start N vs) H) : Has P w K mg base x st (k + 1) ps sp := by
  obtain ⟨f, fd, hm, F⟩ := R.ex
  exact ⟨f, fd, hm, F, F.binds bt, F.ok S len (hbody f)⟩
theorem hasG_mk (R : Raw K mg x st) (S : FnScope N ps (defScope st)) (bt : BindTxt x st ps) (len : ∀ vs H Q E, sp vs H Q E → vs.length = ps.length)
    (hbody : ∀ (f : Addr) (cdv : Value) (A : Around) (outer : List Env) (s : Shared) (H : Hp) (vs : List V) (Q : VK) (E : XK), Room k (A.deeper (envOfC x (defScope st) s.heap.objs.size f cdv)) → (A.deeper (envOfC x (defScope st) s.heap.objs.size f cdv)).guards = some [] → sp vs H Q E →
      ∃ t, PSs (cxOf CX0 P w K mg base N x (defScope st) f cdv A outer s H E).nox (defBody st) t ∧ t { nx := fun _ H' => Q .non H', rt := Q } (start N vs) H) : HasG P w K mg base x st (k + 1) ps sp := by
  obtain ⟨f, fd, hm, F⟩ := R.ex
  exact ⟨f, fd, hm, F, F.binds bt, bodyG F S len (hbody f)⟩
theorem Has.mono {j : Nat} (h : Has P w K mg base x st j ps sp) (le : j ≤ k) : Has P w K mg base x st k ps sp := by
  obtain ⟨f, fd, hm, F, b, G⟩ := h.ex
  exact ⟨f, fd, hm, F, b, G.mono le⟩
end

section
variable {X : Cx} {x : Str} {st : Stmt} {k : Nat} {ps : List Str} {sp : Sp} {p pos : Pos} {e : Expr} {es : List Expr} {t tk : TA} {kws : List Keyword}
/-- f(e, ..) -/
theorem pe_f (h : Has X.prog X.w X.K X.mg X.base x st k ps sp) (hr : Room k X.A) (ha : PA X (e :: es) t) (hg : Gl X x := by rfl)
    (hdb : (x == ("__debug__" : Str)) = false := by decide) (he : starEach (e :: es) X.env = (false, eval e X.env) :: starEach es X.env := by rfl) (hpl : (backTo pos (starEach es X.env)).any (·.1) = false := by rfl) :
    PE X (.Call (.Name x p) (e :: es) [] pos) (tCall sp [] E0 t) := by
  obtain ⟨f, fd, hm, F, b, G⟩ := h.ex
  exact pe_call G hr hg hm F.kp b .nil pass0 ha hdb he hpl
theorem pe_f0 (h : Has X.prog X.w X.K X.mg X.base x st k ps sp) (hr : Room k X.A) (hg : Gl X x := by rfl)
    (hdb : (x == ("__debug__" : Str)) = false := by decide) : PE X (.Call (.Name x p) [] [] pos) (tCall sp [] E0 tNil) := by
  obtain ⟨f, fd, hm, F, b, G⟩ := h.ex
  exact pe_call0 G hr hg hm F.kp b .nil pass0 hdb
theorem pe_fG (h : HasG X.prog X.w X.K X.mg X.base x st k ps sp) (hr : Room k X.A) (gd : X.A.guards = some []) (ha : PA X (e :: es) t) (hg : Gl X x := by rfl)
    (hdb : (x == ("__debug__" : Str)) = false := by decide) (he : starEach (e :: es) X.env = (false, eval e X.env) :: starEach es X.env := by rfl) (hpl : (backTo pos (starEach es X.env)).any (·.1) = false := by rfl) :
    PE X (.Call (.Name x p) (e :: es) [] pos) (tCall sp [] E0 t) := by
  obtain ⟨f, fd, hm, F, b, G⟩ := h.ex
  constructor
  intro pins s σ H Q I q
  refine wpAny_Call_Name_kw (ld_glob I hg hm ?_ hdb)
  refine PySem.W.callWith_K (h₀ := X.base) I.ok.mod.kin F.kp (thn (ha.run pos pins s σ H _ I q) ?_) he hpl
  rintro us s1 ⟨vs, H1, I1, r, q1⟩
  have q1' : sp vs H1 Q E0 := by
    have q2 : sp (vs ++ []) H1 Q E0 := q1
    rwa [List.append_nil] at q2
  exact ⟨I1.kIn, runG G hr gd b I1 r q1'⟩
end

/-! ### repr of data -/
/-- data that may be shown: depth, weight -/
structure Pr (k n : Nat) (d : PyData) : Prop where
  sh : d.showable = true
  nd : d.hasDict = false
  lf : d.leavesShort 650 = true
  dp : d.depth ≤ k
  wt : d.weight ≤ n
structure PrAll (k n : Nat) (ds : List PyData) : Prop where
  sh : PyData.showableAll ds = true
  nd : PyData.hasDictAll ds = false
  lf : PyData.leavesShortAll 650 ds = true
  dp : PyData.depthAll ds ≤ k
  wt : PyData.weightAll ds ≤ n
theorem Pr.mono {k n k' n' : Nat} {d : PyData} (h : Pr k n d) (hk : k ≤ k') (hn : n ≤ n') : Pr k' n' d := ⟨h.sh, h.nd, h.lf, Nat.le_trans h.dp hk, Nat.le_trans h.wt hn⟩
theorem PrAll.mono {k n k' n' : Nat} {d : List PyData} (h : PrAll k n d) (hk : k ≤ k') (hn : n ≤ n') : PrAll k' n' d := ⟨h.sh, h.nd, h.lf, Nat.le_trans h.dp hk, Nat.le_trans h.wt hn⟩
theorem Pr.none : Pr 0 0 .none := ⟨rfl, rfl, rfl, Nat.le_refl _, Nat.le_refl _⟩
theorem Pr.bool (b : Bool) : Pr 0 0 (.bool b) := ⟨rfl, rfl, rfl, Nat.le_refl _, Nat.le_refl _⟩
theorem Pr.int {i : Int} {b : Nat} (h0 : 0 < b) (h : i.natAbs < 2 ^ b) (hb : b ≤ 600) : Pr 0 b (.int i) := by
  have hl : i.natAbs.log2 < b := by
    by_cases z : i.natAbs = 0
    · rw [z]; exact h0
    · exact (Nat.log2_lt z).mpr h
  refine ⟨?_, rfl, ?_, Nat.le_refl _, ?_⟩
  · show decide (i.natAbs.log2 < 1920) = true
    exact decide_eq_true (by omega)
  · show decide ((PyData.shown (.int i)).length ≤ 650) = true
    refine decide_eq_true ?_
    have e : (toString i).length ≤ b + 1 := int_text_length_le h0 hl
    have e2 : (PyData.shown (.int i)).length = (toString i).length := by
      show (Str.ofString (toString i)).length = _
      exact PySem.ofString_length _
    omega
  · show (if i == 0 then 0 else i.natAbs.log2 + 1) ≤ b
    split <;> omega
theorem PrAll.nil {k : Nat} : PrAll k 0 [] := ⟨rfl, rfl, rfl, Nat.zero_le _, Nat.le_refl _⟩
theorem PrAll.cons {k n m : Nat} {d : PyData} {ds : List PyData} (h : Pr k n d) (t : PrAll k m ds) : PrAll k (n + 1 + m) (d :: ds) := by
  refine ⟨?_, ?_, ?_, ?_, ?_⟩
  · show (d.showable && PyData.showableAll ds) = true
    rw [h.sh, t.sh]; rfl
  · show (d.hasDict || PyData.hasDictAll ds) = false
    rw [h.nd, t.nd]; rfl
  · show (d.leavesShort 650 && PyData.leavesShortAll 650 ds) = true
    rw [h.lf, t.lf]; rfl
  · show max d.depth (PyData.depthAll ds) ≤ k
    exact Nat.max_le.mpr ⟨h.dp, t.dp⟩
  · show d.weight + 1 + PyData.weightAll ds ≤ n + 1 + m
    have := h.wt; have := t.wt; omega
theorem PrAll.all {k n : Nat} : ∀ {ds : List PyData}, (∀ d ∈ ds, Pr k n d) → PrAll k (ds.length * (n + 1)) ds
  | [], _ => PrAll.nil.mono (Nat.le_refl _) (Nat.zero_le _)
  | d :: ds, h => ((PrAll.all fun x hx => h x (List.mem_cons_of_mem _ hx)).cons (h d List.mem_cons_self)).mono (Nat.le_refl _) (by
      rw [List.length_cons, Nat.add_mul]; omega)
theorem Pr.list {k n : Nat} {ds : List PyData} (h : PrAll k n ds) : Pr (k + 1) n (.list ds) :=
  ⟨h.sh, h.nd, h.lf, Nat.succ_le_succ h.dp, h.wt⟩
theorem Pr.tuple {k n : Nat} {ds : List PyData} (h : PrAll k n ds) : Pr (k + 1) n (.tuple ds) :=
  ⟨h.sh, h.nd, h.lf, Nat.succ_le_succ h.dp, h.wt⟩
def rRepr (K : PySem.W.Frag) : List V → Hp → VK → Prop := fun vs H Q => ∃ v d, vs = [v] ∧ Dp K H v d ∧ Pr 60 20000 d ∧ Q (.str d.shown) H
theorem Pr.fits {k n : Nat} {d : PyData} (h : Pr k n d) (hn : n ≤ 20000) : d.shown.length ≤ sizeLine := by
  have e := PyData.shown_le 650 (by decide) d h.lf
  have e2 := h.wt
  have e3 : (650 + 2) * d.weight ≤ (650 + 2) * 20000 := Nat.mul_le_mul_left _ (Nat.le_trans e2 hn)
  have e4 : (sizeLine : Nat) = 16777216 := rfl
  omega
theorem noDict_of {d : PyData} (h : d.hasDict = false) {as : List Addr} : d.hasDict = true → sysModules ∉ as := fun z => by rw [h] at z; cases z
theorem call_repr {X : Cx} (gd : X.A.guards = some []) (hu : X.A.units + 64 < cLine) : CallR X (.builtin "repr") (rRepr X.K) := by
  intro pins s σ H xs us Q I r h
  obtain ⟨v, d, rfl, hd, hp, q⟩ := h
  obtain ⟨u, rfl, r1⟩ := vals1 r
  have hz := hp.fits (Nat.le_refl _)
  have big : ∀ {a : Addr} {as : List Addr}, Reads s.heap (.ref a) d as → wpAny (model X.prog X.w) X.A (call (.builtin "repr") [.ref a]) (EP X pins σ Q) X.xe s := fun rd =>
    repr_of_reads' rd hp.sh (noDict_of hp.nd) gd (by have := hp.dp; omega) (fun _ _ z => z) (fun h' t tk kp => ⟨.str d.shown, H, I.kept kp, ⟨t, rfl⟩, q⟩) hz
  obtain ⟨as, hr⟩ := hd.reads I d v u r1
  cases hd with
  | non => cases r1; exact PySem.P.repr_of_none ⟨.str _, H, I.tok _, ⟨_, rfl⟩, q⟩
  | bl b => cases r1; exact PySem.P.repr_of_bool ⟨.str _, H, I.tok _, ⟨_, rfl⟩, q⟩
  | int i =>
    obtain ⟨t, rfl⟩ := r1
    exact PySem.P.repr_of_int (of_decide_eq_true hp.sh) ⟨.str _, H, I.tok _, ⟨_, rfl⟩, q⟩
  | str x =>
    obtain ⟨t, rfl⟩ := r1
    exact PySem.P.repr_of_str ⟨.str _, H, I.tok _, ⟨_, rfl⟩, q⟩ hz
  | lst h1 h2 => cases r1; exact big hr
  | tup h1 h2 => cases r1; exact big hr

/-! ### the end of a law's row, for such promises -/
theorem law_callG {P : Program} {w : World} {K : PySem.W.Frag} {mg mb : Str → Option Value} {k : Nat} {fa a : Addr} {fd : FuncData} {x : Str} {sp : Sp} {s1 : Shared} {vs : List Value} {ns : List Int}
    (KX : K.In s1.heap) (hns : s1.heap.Ns mainGlobals mg) (hb : s1.heap.Ns builtinsNs mb) (hbb : ∀ y : Str, y ≠ "__name__" → mb y = bootBuiltins y) (hlim : s1.heap.NoLimit) (hg : s1.gens = #[])
    (ha : s1.heap.get? a = some { cls := .type "list", data := .seq vs.toArray }) (hi : IntsAre vs ns) (hl : ns.length ≤ sizeLine) (hr : Room k callerA)
    (F : ∀ base : Heap, K.In base → base.Ns mainGlobals mg → FnOkG P w K mg base k fa fd [x] sp) (hbind : ∀ u : Value, BindsTo s1 fd ⟨[u], []⟩ [(x, u)])
    (hsp : ∀ H : Hp, Only H → SqL K H a (ns.map V.int) → sp [.ref a] H (fun v _ => v = .bl true) fun _ _ _ => False) :
    codeAny (model P w) callerA (.call (.ref fa) ⟨[.ref a], []⟩) (fun r s' => r = .ok (.ret (.bool true)) ∧ OldK s1.heap s'.heap ∧ s'.os = s1.os ∧ AllBare s'.gens) s1 := by
  have rvals := L2.vals_ints hi
  have elen := hi.length
  -- any abstract heap that tracks at most the script
  suffices key : ∀ H : Hp, Only H → SqL K H a (ns.map V.int) → HOk P w H s1.heap → (∀ b, H b ≠ none → b = a) → (H a ≠ none → K.lookup a = none) →
      codeAny (model P w) callerA (.call (.ref fa) ⟨[.ref a], []⟩) (fun r s' => r = .ok (.ret (.bool true)) ∧ OldK s1.heap s'.heap ∧ s'.os = s1.os ∧ AllBare s'.gens) s1 by
    cases hk : K.lookup a with
    | some o =>
      have ho := KX a o hk
      rw [ha] at ho
      cases ho
      refine key (fun _ => none) (fun _ => .inl rfl) (.inr ⟨_, vs.toArray, _, hk, rfl, rfl, rfl, ?_, by simpa using rvals⟩) (fun b u z => ?_) (fun b z => absurd rfl z) (fun z => absurd rfl z)
      · rw [List.size_toArray, elen]; exact hl
      · exact absurd (show (none : Option HO) = some u from z) (by intro q; cases q)
    | none =>
      let sc : HO := .frz { cls := .type "list", data := .seq vs.toArray } (.lst (ns.map V.int))
      have at_a : (fun b => if b = a then some sc else none : Hp) a = some sc := if_pos rfl
      have at_b : ∀ {b : Addr}, b ≠ a → (fun b => if b = a then some sc else none : Hp) b = none := fun q => if_neg q
      refine key (fun b => if b = a then some sc else none) (fun b => ?_) (.inl (.inr ⟨_, at_a⟩)) (fun b u z => ?_) (fun b z => ?_) (fun _ => hk)
      · by_cases q : b = a
        · subst q; exact .inr ⟨_, _, at_a⟩
        · exact .inl (at_b q)
      · by_cases q : b = a
        · subst q
          have e := at_a.symm.trans z
          cases e
          exact ⟨ha, by rw [List.length_map]; exact hl, vs, _, rvals, ha⟩
        · exact absurd ((at_b q).symm.trans z) (by intro e; cases e)
      · by_cases q : b = a
        · exact q
        · exact absurd (at_b q) z
  intro H hO hS hok hA hK
  have tracked : ∀ {b : Addr} {u : HO}, H b = some u → b = a := fun q => hA _ (by rw [q]; intro z; cases z)
  have notDict : ∀ {b : Addr} {o : Obj} {es : Array DictEntry} {ep : Nat}, s1.heap.get? b = some o → o.data = .dict es ep → H b = none := by
    intro b o es ep e d
    cases q : H b with
    | none => rfl
    | some u =>
      have eb := tracked q
      subst eb
      rw [ha] at e
      cases e
      exact absurd (show Data.seq vs.toArray _ = Data.dict es ep from d) (by intro z; cases z)
  have nsB : ∀ {b : Addr} {m : Str → Option Value}, s1.heap.Ns b m → (hidT s1.heap H).Ns b m := by
    rintro b m ⟨o, es, ep, e, d, rest⟩
    exact ⟨o, es, ep, hidT_get e (notDict e d), d, rest⟩
  have KB : K.In (hidT s1.heap H) := by
    intro b o e
    refine hidT_get (KX b o e) ?_
    cases q : H b with
    | none => rfl
    | some u =>
      have eb := tracked q
      subst eb
      rw [hK (by rw [q]; intro z; cases z)] at e
      cases e
  have lim : (hidT s1.heap H).NoLimit := by
    obtain ⟨mc, h1, h2⟩ := hlim
    exact ⟨mc, nsB h1, h2⟩
  have e0 : Env0 P w K mg (hidT s1.heap H) callerA [] s1 H :=
    { frames := rfl, mod := ⟨KB, nsB hns, ⟨mb, nsB hb, hbb⟩, lim⟩, bs := fun _ _ e => of_hidT e, bsz := Nat.le_of_eq (hidT_size _ _), funs := trivial, frf := (fun _ z => nomatch z), hok := hok, bare := .of_eq hg }
  refine codeAny_mono ((F _ KB (nsB hns)).go callerA hr rfl [] s1 H ⟨[.ref a], []⟩ [.ref a] [.ref a] (fun v _ => v = .bl true) (fun _ _ _ => False) e0 (hbind (.ref a)) (.cons rfl .nil) (hsp H hO hS)) fun r s' h => ?_
  match r, h with
  | .error _, h => exact False.elim h
  | .ok .next, h => exact False.elim h
  | .ok .brk, h => exact False.elim h
  | .ok .cont, h => exact False.elim h
  | .ok (.ret u), ⟨v, H', os, bare, un, hok', rel, q⟩ =>
    have q' : v = .bl true := q
    subst q'
    cases (show u = Value.bool true from rel)
    refine ⟨rfl, OldK.of_keep fun b o e => ?_, os, bare⟩
    cases z : H b with
    | none => exact un.keep b o e z (fun m => nomatch m) (fun m => nomatch m)
    | some t =>
      rcases hO b with zz | ⟨ob, xs, zz⟩
      · rw [z] at zz; cases zz
      · have later := un.frzs b ob _ zz
        have e1 := (hok b _ zz).1
        have e2 := (hok' b _ later).1
        rw [e] at e1
        cases e1
        exact e2

theorem walk_G {l : PySem.W.OpenLaw} {n k : Nat} {q : Program} {loose : List Str} {XP : (Str → Option Value) → Heap → Prop} {YP : World → Heap → Prop} {d : DefRec} {K : Params → PySem.W.Frag} {sp : PySem.W.Frag → Sp} {x : Str} {st : Stmt}
    (hn : l.most = some n) (hn2 : n ≤ sizeLine) (hdf : d.params.defaults = []) (hr : Room k callerA)
    (hY : ∀ (w : World) (h : Heap), YP w h → (K w.params).In h)
    (F : ∀ (w : World) (mg : Str → Option Value) (h : Heap), (K w.params).In h → h.Ns mainGlobals mg →
      ∀ base : Heap, (K w.params).In base → base.Ns mainGlobals mg → HasG l.prog w (K w.params) mg base d.name st k [x] (sp (K w.params)))
    (hsp : ∀ (K : PySem.W.Frag) (H : Hp) (a : Addr) (ns : List Int), ns.length ≤ n → Only H → SqL K H a (ns.map V.int) → sp K [.ref a] H (fun v _ => v = .bl true) fun _ _ _ => False) :
    PySem.W.WalkO q loose XP YP l.row.toRowW d [] (fun f vs => PySem.call f vs) := by
  refine Att.attach_call hn hdf ?_
  intro w s0 s1 mg mb fa o pm cd doc a vs ns G Y ho hd hcd hmg hobj hints hlen hg
  have KX := hY w _ Y
  obtain ⟨f0, fd, hm0, F0, b0, _⟩ := (F w mg _ KX G.T.g _ KX G.T.g).ex
  rw [hmg] at hm0
  cases hm0
  have same : ∀ base : Heap, (K w.params).In base → base.Ns mainGlobals mg → FnOkG l.prog w (K w.params) mg base k fa fd [x] (sp (K w.params)) := by
    intro base hK hN
    obtain ⟨f1, fd1, hm1, F1, b1, ok1⟩ := (F w mg _ KX G.T.g base hK hN).ex
    rw [hmg] at hm1
    cases hm1
    obtain ⟨_, _, _, _, _, _, _, _, _, e0, l0, _⟩ := F0.ex
    obtain ⟨_, _, _, _, _, _, _, _, _, e1, l1, _⟩ := F1.ex
    have e := l0.symm.trans l1
    injection e with e
    injection e with _ _ e _
    injection e with e
    rw [e]
    exact ok1
  refine law_callG KX G.T.g G.T.b G.T.builtins G.T.nolimit hg hobj hints (Nat.le_trans hlen hn2) hr same (fun u => ?_) (fun H hO hS => hsp _ H a ns hlen hO hS)
  exact b0 s1 [u] KX rfl

end RA

/-! RaIter: enumerate(tuple). -/
namespace PySem
open AutoSeq1 (wpAny_loadPart')
theorem ra_meets_enum1 {v : Value} {o : Obj} {H : Heap → Prop} (B : Begins v o H) :
    Meets (Builtin.«enumerate.__new__» ⟨[.type "enumerate", v], []⟩) (fun _ R s => H s.heap ∧
      R (.ok (.ret (.ref (s.heap.push o).objs.size))) { s with heap := (s.heap.push o).push { cls := .type "enumerate", data := .fields #[.none, .bool false, .ref s.heap.objs.size, rawInt 0, .none, .none] } }) :=
  .of_wp fun prog w A R s h => by
    obtain ⟨hp, g, d, tk, os⟩ := s
    obtain ⟨h1, h2⟩ := h
    have hsub := sub_enumerate
    have it1 : ∀ {A' : Around} {E : Value → Shared → Prop} {Q : Value → Shared → Prop}, Q (.ref hp.objs.size) ⟨hp.push o, g, d, tk, os⟩ → wpAny (model prog w) A' (pyIter v) Q E ⟨hp, g, d, tk, os⟩ :=
      fun q => B.iter prog w _ _ ⟨hp, g, d, tk, os⟩ _ h1 q
    wp_walk using it1
    refine wpAny_stack_any fun st => wpAny_pure ?_
    split
    · rename_i c _ _ _ _ _
      cases (c == Value.type "enumerate")
      all_goals
        wp_walk using it1
        exact ⟨_, rfl, h2⟩
    · wp_walk using it1
      exact ⟨_, rfl, h2⟩
section
variable {prog : Program} {w : World} {A : Around} {E : Value → Shared → Prop} {s : Shared}
theorem ra_enum1 {v : Value} {o : Obj} {H : Heap → Prop} {Q : Value → Shared → Prop} (B : Begins v o H) (h1 : H s.heap)
    (h : ∀ h', IsEnum h' (s.heap.objs.size + 1) s.heap.objs.size 0 .none → h'.get? s.heap.objs.size = some o → h'.objs.size = s.heap.objs.size + 2 →
      (∀ b ob, s.heap.get? b = some ob → h'.get? b = some ob) → Q (.ref (s.heap.objs.size + 1)) { s with heap := h' }) :
    wpAny (model prog w) A (call (.type "enumerate") [v]) Q E s := by
  refine callType_new F.called_enumerate (by decide) (F.typeCall_enumerate_1 _) (F.newCall_enumerate_1 _) (fun obj => F.args_object_init_2 obj _) F.entry_enumerate_new
    (ra_meets_enum1 B) ⟨h1, ?_⟩
  have size1 : (s.heap.push o).objs.size = s.heap.objs.size + 1 := Heap.size_push ..
  show _ ∧ _
  rw [size1]
  let en : Obj := { cls := .type "enumerate", data := .fields #[.none, .bool false, .ref s.heap.objs.size, rawInt 0, .none, .none] }
  have isE : IsEnum ((s.heap.push o).push en) (s.heap.objs.size + 1) s.heap.objs.size 0 .none := by
    have q := Heap.get?_push_size (s.heap.push o) (o := en) rfl
    rw [size1] at q
    exact q
  exact ⟨⟨_, isE, rfl⟩, h _ isE (Heap.get?_push_of_some _ (Heap.get?_push_size _ B.free)) (by rw [Heap.size_push, size1]) fun b ob x => Heap.get?_push_of_some _ (Heap.get?_push_of_some _ x)⟩
end
end PySem
namespace RA
open PySem PySem.Spec L2
open PyProof.Rows hiding St
/-- the tuple at a, each item in a new pair -/
def ItE (K : PySem.W.Frag) (a : Addr) : It :=
  ⟨fun i H => ∃ (xs : List V) (x : V), SqT K H a xs ∧ xs[i]? = some x,
   fun i H v H' => ∃ T x, v = .ref T ∧ H T = none ∧ H' = upd H T (.tup [.int (i : Nat), x]) ∧ ∀ xs, SqT K H a xs → xs[i]? = some x,
   fun i H => ∃ xs : List V, SqT K H a xs ∧ xs.length ≤ i⟩
theorem turn_enumT {P : Program} {w : World} {K : PySem.W.Frag} {elts : List Expr} {kk : Nat} {tpos : Pos} (a e it : Addr) (hai : a ≠ it) :
    Turn P w K (.Tuple elts kk tpos) (ItE K a) [e, it] e (fun i h => (∃ old, IsEnum h e it ((i : Nat) : Int) old) ∧ h.IsTupleIter it a i ∧ e ≠ it ∧ e ≠ a) where
  mem := by simp
  obj := fun i h st b hb => by
    obtain ⟨⟨old, he⟩, ⟨o, ho, hc, hd⟩, _⟩ := st
    have e' : b = e ∨ b = it := by simpa using hb
    rcases e' with z | z
    · rw [z]; exact ⟨_, he, fun v q => nomatch q⟩
    · rw [z]; exact ⟨o, ho, fun v q => by rw [hd] at q; cases q⟩
  keep := fun i h h' st k => by
    obtain ⟨⟨old, he⟩, hi, h3⟩ := st
    exact ⟨⟨old, k e (by simp) _ he⟩, hi.at (fun o q => k it (by simp) o q), h3⟩
  item := by
    intro X hP hw hK hc i pins s σ H E I hf st hg
    subst hP hw hK
    obtain ⟨⟨old, he⟩, hit, hne, hea⟩ := st
    obtain ⟨xs, x, hq, hx⟩ := hg
    obtain ⟨its, rv, p, hz⟩ := I.tuple hq
    obtain ⟨u, hu, ru⟩ := rv.get hx
    have lenI := rv.length
    have hel : e < s.heap.objs.size := Heap.lt_size he
    have hil : it < s.heap.objs.size := by obtain ⟨_, q, _⟩ := hit; exact Heap.lt_size q
    have hlt : i < its.toArray.size := by
      have := (List.getElem?_eq_some_iff.mp hu).1
      simpa using this
    refine wpAny_pyNext_enum_itemD (Draws.tuple (prog := X.prog) (w := X.w) (A := X.A.in1) (I.ok.hd hc) it a hai its.toArray) he ⟨hit, p⟩ hlt hne (by simp [hne, hea]) fun y h' tk hy ho st' hT hsz hk => ?_
    have ey : y = u := by
      have z : its.toArray[i]? = some y := hy
      have z2 : its[i]? = some y := by simpa using z
      rw [hu] at z2
      exact (Option.some.inj z2).symm
    subst ey
    refine ⟨_, rfl, wpAny_letOwnedTupleGo_enum (s := { s with heap := h', toks := tk + 1 }) ho fun h'' he' sb => ?_⟩
    have hT2 : h''.get? s.heap.objs.size = some { cls := .type "tuple", data := .seq #[.int i tk, y] } := (sb.2 _ (Nat.ne_of_gt hel)).trans hT
    have new : ObjOk X.prog X.w (upd H s.heap.objs.size (.tup [.int (i : Nat), x])) h'' s.heap.objs.size (.tup [.int (i : Nat), x]) :=
      ⟨by show 2 ≤ sizeLine; decide, [.int i tk, y], .cons ⟨_, rfl⟩ (.cons ru .nil), ⟨_, hT2, rfl, _, rfl⟩⟩
    have I1 : Inv X pins σ (upd H s.heap.objs.size (.tup [.int (i : Nat), x])) { s with heap := h'', toks := tk + 1 } :=
      I.turnedNew (ch := [e, it]) (fun b ob hb q => (sb.2 b (fun z => hb (by simp [z]))).trans (hk b ob (fun z => hb (by simp [z])) (fun z => hb (by simp [z])) q)) hf (Nat.le_refl _) new
    refine ⟨.ref s.heap.objs.size, _, I1, rfl, ⟨_, x, rfl, I.hok.fresh (Nat.le_refl _), rfl, fun ys hy => by rw [I.tuple_inj hy hq]; exact hx⟩, ⟨⟨y, ?_⟩, st'.1.at (fun o q => (sb.2 it (Ne.symm hne)).trans q), hne, hea⟩, fun b hb => ?_⟩
    · have e1 : ((i + 1 : Nat) : Int) = (i : Int) + 1 := by omega
      rw [e1]; exact he'
    · have hb' : b < s.heap.objs.size := by
        have e' : b = e ∨ b = it := by simpa using hb
        rcases e' with z | z
        · rw [z]; exact hel
        · rw [z]; exact hil
      rw [upd_ne (Nat.ne_of_lt hb')]
      exact (hf b hb).1
  done := by
    intro X hP hw hK hc i pins s σ H E I hf st hg
    subst hP hw hK
    obtain ⟨⟨old, he⟩, hit, hne, hea⟩ := st
    obtain ⟨xs, hq, hx⟩ := hg
    obtain ⟨its, rv, p, hz⟩ := I.tuple hq
    obtain ⟨f0, f1, f2, f3, f4, f5⟩ := hf it (by simp)
    have hl := rv.length
    have hT : s.TypeIs (.ref e) "enumerate" := ⟨_, he, rfl⟩
    unfold pyNext
    refine wpAny_bind (wpAny_attempt (wpAny_callSpecial?_slot (name := Str.ofString "__next__") hT F.slot_enumerate_next
      (wpAny_call_entry F.slot_enumerate_next hT F.entry_enumerate_next ?_ (F.args_enumerate_next_1 _))))
    show wpAny _ _ (field (.ref e) 2 >>= _) _ _ _
    refine wpAny_bind (wpAny_field he rfl (x := .ref it) rfl ?_)
    refine wpAny_bind (wpAny_nextOf_tuple_end (I.ok.hd hc) hit p (by simp; omega) fun h' x he' hx' => ?_)
    obtain ⟨o, ho, hcc⟩ := hx'
    refine wpAny_bind (wpAny_isInstance (T := "StopIteration") (b := true) ⟨o, ho, hcc⟩ isSubtype_stop ?_)
    exact wpAny_pure ⟨rfl, I.turned (t' := s.toks) (fun b o hb q => he' b o hb q) f0 f1 f3 f4 f5⟩
  self := fun A i s Q E st h => by
    obtain ⟨⟨_, he⟩, _⟩ := st
    exact wpAny_pyIter_enum he h
def iEnumT (K : PySem.W.Frag) (ta : TA) : TI := fun σ H R => ta σ H fun vs H1 => ∃ a xs, vs = [.ref a] ∧ SqT K H1 a xs ∧ R (ItE K a) H1
theorem pi_enumT {X : Cx} {e : Expr} {ta : TA} {p pos tpos : Pos} {elts : List Expr} {kk : Nat} (hg : Gl X "enumerate") (hm : X.mg "enumerate" = none) (ha : PA X [e] ta) (hs : starEach [e] X.env = [(false, eval e X.env)] := by rfl) :
    PI X (.Tuple elts kk tpos) (.Call (.Name "enumerate" p) [e] [] pos) (iEnumT X.K ta) := by
  constructor
  intro pins s σ H R I h
  refine Call_ (ld_blt I hg hm boot_enumerate (PyProof.Rows.callWith_type1 (thn (ha.run pos pins s σ H _ I h) ?_) hs rfl))
  rintro us s1 ⟨vs, H1, I1, r1, a, xs, rfl, hq, q⟩
  cases r1 with
  | cons r rr =>
    cases rr
    cases r
    obtain ⟨its, rv, p', hz⟩ := I1.tuple hq
    have hal : a < s1.heap.objs.size := by
      obtain ⟨o, ho, _⟩ := p'
      exact Heap.lt_size ho
    refine ra_enum1 (begins_tuple a its.toArray) p' fun h' he hit hsz hk => wpAny_pyIter_enum he ?_
    have I2 : Inv X pins σ H1 { s1 with heap := h' } := I1.kept (t' := s1.toks) hk
    refine ⟨s1.heap.objs.size + 1, [s1.heap.objs.size + 1, s1.heap.objs.size], _, _, H1, rfl, I2, turn_enumT a (s1.heap.objs.size + 1) s1.heap.objs.size (Nat.ne_of_lt hal), ⟨⟨.none, he⟩, ⟨_, hit, rfl, rfl⟩, Nat.succ_ne_self _, Nat.ne_of_gt (Nat.lt_succ_of_lt hal)⟩, fun b hb => ?_, q⟩
    have e' : b = s1.heap.objs.size + 1 ∨ b = s1.heap.objs.size := by simpa using hb
    have hle : s1.heap.objs.size ≤ b := by
      rcases e' with z | z
      · rw [z]; exact Nat.le_add_right _ _
      · rw [z]; exact Nat.le_refl _
    exact I1.fpOk hle (I1.hok.fresh hle)
/-- the loop over it, the tuple standing still: each pair is new -/
theorem for_enumT {K : PySem.W.Frag} {a : Addr} {xs : List V} {g : TG} {tb : TS} {D : Ends} {σ : St} {H : Hp} (Pv : Nat → St → Hp → Prop) (h0 : Pv 0 σ H) (hl : ∀ i σ H, i ≤ xs.length → Pv i σ H → SqT K H a xs)
    (hs : ∀ (i : Nat) x T σ H, xs[i]? = some x → Pv i σ H → H T = none → g (.ref T) σ (upd H T (.tup [.int (i : Nat), x])) fun σ2 H2 => tb { D with nx := Pv (i + 1), ct := Pv (i + 1), bk := D.nx } σ2 H2) (hd : ∀ σ H, Pv xs.length σ H → D.nx σ H) :
    ∃ W : Nat → Nat → St → Hp → Prop, (∃ m, W 0 m σ H) ∧ ∀ i m σ H, W i m σ H →
      ((ItE K a).stop i H ∧ D.nx σ H) ∨ ((ItE K a).go i H ∧ ∃ N : St → Hp → Prop, (∀ σ' H', N σ' H' → ∃ m', m' < m ∧ W (i + 1) m' σ' H') ∧ ∀ x H', (ItE K a).yld i H x H' → g x σ H' fun σ2 H2 => tb { D with nx := N, ct := N, bk := D.nx } σ2 H2) := by
  refine ⟨fun i m σ H => m + i = xs.length ∧ Pv i σ H, ⟨xs.length, by omega, h0⟩, ?_⟩
  rintro i m σ H ⟨hm, hp⟩
  have hle : i ≤ xs.length := by omega
  have ht := hl i σ H hle hp
  by_cases hi : i < xs.length
  · obtain ⟨x, hx⟩ : ∃ x, xs[i]? = some x := ⟨xs[i], List.getElem?_eq_getElem hi⟩
    refine .inr ⟨⟨xs, x, ht, hx⟩, Pv (i + 1), fun σ' H' hp' => ⟨m - 1, by omega, by omega, hp'⟩, ?_⟩
    rintro v H' ⟨T, y, rfl, hT, rfl, hy⟩
    have e := hy xs ht
    rw [hx] at e
    cases e
    exact hs i x T σ H hx hp hT
  · have e : i = xs.length := by omega
    subst e
    exact .inl ⟨⟨xs, ht, Nat.le_refl _⟩, hd σ H hp⟩
end RA

/-! RaOps: short names for the readings that the printed texts use. -/
namespace RA
open PySem PySem.Spec L2
open PyProof.Rows hiding St
def qAdd : R2 := rI0 fun i j => .int (i + j)
def qSub : R2 := rI0 fun i j => .int (i - j)
def qMul : R2 := rI CMul fun i j => .int (i * j)
def qMulW : R2 := rI CMulW fun i j => .int (i * j)
def qDiv : R2 := rI CDiv fun i j => .int (i / j)
def qDivW : R2 := rI CDivW fun i j => .int (i / j)
def qMod : R2 := rI (fun _ j => 0 < j) fun i j => .int (i % j)
def qPow : R2 := rI CPow fun i j => .int (i ^ j.toNat)
def qLt : R2 := rI0 fun i j => .bl (decide (i < j))
def qLe : R2 := rI0 fun i j => .bl (decide (i ≤ j))
def qGt : R2 := rI0 fun i j => .bl (decide (j < i))
def qGe : R2 := rI0 fun i j => .bl (decide (j ≤ i))
def qIsN : R2 := fun x y H Q => y = .non ∧ Q (.bl (decide (x = .non))) H
def qNotN : R2 := fun x y H Q => y = .non ∧ Q (.bl (!decide (x = .non))) H
def qCatS : R2 := fun x y H Q => ∃ i j, x = .str i ∧ y = .str j ∧ i.length + j.length ≤ sizeLine ∧ Q (.str (i ++ j)) H
def qLtS : R2 := fun x y H Q => ∃ i j, x = .str i ∧ y = .str j ∧ Q (.bl (decide (i.cps.toList < j.cps.toList))) H
def qIn1 : R2 := fun x y H Q => ∃ (c : Nat) (z : Str), x = .str ⟨#[c]⟩ ∧ y = .str z ∧ Q (.bl (decide (c ∈ z.cps.toList))) H
def qNotIn1 : R2 := fun x y H Q => ∃ (c : Nat) (z : Str), x = .str ⟨#[c]⟩ ∧ y = .str z ∧ Q (.bl (!decide (c ∈ z.cps.toList))) H
def qInt : List V → Hp → VK → Prop := fun xs H Q => (∃ i, xs = [.int i] ∧ Q (.int i) H) ∨ ∃ k, xs = [.bl k] ∧ Q (.int (if k then 1 else 0)) H
def qAbs : List V → Hp → VK → Prop := fun xs H Q => ∃ i, xs = [.int i] ∧ Q (.int (if i < 0 then -i else i)) H
def qMax2 : List V → Hp → VK → Prop := fun xs H Q => ∃ i j, xs = [.int i, .int j] ∧ Q (.int (if j > i then j else i)) H
def qMin2 : List V → Hp → VK → Prop := fun xs H Q => ∃ i j, xs = [.int i, .int j] ∧ Q (.int (if j < i then j else i)) H
def qLen (K : PySem.W.Frag) : List V → Hp → VK → Prop := fun xs H Q => ∃ p ys, xs = [.ref p] ∧ (SqL K H p ys ∨ SqT K H p ys) ∧ Q (.int ys.length) H
def qLenS : List V → Hp → VK → Prop := fun xs H Q => ∃ z, xs = [.str z] ∧ z.length ≤ sizeLine ∧ Q (.int z.length) H
def qTuple (K : PySem.W.Frag) : List V → Hp → VK → Prop := fun xs H Q => ∃ p ys, xs = [.ref p] ∧ ((SqL K H p ys ∧ ∀ l, H l = none → Q (.ref l) (upd H l (.tup ys))) ∨ (SqT K H p ys ∧ Q (.ref p) H))
def qStrI : List V → Hp → VK → Prop := fun xs H Q => ∃ i, xs = [.int i] ∧ i.natAbs.log2 < 1920 ∧ Q (.str (toString i)) H
/-! ### lists and tuples that are tracked, by a function -/
def lstOf (H : Hp) (p : Addr) : Option (List V) := match H p with
  | some (.lst xs) => some xs
  | some (.frz _ (.lst xs)) => some xs
  | _ => none
def tupOf (H : Hp) (p : Addr) : Option (List V) := match H p with
  | some (.tup xs) => some xs
  | some (.frz _ (.tup xs)) => some xs
  | _ => none
def sqOf (H : Hp) (p : Addr) : Option (List V) := match H p with
  | some (.lst xs) => some xs
  | some (.frz _ (.lst xs)) => some xs
  | some (.tup xs) => some xs
  | some (.frz _ (.tup xs)) => some xs
  | _ => none
theorem lstOf_of {H : Hp} {p : Addr} {xs : List V} (h : H p = some (.lst xs)) : lstOf H p = some xs := by unfold lstOf; rw [h]
theorem tupOf_of {H : Hp} {p : Addr} {xs : List V} (h : H p = some (.tup xs)) : tupOf H p = some xs := by unfold tupOf; rw [h]
theorem sqOf_lst {H : Hp} {p : Addr} {xs : List V} (h : H p = some (.lst xs)) : sqOf H p = some xs := by unfold sqOf; rw [h]
theorem sqOf_tup {H : Hp} {p : Addr} {xs : List V} (h : H p = some (.tup xs)) : sqOf H p = some xs := by unfold sqOf; rw [h]
theorem lstOf_upd {H : Hp} {p : Addr} {xs : List V} : lstOf (upd H p (.lst xs)) p = some xs := lstOf_of upd_same
theorem tupOf_upd {H : Hp} {p : Addr} {xs : List V} : tupOf (upd H p (.tup xs)) p = some xs := tupOf_of upd_same
theorem lstOf_sq {K : PySem.W.Frag} {H : Hp} {p : Addr} {xs : List V} (h : lstOf H p = some xs) : SqL K H p xs := by
  unfold lstOf at h
  split at h
  · next e => cases h; exact .inl (.inl e)
  · next e => cases h; exact .inl (.inr ⟨_, e⟩)
  · cases h
theorem tupOf_sq {K : PySem.W.Frag} {H : Hp} {p : Addr} {xs : List V} (h : tupOf H p = some xs) : SqT K H p xs := by
  unfold tupOf at h
  split at h
  · next e => cases h; exact .inl (.inl e)
  · next e => cases h; exact .inl (.inr ⟨_, e⟩)
  · cases h
theorem sqOf_sq {K : PySem.W.Frag} {H : Hp} {p : Addr} {xs : List V} (h : sqOf H p = some xs) : SqL K H p xs ∨ SqT K H p xs := by
  unfold sqOf at h
  split at h
  · next e => cases h; exact .inl (.inl (.inl e))
  · next e => cases h; exact .inl (.inl (.inr ⟨_, e⟩))
  · next e => cases h; exact .inr (.inl (.inl e))
  · next e => cases h; exact .inr (.inl (.inr ⟨_, e⟩))
  · cases h
def qIxL : R2 := fun x y H Q => ∃ p i, x = .ref p ∧ y = .int i ∧ ∃ xs, lstOf H p = some xs ∧ ∃ v, atI xs i = some v ∧ Q v H
def qIxT : R2 := fun x y H Q => ∃ p i, x = .ref p ∧ y = .int i ∧ ∃ xs, tupOf H p = some xs ∧ ∃ v, atI xs i = some v ∧ Q v H
theorem ix_l {X : Cx} : IxR X qIxL := by
  intro value slice pins s σ H x y v u Q I rx ry h hs
  obtain ⟨p, i, h1, h2, xs, h3, w, h4, q⟩ := h
  exact ix_list value slice pins s σ H x y v u Q I rx ry ⟨p, xs, i, w, h1, h2, lstOf_sq h3, h4, q⟩ hs
theorem ix_t {X : Cx} : IxR X qIxT := by
  intro value slice pins s σ H x y v u Q I rx ry h hs
  obtain ⟨p, i, h1, h2, xs, h3, w, h4, q⟩ := h
  exact ix_tup value slice pins s σ H x y v u Q I rx ry ⟨p, xs, i, w, h1, h2, tupOf_sq h3, h4, q⟩ hs
def qLenQ : List V → Hp → VK → Prop := fun xs H Q => ∃ p, xs = [.ref p] ∧ ∃ ys, sqOf H p = some ys ∧ Q (.int ys.length) H
theorem cl_len {X : Cx} : CallR X (.builtin "len") qLenQ := by
  intro pins s σ H xs us Q I r h
  obtain ⟨p, h1, ys, h2, q⟩ := h
  exact call_len_seq pins s σ H xs us Q I r ⟨p, ys, h1, sqOf_sq h2, q⟩
/-- an item of a written row -/
theorem atI_0 {α : Type} {x : α} {xs : List α} : atI (x :: xs) 0 = some x := by
  have h : (0 : Int) < ((x :: xs).length : Int) := by rw [List.length_cons]; omega
  simp only [atI, ixN, Int.le_refl, if_true, h, Option.bind_some, Int.toNat_zero, List.getElem?_cons_zero]
theorem atI_1 {α : Type} {x y : α} {xs : List α} : atI (x :: y :: xs) 1 = some y := atI_nat (j := 1) rfl
theorem atI_2 {α : Type} {x y z : α} {xs : List α} : atI (x :: y :: z :: xs) 2 = some z := atI_nat (j := 2) rfl
theorem atI_3 {α : Type} {x y z u : α} {xs : List α} : atI (x :: y :: z :: u :: xs) 3 = some u := atI_nat (j := 3) rfl
theorem ixN_0 {n : Nat} : ixN (n + 1) 0 = some 0 := by
  unfold ixN
  rw [if_pos (Int.le_refl 0), if_pos (by omega)]; rfl
theorem ixL0 {α : Type} {a : α} {l : List α} : ixN (a :: l).length 0 = some 0 := ixN_0
theorem ixL1 {α : Type} {a b : α} {l : List α} : ixN (a :: b :: l).length 1 = some 1 := by
  simp only [List.length_cons]
  unfold ixN
  rw [if_pos (by decide), if_pos (by omega)]; rfl
theorem ixL2 {α : Type} {a b c : α} {l : List α} : ixN (a :: b :: c :: l).length 2 = some 2 := by
  simp only [List.length_cons]
  unfold ixN
  rw [if_pos (by decide), if_pos (by omega)]; rfl
/-- a store into a tracked list -/
def qSetL : V → V → V → Hp → (Hp → Prop) → Prop := fun o i v H Q => ∃ p k, o = .ref p ∧ i = .int k ∧ ∃ xs, H p = some (.lst xs) ∧ ∃ j, ixN xs.length k = some j ∧ Q (upd H p (.lst (xs.set j v)))
theorem set_l {X : Cx} : PSet X qSetL := by
  intro pins s σ H o i v ov iv u Q I ro ri rv h
  obtain ⟨p, k, h1, h2, xs, h3, j, h4, q⟩ := h
  exact set_list pins s σ H o i v ov iv u Q I ro ri rv ⟨p, xs, k, j, h1, h2, h3, h4, q⟩
/-- a test that is a value's truth -/
def tTruth (K : PySem.W.Frag) (ta : TE) : TT := fun σ H Q => ta σ H fun x H' => ∃ k, TruV K x H' k ∧ Q k H'
/-- a module's constant -/
theorem pe_gI {X : Cx} {x : Str} {i : Int} {pos : Pos} (h : ∃ t, X.mg x = some (.int i t)) (hg : Gl X x := by rfl) (hd : (x == ("__debug__" : Str)) = false := by decide) : PE X (.Name x pos) (tC (.int i)) := by
  obtain ⟨t, e⟩ := h
  exact pe_glob hg e ⟨t, rfl⟩ hd
theorem pe_gS {X : Cx} {x : Str} {i : Str} {pos : Pos} (h : ∃ t, X.mg x = some (.str i t)) (hg : Gl X x := by rfl) (hd : (x == ("__debug__" : Str)) = false := by decide) : PE X (.Name x pos) (tC (.str i)) := by
  obtain ⟨t, e⟩ := h
  exact pe_glob hg e ⟨t, rfl⟩ hd
theorem pe_gR {X : Cx} {x : Str} {a : Addr} {pos : Pos} (h : X.mg x = some (.ref a)) (hg : Gl X x := by rfl) (hd : (x == ("__debug__" : Str)) = false := by decide) : PE X (.Name x pos) (tC (.ref a)) :=
  pe_glob hg h rfl hd
theorem pe_ty {X : Cx} {x : Str} {n : String} {pos : Pos} (hm : X.mg x = none) (hv : bootBuiltins x = some (.type n)) (hg : Gl X x := by rfl) (hn : x ≠ "__name__" := by decide) (hd : (x == ("__debug__" : Str)) = false := by decide) : PE X (.Name x pos) (tC (.ty n)) :=
  pe_bltn hg hm hv rfl hn hd

/-! ### a call by keywords alone, or behind some by place -/
/-- how it binds, by the def's text: n by place, then the keywords; g puts them in the parameters' order -/
def KwTxt (x : Str) (st : Stmt) (ps ks : List Str) (n : Nat) (g : List Value → List Value → List Value) : Prop :=
  ∀ (kV doc pm : Value) (an : Option Addr) (cdv ct : Value) (us ws : List Value), us.length = n → ws.length = ks.length →
    bindArgs (PySem.W.fnOf x x (defArgs st) (defBody st) (defScope st) .none kV doc pm an cdv ct) ⟨us, ks.zip ws⟩ = pure (ps.zip (g us ws))
def KwRel (n m : Nat) (g : List Value → List Value → List Value) (gV : List V → List V → List V) : Prop :=
  ∀ (vs zs : List V) (us ws : List Value), vs.length = n → zs.length = m → Vals vs us → Vals zs ws → Vals (gV vs zs) (g us ws)
def tCallKw (sp : Sp) (n m : Nat) (gV : List V → List V → List V) (t tk : TA) : TE := fun σ H Q => t σ H fun vs H1 => tk σ H1 fun zs H2 => vs.length = n ∧ zs.length = m ∧ sp (gV vs zs) H2 Q E0
section
variable {X : Cx} {x : Str} {st : Stmt} {k n : Nat} {ps ks : List Str} {sp : Sp} {p pos : Pos} {t tk : TA} {kws : List Keyword} {e : Expr} {es : List Expr}
variable {g : List Value → List Value → List Value} {gV : List V → List V → List V}
theorem runKw {f : Addr} {fd : FuncData} {pins : List (Addr × Obj)} {σ : St} {H : Hp} {s : Shared} {Q : VK} {us ws : List Value} {vs zs : List V}
    (F : Fun X.K x x st f fd) (G : FnOk X.prog X.w X.K X.mg X.base CX0 k f fd ps sp) (hr : Room k X.A) (hb : KwTxt x st ps ks n g) (hrel : KwRel n ks.length g gV)
    (I : Inv X pins σ H s) (r : Vals vs us) (rz : Vals zs ws) (h1 : vs.length = n) (h2 : zs.length = ks.length) (h : sp (gV vs zs) H Q E0) :
    wpAny (model X.prog X.w) X.A (call (.ref f) us (ks.zip ws)) (EP X pins σ Q) X.xe s := by
  have b : BindsTo s fd ⟨us, ks.zip ws⟩ (ps.zip (g us ws)) := by
    obtain ⟨oc, od, kV, doc, pm, an, cdv, ct, osl, rfl, lk, hcd⟩ := F.ex
    exact .of_eq (hb kV doc pm an cdv ct us ws (by rw [← r.length]; exact h1) (by rw [← rz.length]; exact h2))
  refine wpAny_call (codeAny_mono (G.run X.A X.stack s H ⟨us, ks.zip ws⟩ (g us ws) (gV vs zs) Q E0 hr I.env0 b (hrel vs zs us ws h1 h2 r rz) h) fun res s' hq => ?_)
  match res, hq with
  | .error _, hq => exact False.elim hq
  | .ok (.ret _), hq => exact I.after hq
  | .ok .next, hq => exact False.elim hq
  | .ok .brk, hq => exact False.elim hq
  | .ok .cont, hq => exact False.elim hq
/-- keywords only -/
theorem pe_fK0 (h : Has X.prog X.w X.K X.mg X.base x st k ps sp) (hr : Room k X.A) (hb : KwTxt x st ps ks 0 g) (hrel : KwRel 0 ks.length g gV)
    (hkw : PK X kws tk) (hg : Gl X x := by rfl) (hdb : (x == ("__debug__" : Str)) = false := by decide)
    (hall : (backToKw pos (keywordEach kws X.env)).all (·.1.isSome) = true := by rfl) (hks : (backToKw pos (keywordEach kws X.env)).filterMap (·.1) = ks := by rfl)
    (hpl : ((backTo pos (starEach [] X.env)).any (·.1) || (backToKw pos (keywordEach kws X.env)).any (·.1.isNone)) = false := by rfl) :
    PE X (.Call (.Name x p) [] kws pos) (tCallKw sp 0 ks.length gV tNil tk) := by
  obtain ⟨f, fd, hm, F, b, G⟩ := h.ex
  constructor
  intro pins s σ H Q I q
  refine wpAny_Call_Name_kw (ld_glob I hg hm ?_ hdb)
  refine PySem.W.callWith_KW0 (h₀ := X.base) I.ok.mod.kin F.kp hall (thn (hkw.run pos pins s σ H _ I q) ?_) hpl
  rintro ws s2 ⟨zs, H2, I2, rz, q1, q2, q3⟩
  refine ⟨I2.kIn, ?_⟩
  rw [hks]
  exact runKw F G hr hb hrel I2 .nil rz q1 q2 q3
theorem pe_fK (h : Has X.prog X.w X.K X.mg X.base x st k ps sp) (hr : Room k X.A) (hb : KwTxt x st ps ks n g) (hrel : KwRel n ks.length g gV)
    (ha : PA X (e :: es) t) (hkw : PK X kws tk) (hg : Gl X x := by rfl) (hdb : (x == ("__debug__" : Str)) = false := by decide)
    (hall : (backToKw pos (keywordEach kws X.env)).all (·.1.isSome) = true := by rfl) (hks : (backToKw pos (keywordEach kws X.env)).filterMap (·.1) = ks := by rfl)
    (he : starEach (e :: es) X.env = (false, eval e X.env) :: starEach es X.env := by rfl)
    (hpl : ((backTo pos (starEach (e :: es) X.env)).any (·.1) || (backToKw pos (keywordEach kws X.env)).any (·.1.isNone)) = false := by rfl) :
    PE X (.Call (.Name x p) (e :: es) kws pos) (tCallKw sp n ks.length gV t tk) := by
  obtain ⟨f, fd, hm, F, b, G⟩ := h.ex
  constructor
  intro pins s σ H Q I q
  refine wpAny_Call_Name_kw (ld_glob I hg hm ?_ hdb)
  refine PySem.W.callWith_KW (h₀ := X.base) I.ok.mod.kin F.kp hall (thn (ha.run pos pins s σ H _ I q) ?_) hpl he
  rintro us s1 ⟨vs, H1, I1, r, q0⟩
  refine thn (hkw.run pos pins s1 σ H1 _ I1 q0) ?_
  rintro ws s2 ⟨zs, H2, I2, rz, q1, q2, q3⟩
  refine ⟨I2.kIn, ?_⟩
  rw [hks]
  exact runKw F G hr hb hrel I2 r rz q1 q2 q3
end

/-! ### max of a tuple of ints -/
def qMaxT (K : PySem.W.Frag) : List V → Hp → VK → Prop := fun vs H Q => ∃ (a : Addr) (ns : List Int), vs = [V.ref a] ∧ SqT K H a (ns.map V.int) ∧ 0 < ns.length ∧ ∀ m, m ∈ ns → (∀ y, y ∈ ns → y ≤ m) → Q (.int m) H
theorem cl_maxT {X : Cx} (hc : X.calm = true) : CallR X (.builtin "max") (qMaxT X.K) := by
  intro pins s σ H vs us Q I r h
  obtain ⟨a, ns, rfl, hs, hne, q⟩ := h
  obtain ⟨its, rv, ht, _⟩ := I.tuple hs
  rw [Vals.ref1 r]
  have hi := rv.ints
  obtain ⟨xs, e⟩ := hi.allInts.items
  have hn : numsOf (intItems xs).toList = ns := by rw [← e]; exact hi.numsOf
  rw [nums_intItems] at hn
  subst hn
  have hz : 0 < xs.size := by simpa using hne
  have ht' : s.heap.IsTuple a (intItems xs) := by rw [← e]; exact ht
  have hal : a < s.heap.objs.size := by obtain ⟨o, ho, _⟩ := ht'; exact Heap.lt_size ho
  refine call_max_walk (wpAny_pyIter_tuple ht' ?_)
  refine ⟨s.heap.objs.size, [s.heap.objs.size, a], _, _, _, _, _, rfl, Walks.tuple (A := X.A.in1) (I.ok.hd hc) _ a (Nat.ne_of_lt hal) (intItems xs), ⟨⟨_, Heap.get?_push_size _ rfl, rfl, rfl⟩, ht'.at fun o q => Heap.get?_push_of_some _ q⟩, ?_, ?_, CmpOf.ints_gt (numAt xs) (fun _ _ => intItems_at), ?_⟩
  · intro b hb
    show b < (s.heap.push _).objs.size
    rw [Heap.size_push]
    have : b = s.heap.objs.size ∨ b = a := by simpa using hb
    rcases this with z | z
    · rw [z]; exact Nat.lt_succ_self _
    · rw [z]; exact Nat.lt_succ_of_lt hal
  · simpa [intItems] using hz
  · intro v h' tk hP hk
    obtain ⟨t, rfl⟩ := intItems_at (by simpa [intItems] using hP)
    have hsz : (intItems xs).size = xs.size := by simp [intItems]
    obtain ⟨h1, h2⟩ := argBest_gt (numAt xs) (xs.size - 1)
    refine ⟨.int _, H, I.kept (fun b o z => ?_), ⟨t, rfl⟩, q _ ?_ fun y hy => ?_⟩
    · refine hk b o (fun hm => ?_) (Heap.get?_push_of_some _ z)
      have : b = s.heap.objs.size := by simpa using hm
      exact absurd (this ▸ Heap.lt_size z) (Nat.lt_irrefl _)
    · rw [numAt_eq]
      exact PySem.getD_mem (by rw [List.length_map, Array.length_toList]; exact Nat.lt_of_le_of_lt h1 (Nat.sub_lt hz Nat.one_pos))
    · obtain ⟨j, hj, rfl⟩ := mem_getD hy
      rw [List.length_map, Array.length_toList] at hj
      rw [← numAt_eq]
      exact h2 j (by omega)

/-! ### readings of assignments, by their targets -/
theorem tAsg_name {te : TE} {i : Nat} : tAsg te (gName i) = fun D σ H => te σ H fun x H1 => D.nx (σ.set i (some x)) H1 := rfl
theorem tAsg_sub {te to ti : TE} {t : TSet} : tAsg te (gSub to ti t) = fun D σ H => te σ H fun x H1 => to σ H1 fun o H2 => ti σ H2 fun i H3 => t o i x H3 fun H4 => D.nx σ H4 := rfl
theorem tAsg_tup {K : PySem.W.Frag} {te : TE} {n : Nat} {t : TGs} : tAsg te (gTup K n t) = fun D σ H => te σ H fun x H1 => ∃ a xs, x = .ref a ∧ SqT K H1 a xs ∧ xs.length = n ∧ t xs σ H1 D.nx := rfl
theorem gName_ap {i : Nat} {v : V} {σ : St} {H : Hp} {Q : St → Hp → Prop} : gName i v σ H Q = Q (σ.set i (some v)) H := rfl
theorem gTup_ap {K : PySem.W.Frag} {n : Nat} {t : TGs} {v : V} {σ : St} {H : Hp} {Q : St → Hp → Prop} : gTup K n t v σ H Q = ∃ a xs, v = .ref a ∧ SqT K H a xs ∧ xs.length = n ∧ t xs σ H Q := rfl
theorem gCons_ap {t : TG} {u : TGs} {vs : List V} {σ : St} {H : Hp} {Q : St → Hp → Prop} : gCons t u vs σ H Q = ∃ v r, vs = v :: r ∧ t v σ H fun σ' H' => u r σ' H' Q := rfl
theorem gNil_ap {vs : List V} {σ : St} {H : Hp} {Q : St → Hp → Prop} : gNil vs σ H Q = (vs = [] ∧ Q σ H) := rfl
theorem gSub_ap {to ti : TE} {t : TSet} {v : V} {σ : St} {H : Hp} {Q : St → Hp → Prop} : gSub to ti t v σ H Q = to σ H fun o H1 => ti σ H1 fun i H2 => t o i v H2 fun H3 => Q σ H3 := rfl
/-! ### loops, by what they walk -/
section
variable {K : PySem.W.Frag} {g : TG} {tb : TS} {D : Ends} {σ : St} {H : Hp}
theorem for_v {i : Nat} {a : Addr} {xs : List V} (hv : σ[i]? = some (some (.ref a))) (Pv : Nat → St → Hp → Prop) (h0 : Pv 0 σ H) (hl : ∀ i σ H, i ≤ xs.length → Pv i σ H → SqL K H a xs)
    (hs : ∀ i x σ H, xs[i]? = some x → Pv i σ H → g x σ H fun σ2 H2 => tb { D with nx := Pv (i + 1), ct := Pv (i + 1), bk := D.nx } σ2 H2) (hd : ∀ σ H, Pv xs.length σ H → D.nx σ H) :
    tFor (iList K (tVar i)) g tb D σ H := ⟨_, hv, a, rfl, ⟨xs, hl 0 σ H (Nat.zero_le _) h0⟩, for_list (xs := xs) Pv h0 hl hs hd⟩
end

/-! ### loops whose ends are told apart -/
section
variable {K : PySem.W.Frag} {g : TG} {tb : TS} {nx : St → Hp → Prop} {rt : VK} {σ : St} {H : Hp}
theorem lp_list {a : Addr} {xs : List V} (Pv : Nat → St → Hp → Prop) (h0 : Pv 0 σ H) (hl : ∀ i σ H, i ≤ xs.length → Pv i σ H → SqL K H a xs)
    (hs : ∀ i x σ H, xs[i]? = some x → Pv i σ H → g x σ H fun σ2 H2 => tb ⟨Pv (i + 1), rt, nx, Pv (i + 1)⟩ σ2 H2) (hd : ∀ σ H, Pv xs.length σ H → nx σ H) :
    ∃ W : Nat → Nat → St → Hp → Prop, (∃ m, W 0 m σ H) ∧ ∀ i m σ H, W i m σ H →
      ((Itl K a).stop i H ∧ nx σ H) ∨ ((Itl K a).go i H ∧ ∃ N : St → Hp → Prop, (∀ σ' H', N σ' H' → ∃ m', m' < m ∧ W (i + 1) m' σ' H') ∧ ∀ x H', (Itl K a).yld i H x H' → g x σ H' fun σ2 H2 => tb ⟨N, rt, nx, N⟩ σ2 H2) :=
  for_list (D := ⟨nx, rt, fun _ _ => False, fun _ _ => False⟩) Pv h0 hl hs hd
theorem lp_tup {a : Addr} {xs : List V} (Pv : Nat → St → Hp → Prop) (h0 : Pv 0 σ H) (hl : ∀ i σ H, i ≤ xs.length → Pv i σ H → SqT K H a xs)
    (hs : ∀ i x σ H, xs[i]? = some x → Pv i σ H → g x σ H fun σ2 H2 => tb ⟨Pv (i + 1), rt, nx, Pv (i + 1)⟩ σ2 H2) (hd : ∀ σ H, Pv xs.length σ H → nx σ H) :
    ∃ W : Nat → Nat → St → Hp → Prop, (∃ m, W 0 m σ H) ∧ ∀ i m σ H, W i m σ H →
      ((Itt K a).stop i H ∧ nx σ H) ∨ ((Itt K a).go i H ∧ ∃ N : St → Hp → Prop, (∀ σ' H', N σ' H' → ∃ m', m' < m ∧ W (i + 1) m' σ' H') ∧ ∀ x H', (Itt K a).yld i H x H' → g x σ H' fun σ2 H2 => tb ⟨N, rt, nx, N⟩ σ2 H2) :=
  for_tup (D := ⟨nx, rt, fun _ _ => False, fun _ _ => False⟩) Pv h0 hl hs hd
theorem lp_enumT {a : Addr} {xs : List V} (Pv : Nat → St → Hp → Prop) (h0 : Pv 0 σ H) (hl : ∀ i σ H, i ≤ xs.length → Pv i σ H → SqT K H a xs)
    (hs : ∀ (i : Nat) x T σ H, xs[i]? = some x → Pv i σ H → H T = none → g (.ref T) σ (upd H T (.tup [.int (i : Nat), x])) fun σ2 H2 => tb ⟨Pv (i + 1), rt, nx, Pv (i + 1)⟩ σ2 H2) (hd : ∀ σ H, Pv xs.length σ H → nx σ H) :
    ∃ W : Nat → Nat → St → Hp → Prop, (∃ m, W 0 m σ H) ∧ ∀ i m σ H, W i m σ H →
      ((ItE K a).stop i H ∧ nx σ H) ∨ ((ItE K a).go i H ∧ ∃ N : St → Hp → Prop, (∀ σ' H', N σ' H' → ∃ m', m' < m ∧ W (i + 1) m' σ' H') ∧ ∀ x H', (ItE K a).yld i H x H' → g x σ H' fun σ2 H2 => tb ⟨N, rt, nx, N⟩ σ2 H2) :=
  for_enumT (D := ⟨nx, rt, fun _ _ => False, fun _ _ => False⟩) Pv h0 hl hs hd
theorem lp_rng {lo : Int} {n : Nat} (Pv : Nat → St → Hp → Prop) (h0 : Pv 0 σ H)
    (hs : ∀ i σ H, i < n → Pv i σ H → g (.int (lo + i)) σ H fun σ2 H2 => tb ⟨Pv (i + 1), rt, nx, Pv (i + 1)⟩ σ2 H2) (hd : ∀ σ H, Pv n σ H → nx σ H) :
    ∃ W : Nat → Nat → St → Hp → Prop, (∃ m, W 0 m σ H) ∧ ∀ i m σ H, W i m σ H →
      ((Itr lo n).stop i H ∧ nx σ H) ∨ ((Itr lo n).go i H ∧ ∃ N : St → Hp → Prop, (∀ σ' H', N σ' H' → ∃ m', m' < m ∧ W (i + 1) m' σ' H') ∧ ∀ x H', (Itr lo n).yld i H x H' → g x σ H' fun σ2 H2 => tb ⟨N, rt, nx, N⟩ σ2 H2) :=
  for_range (D := ⟨nx, rt, fun _ _ => False, fun _ _ => False⟩) Pv h0 hs hd
end

/-! ### comprehensions, by what they walk -/
section
variable {K : PySem.W.Frag} {g : TG} {tt : TT} {te : TE} {vs : List Nat} {σ : St} {H : Hp} {Q : VK} {tl : TE} {ta : TA}
/-- a turn of a comprehension -/
def LcTurn (g : TG) (tt : TT) (te : TE) (vs : List Nat) (σ : St) (D : Addr) (x : V) (H' : Hp) (N : Hp → Prop) : Prop :=
  g x (wipe σ vs) H' fun σ2 H2 => wipe σ2 vs = wipe σ vs ∧ tt σ2 H2 fun b H3 =>
    if b = true then te σ2 H3 fun y H4 => ∃ acc, H4 D = some (.lst acc) ∧ acc.length < sizeLine ∧ N (upd H4 D (.lst (acc ++ [y]))) else N H3
theorem lc_T {a : Addr} {xs : List V} (he : ∀ R : VK, R (.ref a) H → tl σ H R) (hq : SqT K H a xs) (Pv : Addr → Nat → Hp → Prop) (h0 : ∀ D, H D = none → Pv D 0 (upd H D (.lst [])))
    (hl : ∀ D i H', i ≤ xs.length → Pv D i H' → SqT K H' a xs) (hs : ∀ D i x H', xs[i]? = some x → Pv D i H' → LcTurn g tt te vs σ D x H' (Pv D (i + 1)))
    (hd : ∀ D H', Pv D xs.length H' → Q (.ref D) H') : tLc (iTup K tl) g tt te vs σ H Q :=
  he _ ⟨a, rfl, ⟨xs, hq⟩, fun D hD => lc_tup (xs := xs) (Pv D) (h0 D hD) (hl D) (hs D) (hd D)⟩
theorem lc_L {a : Addr} {xs : List V} (he : ∀ R : VK, R (.ref a) H → tl σ H R) (hq : SqL K H a xs) (Pv : Addr → Nat → Hp → Prop) (h0 : ∀ D, H D = none → Pv D 0 (upd H D (.lst [])))
    (hl : ∀ D i H', i ≤ xs.length → Pv D i H' → SqL K H' a xs) (hs : ∀ D i x H', xs[i]? = some x → Pv D i H' → LcTurn g tt te vs σ D x H' (Pv D (i + 1)))
    (hd : ∀ D H', Pv D xs.length H' → Q (.ref D) H') : tLc (iList K tl) g tt te vs σ H Q :=
  he _ ⟨a, rfl, ⟨xs, hq⟩, fun D hD => lc_list (xs := xs) (Pv D) (h0 D hD) (hl D) (hs D) (hd D)⟩
/-- over range(n); the heap may have changed before -/
theorem lc_R {H1 : Hp} {n : Nat} (he : ∀ R : List V → Hp → Prop, R [.int (n : Int)] H1 → ta σ H R) (hn : (n : Int) < 2 ^ 62) (Pv : Addr → Nat → Hp → Prop) (h0 : ∀ D, H1 D = none → Pv D 0 (upd H1 D (.lst [])))
    (hs : ∀ D i H', i < n → Pv D i H' → LcTurn g tt te vs σ D (.int (0 + (i : Nat))) H' (Pv D (i + 1)))
    (hd : ∀ D H', Pv D n H' → Q (.ref D) H') : tLc (iRng1 ta) g tt te vs σ H Q :=
  he _ ⟨n, rfl, by omega, hn, fun D hD => by
    have h := lc_range (lo := 0) (n := n) (tt := tt) (te := te) (g := g) (vs := vs) (σ := σ) (D := D) (H1 := H1) (Qd := fun H' => Q (.ref D) H') (Pv D) (h0 D hD) (hs D) (hd D)
    simpa using h⟩
theorem lc_R2 {n : Nat} {lo : Int} (he : ∀ R : List V → Hp → Prop, R [.int lo, .int (lo + n)] H → ta σ H R) (h1 : -(2 ^ 62) ≤ lo) (h2 : lo + n < 2 ^ 62) (Pv : Addr → Nat → Hp → Prop) (h0 : ∀ D, H D = none → Pv D 0 (upd H D (.lst [])))
    (hs : ∀ D i H', i < n → Pv D i H' → LcTurn g tt te vs σ D (.int (lo + (i : Nat))) H' (Pv D (i + 1)))
    (hd : ∀ D H', Pv D n H' → Q (.ref D) H') : tLc (iRng2 ta) g tt te vs σ H Q :=
  he _ ⟨lo, lo + n, rfl, ⟨h1, by omega, by omega, h2⟩, fun D hD => by
    have e : (lo + (n : Int) - lo).toNat = n := by omega
    rw [e]
    exact lc_range (lo := lo) (n := n) (Qd := fun H' => Q (.ref D) H') (Pv D) (h0 D hD) (hs D) (hd D)⟩
end

/-- a comprehension behind its source -/
def LcGo (J : It) (g : TG) (tt : TT) (te : TE) (vs : List Nat) (σ : St) (H1 : Hp) (Q : VK) : Prop := ∀ D, H1 D = none → ∃ W : Nat → Nat → Hp → Prop, (∃ m, W 0 m (upd H1 D (.lst []))) ∧ ∀ i m H, W i m H →
  (J.stop i H ∧ Q (.ref D) H) ∨ (J.go i H ∧ ∃ Nx : Hp → Prop, (∀ H', Nx H' → ∃ m', m' < m ∧ W (i + 1) m' H') ∧ ∀ x H', J.yld i H x H' → g x (wipe σ vs) H' fun σ2 H2 => wipe σ2 vs = wipe σ vs ∧ tt σ2 H2 fun b H3 =>
    if b = true then te σ2 H3 fun y H4 => ∃ acc, H4 D = some (.lst acc) ∧ acc.length < sizeLine ∧ Nx (upd H4 D (.lst (acc ++ [y]))) else Nx H3)
theorem tLc_go {wi : TI} {g : TG} {tt : TT} {te : TE} {vs : List Nat} : tLc wi g tt te vs = fun σ H Q => wi σ H fun J H1 => LcGo J g tt te vs σ H1 Q := rfl
section
variable {K : PySem.W.Frag} {g : TG} {tt : TT} {te : TE} {vs : List Nat} {σ : St} {H : Hp} {Q : VK}
theorem go_rng {lo : Int} {n : Nat} (Pv : Addr → Nat → Hp → Prop) (h0 : ∀ D, H D = none → Pv D 0 (upd H D (.lst [])))
    (hs : ∀ D i H', i < n → Pv D i H' → LcTurn g tt te vs σ D (.int (lo + (i : Nat))) H' (Pv D (i + 1)))
    (hd : ∀ D H', Pv D n H' → Q (.ref D) H') : LcGo (Itr lo n) g tt te vs σ H Q := fun D hD => lc_range (lo := lo) (n := n) (Qd := fun H' => Q (.ref D) H') (Pv D) (h0 D hD) (hs D) (hd D)
theorem go_list {a : Addr} {xs : List V} (Pv : Addr → Nat → Hp → Prop) (h0 : ∀ D, H D = none → Pv D 0 (upd H D (.lst [])))
    (hl : ∀ D i H', i ≤ xs.length → Pv D i H' → SqL K H' a xs) (hs : ∀ D i x H', xs[i]? = some x → Pv D i H' → LcTurn g tt te vs σ D x H' (Pv D (i + 1)))
    (hd : ∀ D H', Pv D xs.length H' → Q (.ref D) H') : LcGo (Itl K a) g tt te vs σ H Q := fun D hD => lc_list (xs := xs) (Qd := fun H' => Q (.ref D) H') (Pv D) (h0 D hD) (hl D) (hs D) (hd D)
theorem go_tup {a : Addr} {xs : List V} (Pv : Addr → Nat → Hp → Prop) (h0 : ∀ D, H D = none → Pv D 0 (upd H D (.lst [])))
    (hl : ∀ D i H', i ≤ xs.length → Pv D i H' → SqT K H' a xs) (hs : ∀ D i x H', xs[i]? = some x → Pv D i H' → LcTurn g tt te vs σ D x H' (Pv D (i + 1)))
    (hd : ∀ D H', Pv D xs.length H' → Q (.ref D) H') : LcGo (Itt K a) g tt te vs σ H Q := fun D hD => lc_tup (xs := xs) (Qd := fun H' => Q (.ref D) H') (Pv D) (h0 D hD) (hl D) (hs D) (hd D)
end

/-! ### rooms -/
theorem u64 {k : Nat} {A : Around} (r : Room k A) : A.units + 64 < cLine := r.units
end RA

namespace RA.K33
open PySem PySem.Spec L2 RA
open PyProof.Rows hiding St
def top (i : Nat) : Stmt := PySem.Challenge.pw_readaround_k33_whole_multiples_that_fit.main.body.getD i (.Pass ⟨0, 0, 0, 0⟩)
structure Txt (K : PySem.W.Frag) (mg : Str → Option Value) : Prop where
  b_int : mg "int" = none
  b_isinstance : mg "isinstance" = none
  b_bool : mg "bool" = none
  b_tuple : mg "tuple" = none
  b_len : mg "len" = none
  b_enumerate : mg "enumerate" = none
  b_range : mg "range" = none
  b_all : mg "all" = none
  b_abs : mg "abs" = none
  b_max : mg "max" = none
  b_repr : mg "repr" = none
  b_min : mg "min" = none
  c_LEAST_BASE : ∃ t, mg "LEAST_BASE" = some (.int 2 t)
  c_MOST_BASE : ∃ t, mg "MOST_BASE" = some (.int 10 t)
  c_MOST_TOLD : ∃ t, mg "MOST_TOLD" = some (.int 20 t)
  c_MOST_NUMBER : ∃ t, mg "MOST_NUMBER" = some (.int 1000000000000000000000000000000000000000000000000000000000000 t)
  c_MOST_TIMES : ∃ t, mg "MOST_TIMES" = some (.int 20 t)
/-! ### what the defs promise -/
def ofNats (l : List Nat) : List V := l.map fun d => V.int (d : Nat)
/-- the figures of a number, the last one first -/
def digs (b n : Nat) : List Nat := if h : 2 ≤ b ∧ b ≤ n then n % b :: digs b (n / b) else [n % b]
termination_by n
decreasing_by exact Nat.div_lt_self (by omega) (by omega)
def undig (b : Nat) (l : List Nat) : Nat := l.foldl (fun a d => a * b + d) 0
def back (b n : Nat) : Nat := undig b (digs b n)
def NotInt (K : PySem.W.Frag) (H : Hp) (v : V) : Prop := ∃ t, TyX K H v t ∧ PySem.W.kitOne K t (.type "int") = some false
/-- an int, a truth, or something else -/
inductive Kd (K : PySem.W.Frag) (H : Hp) : V → Prop
  | int (i : Int) : Kd K H (.int i)
  | bl (b : Bool) : Kd K H (.bl b)
  | not {v : V} (h : NotInt K H v) (h1 : ∀ i, v ≠ .int i) (h2 : ∀ b, v ≠ .bl b) : Kd K H v
def isI : V → Bool
  | .int _ => true
  | _ => false
def btw (lo : Int) (hi : Option Int) : V → Bool
  | .int i => decide (lo ≤ i) && (match hi with | none => true | some h => decide (i ≤ h))
  | _ => false
def optI : Option Int → V
  | none => .non
  | some i => .int i
def sp_is_integer (K : PySem.W.Frag) : Sp := fun vs H Q _ => ∃ v, vs = [v] ∧ Kd K H v ∧ Q (.bl (isI v)) H
def sp_is_between (K : PySem.W.Frag) : Sp := fun vs H Q _ => ∃ v lo hi, vs = [v, .int lo, optI hi] ∧ Kd K H v ∧ Q (.bl (btw lo hi v)) H
def sp_check_between (K : PySem.W.Frag) : Sp := fun vs H Q _ => ∃ i lo hi, vs = [.int i, .int lo, .int hi] ∧ lo ≤ i ∧ i ≤ hi ∧ Q .non H
def sp_check_base (K : PySem.W.Frag) : Sp := fun vs H Q _ => ∃ i, vs = [.int i] ∧ 2 ≤ i ∧ i ≤ 10 ∧ Q .non H
def sp_figures_of (K : PySem.W.Frag) : Sp := fun vs H Q _ => ∃ n b : Nat, vs = [.int n, .int b] ∧ 2 ≤ b ∧ b ≤ 10 ∧ n < 2 ^ 1000 ∧
  ∀ H' p, Same H H' → H p = none → H' p = some (.lst (ofNats (digs b n).reverse)) → Q (.ref p) H'
def sp_number_of (K : PySem.W.Frag) : Sp := fun vs H Q _ => ∃ (p : Addr) (ds : List Nat) (b : Nat), vs = [.ref p, .int b] ∧ SqL K H p (ofNats ds) ∧ b ≤ 10 ∧ Q (.int (undig b ds)) H
def numsOk (ns : List Nat) : Prop := 1 ≤ ns.length ∧ ns.length ≤ 20 ∧ ∀ n ∈ ns, 1 ≤ n ∧ n < 10 ^ 60
def sp_check_numbers (K : PySem.W.Frag) : Sp := fun vs H Q _ => ∃ (p : Addr) (ns : List Nat), vs = [.ref p] ∧ H p = some (.tup (ofNats ns)) ∧ numsOk ns ∧ ∀ H', Same H H' → Q .non H'
/-- all pairs that fit -/
def fits (b : Nat) (ns : List Nat) (a e : Nat) : Bool := ns.all fun n => a * n == e * back b n
def mults (b : Nat) (ns : List Nat) (most : Nat) : List (Nat × Nat) := (List.range most).flatMap fun a => (List.range most).filterMap fun e => if fits b ns (a + 1) (e + 1) then some (a + 1, e + 1) else none
def dPairs (l : List (Nat × Nat)) : PyData := .tuple (l.map fun p => .tuple [.int p.1, .int p.2])
def sp_multiples (K : PySem.W.Frag) : Sp := fun vs H Q _ => ∃ (p : Addr) (b most : Nat) (ns : List Nat), vs = [.int b, .ref p, .int most] ∧ 2 ≤ b ∧ b ≤ 10 ∧ H p = some (.tup (ofNats ns)) ∧ numsOk ns ∧ 1 ≤ most ∧ most ≤ 20 ∧
  ∀ H' v, Same H H' → Dp K H' v (dPairs (mults b ns most)) → Q v H'
/-! the law's own -/
def PoolAt (H : Hp) (p : Addr) : Prop := ∃ d s n : Int, H p = some (.lst [.int d, .int s, .int n])
/-- all but the object at p is as it was, and there stands a pool -/
def Drawn (p : Addr) (H H' : Hp) : Prop := (∀ b o, b ≠ p → H b = some o → H' b = some o) ∧ PoolAt H' p
def sp__law_fresh (K : PySem.W.Frag) : Sp := fun vs H Q _ => ∃ (a : Addr) (ns : List Int) (k : Nat), vs = [.ref a, .int k] ∧ SqL K H a (ns.map V.int) ∧ ns.length ≤ 63 ∧ k < 63 ∧
  ∀ H' p, Same H H' → H p = none → PoolAt H' p → Q (.ref p) H'
def sp__law_draw (K : PySem.W.Frag) : Sp := fun vs H Q _ => ∃ (p : Addr) (w : Nat), vs = [.ref p, .int w] ∧ PoolAt H p ∧ 0 < w ∧ w < 1000000 ∧ ∀ (r : Nat) H', r < w → (∃ d s n : Int, H' = upd H p (.lst [.int d, .int s, .int n])) → Q (.int r) H'
def sp__law_one (K : PySem.W.Frag) : Sp := fun vs H Q _ => ∃ (p a : Addr) (xs : List V), vs = [.ref p, .ref a] ∧ PoolAt H p ∧ H a = some (.lst xs) ∧ a ≠ p ∧ 0 < xs.length ∧ xs.length < 1000000 ∧
  ∀ (r : Nat) v H', xs[r]? = some v → (∃ d s n : Int, H' = upd H p (.lst [.int d, .int s, .int n])) → Q v H'
def sp__law_digits (K : PySem.W.Frag) : Sp := fun vs H Q _ => ∃ n b : Nat, vs = [.int n, .int b] ∧ 2 ≤ b ∧ b ≤ 10 ∧ n < 2 ^ 205 ∧
  ∀ H' p, Same H H' → H p = none → H' p = some (.lst (ofNats (digs b n).reverse)) → Q (.ref p) H'
def sp__law_joined (K : PySem.W.Frag) : Sp := fun vs H Q _ => ∃ (p : Addr) (ds : List Nat) (b : Nat), vs = [.ref p, .int b] ∧ SqL K H p (ofNats ds) ∧ b ≤ 10 ∧ Q (.int (undig b ds)) H
def sp__law_back (K : PySem.W.Frag) : Sp := fun vs H Q _ => ∃ n b : Nat, vs = [.int n, .int b] ∧ 2 ≤ b ∧ b ≤ 10 ∧ n < 2 ^ 205 ∧ ∀ H', Same H H' → Q (.int (back b n)) H'
def sp__law_shared (K : PySem.W.Frag) : Sp := fun vs H Q _ => ∃ n m : Nat, vs = [.int n, .int m] ∧ n < 2 ^ 200 ∧ m < 2 ^ 199 ∧ Q (.int (Nat.gcd n m)) H
def rowOk (b : Nat) (ds : List Nat) (k : Nat) : Prop := ds.length ≤ k ∧ ∀ d ∈ ds, d < b
def sp__law_figures (K : PySem.W.Frag) : Sp := fun vs H Q _ => ∃ (p : Addr) (b : Nat), vs = [.ref p, .int b] ∧ PoolAt H p ∧ 2 ≤ b ∧ b ≤ 10 ∧
  ∀ (ds : List Nat) H' a, rowOk b ds 40 → Drawn p H H' → H a = none → H' a = some (.lst (ofNats ds)) → Q (.ref a) H'
def sp__law_number (K : PySem.W.Frag) : Sp := fun vs H Q _ => ∃ (p a : Addr) (b : Nat) (rs : List Addr), vs = [.ref p, .int b, .ref a] ∧ PoolAt H p ∧ 2 ≤ b ∧ b ≤ 10 ∧ a ≠ p ∧ H a = some (.lst (rs.map V.ref)) ∧ 0 < rs.length ∧ rs.length ≤ 2 ∧
  (∀ r ∈ rs, r ≠ p ∧ ∃ ds, rowOk b ds 40 ∧ H r = some (.lst (ofNats ds))) ∧
  ∀ (n : Nat) H', 1 ≤ n → n < 10 ^ 57 → Drawn p H H' → Q (.int n) H'
def pairOf (b n : Nat) : Nat × Nat := (back b n / Nat.gcd n (back b n), n / Nat.gcd n (back b n))
def sp__law_pair (K : PySem.W.Frag) : Sp := fun vs H Q _ => ∃ n b : Nat, vs = [.int n, .int b] ∧ 2 ≤ b ∧ b ≤ 10 ∧ 1 ≤ n ∧ n < 10 ^ 57 ∧
  ∀ H' p, Same H H' → H' p = some (.tup [.int (pairOf b n).1, .int (pairOf b n).2]) → Q (.ref p) H'
def sp__law_right (K : PySem.W.Frag) : Sp := fun vs H Q _ => ∃ p, vs = [.ref p] ∧ PoolAt H p ∧ ∀ H', (∀ b o, b ≠ p → H b = some o → H' b = some o) → Q (.bl true) H'
def sp_law (K : PySem.W.Frag) : Sp := fun vs H Q _ => ∃ (a : Addr) (ns : List Int), vs = [.ref a] ∧ SqL K H a (ns.map V.int) ∧ ns.length ≤ 63 ∧ ∀ H', Q (.bl true) H'
abbrev s_is_integer : Stmt := top 10
def N_is_integer : List Str := ["value"]
theorem sc_is_integer : FnScope ["value"] ["value"] (defScope s_is_integer) := ⟨rfl, rfl, rfl, by decide +kernel, rfl, by decide +kernel, by decide +kernel⟩
theorem bt_is_integer : BindTxt "is_integer" s_is_integer ["value"] := fun _ _ _ _ _ _ us hl => match us, hl with | [_], _ => rfl
def t_is_integer_s1 (K : PySem.W.Frag) : TS := (tRet (tAndV (tCB (rIsi K) (tCons (tVar 0) (tCons (tC (.ty "int")) tNil))) (tNotV (tCB (rIsi K) (tCons (tVar 0) (tCons (tC (.ty "bool")) tNil))))))
def t_is_integer (K : PySem.W.Frag) : TS := (t_is_integer_s1 K)

abbrev s_is_between : Stmt := top 11
def N_is_between : List Str := ["value", "least", "most"]
theorem sc_is_between : FnScope ["value", "least", "most"] ["value", "least", "most"] (defScope s_is_between) := ⟨rfl, rfl, rfl, by decide +kernel, rfl, by decide +kernel, by decide +kernel⟩
theorem bt_is_between : BindTxt "is_between" s_is_between ["value", "least", "most"] := fun _ _ _ _ _ _ us hl => match us, hl with | [_, _, _], _ => rfl
def t_is_between_s1 (K : PySem.W.Frag) : TS := (tRet (tAndV (tCall (sp_is_integer K) [] E0 (tCons (tVar 0) tNil)) (tAndV (tOp qLe (tVar 1) (tVar 0)) (tOrV (tOp qIsN (tVar 2) (tC .non)) (tOp qLe (tVar 0) (tVar 2))))))
def t_is_between (K : PySem.W.Frag) : TS := (t_is_between_s1 K)

abbrev s_check_between : Stmt := top 12
def N_check_between : List Str := ["value", "least", "most"]
theorem sc_check_between : FnScope ["value", "least", "most"] ["value", "least", "most"] (defScope s_check_between) := ⟨rfl, rfl, rfl, by decide +kernel, rfl, by decide +kernel, by decide +kernel⟩
theorem bt_check_between : BindTxt "check_between" s_check_between ["value", "least", "most"] := fun _ _ _ _ _ _ us hl => match us, hl with | [_, _, _], _ => rfl
def t_check_between_s1 (K : PySem.W.Frag) : TS := (tIfS (tNot (tB (tCall (sp_is_between K) [] E0 (tCons (tVar 0) (tCons (tVar 1) (tCons (tVar 2) tNil)))))) tNever tNext)
def t_check_between (K : PySem.W.Frag) : TS := (t_check_between_s1 K)

abbrev s_check_base : Stmt := top 13
def N_check_base : List Str := ["base"]
theorem sc_check_base : FnScope ["base"] ["base"] (defScope s_check_base) := ⟨rfl, rfl, rfl, by decide +kernel, rfl, by decide +kernel, by decide +kernel⟩
theorem bt_check_base : BindTxt "check_base" s_check_base ["base"] := fun _ _ _ _ _ _ us hl => match us, hl with | [_], _ => rfl
def t_check_base_s1 (K : PySem.W.Frag) : TS := (tDrop (tCall (sp_check_between K) [] E0 (tCons (tVar 0) (tCons (tC (.int 2)) (tCons (tC (.int 10)) tNil)))))
def t_check_base (K : PySem.W.Frag) : TS := (t_check_base_s1 K)

abbrev s_figures_of : Stmt := top 14
def N_figures_of : List Str := ["number", "base", "found"]
theorem sc_figures_of : FnScope ["number", "base", "found"] ["number", "base"] (defScope s_figures_of) := ⟨rfl, rfl, rfl, by decide +kernel, rfl, by decide +kernel, by decide +kernel⟩
theorem bt_figures_of : BindTxt "figures_of" s_figures_of ["number", "base"] := fun _ _ _ _ _ _ us hl => match us, hl with | [_, _], _ => rfl
def t_figures_of_s1 (K : PySem.W.Frag) : TS := (tAsg (tLst (tCons (tOp qMod (tVar 0) (tVar 1)) tNil)) (gName 2))
def t_figures_of_w2 (K : PySem.W.Frag) : TT := (tTest (tOp qGe (tVar 0) (tVar 1)))
def t_figures_of_s3 (K : PySem.W.Frag) : TS := (tAsg (tOp qDiv (tVar 0) (tVar 1)) (gName 0))
def t_figures_of_s4 (K : PySem.W.Frag) : TS := (tDrop (tBM K "list" rAppend (tVar 2) (tCons (tOp qMod (tVar 0) (tVar 1)) tNil)))
def t_figures_of_b5 (K : PySem.W.Frag) : TS := (tSeq (t_figures_of_s3 K) (t_figures_of_s4 K))
def t_figures_of_s6 (K : PySem.W.Frag) : TS := (tWhile (t_figures_of_w2 K) (t_figures_of_b5 K))
def t_figures_of_s7 (K : PySem.W.Frag) : TS := (tRet (tRevL K (tVar 2)))
def t_figures_of (K : PySem.W.Frag) : TS := (tSeq (t_figures_of_s1 K) (tSeq (t_figures_of_s6 K) (t_figures_of_s7 K)))

abbrev s_number_of : Stmt := top 15
def N_number_of : List Str := ["figures", "base", "found", "figure"]
theorem sc_number_of : FnScope ["figures", "base", "found", "figure"] ["figures", "base"] (defScope s_number_of) := ⟨rfl, rfl, rfl, by decide +kernel, rfl, by decide +kernel, by decide +kernel⟩
theorem bt_number_of : BindTxt "number_of" s_number_of ["figures", "base"] := fun _ _ _ _ _ _ us hl => match us, hl with | [_, _], _ => rfl
def t_number_of_s1 (K : PySem.W.Frag) : TS := (tAsg (tC (.int 0)) (gName 2))
def t_number_of_s2 (K : PySem.W.Frag) : TS := (tAsg (tOp qAdd (tOp qMul (tVar 2) (tVar 1)) (tVar 3)) (gName 2))
def t_number_of_b3 (K : PySem.W.Frag) : TS := (t_number_of_s2 K)
def t_number_of_s4 (K : PySem.W.Frag) : TS := (tFor (iList K (tVar 0)) (gName 3) (t_number_of_b3 K))
def t_number_of_s5 (K : PySem.W.Frag) : TS := (tRet (tVar 2))
def t_number_of (K : PySem.W.Frag) : TS := (tSeq (t_number_of_s1 K) (tSeq (t_number_of_s4 K) (t_number_of_s5 K)))

abbrev s_check_numbers : Stmt := top 17
def N_check_numbers : List Str := ["numbers", "index", "number"]
theorem sc_check_numbers : FnScope ["numbers", "index", "number"] ["numbers"] (defScope s_check_numbers) := ⟨rfl, rfl, rfl, by decide +kernel, rfl, by decide +kernel, by decide +kernel⟩
theorem bt_check_numbers : BindTxt "check_numbers" s_check_numbers ["numbers"] := fun _ _ _ _ _ _ us hl => match us, hl with | [_], _ => rfl
def t_check_numbers_s1 (K : PySem.W.Frag) : TS := (tIfS (tOr (tNot (tB (tCB (rIsi K) (tCons (tVar 0) (tCons (tC (.ty "tuple")) tNil))))) (tNot (tTest (tChain qLe qLe (tC (.int 1)) (tCB qLenQ (tCons (tVar 0) tNil)) (tC (.int 20)))))) tNever tNext)
def t_check_numbers_s2 (K : PySem.W.Frag) : TS := (tIfS (tNot (tB (tCall (sp_is_between K) [] E0 (tCons (tVar 2) (tCons (tC (.int 1)) (tCons (tOp qSub (tC (.int 1000000000000000000000000000000000000000000000000000000000000)) (tC (.int 1))) tNil)))))) tNever tNext)
def t_check_numbers_b3 (K : PySem.W.Frag) : TS := (t_check_numbers_s2 K)
def t_check_numbers_s4 (K : PySem.W.Frag) : TS := (tFor (iEnumT K (tCons (tVar 0) tNil)) (gTup K 2 (gCons (gName 1) (gCons (gName 2) gNil))) (t_check_numbers_b3 K))
def t_check_numbers (K : PySem.W.Frag) : TS := (tSeq (t_check_numbers_s1 K) (t_check_numbers_s4 K))

abbrev s_multiples : Stmt := top 18
def N_multiples : List Str := ["base", "numbers", "most", "pairs", "found", "a", "e", "number", "back"]
theorem sc_multiples : FnScope ["base", "numbers", "most", "pairs", "found", "a", "e", "number", "back"] ["base", "numbers", "most"] (defScope s_multiples) := ⟨rfl, rfl, rfl, by decide +kernel, rfl, by decide +kernel, by decide +kernel⟩
theorem bt_multiples : BindTxt "multiples" s_multiples ["base", "numbers", "most"] := fun _ _ _ _ _ _ us hl => match us, hl with | [_, _, _], _ => rfl
def t_multiples_s1 (K : PySem.W.Frag) : TS := (tDrop (tCall (sp_check_base K) [] E0 (tCons (tVar 0) tNil)))
def t_multiples_s2 (K : PySem.W.Frag) : TS := (tDrop (tCall (sp_check_numbers K) [] E0 (tCons (tVar 1) tNil)))
def t_multiples_s3 (K : PySem.W.Frag) : TS := (tDrop (tCall (sp_check_between K) [] E0 (tCons (tVar 2) (tCons (tC (.int 1)) (tCons (tC (.int 20)) tNil)))))
def t_multiples_e4 (K : PySem.W.Frag) : TE := (tTup (tCons (tVar 7) (tCons (tCall (sp_number_of K) [] E0 (tCons (tRevL K (tCall (sp_figures_of K) [] E0 (tCons (tVar 7) (tCons (tVar 0) tNil)))) (tCons (tVar 0) tNil))) tNil)))
def t_multiples_s5 (K : PySem.W.Frag) : TS := (tAsg (tLc (iTup K (tVar 1)) (gName 7) tYes (t_multiples_e4 K) [7]) (gName 3))
def t_multiples_s6 (K : PySem.W.Frag) : TS := (tAsg (tLst tNil) (gName 4))
def t_multiples_e7 (K : PySem.W.Frag) : TE := (tOp rEq (tOp qMulW (tVar 5) (tVar 7)) (tOp qMulW (tVar 6) (tVar 8)))
def t_multiples_s8 (K : PySem.W.Frag) : TS := (tDrop (tBM K "list" rAppend (tVar 4) (tCons (tTup (tCons (tVar 5) (tCons (tVar 6) tNil))) tNil)))
def t_multiples_b9 (K : PySem.W.Frag) : TS := (t_multiples_s8 K)
def t_multiples_s10 (K : PySem.W.Frag) : TS := (tIfS (tB (tCB (rAll K) (tCons (tLc (iList K (tVar 3)) (gTup K 2 (gCons (gName 7) (gCons (gName 8) gNil))) tYes (t_multiples_e7 K) [7, 8]) tNil))) (t_multiples_b9 K) tNext)
def t_multiples_b11 (K : PySem.W.Frag) : TS := (t_multiples_s10 K)
def t_multiples_s12 (K : PySem.W.Frag) : TS := (tFor (iRng2 (tCons (tC (.int 1)) (tCons (tOp qAdd (tVar 2) (tC (.int 1))) tNil))) (gName 6) (t_multiples_b11 K))
def t_multiples_b13 (K : PySem.W.Frag) : TS := (t_multiples_s12 K)
def t_multiples_s14 (K : PySem.W.Frag) : TS := (tFor (iRng2 (tCons (tC (.int 1)) (tCons (tOp qAdd (tVar 2) (tC (.int 1))) tNil))) (gName 5) (t_multiples_b13 K))
def t_multiples_s15 (K : PySem.W.Frag) : TS := (tRet (tCB (qTuple K) (tCons (tVar 4) tNil)))
def t_multiples (K : PySem.W.Frag) : TS := (tSeq (t_multiples_s1 K) (tSeq (t_multiples_s2 K) (tSeq (t_multiples_s3 K) (tSeq (t_multiples_s5 K) (tSeq (t_multiples_s6 K) (tSeq (t_multiples_s14 K) (t_multiples_s15 K)))))))

abbrev s__law_fresh : Stmt := top 20
def N__law_fresh : List Str := ["_law_script", "_law_k", "_law_cell", "_law_seed", "_law_each", "_law_digits_here"]
theorem sc__law_fresh : FnScope ["_law_script", "_law_k", "_law_cell", "_law_seed", "_law_each", "_law_digits_here"] ["_law_script", "_law_k"] (defScope s__law_fresh) := ⟨rfl, rfl, rfl, by decide +kernel, rfl, by decide +kernel, by decide +kernel⟩
theorem bt__law_fresh : BindTxt "_law_fresh" s__law_fresh ["_law_script", "_law_k"] := fun _ _ _ _ _ _ us hl => match us, hl with | [_, _], _ => rfl
def t__law_fresh_s1 (K : PySem.W.Frag) : TS := (tPar 2 3 (tCons (tIf (tTest (tOp qLt (tVar 1) (tCB (qLen K) (tCons (tVar 0) tNil)))) (tCB qInt (tCons (tOp (rIxL K) (tVar 0) (tVar 1)) tNil)) (tC (.int 0))) (tCons (tOp qMul (tC (.int 40009)) (tOp qAdd (tVar 1) (tC (.int 3)))) tNil)))
def t__law_fresh_s2 (K : PySem.W.Frag) : TS := (tAsg (tOp qMod (tCB qInt (tCons (tOp qAdd (tOp qAdd (tOp qMul (tVar 3) (tC (.int 27011))) (tOp qMod (tCB qInt (tCons (tVar 4) tNil)) (tC (.int 999961)))) (tOp qMul (tC (.int 23)) (tVar 1))) tNil)) (tC (.int 2147483563))) (gName 3))
def t__law_fresh_b3 (K : PySem.W.Frag) : TS := (t__law_fresh_s2 K)
def t__law_fresh_s4 (K : PySem.W.Frag) : TS := (tFor (iList K (tSl (rSlL K) (tVar 0) tNoPart (tPart (tC (.int 9))))) (gName 4) (t__law_fresh_b3 K))
def t__law_fresh_s5 (K : PySem.W.Frag) : TS := (tAsg (tIf (tOr (tTest (tOp qLt (tVar 2) (tC (.int 0)))) (tTest (tOp qGe (tVar 2) (tOp qPow (tC (.int 10)) (tC (.int 16)))))) (tCB qAbs (tCons (tVar 2) tNil)) (tC (.int 0))) (gName 5))
def t__law_fresh_s6 (K : PySem.W.Frag) : TS := (tRet (tLst (tCons (tVar 5) (tCons (tOp qMod (tCB qInt (tCons (tOp qAdd (tVar 3) (tOp qMul (tC (.int 70001)) (tOp qMod (tCB qInt (tCons (tVar 2) tNil)) (tC (.int 999983))))) tNil)) (tC (.int 2147483563))) (tCons (tC (.int 0)) tNil)))))
def t__law_fresh (K : PySem.W.Frag) : TS := (tSeq (t__law_fresh_s1 K) (tSeq (t__law_fresh_s4 K) (tSeq (t__law_fresh_s5 K) (t__law_fresh_s6 K))))

abbrev s__law_draw : Stmt := top 21
def N__law_draw : List Str := ["_law_pool", "_law_wide", "_law_digit", "_law_held", "_law_times"]
theorem sc__law_draw : FnScope ["_law_pool", "_law_wide", "_law_digit", "_law_held", "_law_times"] ["_law_pool", "_law_wide"] (defScope s__law_draw) := ⟨rfl, rfl, rfl, by decide +kernel, rfl, by decide +kernel, by decide +kernel⟩
theorem bt__law_draw : BindTxt "_law_draw" s__law_draw ["_law_pool", "_law_wide"] := fun _ _ _ _ _ _ us hl => match us, hl with | [_, _], _ => rfl
def t__law_draw_s1 (K : PySem.W.Frag) : TS := (tAsg (tOp qAdd (tOp qIxL (tVar 0) (tC (.int 2))) (tC (.int 1))) (gSub (tVar 0) (tC (.int 2)) qSetL))
def t__law_draw_s2 (K : PySem.W.Frag) : TS := (tAsg (tOp qMod (tCB qInt (tCons (tOp qIxL (tVar 0) (tC (.int 0))) tNil)) (tVar 1)) (gName 2))
def t__law_draw_s3 (K : PySem.W.Frag) : TS := (tAsg (tOp qDiv (tOp qIxL (tVar 0) (tC (.int 0))) (tVar 1)) (gSub (tVar 0) (tC (.int 0)) qSetL))
def t__law_draw_s4 (K : PySem.W.Frag) : TS := (tRet (tVar 2))
def t__law_draw_b5 (K : PySem.W.Frag) : TS := (tSeq (t__law_draw_s2 K) (tSeq (t__law_draw_s3 K) (t__law_draw_s4 K)))
def t__law_draw_s6 (K : PySem.W.Frag) : TS := (tIfS (tTest (tOp qGt (tOp qIxL (tVar 0) (tC (.int 0))) (tC (.int 0)))) (t__law_draw_b5 K) tNext)
def t__law_draw_s7 (K : PySem.W.Frag) : TS := (tAsg (tOp qAdd (tCB qInt (tCons (tOp qIxL (tVar 0) (tC (.int 1))) tNil)) (tOp qMul (tC (.int 52009)) (tOp qIxL (tVar 0) (tC (.int 2))))) (gName 3))
def t__law_draw_s8 (K : PySem.W.Frag) : TS := (tAsg (tOp qAdd (tOp qMod (tCB qInt (tCons (tVar 3) tNil)) (tC (.int 43013))) (tC (.int 39019))) (gName 4))
def t__law_draw_s9 (K : PySem.W.Frag) : TS := (tAsg (tOp qMod (tCB qInt (tCons (tOp qAdd (tOp qAdd (tOp qMul (tVar 3) (tVar 4)) (tOp qMul (tC (.int 13)) (tOp qIxL (tVar 0) (tC (.int 2))))) (tC (.int 29))) tNil)) (tC (.int 2147483563))) (gSub (tVar 0) (tC (.int 1)) qSetL))
def t__law_draw_s10 (K : PySem.W.Frag) : TS := (tRet (tOp qMod (tOp qDiv (tCB qInt (tCons (tOp qIxL (tVar 0) (tC (.int 1))) tNil)) (tC (.int 421))) (tVar 1)))
def t__law_draw (K : PySem.W.Frag) : TS := (tSeq (t__law_draw_s1 K) (tSeq (t__law_draw_s6 K) (tSeq (t__law_draw_s7 K) (tSeq (t__law_draw_s8 K) (tSeq (t__law_draw_s9 K) (t__law_draw_s10 K))))))

abbrev s__law_one : Stmt := top 22
def N__law_one : List Str := ["_law_pool", "_law_some"]
theorem sc__law_one : FnScope ["_law_pool", "_law_some"] ["_law_pool", "_law_some"] (defScope s__law_one) := ⟨rfl, rfl, rfl, by decide +kernel, rfl, by decide +kernel, by decide +kernel⟩
theorem bt__law_one : BindTxt "_law_one" s__law_one ["_law_pool", "_law_some"] := fun _ _ _ _ _ _ us hl => match us, hl with | [_, _], _ => rfl
def t__law_one_s1 (K : PySem.W.Frag) : TS := (tRet (tOp qIxL (tVar 1) (tCall (sp__law_draw K) [] E0 (tCons (tVar 0) (tCons (tCB qLenQ (tCons (tVar 1) tNil)) tNil)))))
def t__law_one (K : PySem.W.Frag) : TS := (t__law_one_s1 K)

abbrev s__law_digits : Stmt := top 23
def N__law_digits : List Str := ["_law_whole", "_law_b", "_law_found", "_law_rest", "_law_k"]
theorem sc__law_digits : FnScope ["_law_whole", "_law_b", "_law_found", "_law_rest", "_law_k"] ["_law_whole", "_law_b"] (defScope s__law_digits) := ⟨rfl, rfl, rfl, by decide +kernel, rfl, by decide +kernel, by decide +kernel⟩
theorem bt__law_digits : BindTxt "_law_digits" s__law_digits ["_law_whole", "_law_b"] := fun _ _ _ _ _ _ us hl => match us, hl with | [_, _], _ => rfl
def t__law_digits_s1 (K : PySem.W.Frag) : TS := (tPar 2 3 (tCons (tLst tNil) (tCons (tCB qInt (tCons (tVar 0) tNil)) tNil)))
def t__law_digits_s2 (K : PySem.W.Frag) : TS := (tDrop (tBM K "list" rAppend (tVar 2) (tCons (tOp qMod (tCB qInt (tCons (tVar 3) tNil)) (tVar 1)) tNil)))
def t__law_digits_s3 (K : PySem.W.Frag) : TS := (tAsg (tOp qDiv (tVar 3) (tVar 1)) (gName 3))
def t__law_digits_s4 (K : PySem.W.Frag) : TS := tBreak
def t__law_digits_b5 (K : PySem.W.Frag) : TS := (t__law_digits_s4 K)
def t__law_digits_s6 (K : PySem.W.Frag) : TS := (tIfS (tTest (tOp rEq (tVar 3) (tC (.int 0)))) (t__law_digits_b5 K) tNext)
def t__law_digits_b7 (K : PySem.W.Frag) : TS := (tSeq (t__law_digits_s2 K) (tSeq (t__law_digits_s3 K) (t__law_digits_s6 K)))
def t__law_digits_s8 (K : PySem.W.Frag) : TS := (tFor (iRng1 (tCons (tC (.int 210)) tNil)) (gName 4) (t__law_digits_b7 K))
def t__law_digits_s9 (K : PySem.W.Frag) : TS := (tRet (tRevL K (tVar 2)))
def t__law_digits (K : PySem.W.Frag) : TS := (tSeq (t__law_digits_s1 K) (tSeq (t__law_digits_s8 K) (t__law_digits_s9 K)))

abbrev s__law_joined : Stmt := top 24
def N__law_joined : List Str := ["_law_row", "_law_b", "_law_found", "_law_each"]
theorem sc__law_joined : FnScope ["_law_row", "_law_b", "_law_found", "_law_each"] ["_law_row", "_law_b"] (defScope s__law_joined) := ⟨rfl, rfl, rfl, by decide +kernel, rfl, by decide +kernel, by decide +kernel⟩
theorem bt__law_joined : BindTxt "_law_joined" s__law_joined ["_law_row", "_law_b"] := fun _ _ _ _ _ _ us hl => match us, hl with | [_, _], _ => rfl
def t__law_joined_s1 (K : PySem.W.Frag) : TS := (tAsg (tC (.int 0)) (gName 2))
def t__law_joined_s2 (K : PySem.W.Frag) : TS := (tAsg (tOp qAdd (tOp qMul (tVar 2) (tVar 1)) (tVar 3)) (gName 2))
def t__law_joined_b3 (K : PySem.W.Frag) : TS := (t__law_joined_s2 K)
def t__law_joined_s4 (K : PySem.W.Frag) : TS := (tFor (iList K (tVar 0)) (gName 3) (t__law_joined_b3 K))
def t__law_joined_s5 (K : PySem.W.Frag) : TS := (tRet (tVar 2))
def t__law_joined (K : PySem.W.Frag) : TS := (tSeq (t__law_joined_s1 K) (tSeq (t__law_joined_s4 K) (t__law_joined_s5 K)))

abbrev s__law_back : Stmt := top 25
def N__law_back : List Str := ["_law_whole", "_law_b"]
theorem sc__law_back : FnScope ["_law_whole", "_law_b"] ["_law_whole", "_law_b"] (defScope s__law_back) := ⟨rfl, rfl, rfl, by decide +kernel, rfl, by decide +kernel, by decide +kernel⟩
theorem bt__law_back : BindTxt "_law_back" s__law_back ["_law_whole", "_law_b"] := fun _ _ _ _ _ _ us hl => match us, hl with | [_, _], _ => rfl
def t__law_back_s1 (K : PySem.W.Frag) : TS := (tRet (tCall (sp__law_joined K) [] E0 (tCons (tRevL K (tCall (sp__law_digits K) [] E0 (tCons (tVar 0) (tCons (tVar 1) tNil)))) (tCons (tVar 1) tNil))))
def t__law_back (K : PySem.W.Frag) : TS := (t__law_back_s1 K)

abbrev s__law_shared : Stmt := top 26
def N__law_shared : List Str := ["_law_left", "_law_right_here", "_law_turn"]
theorem sc__law_shared : FnScope ["_law_left", "_law_right_here", "_law_turn"] ["_law_left", "_law_right_here"] (defScope s__law_shared) := ⟨rfl, rfl, rfl, by decide +kernel, rfl, by decide +kernel, by decide +kernel⟩
theorem bt__law_shared : BindTxt "_law_shared" s__law_shared ["_law_left", "_law_right_here"] := fun _ _ _ _ _ _ us hl => match us, hl with | [_, _], _ => rfl
def t__law_shared_s1 (K : PySem.W.Frag) : TS := tBreak
def t__law_shared_b2 (K : PySem.W.Frag) : TS := (t__law_shared_s1 K)
def t__law_shared_s3 (K : PySem.W.Frag) : TS := (tIfS (tTest (tOp rEq (tVar 1) (tC (.int 0)))) (t__law_shared_b2 K) tNext)
def t__law_shared_s4 (K : PySem.W.Frag) : TS := (tPar 0 1 (tCons (tVar 1) (tCons (tOp qMod (tCB qInt (tCons (tVar 0) tNil)) (tVar 1)) tNil)))
def t__law_shared_b5 (K : PySem.W.Frag) : TS := (tSeq (t__law_shared_s3 K) (t__law_shared_s4 K))
def t__law_shared_s6 (K : PySem.W.Frag) : TS := (tFor (iRng1 (tCons (tC (.int 400)) tNil)) (gName 2) (t__law_shared_b5 K))
def t__law_shared_s7 (K : PySem.W.Frag) : TS := (tRet (tVar 0))
def t__law_shared (K : PySem.W.Frag) : TS := (tSeq (t__law_shared_s6 K) (t__law_shared_s7 K))

abbrev s__law_figures : Stmt := top 27
def N__law_figures : List Str := ["_law_pool", "_law_b", "_law_way", "_law_row", "_law_k"]
theorem sc__law_figures : FnScope ["_law_pool", "_law_b", "_law_way", "_law_row", "_law_k"] ["_law_pool", "_law_b"] (defScope s__law_figures) := ⟨rfl, rfl, rfl, by decide +kernel, rfl, by decide +kernel, by decide +kernel⟩
theorem bt__law_figures : BindTxt "_law_figures" s__law_figures ["_law_pool", "_law_b"] := fun _ _ _ _ _ _ us hl => match us, hl with | [_, _], _ => rfl
def t__law_figures_s1 (K : PySem.W.Frag) : TS := (tPar 2 3 (tCons (tCall (sp__law_draw K) [] E0 (tCons (tVar 0) (tCons (tC (.int 5)) tNil))) (tCons (tLst (tCons (tOp qAdd (tC (.int 1)) (tCall (sp__law_draw K) [] E0 (tCons (tVar 0) (tCons (tOp qSub (tVar 1) (tC (.int 1))) tNil)))) tNil)) tNil)))
def t__law_figures_s2 (K : PySem.W.Frag) : TS := (tDrop (tBM K "list" rAppend (tVar 3) (tCons (tCall (sp__law_draw K) [] E0 (tCons (tVar 0) (tCons (tVar 1) tNil))) tNil)))
def t__law_figures_b3 (K : PySem.W.Frag) : TS := (t__law_figures_s2 K)
def t__law_figures_s4 (K : PySem.W.Frag) : TS := (tFor (iRng1 (tCons (tCall (sp__law_draw K) [] E0 (tCons (tVar 0) (tCons (tCall (sp__law_one K) [] E0 (tCons (tVar 0) (tCons (tLst (tCons (tC (.int 2)) (tCons (tC (.int 5)) (tCons (tC (.int 20)) tNil)))) tNil))) tNil))) tNil)) (gName 4) (t__law_figures_b3 K))
def t__law_figures_s5 (K : PySem.W.Frag) : TS := (tRet (tIf (tTest (tOp qLt (tVar 2) (tC (.int 2)))) (tOp rCat (tVar 3) (tRevL K (tVar 3))) (tOp rCat (tSl (rSlL K) (tVar 3) tNoPart (tPart (tUn (rU fun i => .int (-i)) (tC (.int 1))))) (tRevL K (tVar 3)))))
def t__law_figures_b6 (K : PySem.W.Frag) : TS := (t__law_figures_s5 K)
def t__law_figures_s7 (K : PySem.W.Frag) : TS := (tIfS (tOr (tTest (tOp rEq (tVar 2) (tC (.int 0)))) (tAnd (tTest (tOp qLt (tVar 2) (tC (.int 3)))) (tTest (tOp rEq (tVar 1) (tC (.int 2)))))) (t__law_figures_b6 K) tNext)
def t__law_figures_s8 (K : PySem.W.Frag) : TS := (tRet (tVar 3))
def t__law_figures_b9 (K : PySem.W.Frag) : TS := (t__law_figures_s8 K)
def t__law_figures_s10 (K : PySem.W.Frag) : TS := (tIfS (tTest (tOp rEq (tVar 2) (tC (.int 4)))) (t__law_figures_b9 K) tNext)
def t__law_figures_s11 (K : PySem.W.Frag) : TS := (tAsg (tIf (tTest (tOp qGt (tVar 1) (tC (.int 2)))) (tOp rCat (tOp rCat (tLst (tCons (tC (.int 1)) (tCons (tC (.int 0)) tNil))) (tOp rRep (tLst (tCons (tOp qSub (tVar 1) (tC (.int 1))) tNil)) (tCall (sp__law_draw K) [] E0 (tCons (tVar 0) (tCons (tC (.int 9)) tNil))))) (tLst (tCons (tOp qSub (tVar 1) (tC (.int 2))) (tCons (tOp qSub (tVar 1) (tC (.int 1))) tNil)))) (tLst (tCons (tC (.int 1)) tNil))) (gName 3))
def t__law_figures_s12 (K : PySem.W.Frag) : TS := (tRet (tIf (tTest (tOp rEq (tVar 2) (tC (.int 1)))) (tOp rCat (tOp rCat (tVar 3) (tOp rRep (tLst (tCons (tC (.int 0)) tNil)) (tCall (sp__law_draw K) [] E0 (tCons (tVar 0) (tCons (tC (.int 4)) tNil))))) (tVar 3)) (tVar 3)))
def t__law_figures (K : PySem.W.Frag) : TS := (tSeq (t__law_figures_s1 K) (tSeq (t__law_figures_s4 K) (tSeq (t__law_figures_s7 K) (tSeq (t__law_figures_s10 K) (tSeq (t__law_figures_s11 K) (t__law_figures_s12 K))))))

abbrev s__law_number : Stmt := top 28
def N__law_number : List Str := ["_law_pool", "_law_b", "_law_rows", "_law_row", "_law_way"]
theorem sc__law_number : FnScope ["_law_pool", "_law_b", "_law_rows", "_law_row", "_law_way"] ["_law_pool", "_law_b", "_law_rows"] (defScope s__law_number) := ⟨rfl, rfl, rfl, by decide +kernel, rfl, by decide +kernel, by decide +kernel⟩
theorem bt__law_number : BindTxt "_law_number" s__law_number ["_law_pool", "_law_b", "_law_rows"] := fun _ _ _ _ _ _ us hl => match us, hl with | [_, _, _], _ => rfl
def t__law_number_s1 (K : PySem.W.Frag) : TS := (tPar 3 4 (tCons (tCall (sp__law_one K) [] E0 (tCons (tVar 0) (tCons (tVar 2) tNil))) (tCons (tCall (sp__law_draw K) [] E0 (tCons (tVar 0) (tCons (tC (.int 8)) tNil))) tNil)))
def t__law_number_s2 (K : PySem.W.Frag) : TS := (tAsg (tRevL K (tVar 3)) (gName 3))
def t__law_number_b3 (K : PySem.W.Frag) : TS := (t__law_number_s2 K)
def t__law_number_s4 (K : PySem.W.Frag) : TS := (tIfS (tTest (tOp rEq (tVar 4) (tC (.int 0)))) (t__law_number_b3 K) tNext)
def t__law_number_s5 (K : PySem.W.Frag) : TS := (tAsg (tOp rCat (tOp rCat (tVar 3) (tOp rRep (tLst (tCons (tC (.int 0)) tNil)) (tOp qSub (tVar 4) (tC (.int 1))))) (tVar 3)) (gName 3))
def t__law_number_b6 (K : PySem.W.Frag) : TS := (t__law_number_s5 K)
def t__law_number_s7 (K : PySem.W.Frag) : TS := (tIfS (tAnd (tTest (tChain qLt qLt (tC (.int 0)) (tVar 4) (tC (.int 3)))) (tTest (tOp qLt (tCB qLenQ (tCons (tVar 3) tNil)) (tC (.int 29))))) (t__law_number_b6 K) tNext)
def t__law_number_s8 (K : PySem.W.Frag) : TS := (tAsg (tOp rCat (tVar 3) (tLst (tCons (tC (.int 0)) tNil))) (gName 3))
def t__law_number_b9 (K : PySem.W.Frag) : TS := (t__law_number_s8 K)
def t__law_number_s10 (K : PySem.W.Frag) : TS := (tIfS (tTest (tOp rEq (tVar 4) (tC (.int 3)))) (t__law_number_b9 K) tNext)
def t__law_number_s11 (K : PySem.W.Frag) : TS := (tRet (tCB qMax2 (tCons (tC (.int 1)) (tCons (tCall (sp__law_joined K) [] E0 (tCons (tVar 3) (tCons (tVar 1) tNil))) tNil))))
def t__law_number (K : PySem.W.Frag) : TS := (tSeq (t__law_number_s1 K) (tSeq (t__law_number_s4 K) (tSeq (t__law_number_s7 K) (tSeq (t__law_number_s10 K) (t__law_number_s11 K)))))

abbrev s__law_pair : Stmt := top 29
def N__law_pair : List Str := ["_law_whole", "_law_b", "_law_far", "_law_both"]
theorem sc__law_pair : FnScope ["_law_whole", "_law_b", "_law_far", "_law_both"] ["_law_whole", "_law_b"] (defScope s__law_pair) := ⟨rfl, rfl, rfl, by decide +kernel, rfl, by decide +kernel, by decide +kernel⟩
theorem bt__law_pair : BindTxt "_law_pair" s__law_pair ["_law_whole", "_law_b"] := fun _ _ _ _ _ _ us hl => match us, hl with | [_, _], _ => rfl
def t__law_pair_s1 (K : PySem.W.Frag) : TS := (tAsg (tCall (sp__law_back K) [] E0 (tCons (tVar 0) (tCons (tVar 1) tNil))) (gName 2))
def t__law_pair_s2 (K : PySem.W.Frag) : TS := (tAsg (tCall (sp__law_shared K) [] E0 (tCons (tVar 0) (tCons (tVar 2) tNil))) (gName 3))
def t__law_pair_s3 (K : PySem.W.Frag) : TS := (tRet (tTup (tCons (tOp qDivW (tVar 2) (tVar 3)) (tCons (tOp qDivW (tVar 0) (tVar 3)) tNil))))
def t__law_pair (K : PySem.W.Frag) : TS := (tSeq (t__law_pair_s1 K) (tSeq (t__law_pair_s2 K) (t__law_pair_s3 K)))

abbrev s__law_right : Stmt := top 30
def N__law_right : List Str := ["_law_pool", "_law_b", "_law_top", "_law_rows", "_law_turn", "_law_some", "_law_pairs", "_law_small", "_law_due", "_law_got", "_law_k", "_law_whole", "_law_each"]
theorem sc__law_right : FnScope ["_law_pool", "_law_b", "_law_top", "_law_rows", "_law_turn", "_law_some", "_law_pairs", "_law_small", "_law_due", "_law_got", "_law_k", "_law_whole", "_law_each"] ["_law_pool"] (defScope s__law_right) := ⟨rfl, rfl, rfl, by decide +kernel, rfl, by decide +kernel, by decide +kernel⟩
theorem bt__law_right : BindTxt "_law_right" s__law_right ["_law_pool"] := fun _ _ _ _ _ _ us hl => match us, hl with | [_], _ => rfl
def kw__law_right_0_g {α : Type} : List α → List α → List α := fun us ws => match us, ws with | [], [w0, w1, w2] => [w2, w1, w0] | us, ws => us ++ ws
theorem kw__law_right_0_b : KwTxt "multiples" s_multiples ["base", "numbers", "most"] ["most", "numbers", "base"] 0 kw__law_right_0_g := fun _ _ _ _ _ _ us ws h1 h2 => match us, ws, h1, h2 with | [], [_, _, _], _, _ => rfl
theorem kw__law_right_0_r : KwRel 0 3 kw__law_right_0_g kw__law_right_0_g := by
  intro vs zs us ws h1 h2 r1 r2
  match vs, zs, us, ws, h1, h2, r1, r2 with
  | [], [_, _, _], _, _, _, _, .nil, .cons b0 (.cons b1 (.cons b2 .nil)) => exact .cons b2 (.cons b1 (.cons b0 .nil))
def t__law_right_s1 (K : PySem.W.Frag) : TS := (tAsg (tCall (sp__law_one K) [] E0 (tCons (tVar 0) (tCons (tLst (tCons (tC (.int 2)) (tCons (tC (.int 3)) (tCons (tC (.int 4)) (tCons (tC (.int 10)) (tCons (tC (.int 10)) (tCons (tOp qAdd (tC (.int 2)) (tCall (sp__law_draw K) [] E0 (tCons (tVar 0) (tCons (tC (.int 9)) tNil)))) tNil))))))) tNil))) (gName 1))
def t__law_right_s2 (K : PySem.W.Frag) : TS := (tAsg (tCall (sp__law_one K) [] E0 (tCons (tVar 0) (tCons (tLst (tCons (tC (.int 20)) (tCons (tC (.int 20)) (tCons (tOp qAdd (tC (.int 1)) (tCall (sp__law_draw K) [] E0 (tCons (tVar 0) (tCons (tC (.int 20)) tNil)))) tNil)))) tNil))) (gName 2))
def t__law_right_e3 (K : PySem.W.Frag) : TE := (tCall (sp__law_figures K) [] E0 (tCons (tVar 0) (tCons (tVar 1) tNil)))
def t__law_right_s4 (K : PySem.W.Frag) : TS := (tAsg (tLc (iRng1 (tCons (tCall (sp__law_one K) [] E0 (tCons (tVar 0) (tCons (tLst (tCons (tC (.int 1)) (tCons (tC (.int 1)) (tCons (tC (.int 1)) (tCons (tC (.int 2)) tNil))))) tNil))) tNil)) (gName 10) tYes (t__law_right_e3 K) [10]) (gName 3))
def t__law_right_e5 (K : PySem.W.Frag) : TE := (tCall (sp__law_number K) [] E0 (tCons (tVar 0) (tCons (tVar 1) (tCons (tVar 3) tNil))))
def t__law_right_s6 (K : PySem.W.Frag) : TS := (tAsg (tLc (iRng1 (tCons (tOp qAdd (tC (.int 1)) (tCall (sp__law_draw K) [] E0 (tCons (tVar 0) (tCons (tCall (sp__law_one K) [] E0 (tCons (tVar 0) (tCons (tLst (tCons (tC (.int 1)) (tCons (tC (.int 2)) (tCons (tC (.int 20)) tNil)))) tNil))) tNil)))) tNil)) (gName 10) tYes (t__law_right_e5 K) [10]) (gName 5))
def t__law_right_e7 (K : PySem.W.Frag) : TE := (tCall (sp__law_pair K) [] E0 (tCons (tVar 11) (tCons (tVar 1) tNil)))
def t__law_right_s8 (K : PySem.W.Frag) : TS := (tAsg (tLc (iList K (tVar 5)) (gName 11) tYes (t__law_right_e7 K) [11]) (gName 6))
def t__law_right_s9 (K : PySem.W.Frag) : TS := (tAsg (tOp qIxL (tVar 6) (tC (.int 0))) (gName 7))
def t__law_right_c10 (K : PySem.W.Frag) : TT := (tTest (tOp qLe (tOp qMul (tVar 10) (tCB (qMaxT K) (tCons (tVar 7) tNil))) (tVar 2)))
def t__law_right_e11 (K : PySem.W.Frag) : TE := (tTup (tCons (tOp qMul (tVar 10) (tOp qIxT (tVar 7) (tC (.int 0)))) (tCons (tOp qMul (tVar 10) (tOp qIxT (tVar 7) (tC (.int 1)))) tNil)))
def t__law_right_s12 (K : PySem.W.Frag) : TS := (tAsg (tLc (iRng2 (tCons (tC (.int 1)) (tCons (tOp qAdd (tVar 2) (tC (.int 1))) tNil))) (gName 10) (t__law_right_c10 K) (t__law_right_e11 K) [10]) (gName 8))
def t__law_right_c13 (K : PySem.W.Frag) : TT := (tTest (tOp (rNeD K) (tVar 12) (tVar 7)))
def t__law_right_e14 (K : PySem.W.Frag) : TE := (tVar 12)
def t__law_right_s15 (K : PySem.W.Frag) : TS := (tAsg (tIf (tTest (tOp (rEqD K) (tLc (iList K (tVar 6)) (gName 12) (t__law_right_c13 K) (t__law_right_e14 K) [12]) (tLst tNil))) (tVar 8) (tLst tNil)) (gName 8))
def t__law_right_s16 (K : PySem.W.Frag) : TS := (tAsg (tLst (tCons (tCall (sp_multiples K) [] E0 (tCons (tVar 1) (tCons (tCB (qTuple K) (tCons (tVar 5) tNil)) (tCons (tVar 2) tNil)))) (tCons (tCallKw (sp_multiples K) 0 3 kw__law_right_0_g tNil (tCons (tVar 2) (tCons (tCB (qTuple K) (tCons (tVar 5) tNil)) (tCons (tVar 1) tNil)))) tNil))) (gName 9))
def t__law_right_s17 (K : PySem.W.Frag) : TS := (tRet (tC (.bl false)))
def t__law_right_b18 (K : PySem.W.Frag) : TS := (t__law_right_s17 K)
def t__law_right_s19 (K : PySem.W.Frag) : TS := (tIfS (tTest (tOp rNe (tCB (rRepr K) (tCons (tVar 9) tNil)) (tCB (rRepr K) (tCons (tLst (tCons (tCB (qTuple K) (tCons (tVar 8) tNil)) (tCons (tCB (qTuple K) (tCons (tVar 8) tNil)) tNil))) tNil)))) (t__law_right_b18 K) tNext)
def t__law_right_b20 (K : PySem.W.Frag) : TS := (tSeq (t__law_right_s6 K) (tSeq (t__law_right_s8 K) (tSeq (t__law_right_s9 K) (tSeq (t__law_right_s12 K) (tSeq (t__law_right_s15 K) (tSeq (t__law_right_s16 K) (t__law_right_s19 K)))))))
def t__law_right_s21 (K : PySem.W.Frag) : TS := (tFor (iRng1 (tCons (tC (.int 3)) tNil)) (gName 4) (t__law_right_b20 K))
def t__law_right_s22 (K : PySem.W.Frag) : TS := (tRet (tC (.bl true)))
def t__law_right (K : PySem.W.Frag) : TS := (tSeq (t__law_right_s1 K) (tSeq (t__law_right_s2 K) (tSeq (t__law_right_s4 K) (tSeq (t__law_right_s21 K) (t__law_right_s22 K)))))

abbrev s_law : Stmt := top 31
def N_law : List Str := ["_law_script", "_law_k"]
theorem sc_law : FnScope ["_law_script", "_law_k"] ["_law_script"] (defScope s_law) := ⟨rfl, rfl, rfl, by decide +kernel, rfl, by decide +kernel, by decide +kernel⟩
theorem bt_law : BindTxt "law" s_law ["_law_script"] := fun _ _ _ _ _ _ us hl => match us, hl with | [_], _ => rfl
def t_law_s1 (K : PySem.W.Frag) : TS := (tRet (tC (.bl false)))
def t_law_b2 (K : PySem.W.Frag) : TS := (t_law_s1 K)
def t_law_s3 (K : PySem.W.Frag) : TS := (tIfS (tTest (tOp (rNeD K) (tCall (sp_multiples K) [] E0 (tCons (tC (.int 10)) (tCons (tTup (tCons (tC (.int 2178)) (tCons (tC (.int 21978)) tNil))) (tCons (tC (.int 20)) tNil)))) (tTup (tCons (tTup (tCons (tC (.int 4)) (tCons (tC (.int 1)) tNil))) (tCons (tTup (tCons (tC (.int 8)) (tCons (tC (.int 2)) tNil))) (tCons (tTup (tCons (tC (.int 12)) (tCons (tC (.int 3)) tNil))) (tCons (tTup (tCons (tC (.int 16)) (tCons (tC (.int 4)) tNil))) (tCons (tTup (tCons (tC (.int 20)) (tCons (tC (.int 5)) tNil))) tNil)))))))) (t_law_b2 K) tNext)
def t_law_s4 (K : PySem.W.Frag) : TS := (tRet (tC (.bl false)))
def t_law_b5 (K : PySem.W.Frag) : TS := (t_law_s4 K)
def t_law_s6 (K : PySem.W.Frag) : TS := (tIfS (tOr (tTest (tOp (rNeD K) (tCall (sp_multiples K) [] E0 (tCons (tC (.int 10)) (tCons (tTup (tCons (tOp qSub (tOp qPow (tC (.int 10)) (tC (.int 60))) (tC (.int 1))) (tCons (tC (.int 7)) tNil))) (tCons (tC (.int 2)) tNil)))) (tTup (tCons (tTup (tCons (tC (.int 1)) (tCons (tC (.int 1)) tNil))) (tCons (tTup (tCons (tC (.int 2)) (tCons (tC (.int 2)) tNil))) tNil))))) (tTest (tOp (rNeD K) (tCall (sp_multiples K) [] E0 (tCons (tC (.int 10)) (tCons (tTup (tCons (tC (.int 20)) tNil)) (tCons (tC (.int 20)) tNil)))) (tTup (tCons (tTup (tCons (tC (.int 1)) (tCons (tC (.int 10)) tNil))) (tCons (tTup (tCons (tC (.int 2)) (tCons (tC (.int 20)) tNil))) tNil)))))) (t_law_b5 K) tNext)
def t_law_s7 (K : PySem.W.Frag) : TS := (tRet (tC (.bl false)))
def t_law_b8 (K : PySem.W.Frag) : TS := (t_law_s7 K)
def t_law_s9 (K : PySem.W.Frag) : TS := (tIfS (tOr (tTest (tOp (rNeD K) (tCall (sp_multiples K) [] E0 (tCons (tC (.int 2)) (tCons (tTup (tCons (tC (.int 2)) (tCons (tC (.int 4)) tNil))) (tCons (tC (.int 20)) tNil)))) (tTup tNil))) (tTest (tOp (rNeD K) (tCall (sp_multiples K) [] E0 (tCons (tC (.int 10)) (tCons (tTup (tCons (tC (.int 2178)) (tCons (tC (.int 1089)) tNil))) (tCons (tC (.int 20)) tNil)))) (tTup tNil)))) (t_law_b8 K) tNext)
def t_law_e10 (K : PySem.W.Frag) : TE := (tCall (sp__law_right K) [] E0 (tCons (tCall (sp__law_fresh K) [] E0 (tCons (tVar 0) (tCons (tVar 1) tNil))) tNil))
def t_law_s11 (K : PySem.W.Frag) : TS := (tRet (tCB (rAll K) (tCons (tLc (iRng1 (tCons (tCB qMax2 (tCons (tC (.int 2)) (tCons (tCB qMin2 (tCons (tCB (qLen K) (tCons (tVar 0) tNil)) (tCons (tC (.int 5)) tNil))) tNil))) tNil)) (gName 1) tYes (t_law_e10 K) [1]) tNil)))
def t_law (K : PySem.W.Frag) : TS := (tSeq (t_law_s3 K) (tSeq (t_law_s6 K) (tSeq (t_law_s9 K) (t_law_s11 K))))

theorem ok_is_integer {P : Program} {w : World} {K : PySem.W.Frag} {mg : Str → Option Value} {base : Heap} (T : Txt K mg) (R : Raw K mg "is_integer" s_is_integer)
    (len : ∀ vs H Q E, (sp_is_integer K) vs H Q E → vs.length = 1)
    (pure : ∀ vs H Q E, (sp_is_integer K) vs H Q E → t_is_integer K { nx := fun _ H' => Q .non H', rt := Q } (start ["value"] vs) H) :
    Has P w K mg base "is_integer" s_is_integer 1 ["value"] (sp_is_integer K) := by
  refine has_mk R sc_is_integer bt_is_integer len (fun f cdv A outer s H vs Q E hr h => ⟨t_is_integer K, ?_, pure vs H Q E h⟩)
  exact (pss_one (ps_ret (pe_and (pe_callB call_isi (by rfl) T.b_isinstance (by decide +kernel) (pa_cons (pv 0) (pa_cons (pe_ty T.b_int (by decide +kernel)) pa_nil))) (pe_one (pe_not (pe_callB call_isi (by rfl) T.b_isinstance (by decide +kernel) (pa_cons (pv 0) (pa_cons (pe_ty T.b_bool (by decide +kernel)) pa_nil))))))))

theorem ok_is_between {P : Program} {w : World} {K : PySem.W.Frag} {mg : Str → Option Value} {base : Heap} (T : Txt K mg) (R : Raw K mg "is_between" s_is_between)
    (h_is_integer : Has P w K mg base "is_integer" s_is_integer 1 ["value"] (sp_is_integer K))
    (len : ∀ vs H Q E, (sp_is_between K) vs H Q E → vs.length = 3)
    (pure : ∀ vs H Q E, (sp_is_between K) vs H Q E → t_is_between K { nx := fun _ H' => Q .non H', rt := Q } (start ["value", "least", "most"] vs) H) :
    Has P w K mg base "is_between" s_is_between 2 ["value", "least", "most"] (sp_is_between K) := by
  refine has_mk R sc_is_between bt_is_between len (fun f cdv A outer s H vs Q E hr h => ⟨t_is_between K, ?_, pure vs H Q E h⟩)
  exact (pss_one (ps_ret (pe_and (pe_f h_is_integer (hr.mono (by decide)) (pa_cons (pv 0) pa_nil)) (pe_and (pe_cmpR op_le (pv 1) (pv 0) (nomark _)) (pe_one (pe_or (pe_cmpR op_isN (pv 2) pe_non (nomark _)) (pe_one (pe_cmpR op_le (pv 0) (pv 2) (nomark _)))))))))

theorem ok_check_between {P : Program} {w : World} {K : PySem.W.Frag} {mg : Str → Option Value} {base : Heap} (T : Txt K mg) (R : Raw K mg "check_between" s_check_between)
    (h_is_between : Has P w K mg base "is_between" s_is_between 2 ["value", "least", "most"] (sp_is_between K))
    (len : ∀ vs H Q E, (sp_check_between K) vs H Q E → vs.length = 3)
    (pure : ∀ vs H Q E, (sp_check_between K) vs H Q E → t_check_between K { nx := fun _ H' => Q .non H', rt := Q } (start ["value", "least", "most"] vs) H) :
    Has P w K mg base "check_between" s_check_between 3 ["value", "least", "most"] (sp_check_between K) := by
  refine has_mk R sc_check_between bt_check_between len (fun f cdv A outer s H vs Q E hr h => ⟨t_check_between K, ?_, pure vs H Q E h⟩)
  exact (pss_one (ps_if (pt_not (pt_val (pe_f h_is_between (hr.mono (by decide)) (pa_cons (pv 0) (pa_cons (pv 1) (pa_cons (pv 2) pa_nil))))))
    pss_never
    pss_nil))

theorem ok_check_base {P : Program} {w : World} {K : PySem.W.Frag} {mg : Str → Option Value} {base : Heap} (T : Txt K mg) (R : Raw K mg "check_base" s_check_base)
    (h_check_between : Has P w K mg base "check_between" s_check_between 3 ["value", "least", "most"] (sp_check_between K))
    (len : ∀ vs H Q E, (sp_check_base K) vs H Q E → vs.length = 1)
    (pure : ∀ vs H Q E, (sp_check_base K) vs H Q E → t_check_base K { nx := fun _ H' => Q .non H', rt := Q } (start ["base"] vs) H) :
    Has P w K mg base "check_base" s_check_base 4 ["base"] (sp_check_base K) := by
  refine has_mk R sc_check_base bt_check_base len (fun f cdv A outer s H vs Q E hr h => ⟨t_check_base K, ?_, pure vs H Q E h⟩)
  exact (pss_one (ps_expr (pe_f h_check_between (hr.mono (by decide)) (pa_cons (pv 0) (pa_cons (pe_gI T.c_LEAST_BASE) (pa_cons (pe_gI T.c_MOST_BASE) pa_nil))))))

theorem ok_figures_of {P : Program} {w : World} {K : PySem.W.Frag} {mg : Str → Option Value} {base : Heap} (T : Txt K mg) (R : Raw K mg "figures_of" s_figures_of)
    (len : ∀ vs H Q E, (sp_figures_of K) vs H Q E → vs.length = 2)
    (pure : ∀ vs H Q E, (sp_figures_of K) vs H Q E → t_figures_of K { nx := fun _ H' => Q .non H', rt := Q } (start ["number", "base", "found"] vs) H) :
    Has P w K mg base "figures_of" s_figures_of 1 ["number", "base"] (sp_figures_of K) := by
  refine has_mk R sc_figures_of bt_figures_of len (fun f cdv A outer s H vs Q E hr h => ⟨t_figures_of K, ?_, pure vs H Q E h⟩)
  exact (pss_cons (ps_set (i := 2) sc_figures_of.nd rfl (by first | exact Or.inl rfl | exact Or.inr rfl) (pe_lst (pa_cons (pe_op op_mod (pv 0) (pv 1)) pa_nil)))
    (pss_cons (ps_while PassesOwn.never (pt_cmpR op_ge (pv 0) (pv 1) (nomark _))
    (pss_cons (ps_set (i := 0) sc_figures_of.nd rfl (by first | exact Or.inl rfl | exact Or.inr rfl) (pe_op op_fdiv (pv 0) (pv 1)))
    (pss_one (ps_expr (pe_bm PySem.F.plainAttrs_list PySem.F.slot_list_append PySem.F.type_list_append mt_append (pv 2) (pa_cons (pe_op op_mod (pv 0) (pv 1)) pa_nil))))))
    (pss_one (ps_ret (pe_revL (pv 2))))))

theorem ok_number_of {P : Program} {w : World} {K : PySem.W.Frag} {mg : Str → Option Value} {base : Heap} (T : Txt K mg) (R : Raw K mg "number_of" s_number_of)
    (len : ∀ vs H Q E, (sp_number_of K) vs H Q E → vs.length = 2)
    (pure : ∀ vs H Q E, (sp_number_of K) vs H Q E → t_number_of K { nx := fun _ H' => Q .non H', rt := Q } (start ["figures", "base", "found", "figure"] vs) H) :
    Has P w K mg base "number_of" s_number_of 1 ["figures", "base"] (sp_number_of K) := by
  refine has_mk R sc_number_of bt_number_of len (fun f cdv A outer s H vs Q E hr h => ⟨t_number_of K, ?_, pure vs H Q E h⟩)
  exact (pss_cons (ps_set (i := 2) sc_number_of.nd rfl (by first | exact Or.inl rfl | exact Or.inr rfl) pe_int)
    (pss_cons (ps_for PassesOwn.never rfl (pi_list (pv 0)) (pg_name (i := 3) sc_number_of.nd rfl (by first | exact Or.inl rfl | exact Or.inr rfl))
    (pss_one (ps_set (i := 2) sc_number_of.nd rfl (by first | exact Or.inl rfl | exact Or.inr rfl) (pe_op op_add (pe_op op_mul (pv 2) (pv 1)) (pv 3)))))
    (pss_one (ps_ret (pv 2)))))

theorem ok_check_numbers {P : Program} {w : World} {K : PySem.W.Frag} {mg : Str → Option Value} {base : Heap} (T : Txt K mg) (R : Raw K mg "check_numbers" s_check_numbers)
    (h_is_between : Has P w K mg base "is_between" s_is_between 2 ["value", "least", "most"] (sp_is_between K))
    (len : ∀ vs H Q E, (sp_check_numbers K) vs H Q E → vs.length = 1)
    (pure : ∀ vs H Q E, (sp_check_numbers K) vs H Q E → t_check_numbers K { nx := fun _ H' => Q .non H', rt := Q } (start ["numbers", "index", "number"] vs) H) :
    Has P w K mg base "check_numbers" s_check_numbers 3 ["numbers"] (sp_check_numbers K) := by
  refine has_mk R sc_check_numbers bt_check_numbers len (fun f cdv A outer s H vs Q E hr h => ⟨t_check_numbers K, ?_, pure vs H Q E h⟩)
  exact (pss_cons (ps_if (PW.pt (pw_or (pt_not (pt_val (pe_callB call_isi (by rfl) T.b_isinstance (by decide +kernel) (pa_cons (pv 0) (pa_cons (pe_ty T.b_tuple (by decide +kernel)) pa_nil))))) (pw_or1 (pt_not (pt_chain op_le op_le pe_int (pe_callB cl_len (by rfl) T.b_len (by decide +kernel) (pa_cons (pv 0) pa_nil)) (pe_gI T.c_MOST_TOLD))))))
    pss_never
    pss_nil)
    (pss_one (ps_for PassesOwn.never rfl (pi_enumT (by rfl) T.b_enumerate (pa_cons (pv 0) pa_nil)) (pg_tup rfl (pgs_cons (pg_name (i := 1) sc_check_numbers.nd rfl (by first | exact Or.inl rfl | exact Or.inr rfl)) (pgs_cons (pg_name (i := 2) sc_check_numbers.nd rfl (by first | exact Or.inl rfl | exact Or.inr rfl)) pgs_nil)))
    (pss_one (ps_if (pt_not (pt_val (pe_f h_is_between (hr.mono (by decide)) (pa_cons (pv 2) (pa_cons pe_int (pa_cons (pe_op op_sub (pe_gI T.c_MOST_NUMBER) pe_int) pa_nil))))))
    pss_never
    pss_nil)))))

theorem ok_multiples {P : Program} {w : World} {K : PySem.W.Frag} {mg : Str → Option Value} {base : Heap} (T : Txt K mg) (R : Raw K mg "multiples" s_multiples)
    (h_check_base : Has P w K mg base "check_base" s_check_base 4 ["base"] (sp_check_base K))
    (h_check_numbers : Has P w K mg base "check_numbers" s_check_numbers 3 ["numbers"] (sp_check_numbers K))
    (h_check_between : Has P w K mg base "check_between" s_check_between 3 ["value", "least", "most"] (sp_check_between K))
    (h_number_of : Has P w K mg base "number_of" s_number_of 1 ["figures", "base"] (sp_number_of K))
    (h_figures_of : Has P w K mg base "figures_of" s_figures_of 1 ["number", "base"] (sp_figures_of K))
    (len : ∀ vs H Q E, (sp_multiples K) vs H Q E → vs.length = 3)
    (pure : ∀ vs H Q E, (sp_multiples K) vs H Q E → t_multiples K { nx := fun _ H' => Q .non H', rt := Q } (start ["base", "numbers", "most", "pairs", "found", "a", "e", "number", "back"] vs) H) :
    Has P w K mg base "multiples" s_multiples 5 ["base", "numbers", "most"] (sp_multiples K) := by
  refine has_mk R sc_multiples bt_multiples len (fun f cdv A outer s H vs Q E hr h => ⟨t_multiples K, ?_, pure vs H Q E h⟩)
  exact (pss_cons (ps_expr (pe_f h_check_base (hr.mono (by decide)) (pa_cons (pv 0) pa_nil)))
    (pss_cons (ps_expr (pe_f h_check_numbers (hr.mono (by decide)) (pa_cons (pv 1) pa_nil)))
    (pss_cons (ps_expr (pe_f h_check_between (hr.mono (by decide)) (pa_cons (pv 2) (pa_cons pe_int (pa_cons (pe_gI T.c_MOST_TIMES) pa_nil)))))
    (pss_cons (ps_setLc (i := 3) (own := [("number", 7)]) (g := (gName 7)) (tt := tYes) rfl sc_multiples.nd rfl rfl (sw_true rfl rfl rfl (by decide +kernel)) (pi_tup (pv 1)) (blkOk_by (own := [("number", 7)]) (N := N_multiples) (sc := defScope s_multiples) (by decide +kernel)) (fun _ _ _ _ _ => (pg_name (i := 7) sc_multiples.nd rfl (by first | exact Or.inl rfl | exact Or.inr rfl))) (fun _ _ _ _ _ => pts_nil) (fun _ _ _ _ _ => (pe_tup (pa_cons (pv 7) (pa_cons (pe_f h_number_of (hr.mono (by decide)) (pa_cons (pe_revL (pe_f h_figures_of (hr.mono (by decide)) (pa_cons (pv 7) (pa_cons (pv 0) pa_nil)))) (pa_cons (pv 0) pa_nil))) pa_nil)))))
    (pss_cons (ps_set (i := 4) sc_multiples.nd rfl (by first | exact Or.inl rfl | exact Or.inr rfl) (pe_lst pa_nil))
    (pss_cons (ps_for PassesOwn.never rfl (pi_range2 (by rfl) T.b_range (pa_cons pe_int (pa_cons (pe_op op_add (pv 2) pe_int) pa_nil))) (pg_name (i := 5) sc_multiples.nd rfl (by first | exact Or.inl rfl | exact Or.inr rfl))
    (pss_one (ps_for PassesOwn.never rfl (pi_range2 (by rfl) T.b_range (pa_cons pe_int (pa_cons (pe_op op_add (pv 2) pe_int) pa_nil))) (pg_name (i := 6) sc_multiples.nd rfl (by first | exact Or.inl rfl | exact Or.inr rfl))
    (pss_one (ps_if (pt_val (pe_callB (cr_all rfl) (by rfl) T.b_all (by decide +kernel) (pa_cons (pe_lc (own := [("number", 7), ("back", 8)]) (g := (gTup K 2 (gCons (gName 7) (gCons (gName 8) gNil)))) (tt := tYes) rfl sc_multiples.nd (pi_list (pv 3)) (blkOk_by (own := [("number", 7), ("back", 8)]) (N := N_multiples) (sc := defScope s_multiples) (by decide +kernel)) (fun _ _ _ _ _ => (pg_tup rfl (pgs_cons (pg_name (i := 7) sc_multiples.nd rfl (by first | exact Or.inl rfl | exact Or.inr rfl)) (pgs_cons (pg_name (i := 8) sc_multiples.nd rfl (by first | exact Or.inl rfl | exact Or.inr rfl)) pgs_nil)))) (fun _ _ _ _ _ => pts_nil) (fun _ _ _ _ _ => (pe_cmpR op_eq (pe_op op_mulW (pv 5) (pv 7)) (pe_op op_mulW (pv 6) (pv 8)) (nomark _)))) pa_nil)))
    (pss_one (ps_expr (pe_bm PySem.F.plainAttrs_list PySem.F.slot_list_append PySem.F.type_list_append mt_append (pv 4) (pa_cons (pe_tup (pa_cons (pv 5) (pa_cons (pv 6) pa_nil))) pa_nil))))
    pss_nil)))))
    (pss_one (ps_ret (pe_callTy call_tuple_of (by rfl) T.b_tuple (by decide +kernel) (pa_cons (pv 4) pa_nil))))))))))

theorem ok__law_fresh {P : Program} {w : World} {K : PySem.W.Frag} {mg : Str → Option Value} {base : Heap} (T : Txt K mg) (R : Raw K mg "_law_fresh" s__law_fresh)
    (len : ∀ vs H Q E, (sp__law_fresh K) vs H Q E → vs.length = 2)
    (pure : ∀ vs H Q E, (sp__law_fresh K) vs H Q E → t__law_fresh K { nx := fun _ H' => Q .non H', rt := Q } (start ["_law_script", "_law_k", "_law_cell", "_law_seed", "_law_each", "_law_digits_here"] vs) H) :
    Has P w K mg base "_law_fresh" s__law_fresh 1 ["_law_script", "_law_k"] (sp__law_fresh K) := by
  refine has_mk R sc__law_fresh bt__law_fresh len (fun f cdv A outer s H vs Q E hr h => ⟨t__law_fresh K, ?_, pure vs H Q E h⟩)
  exact (pss_cons (ps_par (i := 2) (j := 3) rfl sc__law_fresh.nd rfl rfl (by decide) rfl rfl (pa_cons (pe_ifExp (pt_cmpR op_lt (pv 1) (pe_callB call_len_seq (by rfl) T.b_len (by decide +kernel) (pa_cons (pv 0) pa_nil)) (nomark _)) (pe_callTy call_int1 (by rfl) T.b_int (by decide +kernel) (pa_cons (pe_ix ix_list (pv 0) (pv 1) (fun _ _ => rfl)) pa_nil)) pe_int) (pa_cons (pe_op op_mul pe_int (pe_op op_add (pv 1) pe_int)) pa_nil)) (by rfl))
    (pss_cons (ps_for PassesOwn.never rfl (pi_list (pe_slice sl_list (pv 0) po_none (po_some pe_int))) (pg_name (i := 4) sc__law_fresh.nd rfl (by first | exact Or.inl rfl | exact Or.inr rfl))
    (pss_one (ps_set (i := 3) sc__law_fresh.nd rfl (by first | exact Or.inl rfl | exact Or.inr rfl) (pe_op op_mod (pe_callTy call_int1 (by rfl) T.b_int (by decide +kernel) (pa_cons (pe_op op_add (pe_op op_add (pe_op op_mul (pv 3) pe_int) (pe_op op_mod (pe_callTy call_int1 (by rfl) T.b_int (by decide +kernel) (pa_cons (pv 4) pa_nil)) pe_int)) (pe_op op_mul pe_int (pv 1))) pa_nil)) pe_int))))
    (pss_cons (ps_set (i := 5) sc__law_fresh.nd rfl (by first | exact Or.inl rfl | exact Or.inr rfl) (pe_ifExp (PW.pt (pw_or (pt_cmpR op_lt (pv 2) pe_int (nomark _)) (pw_or1 (pt_cmpR op_ge (pv 2) (pe_op op_pow pe_int pe_int) (nomark _))))) (pe_callB call_abs (by rfl) T.b_abs (by decide +kernel) (pa_cons (pv 2) pa_nil)) pe_int))
    (pss_one (ps_ret (pe_lst (pa_cons (pv 5) (pa_cons (pe_op op_mod (pe_callTy call_int1 (by rfl) T.b_int (by decide +kernel) (pa_cons (pe_op op_add (pv 3) (pe_op op_mul pe_int (pe_op op_mod (pe_callTy call_int1 (by rfl) T.b_int (by decide +kernel) (pa_cons (pv 2) pa_nil)) pe_int))) pa_nil)) pe_int) (pa_cons pe_int pa_nil)))))))))

theorem ok__law_draw {P : Program} {w : World} {K : PySem.W.Frag} {mg : Str → Option Value} {base : Heap} (T : Txt K mg) (R : Raw K mg "_law_draw" s__law_draw)
    (len : ∀ vs H Q E, (sp__law_draw K) vs H Q E → vs.length = 2)
    (pure : ∀ vs H Q E, (sp__law_draw K) vs H Q E → t__law_draw K { nx := fun _ H' => Q .non H', rt := Q } (start ["_law_pool", "_law_wide", "_law_digit", "_law_held", "_law_times"] vs) H) :
    Has P w K mg base "_law_draw" s__law_draw 1 ["_law_pool", "_law_wide"] (sp__law_draw K) := by
  refine has_mk R sc__law_draw bt__law_draw len (fun f cdv A outer s H vs Q E hr h => ⟨t__law_draw K, ?_, pure vs H Q E h⟩)
  exact (pss_cons (ps_asg (pe_op op_add (pe_ix ix_l (pv 0) pe_int (fun _ _ => rfl)) pe_int) (pg_sub (pv 0) pe_int set_l))
    (pss_cons (ps_if (pt_cmpR op_gt (pe_ix ix_l (pv 0) pe_int (fun _ _ => rfl)) pe_int (nomark _))
    (pss_cons (ps_set (i := 2) sc__law_draw.nd rfl (by first | exact Or.inl rfl | exact Or.inr rfl) (pe_op op_mod (pe_callTy call_int1 (by rfl) T.b_int (by decide +kernel) (pa_cons (pe_ix ix_l (pv 0) pe_int (fun _ _ => rfl)) pa_nil)) (pv 1)))
    (pss_cons (ps_asg (pe_op op_fdiv (pe_ix ix_l (pv 0) pe_int (fun _ _ => rfl)) (pv 1)) (pg_sub (pv 0) pe_int set_l))
    (pss_one (ps_ret (pv 2)))))
    pss_nil)
    (pss_cons (ps_set (i := 3) sc__law_draw.nd rfl (by first | exact Or.inl rfl | exact Or.inr rfl) (pe_op op_add (pe_callTy call_int1 (by rfl) T.b_int (by decide +kernel) (pa_cons (pe_ix ix_l (pv 0) pe_int (fun _ _ => rfl)) pa_nil)) (pe_op op_mul pe_int (pe_ix ix_l (pv 0) pe_int (fun _ _ => rfl)))))
    (pss_cons (ps_set (i := 4) sc__law_draw.nd rfl (by first | exact Or.inl rfl | exact Or.inr rfl) (pe_op op_add (pe_op op_mod (pe_callTy call_int1 (by rfl) T.b_int (by decide +kernel) (pa_cons (pv 3) pa_nil)) pe_int) pe_int))
    (pss_cons (ps_asg (pe_op op_mod (pe_callTy call_int1 (by rfl) T.b_int (by decide +kernel) (pa_cons (pe_op op_add (pe_op op_add (pe_op op_mul (pv 3) (pv 4)) (pe_op op_mul pe_int (pe_ix ix_l (pv 0) pe_int (fun _ _ => rfl)))) pe_int) pa_nil)) pe_int) (pg_sub (pv 0) pe_int set_l))
    (pss_one (ps_ret (pe_op op_mod (pe_op op_fdiv (pe_callTy call_int1 (by rfl) T.b_int (by decide +kernel) (pa_cons (pe_ix ix_l (pv 0) pe_int (fun _ _ => rfl)) pa_nil)) pe_int) (pv 1)))))))))

theorem ok__law_one {P : Program} {w : World} {K : PySem.W.Frag} {mg : Str → Option Value} {base : Heap} (T : Txt K mg) (R : Raw K mg "_law_one" s__law_one)
    (h__law_draw : Has P w K mg base "_law_draw" s__law_draw 1 ["_law_pool", "_law_wide"] (sp__law_draw K))
    (len : ∀ vs H Q E, (sp__law_one K) vs H Q E → vs.length = 2)
    (pure : ∀ vs H Q E, (sp__law_one K) vs H Q E → t__law_one K { nx := fun _ H' => Q .non H', rt := Q } (start ["_law_pool", "_law_some"] vs) H) :
    Has P w K mg base "_law_one" s__law_one 2 ["_law_pool", "_law_some"] (sp__law_one K) := by
  refine has_mk R sc__law_one bt__law_one len (fun f cdv A outer s H vs Q E hr h => ⟨t__law_one K, ?_, pure vs H Q E h⟩)
  exact (pss_one (ps_ret (pe_ix ix_l (pv 1) (pe_f h__law_draw (hr.mono (by decide)) (pa_cons (pv 0) (pa_cons (pe_callB cl_len (by rfl) T.b_len (by decide +kernel) (pa_cons (pv 1) pa_nil)) pa_nil))) (fun _ _ => rfl))))

theorem ok__law_digits {P : Program} {w : World} {K : PySem.W.Frag} {mg : Str → Option Value} {base : Heap} (T : Txt K mg) (R : Raw K mg "_law_digits" s__law_digits)
    (len : ∀ vs H Q E, (sp__law_digits K) vs H Q E → vs.length = 2)
    (pure : ∀ vs H Q E, (sp__law_digits K) vs H Q E → t__law_digits K { nx := fun _ H' => Q .non H', rt := Q } (start ["_law_whole", "_law_b", "_law_found", "_law_rest", "_law_k"] vs) H) :
    Has P w K mg base "_law_digits" s__law_digits 1 ["_law_whole", "_law_b"] (sp__law_digits K) := by
  refine has_mk R sc__law_digits bt__law_digits len (fun f cdv A outer s H vs Q E hr h => ⟨t__law_digits K, ?_, pure vs H Q E h⟩)
  exact (pss_cons (ps_par (i := 2) (j := 3) rfl sc__law_digits.nd rfl rfl (by decide) rfl rfl (pa_cons (pe_lst pa_nil) (pa_cons (pe_callTy call_int1 (by rfl) T.b_int (by decide +kernel) (pa_cons (pv 0) pa_nil)) pa_nil)) (by rfl))
    (pss_cons (ps_for PassesOwn.never rfl (pi_range1 (by rfl) T.b_range (pa_cons pe_int pa_nil)) (pg_name (i := 4) sc__law_digits.nd rfl (by first | exact Or.inl rfl | exact Or.inr rfl))
    (pss_cons (ps_expr (pe_bm PySem.F.plainAttrs_list PySem.F.slot_list_append PySem.F.type_list_append mt_append (pv 2) (pa_cons (pe_op op_mod (pe_callTy call_int1 (by rfl) T.b_int (by decide +kernel) (pa_cons (pv 3) pa_nil)) (pv 1)) pa_nil)))
    (pss_cons (ps_set (i := 3) sc__law_digits.nd rfl (by first | exact Or.inl rfl | exact Or.inr rfl) (pe_op op_fdiv (pv 3) (pv 1)))
    (pss_one (ps_if (pt_cmpR op_eq (pv 3) pe_int (nomark _))
    (pss_one ps_break)
    pss_nil)))))
    (pss_one (ps_ret (pe_revL (pv 2))))))

theorem ok__law_joined {P : Program} {w : World} {K : PySem.W.Frag} {mg : Str → Option Value} {base : Heap} (T : Txt K mg) (R : Raw K mg "_law_joined" s__law_joined)
    (len : ∀ vs H Q E, (sp__law_joined K) vs H Q E → vs.length = 2)
    (pure : ∀ vs H Q E, (sp__law_joined K) vs H Q E → t__law_joined K { nx := fun _ H' => Q .non H', rt := Q } (start ["_law_row", "_law_b", "_law_found", "_law_each"] vs) H) :
    Has P w K mg base "_law_joined" s__law_joined 1 ["_law_row", "_law_b"] (sp__law_joined K) := by
  refine has_mk R sc__law_joined bt__law_joined len (fun f cdv A outer s H vs Q E hr h => ⟨t__law_joined K, ?_, pure vs H Q E h⟩)
  exact (pss_cons (ps_set (i := 2) sc__law_joined.nd rfl (by first | exact Or.inl rfl | exact Or.inr rfl) pe_int)
    (pss_cons (ps_for PassesOwn.never rfl (pi_list (pv 0)) (pg_name (i := 3) sc__law_joined.nd rfl (by first | exact Or.inl rfl | exact Or.inr rfl))
    (pss_one (ps_set (i := 2) sc__law_joined.nd rfl (by first | exact Or.inl rfl | exact Or.inr rfl) (pe_op op_add (pe_op op_mul (pv 2) (pv 1)) (pv 3)))))
    (pss_one (ps_ret (pv 2)))))

theorem ok__law_back {P : Program} {w : World} {K : PySem.W.Frag} {mg : Str → Option Value} {base : Heap} (T : Txt K mg) (R : Raw K mg "_law_back" s__law_back)
    (h__law_joined : Has P w K mg base "_law_joined" s__law_joined 1 ["_law_row", "_law_b"] (sp__law_joined K))
    (h__law_digits : Has P w K mg base "_law_digits" s__law_digits 1 ["_law_whole", "_law_b"] (sp__law_digits K))
    (len : ∀ vs H Q E, (sp__law_back K) vs H Q E → vs.length = 2)
    (pure : ∀ vs H Q E, (sp__law_back K) vs H Q E → t__law_back K { nx := fun _ H' => Q .non H', rt := Q } (start ["_law_whole", "_law_b"] vs) H) :
    Has P w K mg base "_law_back" s__law_back 2 ["_law_whole", "_law_b"] (sp__law_back K) := by
  refine has_mk R sc__law_back bt__law_back len (fun f cdv A outer s H vs Q E hr h => ⟨t__law_back K, ?_, pure vs H Q E h⟩)
  exact (pss_one (ps_ret (pe_f h__law_joined (hr.mono (by decide)) (pa_cons (pe_revL (pe_f h__law_digits (hr.mono (by decide)) (pa_cons (pv 0) (pa_cons (pv 1) pa_nil)))) (pa_cons (pv 1) pa_nil)))))

theorem ok__law_shared {P : Program} {w : World} {K : PySem.W.Frag} {mg : Str → Option Value} {base : Heap} (T : Txt K mg) (R : Raw K mg "_law_shared" s__law_shared)
    (len : ∀ vs H Q E, (sp__law_shared K) vs H Q E → vs.length = 2)
    (pure : ∀ vs H Q E, (sp__law_shared K) vs H Q E → t__law_shared K { nx := fun _ H' => Q .non H', rt := Q } (start ["_law_left", "_law_right_here", "_law_turn"] vs) H) :
    Has P w K mg base "_law_shared" s__law_shared 1 ["_law_left", "_law_right_here"] (sp__law_shared K) := by
  refine has_mk R sc__law_shared bt__law_shared len (fun f cdv A outer s H vs Q E hr h => ⟨t__law_shared K, ?_, pure vs H Q E h⟩)
  exact (pss_cons (ps_for PassesOwn.never rfl (pi_range1 (by rfl) T.b_range (pa_cons pe_int pa_nil)) (pg_name (i := 2) sc__law_shared.nd rfl (by first | exact Or.inl rfl | exact Or.inr rfl))
    (pss_cons (ps_if (pt_cmpR op_eq (pv 1) pe_int (nomark _))
    (pss_one ps_break)
    pss_nil)
    (pss_one (ps_par (i := 0) (j := 1) rfl sc__law_shared.nd rfl rfl (by decide) rfl rfl (pa_cons (pv 1) (pa_cons (pe_op op_mod (pe_callTy call_int1 (by rfl) T.b_int (by decide +kernel) (pa_cons (pv 0) pa_nil)) (pv 1)) pa_nil)) (by rfl)))))
    (pss_one (ps_ret (pv 0))))

theorem ok__law_figures {P : Program} {w : World} {K : PySem.W.Frag} {mg : Str → Option Value} {base : Heap} (T : Txt K mg) (R : Raw K mg "_law_figures" s__law_figures)
    (h__law_draw : Has P w K mg base "_law_draw" s__law_draw 1 ["_law_pool", "_law_wide"] (sp__law_draw K))
    (h__law_one : Has P w K mg base "_law_one" s__law_one 2 ["_law_pool", "_law_some"] (sp__law_one K))
    (len : ∀ vs H Q E, (sp__law_figures K) vs H Q E → vs.length = 2)
    (pure : ∀ vs H Q E, (sp__law_figures K) vs H Q E → t__law_figures K { nx := fun _ H' => Q .non H', rt := Q } (start ["_law_pool", "_law_b", "_law_way", "_law_row", "_law_k"] vs) H) :
    Has P w K mg base "_law_figures" s__law_figures 3 ["_law_pool", "_law_b"] (sp__law_figures K) := by
  refine has_mk R sc__law_figures bt__law_figures len (fun f cdv A outer s H vs Q E hr h => ⟨t__law_figures K, ?_, pure vs H Q E h⟩)
  exact (pss_cons (ps_par (i := 2) (j := 3) rfl sc__law_figures.nd rfl rfl (by decide) rfl rfl (pa_cons (pe_f h__law_draw (hr.mono (by decide)) (pa_cons (pv 0) (pa_cons pe_int pa_nil))) (pa_cons (pe_lst (pa_cons (pe_op op_add pe_int (pe_f h__law_draw (hr.mono (by decide)) (pa_cons (pv 0) (pa_cons (pe_op op_sub (pv 1) pe_int) pa_nil)))) pa_nil)) pa_nil)) (by rfl))
    (pss_cons (ps_for PassesOwn.never rfl (pi_range1 (by rfl) T.b_range (pa_cons (pe_f h__law_draw (hr.mono (by decide)) (pa_cons (pv 0) (pa_cons (pe_f h__law_one (hr.mono (by decide)) (pa_cons (pv 0) (pa_cons (pe_lst (pa_cons pe_int (pa_cons pe_int (pa_cons pe_int pa_nil)))) pa_nil))) pa_nil))) pa_nil)) (pg_name (i := 4) sc__law_figures.nd rfl (by first | exact Or.inl rfl | exact Or.inr rfl))
    (pss_one (ps_expr (pe_bm PySem.F.plainAttrs_list PySem.F.slot_list_append PySem.F.type_list_append mt_append (pv 3) (pa_cons (pe_f h__law_draw (hr.mono (by decide)) (pa_cons (pv 0) (pa_cons (pv 1) pa_nil))) pa_nil)))))
    (pss_cons (ps_if (PW.pt (pw_or (pt_cmpR op_eq (pv 2) pe_int (nomark _)) (pw_or1 (PW.pt (pw_and (pt_cmpR op_lt (pv 2) pe_int (nomark _)) (pw_and1 (pt_cmpR op_eq (pv 1) pe_int (nomark _))))))))
    (pss_one (ps_ret (pe_ifExp (pt_cmpR op_lt (pv 2) pe_int (nomark _)) (pe_op op_cat (pv 3) (pe_revL (pv 3))) (pe_op op_cat (pe_slice sl_list (pv 3) po_none (po_some (pe_un un_neg pe_int))) (pe_revL (pv 3))))))
    pss_nil)
    (pss_cons (ps_if (pt_cmpR op_eq (pv 2) pe_int (nomark _))
    (pss_one (ps_ret (pv 3)))
    pss_nil)
    (pss_cons (ps_set (i := 3) sc__law_figures.nd rfl (by first | exact Or.inl rfl | exact Or.inr rfl) (pe_ifExp (pt_cmpR op_gt (pv 1) pe_int (nomark _)) (pe_op op_cat (pe_op op_cat (pe_lst (pa_cons pe_int (pa_cons pe_int pa_nil))) (pe_op op_rep (pe_lst (pa_cons (pe_op op_sub (pv 1) pe_int) pa_nil)) (pe_f h__law_draw (hr.mono (by decide)) (pa_cons (pv 0) (pa_cons pe_int pa_nil))))) (pe_lst (pa_cons (pe_op op_sub (pv 1) pe_int) (pa_cons (pe_op op_sub (pv 1) pe_int) pa_nil)))) (pe_lst (pa_cons pe_int pa_nil))))
    (pss_one (ps_ret (pe_ifExp (pt_cmpR op_eq (pv 2) pe_int (nomark _)) (pe_op op_cat (pe_op op_cat (pv 3) (pe_op op_rep (pe_lst (pa_cons pe_int pa_nil)) (pe_f h__law_draw (hr.mono (by decide)) (pa_cons (pv 0) (pa_cons pe_int pa_nil))))) (pv 3)) (pv 3)))))))))

theorem ok__law_number {P : Program} {w : World} {K : PySem.W.Frag} {mg : Str → Option Value} {base : Heap} (T : Txt K mg) (R : Raw K mg "_law_number" s__law_number)
    (h__law_one : Has P w K mg base "_law_one" s__law_one 2 ["_law_pool", "_law_some"] (sp__law_one K))
    (h__law_draw : Has P w K mg base "_law_draw" s__law_draw 1 ["_law_pool", "_law_wide"] (sp__law_draw K))
    (h__law_joined : Has P w K mg base "_law_joined" s__law_joined 1 ["_law_row", "_law_b"] (sp__law_joined K))
    (len : ∀ vs H Q E, (sp__law_number K) vs H Q E → vs.length = 3)
    (pure : ∀ vs H Q E, (sp__law_number K) vs H Q E → t__law_number K { nx := fun _ H' => Q .non H', rt := Q } (start ["_law_pool", "_law_b", "_law_rows", "_law_row", "_law_way"] vs) H) :
    Has P w K mg base "_law_number" s__law_number 3 ["_law_pool", "_law_b", "_law_rows"] (sp__law_number K) := by
  refine has_mk R sc__law_number bt__law_number len (fun f cdv A outer s H vs Q E hr h => ⟨t__law_number K, ?_, pure vs H Q E h⟩)
  exact (pss_cons (ps_par (i := 3) (j := 4) rfl sc__law_number.nd rfl rfl (by decide) rfl rfl (pa_cons (pe_f h__law_one (hr.mono (by decide)) (pa_cons (pv 0) (pa_cons (pv 2) pa_nil))) (pa_cons (pe_f h__law_draw (hr.mono (by decide)) (pa_cons (pv 0) (pa_cons pe_int pa_nil))) pa_nil)) (by rfl))
    (pss_cons (ps_if (pt_cmpR op_eq (pv 4) pe_int (nomark _))
    (pss_one (ps_set (i := 3) sc__law_number.nd rfl (by first | exact Or.inl rfl | exact Or.inr rfl) (pe_revL (pv 3))))
    pss_nil)
    (pss_cons (ps_if (PW.pt (pw_and (pt_chain op_lt op_lt pe_int (pv 4) pe_int) (pw_and1 (pt_cmpR op_lt (pe_callB cl_len (by rfl) T.b_len (by decide +kernel) (pa_cons (pv 3) pa_nil)) pe_int (nomark _)))))
    (pss_one (ps_set (i := 3) sc__law_number.nd rfl (by first | exact Or.inl rfl | exact Or.inr rfl) (pe_op op_cat (pe_op op_cat (pv 3) (pe_op op_rep (pe_lst (pa_cons pe_int pa_nil)) (pe_op op_sub (pv 4) pe_int))) (pv 3))))
    pss_nil)
    (pss_cons (ps_if (pt_cmpR op_eq (pv 4) pe_int (nomark _))
    (pss_one (ps_set (i := 3) sc__law_number.nd rfl (by first | exact Or.inl rfl | exact Or.inr rfl) (pe_op op_cat (pv 3) (pe_lst (pa_cons pe_int pa_nil)))))
    pss_nil)
    (pss_one (ps_ret (pe_callB (call_max2 rfl) (by rfl) T.b_max (by decide +kernel) (pa_cons pe_int (pa_cons (pe_f h__law_joined (hr.mono (by decide)) (pa_cons (pv 3) (pa_cons (pv 1) pa_nil))) pa_nil)))))))))

theorem ok__law_pair {P : Program} {w : World} {K : PySem.W.Frag} {mg : Str → Option Value} {base : Heap} (T : Txt K mg) (R : Raw K mg "_law_pair" s__law_pair)
    (h__law_back : Has P w K mg base "_law_back" s__law_back 2 ["_law_whole", "_law_b"] (sp__law_back K))
    (h__law_shared : Has P w K mg base "_law_shared" s__law_shared 1 ["_law_left", "_law_right_here"] (sp__law_shared K))
    (len : ∀ vs H Q E, (sp__law_pair K) vs H Q E → vs.length = 2)
    (pure : ∀ vs H Q E, (sp__law_pair K) vs H Q E → t__law_pair K { nx := fun _ H' => Q .non H', rt := Q } (start ["_law_whole", "_law_b", "_law_far", "_law_both"] vs) H) :
    Has P w K mg base "_law_pair" s__law_pair 3 ["_law_whole", "_law_b"] (sp__law_pair K) := by
  refine has_mk R sc__law_pair bt__law_pair len (fun f cdv A outer s H vs Q E hr h => ⟨t__law_pair K, ?_, pure vs H Q E h⟩)
  exact (pss_cons (ps_set (i := 2) sc__law_pair.nd rfl (by first | exact Or.inl rfl | exact Or.inr rfl) (pe_f h__law_back (hr.mono (by decide)) (pa_cons (pv 0) (pa_cons (pv 1) pa_nil))))
    (pss_cons (ps_set (i := 3) sc__law_pair.nd rfl (by first | exact Or.inl rfl | exact Or.inr rfl) (pe_f h__law_shared (hr.mono (by decide)) (pa_cons (pv 0) (pa_cons (pv 2) pa_nil))))
    (pss_one (ps_ret (pe_tup (pa_cons (pe_op op_fdivW (pv 2) (pv 3)) (pa_cons (pe_op op_fdivW (pv 0) (pv 3)) pa_nil)))))))

theorem ok__law_right {P : Program} {w : World} {K : PySem.W.Frag} {mg : Str → Option Value} {base : Heap} (T : Txt K mg) (R : Raw K mg "_law_right" s__law_right)
    (h__law_one : Has P w K mg base "_law_one" s__law_one 2 ["_law_pool", "_law_some"] (sp__law_one K))
    (h__law_draw : Has P w K mg base "_law_draw" s__law_draw 1 ["_law_pool", "_law_wide"] (sp__law_draw K))
    (h__law_figures : Has P w K mg base "_law_figures" s__law_figures 3 ["_law_pool", "_law_b"] (sp__law_figures K))
    (h__law_number : Has P w K mg base "_law_number" s__law_number 3 ["_law_pool", "_law_b", "_law_rows"] (sp__law_number K))
    (h__law_pair : Has P w K mg base "_law_pair" s__law_pair 3 ["_law_whole", "_law_b"] (sp__law_pair K))
    (h_multiples : Has P w K mg base "multiples" s_multiples 5 ["base", "numbers", "most"] (sp_multiples K))
    (len : ∀ vs H Q E, (sp__law_right K) vs H Q E → vs.length = 1)
    (pure : ∀ vs H Q E, (sp__law_right K) vs H Q E → t__law_right K { nx := fun _ H' => Q .non H', rt := Q } (start ["_law_pool", "_law_b", "_law_top", "_law_rows", "_law_turn", "_law_some", "_law_pairs", "_law_small", "_law_due", "_law_got", "_law_k", "_law_whole", "_law_each"] vs) H) :
    HasG P w K mg base "_law_right" s__law_right 6 ["_law_pool"] (sp__law_right K) := by
  refine hasG_mk R sc__law_right bt__law_right len (fun f cdv A outer s H vs Q E hr gd h => ⟨t__law_right K, ?_, pure vs H Q E h⟩)
  exact (pss_cons (ps_set (i := 1) sc__law_right.nd rfl (by first | exact Or.inl rfl | exact Or.inr rfl) (pe_f h__law_one (hr.mono (by decide)) (pa_cons (pv 0) (pa_cons (pe_lst (pa_cons pe_int (pa_cons pe_int (pa_cons pe_int (pa_cons pe_int (pa_cons pe_int (pa_cons (pe_op op_add pe_int (pe_f h__law_draw (hr.mono (by decide)) (pa_cons (pv 0) (pa_cons pe_int pa_nil)))) pa_nil))))))) pa_nil))))
    (pss_cons (ps_set (i := 2) sc__law_right.nd rfl (by first | exact Or.inl rfl | exact Or.inr rfl) (pe_f h__law_one (hr.mono (by decide)) (pa_cons (pv 0) (pa_cons (pe_lst (pa_cons pe_int (pa_cons pe_int (pa_cons (pe_op op_add pe_int (pe_f h__law_draw (hr.mono (by decide)) (pa_cons (pv 0) (pa_cons pe_int pa_nil)))) pa_nil)))) pa_nil))))
    (pss_cons (ps_set (i := 3) sc__law_right.nd rfl (by first | exact Or.inl rfl | exact Or.inr rfl) (pe_lc (own := [("_law_k", 10)]) (g := (gName 10)) (tt := tYes) rfl sc__law_right.nd (pi_range1 (by rfl) T.b_range (pa_cons (pe_f h__law_one (hr.mono (by decide)) (pa_cons (pv 0) (pa_cons (pe_lst (pa_cons pe_int (pa_cons pe_int (pa_cons pe_int (pa_cons pe_int pa_nil))))) pa_nil))) pa_nil)) (blkOk_by (own := [("_law_k", 10)]) (N := N__law_right) (sc := defScope s__law_right) (by decide +kernel)) (fun _ _ _ _ _ => (pg_name (i := 10) sc__law_right.nd rfl (by first | exact Or.inl rfl | exact Or.inr rfl))) (fun _ _ _ _ _ => pts_nil) (fun _ _ _ _ _ => (pe_f h__law_figures (hr.mono (by decide)) (pa_cons (pv 0) (pa_cons (pv 1) pa_nil))))))
    (pss_cons (ps_for PassesOwn.never rfl (pi_range1 (by rfl) T.b_range (pa_cons pe_int pa_nil)) (pg_name (i := 4) sc__law_right.nd rfl (by first | exact Or.inl rfl | exact Or.inr rfl))
    (pss_cons (ps_setLc (i := 5) (own := [("_law_k", 10)]) (g := (gName 10)) (tt := tYes) rfl sc__law_right.nd rfl rfl (sw_true rfl rfl rfl (by decide +kernel)) (pi_range1 (by rfl) T.b_range (pa_cons (pe_op op_add pe_int (pe_f h__law_draw (hr.mono (by decide)) (pa_cons (pv 0) (pa_cons (pe_f h__law_one (hr.mono (by decide)) (pa_cons (pv 0) (pa_cons (pe_lst (pa_cons pe_int (pa_cons pe_int (pa_cons pe_int pa_nil)))) pa_nil))) pa_nil)))) pa_nil)) (blkOk_by (own := [("_law_k", 10)]) (N := N__law_right) (sc := defScope s__law_right) (by decide +kernel)) (fun _ _ _ _ _ => (pg_name (i := 10) sc__law_right.nd rfl (by first | exact Or.inl rfl | exact Or.inr rfl))) (fun _ _ _ _ _ => pts_nil) (fun _ _ _ _ _ => (pe_f h__law_number (hr.mono (by decide)) (pa_cons (pv 0) (pa_cons (pv 1) (pa_cons (pv 3) pa_nil))))))
    (pss_cons (ps_setLc (i := 6) (own := [("_law_whole", 11)]) (g := (gName 11)) (tt := tYes) rfl sc__law_right.nd rfl rfl (sw_true rfl rfl rfl (by decide +kernel)) (pi_list (pv 5)) (blkOk_by (own := [("_law_whole", 11)]) (N := N__law_right) (sc := defScope s__law_right) (by decide +kernel)) (fun _ _ _ _ _ => (pg_name (i := 11) sc__law_right.nd rfl (by first | exact Or.inl rfl | exact Or.inr rfl))) (fun _ _ _ _ _ => pts_nil) (fun _ _ _ _ _ => (pe_f h__law_pair (hr.mono (by decide)) (pa_cons (pv 11) (pa_cons (pv 1) pa_nil)))))
    (pss_cons (ps_set (i := 7) sc__law_right.nd rfl (by first | exact Or.inl rfl | exact Or.inr rfl) (pe_ix ix_l (pv 6) pe_int (fun _ _ => rfl)))
    (pss_cons (ps_setLc (i := 8) (own := [("_law_k", 10)]) (g := (gName 10)) (tt := (t__law_right_c10 K)) rfl sc__law_right.nd rfl rfl (sw_true rfl rfl rfl (by decide +kernel)) (pi_range2 (by rfl) T.b_range (pa_cons pe_int (pa_cons (pe_op op_add (pv 2) pe_int) pa_nil))) (blkOk_by (own := [("_law_k", 10)]) (N := N__law_right) (sc := defScope s__law_right) (by decide +kernel)) (fun _ _ _ _ _ => (pg_name (i := 10) sc__law_right.nd rfl (by first | exact Or.inl rfl | exact Or.inr rfl))) (fun _ _ _ _ _ => (pts_one (pt_cmpR op_le (pe_op op_mul (pv 10) (pe_callB (cl_maxT rfl) (by rfl) T.b_max (by decide +kernel) (pa_cons (pv 7) pa_nil))) (pv 2) (nomark _)))) (fun _ _ _ _ _ => (pe_tup (pa_cons (pe_op op_mul (pv 10) (pe_ix ix_t (pv 7) pe_int (fun _ _ => rfl))) (pa_cons (pe_op op_mul (pv 10) (pe_ix ix_t (pv 7) pe_int (fun _ _ => rfl))) pa_nil)))))
    (pss_cons (ps_set (i := 8) sc__law_right.nd rfl (by first | exact Or.inl rfl | exact Or.inr rfl) (pe_ifExp (pt_cmpR (op_eqD (u64 hr)) (pe_lc (own := [("_law_each", 12)]) (g := (gName 12)) (tt := (t__law_right_c13 K)) rfl sc__law_right.nd (pi_list (pv 6)) (blkOk_by (own := [("_law_each", 12)]) (N := N__law_right) (sc := defScope s__law_right) (by decide +kernel)) (fun _ _ _ _ _ => (pg_name (i := 12) sc__law_right.nd rfl (by first | exact Or.inl rfl | exact Or.inr rfl))) (fun _ _ _ _ _ => (pts_one (pt_cmpR (op_neD (u64 hr)) (pv 12) (pv 7) (nomark _)))) (fun _ _ _ _ _ => (pv 12))) (pe_lst pa_nil) (nomark _)) (pv 8) (pe_lst pa_nil)))
    (pss_cons (ps_set (i := 9) sc__law_right.nd rfl (by first | exact Or.inl rfl | exact Or.inr rfl) (pe_lst (pa_cons (pe_f h_multiples (hr.mono (by decide)) (pa_cons (pv 1) (pa_cons (pe_callTy call_tuple_of (by rfl) T.b_tuple (by decide +kernel) (pa_cons (pv 5) pa_nil)) (pa_cons (pv 2) pa_nil)))) (pa_cons (pe_fK0 h_multiples (hr.mono (by decide)) kw__law_right_0_b kw__law_right_0_r (pk_cons (pv 2) (pk_cons (pe_callTy call_tuple_of (by rfl) T.b_tuple (by decide +kernel) (pa_cons (pv 5) pa_nil)) (pk_cons (pv 1) pk_nil)))) pa_nil))))
    (pss_one (ps_if (pt_cmpR op_ne (pe_callB (call_repr gd (u64 hr)) (by rfl) T.b_repr (by decide +kernel) (pa_cons (pv 9) pa_nil)) (pe_callB (call_repr gd (u64 hr)) (by rfl) T.b_repr (by decide +kernel) (pa_cons (pe_lst (pa_cons (pe_callTy call_tuple_of (by rfl) T.b_tuple (by decide +kernel) (pa_cons (pv 8) pa_nil)) (pa_cons (pe_callTy call_tuple_of (by rfl) T.b_tuple (by decide +kernel) (pa_cons (pv 8) pa_nil)) pa_nil))) pa_nil)) (nomark _))
    (pss_one (ps_ret pe_bl))
    pss_nil)))))))))
    (pss_one (ps_ret pe_bl))))))

theorem ok_law {P : Program} {w : World} {K : PySem.W.Frag} {mg : Str → Option Value} {base : Heap} (T : Txt K mg) (R : Raw K mg "law" s_law)
    (h_multiples : Has P w K mg base "multiples" s_multiples 5 ["base", "numbers", "most"] (sp_multiples K))
    (h__law_right : HasG P w K mg base "_law_right" s__law_right 6 ["_law_pool"] (sp__law_right K))
    (h__law_fresh : Has P w K mg base "_law_fresh" s__law_fresh 1 ["_law_script", "_law_k"] (sp__law_fresh K))
    (len : ∀ vs H Q E, (sp_law K) vs H Q E → vs.length = 1)
    (pure : ∀ vs H Q E, (sp_law K) vs H Q E → t_law K { nx := fun _ H' => Q .non H', rt := Q } (start ["_law_script", "_law_k"] vs) H) :
    HasG P w K mg base "law" s_law 7 ["_law_script"] (sp_law K) := by
  refine hasG_mk R sc_law bt_law len (fun f cdv A outer s H vs Q E hr gd h => ⟨t_law K, ?_, pure vs H Q E h⟩)
  exact (pss_cons (ps_if (pt_cmpR (op_neD (u64 hr)) (pe_f h_multiples (hr.mono (by decide)) (pa_cons pe_int (pa_cons (pe_tup (pa_cons pe_int (pa_cons pe_int pa_nil))) (pa_cons pe_int pa_nil)))) (pe_tup (pa_cons (pe_tup (pa_cons pe_int (pa_cons pe_int pa_nil))) (pa_cons (pe_tup (pa_cons pe_int (pa_cons pe_int pa_nil))) (pa_cons (pe_tup (pa_cons pe_int (pa_cons pe_int pa_nil))) (pa_cons (pe_tup (pa_cons pe_int (pa_cons pe_int pa_nil))) (pa_cons (pe_tup (pa_cons pe_int (pa_cons pe_int pa_nil))) pa_nil)))))) (nomark _))
    (pss_one (ps_ret pe_bl))
    pss_nil)
    (pss_cons (ps_if (PW.pt (pw_or (pt_cmpR (op_neD (u64 hr)) (pe_f h_multiples (hr.mono (by decide)) (pa_cons pe_int (pa_cons (pe_tup (pa_cons (pe_op op_sub (pe_op op_pow pe_int pe_int) pe_int) (pa_cons pe_int pa_nil))) (pa_cons pe_int pa_nil)))) (pe_tup (pa_cons (pe_tup (pa_cons pe_int (pa_cons pe_int pa_nil))) (pa_cons (pe_tup (pa_cons pe_int (pa_cons pe_int pa_nil))) pa_nil))) (nomark _)) (pw_or1 (pt_cmpR (op_neD (u64 hr)) (pe_f h_multiples (hr.mono (by decide)) (pa_cons pe_int (pa_cons (pe_tup (pa_cons pe_int pa_nil)) (pa_cons pe_int pa_nil)))) (pe_tup (pa_cons (pe_tup (pa_cons pe_int (pa_cons pe_int pa_nil))) (pa_cons (pe_tup (pa_cons pe_int (pa_cons pe_int pa_nil))) pa_nil))) (nomark _)))))
    (pss_one (ps_ret pe_bl))
    pss_nil)
    (pss_cons (ps_if (PW.pt (pw_or (pt_cmpR (op_neD (u64 hr)) (pe_f h_multiples (hr.mono (by decide)) (pa_cons pe_int (pa_cons (pe_tup (pa_cons pe_int (pa_cons pe_int pa_nil))) (pa_cons pe_int pa_nil)))) (pe_tup pa_nil) (nomark _)) (pw_or1 (pt_cmpR (op_neD (u64 hr)) (pe_f h_multiples (hr.mono (by decide)) (pa_cons pe_int (pa_cons (pe_tup (pa_cons pe_int (pa_cons pe_int pa_nil))) (pa_cons pe_int pa_nil)))) (pe_tup pa_nil) (nomark _)))))
    (pss_one (ps_ret pe_bl))
    pss_nil)
    (pss_one (ps_ret (pe_callB (cr_all rfl) (by rfl) T.b_all (by decide +kernel) (pa_cons (pe_lc (own := [("_law_k", 1)]) (g := (gName 1)) (tt := tYes) rfl sc_law.nd (pi_range1 (by rfl) T.b_range (pa_cons (pe_callB (call_max2 rfl) (by rfl) T.b_max (by decide +kernel) (pa_cons pe_int (pa_cons (pe_callB (call_min2 rfl) (by rfl) T.b_min (by decide +kernel) (pa_cons (pe_callB call_len_seq (by rfl) T.b_len (by decide +kernel) (pa_cons (pv 0) pa_nil)) (pa_cons pe_int pa_nil))) pa_nil))) pa_nil)) (blkOk_by (own := [("_law_k", 1)]) (N := N_law) (sc := defScope s_law) (by decide +kernel)) (fun _ _ _ _ _ => (pg_name (i := 1) sc_law.nd rfl (by first | exact Or.inl rfl | exact Or.inr rfl))) (fun _ _ _ _ _ => pts_nil) (fun _ _ _ _ _ => (pe_fG h__law_right (hr.mono (by decide)) gd (pa_cons (pe_f h__law_fresh (hr.mono (by decide)) (pa_cons (pv 0) (pa_cons (pv 1) pa_nil))) pa_nil)))) pa_nil)))))))

end RA.K33

namespace RA.K33
open PySem PySem.Spec L2 RA
open PyProof.Rows hiding St
/-! ### why the readings keep the promises -/
theorem isInt_kit {K : PySem.W.Frag} : PySem.W.kitOne K (.type "int") (.type "int") = some true := kit_ty (by decide +kernel)
theorem isInt_bool {K : PySem.W.Frag} : PySem.W.kitOne K (.type "int") (.type "bool") = some false := kit_ty (by decide +kernel)
theorem bool_int {K : PySem.W.Frag} : PySem.W.kitOne K (.type "bool") (.type "int") = some true := kit_ty (by decide +kernel)
theorem bool_bool {K : PySem.W.Frag} : PySem.W.kitOne K (.type "bool") (.type "bool") = some true := kit_ty (by decide +kernel)
theorem pure_is_integer {K : PySem.W.Frag} (vs : List V) (H : Hp) (Q : VK) (E : XK) (h : sp_is_integer K vs H Q E) : t_is_integer K { nx := fun _ H' => Q .non H', rt := Q } (L2.start ["value"] vs) H := by
  obtain ⟨v, rfl, hk, q⟩ := h
  show t_is_integer K _ [some v] H
  simp only [tSeq, tAsg_name, tAsg_sub, tAsg_tup, tRet, tRetN, tDrop, tIfS, tNext, tNever, tBreak, tCont, tAndV, tOrV, tNotV, tAnd, tOr, tNot, tB, tTest, tIf, tCall, tCons, tNil, tVar, tC, tOp, tUn, tTup, tLst, tRevL, tPar, tPar3, tAug, ipI, tCB, tFld, sFld, iList, iTup, iRng1, iRng2, iEnum, iEnumT, tChain, tSl, tPart, tNoPart, tBM, tCallKw, tTruth, tYes, qAdd, qSub, qMul, qMulW, qDiv, qDivW, qMod, qPow, qLt, qLe, qGt, qGe, qIsN, qNotN, qInt, qAbs, qMax2, qMin2, rI0, rI, rU, rEq, rNe, scal, qIxL, qIxT, qLenQ, qSetL, lstOf_upd, tupOf_upd, atI_0, atI_1, atI_2, atI_3, upd_same, upd_upd, ixL0, ixL1, ixL2, HO.lst.injEq, HO.tup.injEq, List.getElem?_cons_zero, List.getElem?_cons_succ, List.set_cons_zero, List.set_cons_succ, Option.some.injEq, exists_eq_left', exists_eq_left, exists_and_left, V.int.injEq, V.bl.injEq, V.ref.injEq, V.str.injEq, List.append_nil, List.cons.injEq, and_assoc, and_true, true_and, reduceCtorEq, false_and, and_false, false_or, or_false, exists_false, decide_true, decide_false, Bool.not_true, Bool.not_false, not_true_eq_false, not_false_eq_true, if_true, if_false, Bool.false_eq_true, decide_eq_true_eq, Bool.not_eq_true', decide_eq_false_iff_not, t_is_integer, t_is_integer_s1]
  cases hk with
  | int i => exact ⟨_, _, _, _, _, rfl, .ty _, .base (.int _), isInt_kit, true, rfl, iteT ⟨_, _, _, _, _, rfl, .ty _, .base (.int _), isInt_bool, false, rfl, q⟩⟩
  | bl b => exact ⟨_, _, _, _, _, rfl, .ty _, .base (.bl _), bool_int, true, rfl, iteT ⟨_, _, _, _, _, rfl, .ty _, .base (.bl _), bool_bool, true, rfl, q⟩⟩
  | not h h1 h2 =>
    obtain ⟨t, ht, hk⟩ := h
    refine ⟨_, _, _, _, _, rfl, .ty _, ht, hk, false, rfl, iteF ?_⟩
    cases v with
    | int i => exact absurd rfl (h1 i)
    | _ => exact q
theorem pure_is_between {K : PySem.W.Frag} (vs : List V) (H : Hp) (Q : VK) (E : XK) (h : sp_is_between K vs H Q E) : t_is_between K { nx := fun _ H' => Q .non H', rt := Q } (L2.start ["value", "least", "most"] vs) H := by
  obtain ⟨v, lo, hi, rfl, hk, q⟩ := h
  show t_is_between K _ [some v, some (.int lo), some (optI hi)] H
  simp only [tSeq, tAsg_name, tAsg_sub, tAsg_tup, tRet, tRetN, tDrop, tIfS, tNext, tNever, tBreak, tCont, tAndV, tOrV, tNotV, tAnd, tOr, tNot, tB, tTest, tIf, tCall, tCons, tNil, tVar, tC, tOp, tUn, tTup, tLst, tRevL, tPar, tPar3, tAug, ipI, tCB, tFld, sFld, iList, iTup, iRng1, iRng2, iEnum, iEnumT, tChain, tSl, tPart, tNoPart, tBM, tCallKw, tTruth, tYes, qAdd, qSub, qMul, qMulW, qDiv, qDivW, qMod, qPow, qLt, qLe, qGt, qGe, qIsN, qNotN, qInt, qAbs, qMax2, qMin2, rI0, rI, rU, rEq, rNe, scal, qIxL, qIxT, qLenQ, qSetL, lstOf_upd, tupOf_upd, atI_0, atI_1, atI_2, atI_3, upd_same, upd_upd, ixL0, ixL1, ixL2, HO.lst.injEq, HO.tup.injEq, List.getElem?_cons_zero, List.getElem?_cons_succ, List.set_cons_zero, List.set_cons_succ, Option.some.injEq, exists_eq_left', exists_eq_left, exists_and_left, V.int.injEq, V.bl.injEq, V.ref.injEq, V.str.injEq, List.append_nil, List.cons.injEq, and_assoc, and_true, true_and, reduceCtorEq, false_and, and_false, false_or, or_false, exists_false, decide_true, decide_false, Bool.not_true, Bool.not_false, not_true_eq_false, not_false_eq_true, if_true, if_false, Bool.false_eq_true, decide_eq_true_eq, Bool.not_eq_true', decide_eq_false_iff_not, t_is_between, t_is_between_s1, sp_is_integer, List.append_nil]
  refine ⟨hk, ?_⟩
  cases hk with
  | int i =>
    refine iteT ?_
    simp only [tSeq, tAsg_name, tAsg_sub, tAsg_tup, tRet, tRetN, tDrop, tIfS, tNext, tNever, tBreak, tCont, tAndV, tOrV, tNotV, tAnd, tOr, tNot, tB, tTest, tIf, tCall, tCons, tNil, tVar, tC, tOp, tUn, tTup, tLst, tRevL, tPar, tPar3, tAug, ipI, tCB, tFld, sFld, iList, iTup, iRng1, iRng2, iEnum, iEnumT, tChain, tSl, tPart, tNoPart, tBM, tCallKw, tTruth, tYes, qAdd, qSub, qMul, qMulW, qDiv, qDivW, qMod, qPow, qLt, qLe, qGt, qGe, qIsN, qNotN, qInt, qAbs, qMax2, qMin2, rI0, rI, rU, rEq, rNe, scal, qIxL, qIxT, qLenQ, qSetL, lstOf_upd, tupOf_upd, atI_0, atI_1, atI_2, atI_3, upd_same, upd_upd, ixL0, ixL1, ixL2, HO.lst.injEq, HO.tup.injEq, List.getElem?_cons_zero, List.getElem?_cons_succ, List.set_cons_zero, List.set_cons_succ, Option.some.injEq, exists_eq_left', exists_eq_left, exists_and_left, V.int.injEq, V.bl.injEq, V.ref.injEq, V.str.injEq, List.append_nil, List.cons.injEq, and_assoc, and_true, true_and, reduceCtorEq, false_and, and_false, false_or, or_false, exists_false, decide_true, decide_false, Bool.not_true, Bool.not_false, not_true_eq_false, not_false_eq_true, if_true, if_false, Bool.false_eq_true, decide_eq_true_eq, Bool.not_eq_true', decide_eq_false_iff_not]
    by_cases c : lo ≤ i
    · rw [if_pos c]
      cases hi with
      | none =>
        simp only [btw, optI, c, decide_true, Bool.and_true] at q ⊢
        exact q
      | some m =>
        simp only [btw, optI, c, decide_true, Bool.true_and] at q ⊢
        simp only [tSeq, tAsg_name, tAsg_sub, tAsg_tup, tRet, tRetN, tDrop, tIfS, tNext, tNever, tBreak, tCont, tAndV, tOrV, tNotV, tAnd, tOr, tNot, tB, tTest, tIf, tCall, tCons, tNil, tVar, tC, tOp, tUn, tTup, tLst, tRevL, tPar, tPar3, tAug, ipI, tCB, tFld, sFld, iList, iTup, iRng1, iRng2, iEnum, iEnumT, tChain, tSl, tPart, tNoPart, tBM, tCallKw, tTruth, tYes, qAdd, qSub, qMul, qMulW, qDiv, qDivW, qMod, qPow, qLt, qLe, qGt, qGe, qIsN, qNotN, qInt, qAbs, qMax2, qMin2, rI0, rI, rU, rEq, rNe, scal, qIxL, qIxT, qLenQ, qSetL, lstOf_upd, tupOf_upd, atI_0, atI_1, atI_2, atI_3, upd_same, upd_upd, ixL0, ixL1, ixL2, HO.lst.injEq, HO.tup.injEq, List.getElem?_cons_zero, List.getElem?_cons_succ, List.set_cons_zero, List.set_cons_succ, Option.some.injEq, exists_eq_left', exists_eq_left, exists_and_left, V.int.injEq, V.bl.injEq, V.ref.injEq, V.str.injEq, List.append_nil, List.cons.injEq, and_assoc, and_true, true_and, reduceCtorEq, false_and, and_false, false_or, or_false, exists_false, decide_true, decide_false, Bool.not_true, Bool.not_false, not_true_eq_false, not_false_eq_true, if_true, if_false, Bool.false_eq_true, decide_eq_true_eq, Bool.not_eq_true', decide_eq_false_iff_not]
        exact q
    · rw [if_neg c]
      have e : btw lo hi (V.int i) = false := by simp [btw, c]
      rw [e] at q
      exact q
  | bl b => exact iteF q
  | not h h1 h2 =>
    cases v with
    | int i => exact absurd rfl (h1 i)
    | _ => exact iteF q
theorem pure_check_between {K : PySem.W.Frag} (vs : List V) (H : Hp) (Q : VK) (E : XK) (h : sp_check_between K vs H Q E) : t_check_between K { nx := fun _ H' => Q .non H', rt := Q } (L2.start ["value", "least", "most"] vs) H := by
  obtain ⟨i, lo, hi, rfl, h1, h2, q⟩ := h
  show t_check_between K _ [some (.int i), some (.int lo), some (.int hi)] H
  simp only [tSeq, tAsg_name, tAsg_sub, tAsg_tup, tRet, tRetN, tDrop, tIfS, tNext, tNever, tBreak, tCont, tAndV, tOrV, tNotV, tAnd, tOr, tNot, tB, tTest, tIf, tCall, tCons, tNil, tVar, tC, tOp, tUn, tTup, tLst, tRevL, tPar, tPar3, tAug, ipI, tCB, tFld, sFld, iList, iTup, iRng1, iRng2, iEnum, iEnumT, tChain, tSl, tPart, tNoPart, tBM, tCallKw, tTruth, tYes, qAdd, qSub, qMul, qMulW, qDiv, qDivW, qMod, qPow, qLt, qLe, qGt, qGe, qIsN, qNotN, qInt, qAbs, qMax2, qMin2, rI0, rI, rU, rEq, rNe, scal, qIxL, qIxT, qLenQ, qSetL, lstOf_upd, tupOf_upd, atI_0, atI_1, atI_2, atI_3, upd_same, upd_upd, ixL0, ixL1, ixL2, HO.lst.injEq, HO.tup.injEq, List.getElem?_cons_zero, List.getElem?_cons_succ, List.set_cons_zero, List.set_cons_succ, Option.some.injEq, exists_eq_left', exists_eq_left, exists_and_left, V.int.injEq, V.bl.injEq, V.ref.injEq, V.str.injEq, List.append_nil, List.cons.injEq, and_assoc, and_true, true_and, reduceCtorEq, false_and, and_false, false_or, or_false, exists_false, decide_true, decide_false, Bool.not_true, Bool.not_false, not_true_eq_false, not_false_eq_true, if_true, if_false, Bool.false_eq_true, decide_eq_true_eq, Bool.not_eq_true', decide_eq_false_iff_not, t_check_between, t_check_between_s1, sp_is_between, List.append_nil]
  refine ⟨some hi, rfl, .int i, ?_⟩
  have e : btw lo (some hi) (V.int i) = true := by simp [btw, h1, h2]
  rw [e]
  exact q
theorem pure_check_base {K : PySem.W.Frag} (vs : List V) (H : Hp) (Q : VK) (E : XK) (h : sp_check_base K vs H Q E) : t_check_base K { nx := fun _ H' => Q .non H', rt := Q } (L2.start ["base"] vs) H := by
  obtain ⟨i, rfl, h1, h2, q⟩ := h
  show t_check_base K _ [some (.int i)] H
  simp only [tSeq, tAsg_name, tAsg_sub, tAsg_tup, tRet, tRetN, tDrop, tIfS, tNext, tNever, tBreak, tCont, tAndV, tOrV, tNotV, tAnd, tOr, tNot, tB, tTest, tIf, tCall, tCons, tNil, tVar, tC, tOp, tUn, tTup, tLst, tRevL, tPar, tPar3, tAug, ipI, tCB, tFld, sFld, iList, iTup, iRng1, iRng2, iEnum, iEnumT, tChain, tSl, tPart, tNoPart, tBM, tCallKw, tTruth, tYes, qAdd, qSub, qMul, qMulW, qDiv, qDivW, qMod, qPow, qLt, qLe, qGt, qGe, qIsN, qNotN, qInt, qAbs, qMax2, qMin2, rI0, rI, rU, rEq, rNe, scal, qIxL, qIxT, qLenQ, qSetL, lstOf_upd, tupOf_upd, atI_0, atI_1, atI_2, atI_3, upd_same, upd_upd, ixL0, ixL1, ixL2, HO.lst.injEq, HO.tup.injEq, List.getElem?_cons_zero, List.getElem?_cons_succ, List.set_cons_zero, List.set_cons_succ, Option.some.injEq, exists_eq_left', exists_eq_left, exists_and_left, V.int.injEq, V.bl.injEq, V.ref.injEq, V.str.injEq, List.append_nil, List.cons.injEq, and_assoc, and_true, true_and, reduceCtorEq, false_and, and_false, false_or, or_false, exists_false, decide_true, decide_false, Bool.not_true, Bool.not_false, not_true_eq_false, not_false_eq_true, if_true, if_false, Bool.false_eq_true, decide_eq_true_eq, Bool.not_eq_true', decide_eq_false_iff_not, t_check_base, t_check_base_s1, sp_check_between, List.append_nil]
  exact ⟨h1, h2, q⟩
theorem fin_nat {Q : VK} {z : Int} {H : Hp} (h0 : 0 ≤ z) (h : ∀ r : Nat, (r : Int) = z → Q (.int (r : Int)) H) : Q (.int z) H := by
  have e : ((z.toNat : Nat) : Int) = z := Int.toNat_of_nonneg h0
  rw [← e]
  exact h _ e
theorem ofNats_length (l : List Nat) : (ofNats l).length = l.length := by simp [ofNats]
theorem ofNats_append (l m : List Nat) : ofNats (l ++ m) = ofNats l ++ ofNats m := by simp [ofNats]
theorem ofNats_reverse (l : List Nat) : ofNats l.reverse = (ofNats l).reverse := by simp [ofNats]
theorem digs_lt {b n : Nat} (h : n < b) : digs b n = [n % b] := by
  unfold digs
  rw [dif_neg (by omega)]
theorem digs_ge {b n : Nat} (hb : 2 ≤ b) (h : b ≤ n) : digs b n = n % b :: digs b (n / b) := by
  rw [digs]
  rw [dif_pos ⟨hb, h⟩]
theorem digs_len {b : Nat} (hb : 2 ≤ b) : ∀ (k n : Nat), n < 2 ^ k → (digs b n).length ≤ k + 1 := by
  intro k
  induction k with
  | zero => intro n hn; rw [digs_lt (by omega)]; simp
  | succ k ih =>
    intro n hn
    by_cases h : n < b
    · rw [digs_lt h]; simp
    · rw [digs_ge hb (by omega), List.length_cons]
      have : n / b < 2 ^ k := by
        rw [Nat.div_lt_iff_lt_mul (by omega)]
        have : 2 ^ k * 2 ≤ 2 ^ k * b := Nat.mul_le_mul_left _ hb
        rw [Nat.pow_succ] at hn
        omega
      have := ih _ this
      omega
theorem Same.newp {H0 H : Hp} {p : Addr} {o : HO} (s : Same H0 H) (hp : H p = none) : Same H0 (upd H p o) := fun b u h => by
  rw [upd_ne (ne_of_none (s b u h) hp)]
  exact s b u h
theorem Same.oldp {H0 H : Hp} {p : Addr} {o : HO} (s : Same H0 H) (hp : H0 p = none) : Same H0 (upd H p o) := fun b u h => by
  rw [upd_ne (ne_of_none h hp)]
  exact s b u h
theorem pure_figures_of {K : PySem.W.Frag} (vs : List V) (H : Hp) (Q : VK) (E : XK) (h : sp_figures_of K vs H Q E) : t_figures_of K { nx := fun _ H' => Q .non H', rt := Q } (L2.start ["number", "base", "found"] vs) H := by
  obtain ⟨n, b, rfl, hb, hb10, hn, q⟩ := h
  show t_figures_of K _ [some (.int n), some (.int b), none] H
  have hb0 : (0 : Int) < (b : Int) := by omega
  simp only [tSeq, tAsg_name, tAsg_sub, tAsg_tup, tRet, tRetN, tDrop, tIfS, tNext, tNever, tBreak, tCont, tAndV, tOrV, tNotV, tAnd, tOr, tNot, tB, tTest, tIf, tCall, tCons, tNil, tVar, tC, tOp, tUn, tTup, tLst, tRevL, tPar, tPar3, tAug, ipI, tCB, tFld, sFld, iList, iTup, iRng1, iRng2, iEnum, iEnumT, tChain, tSl, tPart, tNoPart, tBM, tCallKw, tTruth, tYes, qAdd, qSub, qMul, qMulW, qDiv, qDivW, qMod, qPow, qLt, qLe, qGt, qGe, qIsN, qNotN, qInt, qAbs, qMax2, qMin2, rI0, rI, rU, rEq, rNe, scal, qIxL, qIxT, qLenQ, qSetL, lstOf_upd, tupOf_upd, atI_0, atI_1, atI_2, atI_3, upd_same, upd_upd, ixL0, ixL1, ixL2, HO.lst.injEq, HO.tup.injEq, List.getElem?_cons_zero, List.getElem?_cons_succ, List.set_cons_zero, List.set_cons_succ, Option.some.injEq, exists_eq_left', exists_eq_left, exists_and_left, V.int.injEq, V.bl.injEq, V.ref.injEq, V.str.injEq, List.append_nil, List.cons.injEq, and_assoc, and_true, true_and, reduceCtorEq, false_and, and_false, false_or, or_false, exists_false, decide_true, decide_false, Bool.not_true, Bool.not_false, not_true_eq_false, not_false_eq_true, if_true, if_false, Bool.false_eq_true, decide_eq_true_eq, Bool.not_eq_true', decide_eq_false_iff_not, t_figures_of, t_figures_of_s1, hb0]
  refine ⟨by show 1 ≤ sizeLine; decide, fun p hp => ?_⟩
  show tWhile _ _ _ _ _
  -- behind some turns: the figures found so far, the rest m
  refine while_by (fun σ H' => ∃ (m : Nat) (ds : List Nat), σ = [some (.int m), some (.int b), some (.ref p)] ∧ H' = upd H p (.lst (ofNats (ds ++ [m % b]))) ∧ digs b n = ds ++ digs b m ∧ ds.length + (digs b m).length ≤ 1001)
    (fun σ _ => match σ with | some (.int m) :: _ => m.toNat | _ => 0)
    ⟨n, [], rfl, by simp [ofNats], rfl, by have := digs_len hb 1000 n hn; simpa using this⟩ ?_ ?_
  · rintro σ H' ⟨m, ds, rfl, rfl, e, hl⟩
    simp only [tSeq, tAsg_name, tAsg_sub, tAsg_tup, tRet, tRetN, tDrop, tIfS, tNext, tNever, tBreak, tCont, tAndV, tOrV, tNotV, tAnd, tOr, tNot, tB, tTest, tIf, tCall, tCons, tNil, tVar, tC, tOp, tUn, tTup, tLst, tRevL, tPar, tPar3, tAug, ipI, tCB, tFld, sFld, iList, iTup, iRng1, iRng2, iEnum, iEnumT, tChain, tSl, tPart, tNoPart, tBM, tCallKw, tTruth, tYes, qAdd, qSub, qMul, qMulW, qDiv, qDivW, qMod, qPow, qLt, qLe, qGt, qGe, qIsN, qNotN, qInt, qAbs, qMax2, qMin2, rI0, rI, rU, rEq, rNe, scal, qIxL, qIxT, qLenQ, qSetL, lstOf_upd, tupOf_upd, atI_0, atI_1, atI_2, atI_3, upd_same, upd_upd, ixL0, ixL1, ixL2, HO.lst.injEq, HO.tup.injEq, List.getElem?_cons_zero, List.getElem?_cons_succ, List.set_cons_zero, List.set_cons_succ, Option.some.injEq, exists_eq_left', exists_eq_left, exists_and_left, V.int.injEq, V.bl.injEq, V.ref.injEq, V.str.injEq, List.append_nil, List.cons.injEq, and_assoc, and_true, true_and, reduceCtorEq, false_and, and_false, false_or, or_false, exists_false, decide_true, decide_false, Bool.not_true, Bool.not_false, not_true_eq_false, not_false_eq_true, if_true, if_false, Bool.false_eq_true, decide_eq_true_eq, Bool.not_eq_true', decide_eq_false_iff_not, t_figures_of_w2]
    refine ite2 (fun c => ?_) (fun c => ?_)
    · have hm : b ≤ m := by simpa using c
      have hd := digs_ge hb hm
      have hm2 : (m : Int) / (b : Int) = ((m / b : Nat) : Int) := by simp
      have hm3 : (((m / b : Nat) : Int)) % (b : Int) = (((m / b) % b : Nat) : Int) := by simp
      have hz : (digs b m).length = (digs b (m / b)).length + 1 := by rw [hd]; simp
      simp only [tSeq, tAsg_name, tAsg_sub, tAsg_tup, tRet, tRetN, tDrop, tIfS, tNext, tNever, tBreak, tCont, tAndV, tOrV, tNotV, tAnd, tOr, tNot, tB, tTest, tIf, tCall, tCons, tNil, tVar, tC, tOp, tUn, tTup, tLst, tRevL, tPar, tPar3, tAug, ipI, tCB, tFld, sFld, iList, iTup, iRng1, iRng2, iEnum, iEnumT, tChain, tSl, tPart, tNoPart, tBM, tCallKw, tTruth, tYes, qAdd, qSub, qMul, qMulW, qDiv, qDivW, qMod, qPow, qLt, qLe, qGt, qGe, qIsN, qNotN, qInt, qAbs, qMax2, qMin2, rI0, rI, rU, rEq, rNe, scal, qIxL, qIxT, qLenQ, qSetL, lstOf_upd, tupOf_upd, atI_0, atI_1, atI_2, atI_3, upd_same, upd_upd, ixL0, ixL1, ixL2, HO.lst.injEq, HO.tup.injEq, List.getElem?_cons_zero, List.getElem?_cons_succ, List.set_cons_zero, List.set_cons_succ, Option.some.injEq, exists_eq_left', exists_eq_left, exists_and_left, V.int.injEq, V.bl.injEq, V.ref.injEq, V.str.injEq, List.append_nil, List.cons.injEq, and_assoc, and_true, true_and, reduceCtorEq, false_and, and_false, false_or, or_false, exists_false, decide_true, decide_false, Bool.not_true, Bool.not_false, not_true_eq_false, not_false_eq_true, if_true, if_false, Bool.false_eq_true, decide_eq_true_eq, Bool.not_eq_true', decide_eq_false_iff_not, t_figures_of_b5, t_figures_of_s3, t_figures_of_s4, hb0, hm2, hm3]
      refine ⟨⟨by omega, by omega⟩, .inl ⟨rfl, _, SqL.of upd_same⟩, p, _, _, rfl, rfl, upd_same, ?_, ?_⟩
      · rw [ofNats_length]; simp
        have : (sizeLine : Nat) = 16777216 := rfl
        omega
      · have e3 : ofNats (ds ++ [m % b] ++ [m / b % b]) = ofNats (ds ++ [m % b]) ++ [V.int ((m / b % b : Nat) : Int)] := by simp [ofNats]
        refine ⟨⟨m / b, rfl, ds ++ [m % b], by rw [e3, upd_upd], ?_, ?_⟩, ?_⟩
        · rw [e, hd]; simp
        · simp; omega
        · show (((m / b : Nat) : Int)).toNat < ((m : Nat) : Int).toNat
          have := Nat.div_lt_self (n := m) (k := b) (by omega) (by omega)
          omega
    · have hm : m < b := by simpa using c
      have hd := digs_lt hm
      simp only [tSeq, tAsg_name, tAsg_sub, tAsg_tup, tRet, tRetN, tDrop, tIfS, tNext, tNever, tBreak, tCont, tAndV, tOrV, tNotV, tAnd, tOr, tNot, tB, tTest, tIf, tCall, tCons, tNil, tVar, tC, tOp, tUn, tTup, tLst, tRevL, tPar, tPar3, tAug, ipI, tCB, tFld, sFld, iList, iTup, iRng1, iRng2, iEnum, iEnumT, tChain, tSl, tPart, tNoPart, tBM, tCallKw, tTruth, tYes, qAdd, qSub, qMul, qMulW, qDiv, qDivW, qMod, qPow, qLt, qLe, qGt, qGe, qIsN, qNotN, qInt, qAbs, qMax2, qMin2, rI0, rI, rU, rEq, rNe, scal, qIxL, qIxT, qLenQ, qSetL, lstOf_upd, tupOf_upd, atI_0, atI_1, atI_2, atI_3, upd_same, upd_upd, ixL0, ixL1, ixL2, HO.lst.injEq, HO.tup.injEq, List.getElem?_cons_zero, List.getElem?_cons_succ, List.set_cons_zero, List.set_cons_succ, Option.some.injEq, exists_eq_left', exists_eq_left, exists_and_left, V.int.injEq, V.bl.injEq, V.ref.injEq, V.str.injEq, List.append_nil, List.cons.injEq, and_assoc, and_true, true_and, reduceCtorEq, false_and, and_false, false_or, or_false, exists_false, decide_true, decide_false, Bool.not_true, Bool.not_false, not_true_eq_false, not_false_eq_true, if_true, if_false, Bool.false_eq_true, decide_eq_true_eq, Bool.not_eq_true', decide_eq_false_iff_not, t_figures_of_s7]
      refine ⟨_, SqL.of upd_same, fun r hr => q _ r ?_ ?_ ?_⟩
      · exact Same.newp (Same.newp (Same.refl H) hp) hr
      · exact (Same.newp (o := .lst _) (Same.refl H) hp).free hr
      · rw [upd_same, e, hd, ← ofNats_reverse]
  · intro σ H' Q1 Q2 hq h
    revert h
    simp only [tSeq, tAsg_name, tAsg_sub, tAsg_tup, tRet, tRetN, tDrop, tIfS, tNext, tNever, tBreak, tCont, tAndV, tOrV, tNotV, tAnd, tOr, tNot, tB, tTest, tIf, tCall, tCons, tNil, tVar, tC, tOp, tUn, tTup, tLst, tRevL, tPar, tPar3, tAug, ipI, tCB, tFld, sFld, iList, iTup, iRng1, iRng2, iEnum, iEnumT, tChain, tSl, tPart, tNoPart, tBM, tCallKw, tTruth, tYes, qAdd, qSub, qMul, qMulW, qDiv, qDivW, qMod, qPow, qLt, qLe, qGt, qGe, qIsN, qNotN, qInt, qAbs, qMax2, qMin2, rI0, rI, rU, rEq, rNe, scal, qIxL, qIxT, qLenQ, qSetL, lstOf_upd, tupOf_upd, atI_0, atI_1, atI_2, atI_3, upd_same, upd_upd, ixL0, ixL1, ixL2, HO.lst.injEq, HO.tup.injEq, List.getElem?_cons_zero, List.getElem?_cons_succ, List.set_cons_zero, List.set_cons_succ, Option.some.injEq, exists_eq_left', exists_eq_left, exists_and_left, V.int.injEq, V.bl.injEq, V.ref.injEq, V.str.injEq, List.append_nil, List.cons.injEq, and_assoc, and_true, true_and, reduceCtorEq, false_and, and_false, false_or, or_false, exists_false, decide_true, decide_false, Bool.not_true, Bool.not_false, not_true_eq_false, not_false_eq_true, if_true, if_false, Bool.false_eq_true, decide_eq_true_eq, Bool.not_eq_true', decide_eq_false_iff_not, t_figures_of_w2]
    rintro ⟨v, hv, w, hw, i, rfl, j, rfl, h⟩
    exact ⟨_, hv, _, hw, i, rfl, j, rfl, hq _ _ h⟩
theorem undig_step (b : Nat) (l : List Nat) (d : Nat) : undig b (l ++ [d]) = undig b l * b + d := by simp [undig]
theorem ofNats_get {l : List Nat} {i : Nat} {x : V} (h : (ofNats l)[i]? = some x) : ∃ d, l[i]? = some d ∧ x = .int (d : Nat) := by
  rw [ofNats, List.getElem?_map] at h
  cases e : l[i]? with
  | none => rw [e] at h; cases h
  | some d => rw [e] at h; exact ⟨d, rfl, (Option.some.inj h).symm⟩
theorem take_succ_get {α : Type} {l : List α} {i : Nat} {x : α} (h : l[i]? = some x) : l.take (i + 1) = l.take i ++ [x] := by
  rw [List.take_add_one, h]; rfl
theorem pure_number_of {K : PySem.W.Frag} (vs : List V) (H : Hp) (Q : VK) (E : XK) (h : sp_number_of K vs H Q E) : t_number_of K { nx := fun _ H' => Q .non H', rt := Q } (L2.start ["figures", "base", "found", "figure"] vs) H := by
  obtain ⟨p, ds, b, rfl, hs, hb, q⟩ := h
  show t_number_of K _ [some (.ref p), some (.int b), none, none] H
  simp only [tSeq, tAsg_name, tAsg_sub, tAsg_tup, tRet, tRetN, tDrop, tIfS, tNext, tNever, tBreak, tCont, tAndV, tOrV, tNotV, tAnd, tOr, tNot, tB, tTest, tIf, tCall, tCons, tNil, tVar, tC, tOp, tUn, tTup, tLst, tRevL, tPar, tPar3, tAug, ipI, tCB, tFld, sFld, iList, iTup, iRng1, iRng2, iEnum, iEnumT, tChain, tSl, tPart, tNoPart, tBM, tCallKw, tTruth, tYes, qAdd, qSub, qMul, qMulW, qDiv, qDivW, qMod, qPow, qLt, qLe, qGt, qGe, qIsN, qNotN, qInt, qAbs, qMax2, qMin2, rI0, rI, rU, rEq, rNe, scal, qIxL, qIxT, qLenQ, qSetL, lstOf_upd, tupOf_upd, atI_0, atI_1, atI_2, atI_3, upd_same, upd_upd, ixL0, ixL1, ixL2, HO.lst.injEq, HO.tup.injEq, List.getElem?_cons_zero, List.getElem?_cons_succ, List.set_cons_zero, List.set_cons_succ, Option.some.injEq, exists_eq_left', exists_eq_left, exists_and_left, V.int.injEq, V.bl.injEq, V.ref.injEq, V.str.injEq, List.append_nil, List.cons.injEq, and_assoc, and_true, true_and, reduceCtorEq, false_and, and_false, false_or, or_false, exists_false, decide_true, decide_false, Bool.not_true, Bool.not_false, not_true_eq_false, not_false_eq_true, if_true, if_false, Bool.false_eq_true, decide_eq_true_eq, Bool.not_eq_true', decide_eq_false_iff_not, t_number_of, t_number_of_s1, t_number_of_s4]
  refine for_v (xs := ofNats ds) rfl (fun i σ H' => H' = H ∧ ∃ v, σ = [some (.ref p), some (.int b), some (.int (undig b (ds.take i))), v]) ⟨rfl, none, rfl⟩ (fun i σ H' _ h => by rw [h.1]; exact hs) ?_ ?_
  · rintro i x σ H' hx ⟨rfl, v, rfl⟩
    obtain ⟨d, hd, rfl⟩ := ofNats_get hx
    simp only [tSeq, tAsg_name, tAsg_sub, tAsg_tup, tRet, tRetN, tDrop, tIfS, tNext, tNever, tBreak, tCont, tAndV, tOrV, tNotV, tAnd, tOr, tNot, tB, tTest, tIf, tCall, tCons, tNil, tVar, tC, tOp, tUn, tTup, tLst, tRevL, tPar, tPar3, tAug, ipI, tCB, tFld, sFld, iList, iTup, iRng1, iRng2, iEnum, iEnumT, tChain, tSl, tPart, tNoPart, tBM, tCallKw, tTruth, tYes, qAdd, qSub, qMul, qMulW, qDiv, qDivW, qMod, qPow, qLt, qLe, qGt, qGe, qIsN, qNotN, qInt, qAbs, qMax2, qMin2, rI0, rI, rU, rEq, rNe, scal, qIxL, qIxT, qLenQ, qSetL, lstOf_upd, tupOf_upd, atI_0, atI_1, atI_2, atI_3, upd_same, upd_upd, ixL0, ixL1, ixL2, HO.lst.injEq, HO.tup.injEq, List.getElem?_cons_zero, List.getElem?_cons_succ, List.set_cons_zero, List.set_cons_succ, Option.some.injEq, exists_eq_left', exists_eq_left, exists_and_left, V.int.injEq, V.bl.injEq, V.ref.injEq, V.str.injEq, List.append_nil, List.cons.injEq, and_assoc, and_true, true_and, reduceCtorEq, false_and, and_false, false_or, or_false, exists_false, decide_true, decide_false, Bool.not_true, Bool.not_false, not_true_eq_false, not_false_eq_true, if_true, if_false, Bool.false_eq_true, decide_eq_true_eq, Bool.not_eq_true', decide_eq_false_iff_not, gName_ap, gTup_ap, gCons_ap, gNil_ap, gSub_ap, t_number_of_b3, t_number_of_s2]
    exact ⟨.inr ⟨by omega, by omega⟩, by rw [take_succ_get hd, undig_step]; simp, _, rfl⟩
  · rintro σ H' ⟨rfl, v, rfl⟩
    simp only [tSeq, tAsg_name, tAsg_sub, tAsg_tup, tRet, tRetN, tDrop, tIfS, tNext, tNever, tBreak, tCont, tAndV, tOrV, tNotV, tAnd, tOr, tNot, tB, tTest, tIf, tCall, tCons, tNil, tVar, tC, tOp, tUn, tTup, tLst, tRevL, tPar, tPar3, tAug, ipI, tCB, tFld, sFld, iList, iTup, iRng1, iRng2, iEnum, iEnumT, tChain, tSl, tPart, tNoPart, tBM, tCallKw, tTruth, tYes, qAdd, qSub, qMul, qMulW, qDiv, qDivW, qMod, qPow, qLt, qLe, qGt, qGe, qIsN, qNotN, qInt, qAbs, qMax2, qMin2, rI0, rI, rU, rEq, rNe, scal, qIxL, qIxT, qLenQ, qSetL, lstOf_upd, tupOf_upd, atI_0, atI_1, atI_2, atI_3, upd_same, upd_upd, ixL0, ixL1, ixL2, HO.lst.injEq, HO.tup.injEq, List.getElem?_cons_zero, List.getElem?_cons_succ, List.set_cons_zero, List.set_cons_succ, Option.some.injEq, exists_eq_left', exists_eq_left, exists_and_left, V.int.injEq, V.bl.injEq, V.ref.injEq, V.str.injEq, List.append_nil, List.cons.injEq, and_assoc, and_true, true_and, reduceCtorEq, false_and, and_false, false_or, or_false, exists_false, decide_true, decide_false, Bool.not_true, Bool.not_false, not_true_eq_false, not_false_eq_true, if_true, if_false, Bool.false_eq_true, decide_eq_true_eq, Bool.not_eq_true', decide_eq_false_iff_not, t_number_of_s5]
    rw [ofNats_length, List.take_length]
    exact q

theorem pure__law_draw {K : PySem.W.Frag} (vs : List V) (H : Hp) (Q : VK) (E : XK) (h : sp__law_draw K vs H Q E) : t__law_draw K { nx := fun _ H' => Q .non H', rt := Q } (L2.start ["_law_pool", "_law_wide", "_law_digit", "_law_held", "_law_times"] vs) H := by
  obtain ⟨p, w, rfl, ⟨d, s, n, hp⟩, hw0, hw1, q⟩ := h
  show t__law_draw K _ [some (.ref p), some (.int w), none, none, none] H
  have hw : (0 : Int) < (w : Int) := by omega
  have hl := lstOf_of hp
  simp only [tSeq, tAsg_name, tAsg_sub, tAsg_tup, tRet, tRetN, tDrop, tIfS, tNext, tNever, tBreak, tCont, tAndV, tOrV, tNotV, tAnd, tOr, tNot, tB, tTest, tIf, tCall, tCons, tNil, tVar, tC, tOp, tUn, tTup, tLst, tRevL, tPar, tPar3, tAug, ipI, tCB, tFld, sFld, iList, iTup, iRng1, iRng2, iEnum, iEnumT, tChain, tSl, tPart, tNoPart, tBM, tCallKw, tTruth, tYes, qAdd, qSub, qMul, qMulW, qDiv, qDivW, qMod, qPow, qLt, qLe, qGt, qGe, qIsN, qNotN, qInt, qAbs, qMax2, qMin2, rI0, rI, rU, rEq, rNe, scal, qIxL, qIxT, qLenQ, qSetL, lstOf_upd, tupOf_upd, atI_0, atI_1, atI_2, atI_3, upd_same, upd_upd, ixL0, ixL1, ixL2, HO.lst.injEq, HO.tup.injEq, List.getElem?_cons_zero, List.getElem?_cons_succ, List.set_cons_zero, List.set_cons_succ, Option.some.injEq, exists_eq_left', exists_eq_left, exists_and_left, V.int.injEq, V.bl.injEq, V.ref.injEq, V.str.injEq, List.append_nil, List.cons.injEq, and_assoc, and_true, true_and, reduceCtorEq, false_and, and_false, false_or, or_false, exists_false, decide_true, decide_false, Bool.not_true, Bool.not_false, not_true_eq_false, not_false_eq_true, if_true, if_false, Bool.false_eq_true, decide_eq_true_eq, Bool.not_eq_true', decide_eq_false_iff_not, t__law_draw, t__law_draw_s1, hl, hp]
  simp only [tSeq, tAsg_name, tAsg_sub, tAsg_tup, tRet, tRetN, tDrop, tIfS, tNext, tNever, tBreak, tCont, tAndV, tOrV, tNotV, tAnd, tOr, tNot, tB, tTest, tIf, tCall, tCons, tNil, tVar, tC, tOp, tUn, tTup, tLst, tRevL, tPar, tPar3, tAug, ipI, tCB, tFld, sFld, iList, iTup, iRng1, iRng2, iEnum, iEnumT, tChain, tSl, tPart, tNoPart, tBM, tCallKw, tTruth, tYes, qAdd, qSub, qMul, qMulW, qDiv, qDivW, qMod, qPow, qLt, qLe, qGt, qGe, qIsN, qNotN, qInt, qAbs, qMax2, qMin2, rI0, rI, rU, rEq, rNe, scal, qIxL, qIxT, qLenQ, qSetL, lstOf_upd, tupOf_upd, atI_0, atI_1, atI_2, atI_3, upd_same, upd_upd, ixL0, ixL1, ixL2, HO.lst.injEq, HO.tup.injEq, List.getElem?_cons_zero, List.getElem?_cons_succ, List.set_cons_zero, List.set_cons_succ, Option.some.injEq, exists_eq_left', exists_eq_left, exists_and_left, V.int.injEq, V.bl.injEq, V.ref.injEq, V.str.injEq, List.append_nil, List.cons.injEq, and_assoc, and_true, true_and, reduceCtorEq, false_and, and_false, false_or, or_false, exists_false, decide_true, decide_false, Bool.not_true, Bool.not_false, not_true_eq_false, not_false_eq_true, if_true, if_false, Bool.false_eq_true, decide_eq_true_eq, Bool.not_eq_true', decide_eq_false_iff_not, t__law_draw_s6]
  refine ite2 (fun c => ?_) (fun c => ?_)
  · simp only [tSeq, tAsg_name, tAsg_sub, tAsg_tup, tRet, tRetN, tDrop, tIfS, tNext, tNever, tBreak, tCont, tAndV, tOrV, tNotV, tAnd, tOr, tNot, tB, tTest, tIf, tCall, tCons, tNil, tVar, tC, tOp, tUn, tTup, tLst, tRevL, tPar, tPar3, tAug, ipI, tCB, tFld, sFld, iList, iTup, iRng1, iRng2, iEnum, iEnumT, tChain, tSl, tPart, tNoPart, tBM, tCallKw, tTruth, tYes, qAdd, qSub, qMul, qMulW, qDiv, qDivW, qMod, qPow, qLt, qLe, qGt, qGe, qIsN, qNotN, qInt, qAbs, qMax2, qMin2, rI0, rI, rU, rEq, rNe, scal, qIxL, qIxT, qLenQ, qSetL, lstOf_upd, tupOf_upd, atI_0, atI_1, atI_2, atI_3, upd_same, upd_upd, ixL0, ixL1, ixL2, HO.lst.injEq, HO.tup.injEq, List.getElem?_cons_zero, List.getElem?_cons_succ, List.set_cons_zero, List.set_cons_succ, Option.some.injEq, exists_eq_left', exists_eq_left, exists_and_left, V.int.injEq, V.bl.injEq, V.ref.injEq, V.str.injEq, List.append_nil, List.cons.injEq, and_assoc, and_true, true_and, reduceCtorEq, false_and, and_false, false_or, or_false, exists_false, decide_true, decide_false, Bool.not_true, Bool.not_false, not_true_eq_false, not_false_eq_true, if_true, if_false, Bool.false_eq_true, decide_eq_true_eq, Bool.not_eq_true', decide_eq_false_iff_not, t__law_draw_b5, t__law_draw_s2, t__law_draw_s3, t__law_draw_s4, hw]
    refine ⟨⟨by omega, by omega⟩, ?_⟩
    have h0 := Int.emod_nonneg d (by omega : (w : Int) ≠ 0)
    have h1 := Int.emod_lt_of_pos d hw
    exact fin_nat h0 fun r hr => q r _ (by omega) ⟨_, _, _, rfl⟩
  · simp only [tSeq, tAsg_name, tAsg_sub, tAsg_tup, tRet, tRetN, tDrop, tIfS, tNext, tNever, tBreak, tCont, tAndV, tOrV, tNotV, tAnd, tOr, tNot, tB, tTest, tIf, tCall, tCons, tNil, tVar, tC, tOp, tUn, tTup, tLst, tRevL, tPar, tPar3, tAug, ipI, tCB, tFld, sFld, iList, iTup, iRng1, iRng2, iEnum, iEnumT, tChain, tSl, tPart, tNoPart, tBM, tCallKw, tTruth, tYes, qAdd, qSub, qMul, qMulW, qDiv, qDivW, qMod, qPow, qLt, qLe, qGt, qGe, qIsN, qNotN, qInt, qAbs, qMax2, qMin2, rI0, rI, rU, rEq, rNe, scal, qIxL, qIxT, qLenQ, qSetL, lstOf_upd, tupOf_upd, atI_0, atI_1, atI_2, atI_3, upd_same, upd_upd, ixL0, ixL1, ixL2, HO.lst.injEq, HO.tup.injEq, List.getElem?_cons_zero, List.getElem?_cons_succ, List.set_cons_zero, List.set_cons_succ, Option.some.injEq, exists_eq_left', exists_eq_left, exists_and_left, V.int.injEq, V.bl.injEq, V.ref.injEq, V.str.injEq, List.append_nil, List.cons.injEq, and_assoc, and_true, true_and, reduceCtorEq, false_and, and_false, false_or, or_false, exists_false, decide_true, decide_false, Bool.not_true, Bool.not_false, not_true_eq_false, not_false_eq_true, if_true, if_false, Bool.false_eq_true, decide_eq_true_eq, Bool.not_eq_true', decide_eq_false_iff_not, t__law_draw_s7, t__law_draw_s8, t__law_draw_s9, t__law_draw_s10, hw]
    have b1 : ∀ z : Int, 0 ≤ z % 43013 ∧ z % 43013 < 43013 := fun z => ⟨Int.emod_nonneg _ (by decide), Int.emod_lt_of_pos _ (by decide)⟩
    refine ⟨.inl ⟨by omega, by omega⟩, by decide, .inr ⟨?_, ?_⟩, .inl ⟨by omega, by omega⟩, by decide, ⟨by decide, by decide⟩, ?_⟩
    · have := b1 (s + 52009 * (n + 1)); omega
    · have := b1 (s + 52009 * (n + 1)); omega
    · generalize (((s + 52009 * (n + 1)) * ((s + 52009 * (n + 1)) % 43013 + 39019) + 13 * (n + 1) + 29) % 2147483563) = z
      have h0 := Int.emod_nonneg (z / 421) (by omega : (w : Int) ≠ 0)
      have h1 := Int.emod_lt_of_pos (z / 421) hw
      exact fin_nat h0 fun r hr => q r _ (by omega) ⟨_, _, _, rfl⟩
theorem pure__law_one {K : PySem.W.Frag} (vs : List V) (H : Hp) (Q : VK) (E : XK) (h : sp__law_one K vs H Q E) : t__law_one K { nx := fun _ H' => Q .non H', rt := Q } (L2.start ["_law_pool", "_law_some"] vs) H := by
  obtain ⟨p, a, xs, rfl, hp, ha, hne, h0, h1, q⟩ := h
  show t__law_one K _ [some (.ref p), some (.ref a)] H
  simp only [tSeq, tAsg_name, tAsg_sub, tAsg_tup, tRet, tRetN, tDrop, tIfS, tNext, tNever, tBreak, tCont, tAndV, tOrV, tNotV, tAnd, tOr, tNot, tB, tTest, tIf, tCall, tCons, tNil, tVar, tC, tOp, tUn, tTup, tLst, tRevL, tPar, tPar3, tAug, ipI, tCB, tFld, sFld, iList, iTup, iRng1, iRng2, iEnum, iEnumT, tChain, tSl, tPart, tNoPart, tBM, tCallKw, tTruth, tYes, qAdd, qSub, qMul, qMulW, qDiv, qDivW, qMod, qPow, qLt, qLe, qGt, qGe, qIsN, qNotN, qInt, qAbs, qMax2, qMin2, rI0, rI, rU, rEq, rNe, scal, qIxL, qIxT, qLenQ, qSetL, lstOf_upd, tupOf_upd, atI_0, atI_1, atI_2, atI_3, upd_same, upd_upd, ixL0, ixL1, ixL2, HO.lst.injEq, HO.tup.injEq, List.getElem?_cons_zero, List.getElem?_cons_succ, List.set_cons_zero, List.set_cons_succ, Option.some.injEq, exists_eq_left', exists_eq_left, exists_and_left, V.int.injEq, V.bl.injEq, V.ref.injEq, V.str.injEq, List.append_nil, List.cons.injEq, and_assoc, and_true, true_and, reduceCtorEq, false_and, and_false, false_or, or_false, exists_false, decide_true, decide_false, Bool.not_true, Bool.not_false, not_true_eq_false, not_false_eq_true, if_true, if_false, Bool.false_eq_true, decide_eq_true_eq, Bool.not_eq_true', decide_eq_false_iff_not, t__law_one, t__law_one_s1, sp__law_draw, sqOf_lst ha, List.append_nil]
  refine ⟨xs.length, rfl, hp, h0, h1, ?_⟩
  rintro r H' hr ⟨d, s, n, rfl⟩
  obtain ⟨v, hv⟩ : ∃ v, xs[r]? = some v := ⟨xs[r], List.getElem?_eq_getElem hr⟩
  have hl : lstOf (upd H p (.lst [.int d, .int s, .int n])) a = some xs := lstOf_of (by rw [upd_ne hne]; exact ha)
  simp only [tSeq, tAsg_name, tAsg_sub, tAsg_tup, tRet, tRetN, tDrop, tIfS, tNext, tNever, tBreak, tCont, tAndV, tOrV, tNotV, tAnd, tOr, tNot, tB, tTest, tIf, tCall, tCons, tNil, tVar, tC, tOp, tUn, tTup, tLst, tRevL, tPar, tPar3, tAug, ipI, tCB, tFld, sFld, iList, iTup, iRng1, iRng2, iEnum, iEnumT, tChain, tSl, tPart, tNoPart, tBM, tCallKw, tTruth, tYes, qAdd, qSub, qMul, qMulW, qDiv, qDivW, qMod, qPow, qLt, qLe, qGt, qGe, qIsN, qNotN, qInt, qAbs, qMax2, qMin2, rI0, rI, rU, rEq, rNe, scal, qIxL, qIxT, qLenQ, qSetL, lstOf_upd, tupOf_upd, atI_0, atI_1, atI_2, atI_3, upd_same, upd_upd, ixL0, ixL1, ixL2, HO.lst.injEq, HO.tup.injEq, List.getElem?_cons_zero, List.getElem?_cons_succ, List.set_cons_zero, List.set_cons_succ, Option.some.injEq, exists_eq_left', exists_eq_left, exists_and_left, V.int.injEq, V.bl.injEq, V.ref.injEq, V.str.injEq, List.append_nil, List.cons.injEq, and_assoc, and_true, true_and, reduceCtorEq, false_and, and_false, false_or, or_false, exists_false, decide_true, decide_false, Bool.not_true, Bool.not_false, not_true_eq_false, not_false_eq_true, if_true, if_false, Bool.false_eq_true, decide_eq_true_eq, Bool.not_eq_true', decide_eq_false_iff_not, hl, atI_nat hv]
  exact q r v _ hv ⟨d, s, n, rfl⟩
theorem pure__law_joined {K : PySem.W.Frag} (vs : List V) (H : Hp) (Q : VK) (E : XK) (h : sp__law_joined K vs H Q E) : t__law_joined K { nx := fun _ H' => Q .non H', rt := Q } (L2.start ["_law_row", "_law_b", "_law_found", "_law_each"] vs) H := by
  obtain ⟨p, ds, b, rfl, hs, hb, q⟩ := h
  show t__law_joined K _ [some (.ref p), some (.int b), none, none] H
  simp only [tSeq, tAsg_name, tAsg_sub, tAsg_tup, tRet, tRetN, tDrop, tIfS, tNext, tNever, tBreak, tCont, tAndV, tOrV, tNotV, tAnd, tOr, tNot, tB, tTest, tIf, tCall, tCons, tNil, tVar, tC, tOp, tUn, tTup, tLst, tRevL, tPar, tPar3, tAug, ipI, tCB, tFld, sFld, iList, iTup, iRng1, iRng2, iEnum, iEnumT, tChain, tSl, tPart, tNoPart, tBM, tCallKw, tTruth, tYes, qAdd, qSub, qMul, qMulW, qDiv, qDivW, qMod, qPow, qLt, qLe, qGt, qGe, qIsN, qNotN, qInt, qAbs, qMax2, qMin2, rI0, rI, rU, rEq, rNe, scal, qIxL, qIxT, qLenQ, qSetL, lstOf_upd, tupOf_upd, atI_0, atI_1, atI_2, atI_3, upd_same, upd_upd, ixL0, ixL1, ixL2, HO.lst.injEq, HO.tup.injEq, List.getElem?_cons_zero, List.getElem?_cons_succ, List.set_cons_zero, List.set_cons_succ, Option.some.injEq, exists_eq_left', exists_eq_left, exists_and_left, V.int.injEq, V.bl.injEq, V.ref.injEq, V.str.injEq, List.append_nil, List.cons.injEq, and_assoc, and_true, true_and, reduceCtorEq, false_and, and_false, false_or, or_false, exists_false, decide_true, decide_false, Bool.not_true, Bool.not_false, not_true_eq_false, not_false_eq_true, if_true, if_false, Bool.false_eq_true, decide_eq_true_eq, Bool.not_eq_true', decide_eq_false_iff_not, t__law_joined, t__law_joined_s1, t__law_joined_s4]
  refine for_v (xs := ofNats ds) rfl (fun i σ H' => H' = H ∧ ∃ v, σ = [some (.ref p), some (.int b), some (.int (undig b (ds.take i))), v]) ⟨rfl, none, rfl⟩ (fun i σ H' _ h => by rw [h.1]; exact hs) ?_ ?_
  · rintro i x σ H' hx ⟨rfl, v, rfl⟩
    obtain ⟨d, hd, rfl⟩ := ofNats_get hx
    simp only [tSeq, tAsg_name, tAsg_sub, tAsg_tup, tRet, tRetN, tDrop, tIfS, tNext, tNever, tBreak, tCont, tAndV, tOrV, tNotV, tAnd, tOr, tNot, tB, tTest, tIf, tCall, tCons, tNil, tVar, tC, tOp, tUn, tTup, tLst, tRevL, tPar, tPar3, tAug, ipI, tCB, tFld, sFld, iList, iTup, iRng1, iRng2, iEnum, iEnumT, tChain, tSl, tPart, tNoPart, tBM, tCallKw, tTruth, tYes, qAdd, qSub, qMul, qMulW, qDiv, qDivW, qMod, qPow, qLt, qLe, qGt, qGe, qIsN, qNotN, qInt, qAbs, qMax2, qMin2, rI0, rI, rU, rEq, rNe, scal, qIxL, qIxT, qLenQ, qSetL, lstOf_upd, tupOf_upd, atI_0, atI_1, atI_2, atI_3, upd_same, upd_upd, ixL0, ixL1, ixL2, HO.lst.injEq, HO.tup.injEq, List.getElem?_cons_zero, List.getElem?_cons_succ, List.set_cons_zero, List.set_cons_succ, Option.some.injEq, exists_eq_left', exists_eq_left, exists_and_left, V.int.injEq, V.bl.injEq, V.ref.injEq, V.str.injEq, List.append_nil, List.cons.injEq, and_assoc, and_true, true_and, reduceCtorEq, false_and, and_false, false_or, or_false, exists_false, decide_true, decide_false, Bool.not_true, Bool.not_false, not_true_eq_false, not_false_eq_true, if_true, if_false, Bool.false_eq_true, decide_eq_true_eq, Bool.not_eq_true', decide_eq_false_iff_not, gName_ap, gTup_ap, gCons_ap, gNil_ap, gSub_ap, t__law_joined_b3, t__law_joined_s2]
    exact ⟨.inr ⟨by omega, by omega⟩, by rw [take_succ_get hd, undig_step]; simp, _, rfl⟩
  · rintro σ H' ⟨rfl, v, rfl⟩
    simp only [tSeq, tAsg_name, tAsg_sub, tAsg_tup, tRet, tRetN, tDrop, tIfS, tNext, tNever, tBreak, tCont, tAndV, tOrV, tNotV, tAnd, tOr, tNot, tB, tTest, tIf, tCall, tCons, tNil, tVar, tC, tOp, tUn, tTup, tLst, tRevL, tPar, tPar3, tAug, ipI, tCB, tFld, sFld, iList, iTup, iRng1, iRng2, iEnum, iEnumT, tChain, tSl, tPart, tNoPart, tBM, tCallKw, tTruth, tYes, qAdd, qSub, qMul, qMulW, qDiv, qDivW, qMod, qPow, qLt, qLe, qGt, qGe, qIsN, qNotN, qInt, qAbs, qMax2, qMin2, rI0, rI, rU, rEq, rNe, scal, qIxL, qIxT, qLenQ, qSetL, lstOf_upd, tupOf_upd, atI_0, atI_1, atI_2, atI_3, upd_same, upd_upd, ixL0, ixL1, ixL2, HO.lst.injEq, HO.tup.injEq, List.getElem?_cons_zero, List.getElem?_cons_succ, List.set_cons_zero, List.set_cons_succ, Option.some.injEq, exists_eq_left', exists_eq_left, exists_and_left, V.int.injEq, V.bl.injEq, V.ref.injEq, V.str.injEq, List.append_nil, List.cons.injEq, and_assoc, and_true, true_and, reduceCtorEq, false_and, and_false, false_or, or_false, exists_false, decide_true, decide_false, Bool.not_true, Bool.not_false, not_true_eq_false, not_false_eq_true, if_true, if_false, Bool.false_eq_true, decide_eq_true_eq, Bool.not_eq_true', decide_eq_false_iff_not, t__law_joined_s5]
    rw [ofNats_length, List.take_length]
    exact q

theorem digs_ne {b n : Nat} : 0 < (digs b n).length := by
  unfold digs
  split <;> simp
theorem pure__law_digits {K : PySem.W.Frag} (vs : List V) (H : Hp) (Q : VK) (E : XK) (h : sp__law_digits K vs H Q E) : t__law_digits K { nx := fun _ H' => Q .non H', rt := Q } (L2.start ["_law_whole", "_law_b", "_law_found", "_law_rest", "_law_k"] vs) H := by
  obtain ⟨n, b, rfl, hb, hb10, hn, q⟩ := h
  show t__law_digits K _ [some (.int n), some (.int b), none, none, none] H
  have hb0 : (0 : Int) < (b : Int) := by omega
  have hlen := digs_len hb 205 n hn
  simp only [tSeq, tAsg_name, tAsg_sub, tAsg_tup, tRet, tRetN, tDrop, tIfS, tNext, tNever, tBreak, tCont, tAndV, tOrV, tNotV, tAnd, tOr, tNot, tB, tTest, tIf, tCall, tCons, tNil, tVar, tC, tOp, tUn, tTup, tLst, tRevL, tPar, tPar3, tAug, ipI, tCB, tFld, sFld, iList, iTup, iRng1, iRng2, iEnum, iEnumT, tChain, tSl, tPart, tNoPart, tBM, tCallKw, tTruth, tYes, qAdd, qSub, qMul, qMulW, qDiv, qDivW, qMod, qPow, qLt, qLe, qGt, qGe, qIsN, qNotN, qInt, qAbs, qMax2, qMin2, rI0, rI, rU, rEq, rNe, scal, qIxL, qIxT, qLenQ, qSetL, lstOf_upd, tupOf_upd, atI_0, atI_1, atI_2, atI_3, upd_same, upd_upd, ixL0, ixL1, ixL2, HO.lst.injEq, HO.tup.injEq, List.getElem?_cons_zero, List.getElem?_cons_succ, List.set_cons_zero, List.set_cons_succ, Option.some.injEq, exists_eq_left', exists_eq_left, exists_and_left, V.int.injEq, V.bl.injEq, V.ref.injEq, V.str.injEq, List.append_nil, List.cons.injEq, and_assoc, and_true, true_and, reduceCtorEq, false_and, and_false, false_or, or_false, exists_false, decide_true, decide_false, Bool.not_true, Bool.not_false, not_true_eq_false, not_false_eq_true, if_true, if_false, Bool.false_eq_true, decide_eq_true_eq, Bool.not_eq_true', decide_eq_false_iff_not, t__law_digits, t__law_digits_s1, hb0]
  refine ⟨Nat.zero_le _, fun p hp => ?_⟩
  simp only [tSeq, tAsg_name, tAsg_sub, tAsg_tup, tRet, tRetN, tDrop, tIfS, tNext, tNever, tBreak, tCont, tAndV, tOrV, tNotV, tAnd, tOr, tNot, tB, tTest, tIf, tCall, tCons, tNil, tVar, tC, tOp, tUn, tTup, tLst, tRevL, tPar, tPar3, tAug, ipI, tCB, tFld, sFld, iList, iTup, iRng1, iRng2, iEnum, iEnumT, tChain, tSl, tPart, tNoPart, tBM, tCallKw, tTruth, tYes, qAdd, qSub, qMul, qMulW, qDiv, qDivW, qMod, qPow, qLt, qLe, qGt, qGe, qIsN, qNotN, qInt, qAbs, qMax2, qMin2, rI0, rI, rU, rEq, rNe, scal, qIxL, qIxT, qLenQ, qSetL, lstOf_upd, tupOf_upd, atI_0, atI_1, atI_2, atI_3, upd_same, upd_upd, ixL0, ixL1, ixL2, HO.lst.injEq, HO.tup.injEq, List.getElem?_cons_zero, List.getElem?_cons_succ, List.set_cons_zero, List.set_cons_succ, Option.some.injEq, exists_eq_left', exists_eq_left, exists_and_left, V.int.injEq, V.bl.injEq, V.ref.injEq, V.str.injEq, List.append_nil, List.cons.injEq, and_assoc, and_true, true_and, reduceCtorEq, false_and, and_false, false_or, or_false, exists_false, decide_true, decide_false, Bool.not_true, Bool.not_false, not_true_eq_false, not_false_eq_true, if_true, if_false, Bool.false_eq_true, decide_eq_true_eq, Bool.not_eq_true', decide_eq_false_iff_not, t__law_digits_s8, tFor]
  refine ⟨by decide, by decide, lp_rng (n := 210) (fun i σ H' => ∃ (m : Nat) (ds : List Nat) (v : Option V), σ = [some (.int n), some (.int b), some (.ref p), some (.int m), v] ∧ H' = upd H p (.lst (ofNats ds)) ∧ digs b n = ds ++ digs b m ∧ ds.length = i)
    ⟨n, [], none, rfl, rfl, rfl, rfl⟩ ?_ ?_⟩
  · rintro i σ H' hi ⟨m, ds, v, rfl, rfl, e, hl⟩
    have hle : ds.length + (digs b m).length ≤ 206 := by rw [← List.length_append, ← e]; exact hlen
    simp only [tSeq, tAsg_name, tAsg_sub, tAsg_tup, tRet, tRetN, tDrop, tIfS, tNext, tNever, tBreak, tCont, tAndV, tOrV, tNotV, tAnd, tOr, tNot, tB, tTest, tIf, tCall, tCons, tNil, tVar, tC, tOp, tUn, tTup, tLst, tRevL, tPar, tPar3, tAug, ipI, tCB, tFld, sFld, iList, iTup, iRng1, iRng2, iEnum, iEnumT, tChain, tSl, tPart, tNoPart, tBM, tCallKw, tTruth, tYes, qAdd, qSub, qMul, qMulW, qDiv, qDivW, qMod, qPow, qLt, qLe, qGt, qGe, qIsN, qNotN, qInt, qAbs, qMax2, qMin2, rI0, rI, rU, rEq, rNe, scal, qIxL, qIxT, qLenQ, qSetL, lstOf_upd, tupOf_upd, atI_0, atI_1, atI_2, atI_3, upd_same, upd_upd, ixL0, ixL1, ixL2, HO.lst.injEq, HO.tup.injEq, List.getElem?_cons_zero, List.getElem?_cons_succ, List.set_cons_zero, List.set_cons_succ, Option.some.injEq, exists_eq_left', exists_eq_left, exists_and_left, V.int.injEq, V.bl.injEq, V.ref.injEq, V.str.injEq, List.append_nil, List.cons.injEq, and_assoc, and_true, true_and, reduceCtorEq, false_and, and_false, false_or, or_false, exists_false, decide_true, decide_false, Bool.not_true, Bool.not_false, not_true_eq_false, not_false_eq_true, if_true, if_false, Bool.false_eq_true, decide_eq_true_eq, Bool.not_eq_true', decide_eq_false_iff_not, gName_ap, gTup_ap, gCons_ap, gNil_ap, gSub_ap, t__law_digits_b7, t__law_digits_s2, hb0]
    refine ⟨.inl ⟨rfl, _, SqL.of upd_same⟩, p, _, _, rfl, rfl, upd_same, ?_, ?_⟩
    · rw [ofNats_length]
      have : (sizeLine : Nat) = 16777216 := rfl
      omega
    · have hm2 : (m : Int) / (b : Int) = ((m / b : Nat) : Int) := by simp
      have hc : (m : Int) / (b : Int) = 0 ↔ m / b = 0 := by rw [hm2]; omega
      simp only [tSeq, tAsg_name, tAsg_sub, tAsg_tup, tRet, tRetN, tDrop, tIfS, tNext, tNever, tBreak, tCont, tAndV, tOrV, tNotV, tAnd, tOr, tNot, tB, tTest, tIf, tCall, tCons, tNil, tVar, tC, tOp, tUn, tTup, tLst, tRevL, tPar, tPar3, tAug, ipI, tCB, tFld, sFld, iList, iTup, iRng1, iRng2, iEnum, iEnumT, tChain, tSl, tPart, tNoPart, tBM, tCallKw, tTruth, tYes, qAdd, qSub, qMul, qMulW, qDiv, qDivW, qMod, qPow, qLt, qLe, qGt, qGe, qIsN, qNotN, qInt, qAbs, qMax2, qMin2, rI0, rI, rU, rEq, rNe, scal, qIxL, qIxT, qLenQ, qSetL, lstOf_upd, tupOf_upd, atI_0, atI_1, atI_2, atI_3, upd_same, upd_upd, ixL0, ixL1, ixL2, HO.lst.injEq, HO.tup.injEq, List.getElem?_cons_zero, List.getElem?_cons_succ, List.set_cons_zero, List.set_cons_succ, Option.some.injEq, exists_eq_left', exists_eq_left, exists_and_left, V.int.injEq, V.bl.injEq, V.ref.injEq, V.str.injEq, List.append_nil, List.cons.injEq, and_assoc, and_true, true_and, reduceCtorEq, false_and, and_false, false_or, or_false, exists_false, decide_true, decide_false, Bool.not_true, Bool.not_false, not_true_eq_false, not_false_eq_true, if_true, if_false, Bool.false_eq_true, decide_eq_true_eq, Bool.not_eq_true', decide_eq_false_iff_not, t__law_digits_s3, hb0, hm2]
      refine ⟨⟨by omega, by omega⟩, ?_⟩
      simp only [tSeq, tAsg_name, tAsg_sub, tAsg_tup, tRet, tRetN, tDrop, tIfS, tNext, tNever, tBreak, tCont, tAndV, tOrV, tNotV, tAnd, tOr, tNot, tB, tTest, tIf, tCall, tCons, tNil, tVar, tC, tOp, tUn, tTup, tLst, tRevL, tPar, tPar3, tAug, ipI, tCB, tFld, sFld, iList, iTup, iRng1, iRng2, iEnum, iEnumT, tChain, tSl, tPart, tNoPart, tBM, tCallKw, tTruth, tYes, qAdd, qSub, qMul, qMulW, qDiv, qDivW, qMod, qPow, qLt, qLe, qGt, qGe, qIsN, qNotN, qInt, qAbs, qMax2, qMin2, rI0, rI, rU, rEq, rNe, scal, qIxL, qIxT, qLenQ, qSetL, lstOf_upd, tupOf_upd, atI_0, atI_1, atI_2, atI_3, upd_same, upd_upd, ixL0, ixL1, ixL2, HO.lst.injEq, HO.tup.injEq, List.getElem?_cons_zero, List.getElem?_cons_succ, List.set_cons_zero, List.set_cons_succ, Option.some.injEq, exists_eq_left', exists_eq_left, exists_and_left, V.int.injEq, V.bl.injEq, V.ref.injEq, V.str.injEq, List.append_nil, List.cons.injEq, and_assoc, and_true, true_and, reduceCtorEq, false_and, and_false, false_or, or_false, exists_false, decide_true, decide_false, Bool.not_true, Bool.not_false, not_true_eq_false, not_false_eq_true, if_true, if_false, Bool.false_eq_true, decide_eq_true_eq, Bool.not_eq_true', decide_eq_false_iff_not, t__law_digits_s6]
      refine ite2 (fun c => ?_) (fun c => ?_)
      · have hz : m / b = 0 := hc.mp (by simpa using c)
        have hm : m < b := by
          rcases Nat.div_eq_zero_iff.mp hz with z | z <;> omega
        simp only [tSeq, tAsg_name, tAsg_sub, tAsg_tup, tRet, tRetN, tDrop, tIfS, tNext, tNever, tBreak, tCont, tAndV, tOrV, tNotV, tAnd, tOr, tNot, tB, tTest, tIf, tCall, tCons, tNil, tVar, tC, tOp, tUn, tTup, tLst, tRevL, tPar, tPar3, tAug, ipI, tCB, tFld, sFld, iList, iTup, iRng1, iRng2, iEnum, iEnumT, tChain, tSl, tPart, tNoPart, tBM, tCallKw, tTruth, tYes, qAdd, qSub, qMul, qMulW, qDiv, qDivW, qMod, qPow, qLt, qLe, qGt, qGe, qIsN, qNotN, qInt, qAbs, qMax2, qMin2, rI0, rI, rU, rEq, rNe, scal, qIxL, qIxT, qLenQ, qSetL, lstOf_upd, tupOf_upd, atI_0, atI_1, atI_2, atI_3, upd_same, upd_upd, ixL0, ixL1, ixL2, HO.lst.injEq, HO.tup.injEq, List.getElem?_cons_zero, List.getElem?_cons_succ, List.set_cons_zero, List.set_cons_succ, Option.some.injEq, exists_eq_left', exists_eq_left, exists_and_left, V.int.injEq, V.bl.injEq, V.ref.injEq, V.str.injEq, List.append_nil, List.cons.injEq, and_assoc, and_true, true_and, reduceCtorEq, false_and, and_false, false_or, or_false, exists_false, decide_true, decide_false, Bool.not_true, Bool.not_false, not_true_eq_false, not_false_eq_true, if_true, if_false, Bool.false_eq_true, decide_eq_true_eq, Bool.not_eq_true', decide_eq_false_iff_not, t__law_digits_b5, t__law_digits_s4, t__law_digits_s9]
        refine ⟨_, SqL.of upd_same, fun r hr => q _ r ?_ ?_ ?_⟩
        · exact Same.newp (Same.newp (Same.refl H) hp) hr
        · exact (Same.newp (o := .lst _) (Same.refl H) hp).free hr
        · rw [upd_same, e, digs_lt hm, ofNats_reverse, ofNats_append]
          rfl
      · have hz : m / b ≠ 0 := fun z => (by simpa using c : ¬ ((m : Int) / (b : Int) = 0)) (hc.mpr z)
        have hm : b ≤ m := by
          refine Nat.le_of_not_lt fun z => hz (Nat.div_eq_of_lt z)
        refine ⟨m / b, rfl, ds ++ [m % b], ?_, ?_, by simp [hl]⟩
        · rw [ofNats_append]; rfl
        · rw [e, digs_ge hb hm]; simp
  · rintro σ H' ⟨m, ds, v, rfl, rfl, e, hl⟩
    have hle : ds.length + (digs b m).length ≤ 206 := by rw [← List.length_append, ← e]; exact hlen
    omega
theorem pure__law_back {K : PySem.W.Frag} (vs : List V) (H : Hp) (Q : VK) (E : XK) (h : sp__law_back K vs H Q E) : t__law_back K { nx := fun _ H' => Q .non H', rt := Q } (L2.start ["_law_whole", "_law_b"] vs) H := by
  obtain ⟨n, b, rfl, hb, hb10, hn, q⟩ := h
  show t__law_back K _ [some (.int n), some (.int b)] H
  simp only [tSeq, tAsg_name, tAsg_sub, tAsg_tup, tRet, tRetN, tDrop, tIfS, tNext, tNever, tBreak, tCont, tAndV, tOrV, tNotV, tAnd, tOr, tNot, tB, tTest, tIf, tCall, tCons, tNil, tVar, tC, tOp, tUn, tTup, tLst, tRevL, tPar, tPar3, tAug, ipI, tCB, tFld, sFld, iList, iTup, iRng1, iRng2, iEnum, iEnumT, tChain, tSl, tPart, tNoPart, tBM, tCallKw, tTruth, tYes, qAdd, qSub, qMul, qMulW, qDiv, qDivW, qMod, qPow, qLt, qLe, qGt, qGe, qIsN, qNotN, qInt, qAbs, qMax2, qMin2, rI0, rI, rU, rEq, rNe, scal, qIxL, qIxT, qLenQ, qSetL, lstOf_upd, tupOf_upd, atI_0, atI_1, atI_2, atI_3, upd_same, upd_upd, ixL0, ixL1, ixL2, HO.lst.injEq, HO.tup.injEq, List.getElem?_cons_zero, List.getElem?_cons_succ, List.set_cons_zero, List.set_cons_succ, Option.some.injEq, exists_eq_left', exists_eq_left, exists_and_left, V.int.injEq, V.bl.injEq, V.ref.injEq, V.str.injEq, List.append_nil, List.cons.injEq, and_assoc, and_true, true_and, reduceCtorEq, false_and, and_false, false_or, or_false, exists_false, decide_true, decide_false, Bool.not_true, Bool.not_false, not_true_eq_false, not_false_eq_true, if_true, if_false, Bool.false_eq_true, decide_eq_true_eq, Bool.not_eq_true', decide_eq_false_iff_not, t__law_back, t__law_back_s1, sp__law_digits, sp__law_joined, List.append_nil]
  refine ⟨n, rfl, b, rfl, hb, hb10, hn, fun H1 p s1 hp hl => ?_⟩
  refine ⟨_, SqL.of hl, fun r hr => ⟨(digs b n), b, rfl, SqL.of ?_, hb10, q _ (Same.newp s1 hr)⟩⟩
  rw [upd_same, ofNats_reverse, List.reverse_reverse]
theorem gcd_turn {n m l r i : Nat} (hr : r ≠ 0) (hg : Nat.gcd l r = Nat.gcd n m) (h : (i = 0 ∧ l = n ∧ r = m) ∨ (1 ≤ i ∧ r < l ∧ l * r * 2 ^ (i - 1) ≤ n * m)) :
    Nat.gcd r (l % r) = Nat.gcd n m ∧ 1 ≤ i + 1 ∧ l % r < r ∧ r * (l % r) * 2 ^ (i + 1 - 1) ≤ n * m := by
  have h1 : l % r < r := Nat.mod_lt _ (by omega)
  refine ⟨by rw [Nat.gcd_comm, ← Nat.gcd_rec, Nat.gcd_comm]; exact hg, by omega, h1, ?_⟩
  rcases h with ⟨rfl, rfl, rfl⟩ | ⟨hi, hlt, hp⟩
  · have := Nat.mod_le l r
    calc r * (l % r) * 2 ^ (0 + 1 - 1) = r * (l % r) := by simp
      _ ≤ r * l := Nat.mul_le_mul_left _ this
      _ = l * r := Nat.mul_comm _ _
  · have h2 : l % r * 2 ≤ l := by
      have e := Nat.div_add_mod l r
      have : 1 ≤ l / r := (Nat.le_div_iff_mul_le (by omega)).mpr (by omega)
      have : r * 1 ≤ r * (l / r) := Nat.mul_le_mul_left _ this
      omega
    have e3 : 2 ^ (i + 1 - 1) = 2 * 2 ^ (i - 1) := by
      obtain ⟨j, rfl⟩ : ∃ j, i = j + 1 := ⟨i - 1, by omega⟩
      simp [Nat.pow_succ, Nat.mul_comm]
    calc r * (l % r) * 2 ^ (i + 1 - 1) = r * (l % r * 2) * 2 ^ (i - 1) := by rw [e3]; simp [Nat.mul_assoc]
      _ ≤ r * l * 2 ^ (i - 1) := Nat.mul_le_mul_right _ (Nat.mul_le_mul_left _ h2)
      _ = l * r * 2 ^ (i - 1) := by rw [Nat.mul_comm r l]
      _ ≤ n * m := hp
theorem pure__law_shared {K : PySem.W.Frag} (vs : List V) (H : Hp) (Q : VK) (E : XK) (h : sp__law_shared K vs H Q E) : t__law_shared K { nx := fun _ H' => Q .non H', rt := Q } (L2.start ["_law_left", "_law_right_here", "_law_turn"] vs) H := by
  obtain ⟨n, m, rfl, hn, hm, q⟩ := h
  show t__law_shared K _ [some (.int n), some (.int m), none] H
  simp only [tSeq, tAsg_name, tAsg_sub, tAsg_tup, tRet, tRetN, tDrop, tIfS, tNext, tNever, tBreak, tCont, tAndV, tOrV, tNotV, tAnd, tOr, tNot, tB, tTest, tIf, tCall, tCons, tNil, tVar, tC, tOp, tUn, tTup, tLst, tRevL, tPar, tPar3, tAug, ipI, tCB, tFld, sFld, iList, iTup, iRng1, iRng2, iEnum, iEnumT, tChain, tSl, tPart, tNoPart, tBM, tCallKw, tTruth, tYes, qAdd, qSub, qMul, qMulW, qDiv, qDivW, qMod, qPow, qLt, qLe, qGt, qGe, qIsN, qNotN, qInt, qAbs, qMax2, qMin2, rI0, rI, rU, rEq, rNe, scal, qIxL, qIxT, qLenQ, qSetL, lstOf_upd, tupOf_upd, atI_0, atI_1, atI_2, atI_3, upd_same, upd_upd, ixL0, ixL1, ixL2, HO.lst.injEq, HO.tup.injEq, List.getElem?_cons_zero, List.getElem?_cons_succ, List.set_cons_zero, List.set_cons_succ, Option.some.injEq, exists_eq_left', exists_eq_left, exists_and_left, V.int.injEq, V.bl.injEq, V.ref.injEq, V.str.injEq, List.append_nil, List.cons.injEq, and_assoc, and_true, true_and, reduceCtorEq, false_and, and_false, false_or, or_false, exists_false, decide_true, decide_false, Bool.not_true, Bool.not_false, not_true_eq_false, not_false_eq_true, if_true, if_false, Bool.false_eq_true, decide_eq_true_eq, Bool.not_eq_true', decide_eq_false_iff_not, t__law_shared, t__law_shared_s6, tFor]
  refine ⟨by decide, by decide, lp_rng (n := 400) (fun i σ H' => H' = H ∧ ∃ (l r : Nat) (v : Option V), σ = [some (.int l), some (.int r), v] ∧ Nat.gcd l r = Nat.gcd n m ∧ ((i = 0 ∧ l = n ∧ r = m) ∨ (1 ≤ i ∧ r < l ∧ l * r * 2 ^ (i - 1) ≤ n * m)))
    ⟨rfl, n, m, none, rfl, rfl, .inl ⟨rfl, rfl, rfl⟩⟩ ?_ ?_⟩
  · rintro i σ H' hi ⟨rfl, l, r, v, rfl, hg, hp⟩
    simp only [tSeq, tAsg_name, tAsg_sub, tAsg_tup, tRet, tRetN, tDrop, tIfS, tNext, tNever, tBreak, tCont, tAndV, tOrV, tNotV, tAnd, tOr, tNot, tB, tTest, tIf, tCall, tCons, tNil, tVar, tC, tOp, tUn, tTup, tLst, tRevL, tPar, tPar3, tAug, ipI, tCB, tFld, sFld, iList, iTup, iRng1, iRng2, iEnum, iEnumT, tChain, tSl, tPart, tNoPart, tBM, tCallKw, tTruth, tYes, qAdd, qSub, qMul, qMulW, qDiv, qDivW, qMod, qPow, qLt, qLe, qGt, qGe, qIsN, qNotN, qInt, qAbs, qMax2, qMin2, rI0, rI, rU, rEq, rNe, scal, qIxL, qIxT, qLenQ, qSetL, lstOf_upd, tupOf_upd, atI_0, atI_1, atI_2, atI_3, upd_same, upd_upd, ixL0, ixL1, ixL2, HO.lst.injEq, HO.tup.injEq, List.getElem?_cons_zero, List.getElem?_cons_succ, List.set_cons_zero, List.set_cons_succ, Option.some.injEq, exists_eq_left', exists_eq_left, exists_and_left, V.int.injEq, V.bl.injEq, V.ref.injEq, V.str.injEq, List.append_nil, List.cons.injEq, and_assoc, and_true, true_and, reduceCtorEq, false_and, and_false, false_or, or_false, exists_false, decide_true, decide_false, Bool.not_true, Bool.not_false, not_true_eq_false, not_false_eq_true, if_true, if_false, Bool.false_eq_true, decide_eq_true_eq, Bool.not_eq_true', decide_eq_false_iff_not, gName_ap, gTup_ap, gCons_ap, gNil_ap, gSub_ap, t__law_shared_b5, t__law_shared_s3]
    refine ite2 (fun c => ?_) (fun c => ?_)
    · have hr : r = 0 := by simpa using c
      subst hr
      simp only [tSeq, tAsg_name, tAsg_sub, tAsg_tup, tRet, tRetN, tDrop, tIfS, tNext, tNever, tBreak, tCont, tAndV, tOrV, tNotV, tAnd, tOr, tNot, tB, tTest, tIf, tCall, tCons, tNil, tVar, tC, tOp, tUn, tTup, tLst, tRevL, tPar, tPar3, tAug, ipI, tCB, tFld, sFld, iList, iTup, iRng1, iRng2, iEnum, iEnumT, tChain, tSl, tPart, tNoPart, tBM, tCallKw, tTruth, tYes, qAdd, qSub, qMul, qMulW, qDiv, qDivW, qMod, qPow, qLt, qLe, qGt, qGe, qIsN, qNotN, qInt, qAbs, qMax2, qMin2, rI0, rI, rU, rEq, rNe, scal, qIxL, qIxT, qLenQ, qSetL, lstOf_upd, tupOf_upd, atI_0, atI_1, atI_2, atI_3, upd_same, upd_upd, ixL0, ixL1, ixL2, HO.lst.injEq, HO.tup.injEq, List.getElem?_cons_zero, List.getElem?_cons_succ, List.set_cons_zero, List.set_cons_succ, Option.some.injEq, exists_eq_left', exists_eq_left, exists_and_left, V.int.injEq, V.bl.injEq, V.ref.injEq, V.str.injEq, List.append_nil, List.cons.injEq, and_assoc, and_true, true_and, reduceCtorEq, false_and, and_false, false_or, or_false, exists_false, decide_true, decide_false, Bool.not_true, Bool.not_false, not_true_eq_false, not_false_eq_true, if_true, if_false, Bool.false_eq_true, decide_eq_true_eq, Bool.not_eq_true', decide_eq_false_iff_not, t__law_shared_b2, t__law_shared_s1, t__law_shared_s7]
      rw [← hg, Nat.gcd_zero_right] at q
      exact q
    · have hr : r ≠ 0 := by simpa using c
      have hr0 : (0 : Int) < (r : Int) := by omega
      have e : (l : Int) % (r : Int) = ((l % r : Nat) : Int) := by simp
      simp only [tSeq, tAsg_name, tAsg_sub, tAsg_tup, tRet, tRetN, tDrop, tIfS, tNext, tNever, tBreak, tCont, tAndV, tOrV, tNotV, tAnd, tOr, tNot, tB, tTest, tIf, tCall, tCons, tNil, tVar, tC, tOp, tUn, tTup, tLst, tRevL, tPar, tPar3, tAug, ipI, tCB, tFld, sFld, iList, iTup, iRng1, iRng2, iEnum, iEnumT, tChain, tSl, tPart, tNoPart, tBM, tCallKw, tTruth, tYes, qAdd, qSub, qMul, qMulW, qDiv, qDivW, qMod, qPow, qLt, qLe, qGt, qGe, qIsN, qNotN, qInt, qAbs, qMax2, qMin2, rI0, rI, rU, rEq, rNe, scal, qIxL, qIxT, qLenQ, qSetL, lstOf_upd, tupOf_upd, atI_0, atI_1, atI_2, atI_3, upd_same, upd_upd, ixL0, ixL1, ixL2, HO.lst.injEq, HO.tup.injEq, List.getElem?_cons_zero, List.getElem?_cons_succ, List.set_cons_zero, List.set_cons_succ, Option.some.injEq, exists_eq_left', exists_eq_left, exists_and_left, V.int.injEq, V.bl.injEq, V.ref.injEq, V.str.injEq, List.append_nil, List.cons.injEq, and_assoc, and_true, true_and, reduceCtorEq, false_and, and_false, false_or, or_false, exists_false, decide_true, decide_false, Bool.not_true, Bool.not_false, not_true_eq_false, not_false_eq_true, if_true, if_false, Bool.false_eq_true, decide_eq_true_eq, Bool.not_eq_true', decide_eq_false_iff_not, t__law_shared_s4, hr0, e]
      obtain ⟨g1, g2⟩ := gcd_turn hr hg hp
      exact ⟨r, rfl, l % r, rfl, g1, g2⟩
  · rintro σ H' ⟨rfl, l, r, v, rfl, hg, hp⟩
    have hr : r = 0 := by
      rcases hp with ⟨h0, _⟩ | ⟨_, h1, h2⟩
      · omega
      · have h3 : n * m < 2 ^ 200 * 2 ^ 199 := by
          rcases Nat.eq_zero_or_pos m with z | z
          · rw [z]; simp
          · exact Nat.lt_of_lt_of_le (Nat.mul_lt_mul_of_pos_right hn z) (Nat.mul_le_mul_left _ (Nat.le_of_lt hm))
        have h4 : l * r * 2 ^ 399 < 1 * 2 ^ 399 := by
          have e : (2 : Nat) ^ 200 * 2 ^ 199 = 1 * 2 ^ 399 := by rw [← Nat.pow_add, Nat.one_mul]
          rw [← e]
          exact Nat.lt_of_le_of_lt h2 h3
        have h5 := Nat.lt_of_mul_lt_mul_right h4
        rcases Nat.eq_zero_or_pos r with z | z
        · exact z
        · have : 1 * 1 ≤ l * r := Nat.mul_le_mul (by omega) z
          omega
    subst hr
    simp only [tSeq, tAsg_name, tAsg_sub, tAsg_tup, tRet, tRetN, tDrop, tIfS, tNext, tNever, tBreak, tCont, tAndV, tOrV, tNotV, tAnd, tOr, tNot, tB, tTest, tIf, tCall, tCons, tNil, tVar, tC, tOp, tUn, tTup, tLst, tRevL, tPar, tPar3, tAug, ipI, tCB, tFld, sFld, iList, iTup, iRng1, iRng2, iEnum, iEnumT, tChain, tSl, tPart, tNoPart, tBM, tCallKw, tTruth, tYes, qAdd, qSub, qMul, qMulW, qDiv, qDivW, qMod, qPow, qLt, qLe, qGt, qGe, qIsN, qNotN, qInt, qAbs, qMax2, qMin2, rI0, rI, rU, rEq, rNe, scal, qIxL, qIxT, qLenQ, qSetL, lstOf_upd, tupOf_upd, atI_0, atI_1, atI_2, atI_3, upd_same, upd_upd, ixL0, ixL1, ixL2, HO.lst.injEq, HO.tup.injEq, List.getElem?_cons_zero, List.getElem?_cons_succ, List.set_cons_zero, List.set_cons_succ, Option.some.injEq, exists_eq_left', exists_eq_left, exists_and_left, V.int.injEq, V.bl.injEq, V.ref.injEq, V.str.injEq, List.append_nil, List.cons.injEq, and_assoc, and_true, true_and, reduceCtorEq, false_and, and_false, false_or, or_false, exists_false, decide_true, decide_false, Bool.not_true, Bool.not_false, not_true_eq_false, not_false_eq_true, if_true, if_false, Bool.false_eq_true, decide_eq_true_eq, Bool.not_eq_true', decide_eq_false_iff_not, t__law_shared_s7]
    rw [← hg, Nat.gcd_zero_right] at q
    exact q

/-- all but the object at p is as it was -/
def But (p : Addr) (H H' : Hp) : Prop := ∀ b o, b ≠ p → H b = some o → H' b = some o
theorem But.refl (p : Addr) (H : Hp) : But p H H := fun _ _ _ h => h
theorem But.trans {p : Addr} {H H1 H2 : Hp} (a : But p H H1) (b : But p H1 H2) : But p H H2 := fun c o n h => b c o n (a c o n h)
theorem But.new {p r : Addr} {H H' : Hp} {o : HO} (a : But p H H') (hr : H' r = none) : But p H (upd H' r o) := fun b u n h => by
  have h' := a b u n h
  rw [upd_ne (ne_of_none h' hr)]
  exact h'
theorem But.at {p : Addr} {H H' : Hp} {o : HO} (a : But p H H') : But p H (upd H' p o) := fun b u n h => by
  rw [upd_ne n]
  exact a b u n h
theorem Same.but {p : Addr} {H H' : Hp} (a : Same H H') : But p H H' := fun b o _ h => a b o h
theorem But.same {p : Addr} {H H' : Hp} (a : But p H H') (hp : H p = none) : Same H H' := fun b o h => a b o (ne_of_none h hp) h
theorem But.free {p r : Addr} {H H' : Hp} (a : But p H H') (hr : H' r = none) (n : r ≠ p) : H r = none := by
  cases q : H r with
  | none => rfl
  | some o => rw [a r o n q] at hr; cases hr
/-- tuples at addresses -/
def Rows (H : Hp) (rs : List Addr) (xss : List (List V)) : Prop := rs.length = xss.length ∧ ∀ (i : Nat) (r : Addr) (xs : List V), rs[i]? = some r → xss[i]? = some xs → H r = some (.tup xs)
theorem Rows.nil {H : Hp} : Rows H [] [] := ⟨rfl, fun i r xs h => by simp at h⟩
theorem Rows.mono {H H' : Hp} {rs : List Addr} {xss : List (List V)} (h : Rows H rs xss) (k : ∀ r xs, r ∈ rs → H r = some (.tup xs) → H' r = some (.tup xs)) : Rows H' rs xss :=
  ⟨h.1, fun i r xs h1 h2 => k r xs (List.mem_of_getElem? h1) (h.2 i r xs h1 h2)⟩
theorem Rows.snoc {H : Hp} {rs : List Addr} {xss : List (List V)} {r : Addr} {xs : List V} (h : Rows H rs xss) (hr : H r = some (.tup xs)) : Rows H (rs ++ [r]) (xss ++ [xs]) := by
  refine ⟨by simp [h.1], fun i q ys h1 h2 => ?_⟩
  by_cases c : i < rs.length
  · rw [List.getElem?_append_left c] at h1
    rw [List.getElem?_append_left (by rw [← h.1]; exact c)] at h2
    exact h.2 i q ys h1 h2
  · rw [List.getElem?_append_right (by omega)] at h1
    rw [List.getElem?_append_right (by rw [← h.1]; omega), ← h.1] at h2
    have e : i - rs.length = 0 := by
      rcases Nat.eq_zero_or_pos (i - rs.length) with z | z
      · exact z
      · obtain ⟨j, hj⟩ : ∃ j, i - rs.length = j + 1 := ⟨i - rs.length - 1, by omega⟩
        rw [hj] at h1
        simp at h1
    rw [e] at h1 h2
    simp at h1 h2
    rw [← h1, ← h2]
    exact hr
theorem Rows.mem {H : Hp} {rs : List Addr} {xss : List (List V)} (h : Rows H rs xss) {r : Addr} (hr : r ∈ rs) : ∃ xs, H r = some (.tup xs) := by
  obtain ⟨i, hi⟩ := List.getElem?_of_mem hr
  have hlt := (List.getElem?_eq_some_iff.mp hi).1
  obtain ⟨xs, hx⟩ : ∃ xs, xss[i]? = some xs := ⟨xss[i]'(h.1 ▸ hlt), List.getElem?_eq_getElem _⟩
  exact ⟨xs, h.2 i r xs hi hx⟩
theorem refs_get {rs : List Addr} {i : Nat} {x : V} (h : (rs.map V.ref)[i]? = some x) : ∃ r, rs[i]? = some r ∧ x = .ref r := by
  rw [List.getElem?_map] at h
  cases e : rs[i]? with
  | none => rw [e] at h; cases h
  | some r => rw [e] at h; exact ⟨r, rfl, (Option.some.inj h).symm⟩
theorem digs_all {b : Nat} (hb : 2 ≤ b) : ∀ (k n : Nat), n < 2 ^ k → ∀ d ∈ digs b n, d < b := by
  intro k
  induction k with
  | zero =>
    intro n hn d hd
    rw [digs_lt (by omega)] at hd
    have : d = n % b := by simpa using hd
    rw [this]; exact Nat.mod_lt _ (by omega)
  | succ k ih =>
    intro n hn d hd
    by_cases h : n < b
    · rw [digs_lt h] at hd
      have : d = n % b := by simpa using hd
      rw [this]; exact Nat.mod_lt _ (by omega)
    · rw [digs_ge hb (by omega)] at hd
      rcases List.mem_cons.mp hd with rfl | hd
      · exact Nat.mod_lt _ (by omega)
      · refine ih (n / b) ?_ d hd
        rw [Nat.div_lt_iff_lt_mul (by omega)]
        have : 2 ^ k * 2 ≤ 2 ^ k * b := Nat.mul_le_mul_left _ hb
        rw [Nat.pow_succ] at hn
        omega
theorem undig_lt {b : Nat} : ∀ (l : List Nat), (∀ d ∈ l, d < b) → ∀ a, l.foldl (fun a d => a * b + d) a < (a + 1) * b ^ l.length
  | [], _, a => by simp
  | d :: l, h, a => by
    have ih := undig_lt l (fun x hx => h x (List.mem_cons_of_mem _ hx)) (a * b + d)
    have hd := h d List.mem_cons_self
    rw [List.foldl_cons, List.length_cons]
    refine Nat.lt_of_lt_of_le ih ?_
    have e : (a + 1) * b ^ (l.length + 1) = (a * b + b) * b ^ l.length := by rw [Nat.pow_succ, ← Nat.add_one_mul, Nat.mul_comm (b ^ l.length) b, Nat.mul_assoc]
    rw [e]
    exact Nat.mul_le_mul_right _ (by omega)
theorem digs_pow {b : Nat} (hb : 2 ≤ b) : ∀ (k n : Nat), n < 2 ^ k → 1 ≤ n → b ^ ((digs b n).length - 1) ≤ n := by
  intro k
  induction k with
  | zero => intro n hn h1; omega
  | succ k ih =>
    intro n hn h1
    by_cases h : n < b
    · rw [digs_lt h]; simpa using h1
    · rw [digs_ge hb (by omega), List.length_cons, Nat.add_sub_cancel]
      have hq : 1 ≤ n / b := (Nat.le_div_iff_mul_le (by omega)).mpr (by omega)
      have hn2 : n / b < 2 ^ k := by
        rw [Nat.div_lt_iff_lt_mul (by omega)]
        have : 2 ^ k * 2 ≤ 2 ^ k * b := Nat.mul_le_mul_left _ hb
        rw [Nat.pow_succ] at hn
        omega
      have i1 := ih (n / b) hn2 hq
      have hl := digs_ne (b := b) (n := n / b)
      have e : (digs b (n / b)).length = (digs b (n / b)).length - 1 + 1 := by omega
      rw [e, Nat.pow_succ]
      exact Nat.le_trans (Nat.mul_le_mul_right _ i1) (Nat.div_mul_le_self n b)
theorem back_lt {b n k : Nat} (hb : 2 ≤ b) (hn : n < 2 ^ k) (h1 : 1 ≤ n) : back b n < b * n := by
  have h := undig_lt (digs b n) (digs_all hb k n hn) 0
  have hp := digs_pow hb k n hn h1
  have hl := digs_ne (b := b) (n := n)
  have e : (digs b n).length = (digs b n).length - 1 + 1 := by omega
  rw [e, Nat.pow_succ] at h
  refine Nat.lt_of_lt_of_le h ?_
  rw [Nat.zero_add, Nat.one_mul, Nat.mul_comm]
  exact Nat.mul_le_mul_left _ hp
theorem pure__law_pair {K : PySem.W.Frag} (vs : List V) (H : Hp) (Q : VK) (E : XK) (h : sp__law_pair K vs H Q E) : t__law_pair K { nx := fun _ H' => Q .non H', rt := Q } (L2.start ["_law_whole", "_law_b", "_law_far", "_law_both"] vs) H := by
  obtain ⟨n, b, rfl, hb, hb10, h1, hn, q⟩ := h
  show t__law_pair K _ [some (.int n), some (.int b), none, none] H
  have hn1 : n < 2 ^ 205 := Nat.lt_of_lt_of_le hn (by decide)
  simp only [tSeq, tAsg_name, tAsg_sub, tAsg_tup, tRet, tRetN, tDrop, tIfS, tNext, tNever, tBreak, tCont, tAndV, tOrV, tNotV, tAnd, tOr, tNot, tB, tTest, tIf, tCall, tCons, tNil, tVar, tC, tOp, tUn, tTup, tLst, tRevL, tPar, tPar3, tAug, ipI, tCB, tFld, sFld, iList, iTup, iRng1, iRng2, iEnum, iEnumT, tChain, tSl, tPart, tNoPart, tBM, tCallKw, tTruth, tYes, qAdd, qSub, qMul, qMulW, qDiv, qDivW, qMod, qPow, qLt, qLe, qGt, qGe, qIsN, qNotN, qInt, qAbs, qMax2, qMin2, rI0, rI, rU, rEq, rNe, scal, qIxL, qIxT, qLenQ, qSetL, lstOf_upd, tupOf_upd, atI_0, atI_1, atI_2, atI_3, upd_same, upd_upd, ixL0, ixL1, ixL2, HO.lst.injEq, HO.tup.injEq, List.getElem?_cons_zero, List.getElem?_cons_succ, List.set_cons_zero, List.set_cons_succ, Option.some.injEq, exists_eq_left', exists_eq_left, exists_and_left, V.int.injEq, V.bl.injEq, V.ref.injEq, V.str.injEq, List.append_nil, List.cons.injEq, and_assoc, and_true, true_and, reduceCtorEq, false_and, and_false, false_or, or_false, exists_false, decide_true, decide_false, Bool.not_true, Bool.not_false, not_true_eq_false, not_false_eq_true, if_true, if_false, Bool.false_eq_true, decide_eq_true_eq, Bool.not_eq_true', decide_eq_false_iff_not, t__law_pair, t__law_pair_s1, sp__law_back, List.append_nil]
  refine ⟨n, rfl, b, rfl, hb, hb10, hn1, fun H1 s1 => ?_⟩
  simp only [tSeq, tAsg_name, tAsg_sub, tAsg_tup, tRet, tRetN, tDrop, tIfS, tNext, tNever, tBreak, tCont, tAndV, tOrV, tNotV, tAnd, tOr, tNot, tB, tTest, tIf, tCall, tCons, tNil, tVar, tC, tOp, tUn, tTup, tLst, tRevL, tPar, tPar3, tAug, ipI, tCB, tFld, sFld, iList, iTup, iRng1, iRng2, iEnum, iEnumT, tChain, tSl, tPart, tNoPart, tBM, tCallKw, tTruth, tYes, qAdd, qSub, qMul, qMulW, qDiv, qDivW, qMod, qPow, qLt, qLe, qGt, qGe, qIsN, qNotN, qInt, qAbs, qMax2, qMin2, rI0, rI, rU, rEq, rNe, scal, qIxL, qIxT, qLenQ, qSetL, lstOf_upd, tupOf_upd, atI_0, atI_1, atI_2, atI_3, upd_same, upd_upd, ixL0, ixL1, ixL2, HO.lst.injEq, HO.tup.injEq, List.getElem?_cons_zero, List.getElem?_cons_succ, List.set_cons_zero, List.set_cons_succ, Option.some.injEq, exists_eq_left', exists_eq_left, exists_and_left, V.int.injEq, V.bl.injEq, V.ref.injEq, V.str.injEq, List.append_nil, List.cons.injEq, and_assoc, and_true, true_and, reduceCtorEq, false_and, and_false, false_or, or_false, exists_false, decide_true, decide_false, Bool.not_true, Bool.not_false, not_true_eq_false, not_false_eq_true, if_true, if_false, Bool.false_eq_true, decide_eq_true_eq, Bool.not_eq_true', decide_eq_false_iff_not, t__law_pair_s2, sp__law_shared, List.append_nil]
  have hbk : back b n < 2 ^ 199 := by
    have h3 := back_lt hb hn1 h1
    have h4 : b * n ≤ 10 * n := Nat.mul_le_mul_right _ hb10
    have h5 : 10 * 10 ^ 57 < 2 ^ 199 := by decide
    omega
  have hg : 0 < Nat.gcd n (back b n) := Nat.gcd_pos_of_pos_left _ h1
  refine ⟨n, rfl, back b n, rfl, by omega, hbk, ?_⟩
  have e1 : ((back b n : Nat) : Int) / ((Nat.gcd n (back b n) : Nat) : Int) = ((pairOf b n).1 : Int) := by simp [pairOf]
  have e2 : ((n : Nat) : Int) / ((Nat.gcd n (back b n) : Nat) : Int) = ((pairOf b n).2 : Int) := by simp [pairOf]
  have cd : ∀ x : Int, CDivW x ((Nat.gcd n (back b n) : Nat) : Int) := fun x => wide_div (b := 205) (by omega) (by
    have : Nat.gcd n (back b n) ≤ n := Nat.gcd_le_left _ h1
    omega) (by decide) (by decide)
  simp only [tSeq, tAsg_name, tAsg_sub, tAsg_tup, tRet, tRetN, tDrop, tIfS, tNext, tNever, tBreak, tCont, tAndV, tOrV, tNotV, tAnd, tOr, tNot, tB, tTest, tIf, tCall, tCons, tNil, tVar, tC, tOp, tUn, tTup, tLst, tRevL, tPar, tPar3, tAug, ipI, tCB, tFld, sFld, iList, iTup, iRng1, iRng2, iEnum, iEnumT, tChain, tSl, tPart, tNoPart, tBM, tCallKw, tTruth, tYes, qAdd, qSub, qMul, qMulW, qDiv, qDivW, qMod, qPow, qLt, qLe, qGt, qGe, qIsN, qNotN, qInt, qAbs, qMax2, qMin2, rI0, rI, rU, rEq, rNe, scal, qIxL, qIxT, qLenQ, qSetL, lstOf_upd, tupOf_upd, atI_0, atI_1, atI_2, atI_3, upd_same, upd_upd, ixL0, ixL1, ixL2, HO.lst.injEq, HO.tup.injEq, List.getElem?_cons_zero, List.getElem?_cons_succ, List.set_cons_zero, List.set_cons_succ, Option.some.injEq, exists_eq_left', exists_eq_left, exists_and_left, V.int.injEq, V.bl.injEq, V.ref.injEq, V.str.injEq, List.append_nil, List.cons.injEq, and_assoc, and_true, true_and, reduceCtorEq, false_and, and_false, false_or, or_false, exists_false, decide_true, decide_false, Bool.not_true, Bool.not_false, not_true_eq_false, not_false_eq_true, if_true, if_false, Bool.false_eq_true, decide_eq_true_eq, Bool.not_eq_true', decide_eq_false_iff_not, t__law_pair_s3, e1, e2]
  exact ⟨cd _, cd _, by show 2 ≤ sizeLine; decide, fun p hp => q _ p (Same.newp s1 hp) upd_same⟩
theorem ten60 : ((10 : Int) ^ 60) = 1000000000000000000000000000000000000000000000000000000000000 := by decide
theorem pure_check_numbers {K : PySem.W.Frag} (vs : List V) (H : Hp) (Q : VK) (E : XK) (h : sp_check_numbers K vs H Q E) : t_check_numbers K { nx := fun _ H' => Q .non H', rt := Q } (L2.start ["numbers", "index", "number"] vs) H := by
  obtain ⟨p, ns, rfl, hp, ⟨h1, h2, h3⟩, q⟩ := h
  show t_check_numbers K _ [some (.ref p), none, none] H
  have c1 : (1 : Int) ≤ ((ofNats ns).length : Int) := by rw [ofNats_length]; omega
  have c2 : ((ofNats ns).length : Int) ≤ 20 := by rw [ofNats_length]; omega
  simp only [tSeq, tAsg_name, tAsg_sub, tAsg_tup, tRet, tRetN, tDrop, tIfS, tNext, tNever, tBreak, tCont, tAndV, tOrV, tNotV, tAnd, tOr, tNot, tB, tTest, tIf, tCall, tCons, tNil, tVar, tC, tOp, tUn, tTup, tLst, tRevL, tPar, tPar3, tAug, ipI, tCB, tFld, sFld, iList, iTup, iRng1, iRng2, iEnum, iEnumT, tChain, tSl, tPart, tNoPart, tBM, tCallKw, tTruth, tYes, qAdd, qSub, qMul, qMulW, qDiv, qDivW, qMod, qPow, qLt, qLe, qGt, qGe, qIsN, qNotN, qInt, qAbs, qMax2, qMin2, rI0, rI, rU, rEq, rNe, scal, qIxL, qIxT, qLenQ, qSetL, lstOf_upd, tupOf_upd, atI_0, atI_1, atI_2, atI_3, upd_same, upd_upd, ixL0, ixL1, ixL2, HO.lst.injEq, HO.tup.injEq, List.getElem?_cons_zero, List.getElem?_cons_succ, List.set_cons_zero, List.set_cons_succ, Option.some.injEq, exists_eq_left', exists_eq_left, exists_and_left, V.int.injEq, V.bl.injEq, V.ref.injEq, V.str.injEq, List.append_nil, List.cons.injEq, and_assoc, and_true, true_and, reduceCtorEq, false_and, and_false, false_or, or_false, exists_false, decide_true, decide_false, Bool.not_true, Bool.not_false, not_true_eq_false, not_false_eq_true, if_true, if_false, Bool.false_eq_true, decide_eq_true_eq, Bool.not_eq_true', decide_eq_false_iff_not, t_check_numbers, t_check_numbers_s1, sqOf_tup hp, c1, c2]
  refine ⟨_, _, _, _, _, rfl, .ty _, .base (.tup hp), kit_ty (by decide +kernel), true, rfl, ?_⟩
  simp only [tSeq, tAsg_name, tAsg_sub, tAsg_tup, tRet, tRetN, tDrop, tIfS, tNext, tNever, tBreak, tCont, tAndV, tOrV, tNotV, tAnd, tOr, tNot, tB, tTest, tIf, tCall, tCons, tNil, tVar, tC, tOp, tUn, tTup, tLst, tRevL, tPar, tPar3, tAug, ipI, tCB, tFld, sFld, iList, iTup, iRng1, iRng2, iEnum, iEnumT, tChain, tSl, tPart, tNoPart, tBM, tCallKw, tTruth, tYes, qAdd, qSub, qMul, qMulW, qDiv, qDivW, qMod, qPow, qLt, qLe, qGt, qGe, qIsN, qNotN, qInt, qAbs, qMax2, qMin2, rI0, rI, rU, rEq, rNe, scal, qIxL, qIxT, qLenQ, qSetL, lstOf_upd, tupOf_upd, atI_0, atI_1, atI_2, atI_3, upd_same, upd_upd, ixL0, ixL1, ixL2, HO.lst.injEq, HO.tup.injEq, List.getElem?_cons_zero, List.getElem?_cons_succ, List.set_cons_zero, List.set_cons_succ, Option.some.injEq, exists_eq_left', exists_eq_left, exists_and_left, V.int.injEq, V.bl.injEq, V.ref.injEq, V.str.injEq, List.append_nil, List.cons.injEq, and_assoc, and_true, true_and, reduceCtorEq, false_and, and_false, false_or, or_false, exists_false, decide_true, decide_false, Bool.not_true, Bool.not_false, not_true_eq_false, not_false_eq_true, if_true, if_false, Bool.false_eq_true, decide_eq_true_eq, Bool.not_eq_true', decide_eq_false_iff_not, sqOf_tup hp, c1, c2, t_check_numbers_s4, tFor]
  refine ⟨_, SqT.of hp, lp_enumT (xs := ofNats ns) (fun i σ H' => Same H H' ∧ ∃ v w, σ = [some (.ref p), v, w]) ⟨Same.refl H, none, none, rfl⟩ (fun i σ H' _ h => SqT.of (h.1 _ _ hp)) ?_ ?_⟩
  · rintro i x T σ H' hx ⟨s1, v, w, rfl⟩ hT
    obtain ⟨n, hn, rfl⟩ := ofNats_get hx
    obtain ⟨g1, g2⟩ := h3 n (List.mem_of_getElem? hn)
    simp only [tSeq, tAsg_name, tAsg_sub, tAsg_tup, tRet, tRetN, tDrop, tIfS, tNext, tNever, tBreak, tCont, tAndV, tOrV, tNotV, tAnd, tOr, tNot, tB, tTest, tIf, tCall, tCons, tNil, tVar, tC, tOp, tUn, tTup, tLst, tRevL, tPar, tPar3, tAug, ipI, tCB, tFld, sFld, iList, iTup, iRng1, iRng2, iEnum, iEnumT, tChain, tSl, tPart, tNoPart, tBM, tCallKw, tTruth, tYes, qAdd, qSub, qMul, qMulW, qDiv, qDivW, qMod, qPow, qLt, qLe, qGt, qGe, qIsN, qNotN, qInt, qAbs, qMax2, qMin2, rI0, rI, rU, rEq, rNe, scal, qIxL, qIxT, qLenQ, qSetL, lstOf_upd, tupOf_upd, atI_0, atI_1, atI_2, atI_3, upd_same, upd_upd, ixL0, ixL1, ixL2, HO.lst.injEq, HO.tup.injEq, List.getElem?_cons_zero, List.getElem?_cons_succ, List.set_cons_zero, List.set_cons_succ, Option.some.injEq, exists_eq_left', exists_eq_left, exists_and_left, V.int.injEq, V.bl.injEq, V.ref.injEq, V.str.injEq, List.append_nil, List.cons.injEq, and_assoc, and_true, true_and, reduceCtorEq, false_and, and_false, false_or, or_false, exists_false, decide_true, decide_false, Bool.not_true, Bool.not_false, not_true_eq_false, not_false_eq_true, if_true, if_false, Bool.false_eq_true, decide_eq_true_eq, Bool.not_eq_true', decide_eq_false_iff_not, gName_ap, gTup_ap, gCons_ap, gNil_ap, gSub_ap, t_check_numbers_b3, t_check_numbers_s2, sp_is_between, List.append_nil]
    refine ⟨_, SqT.of upd_same, rfl, _, _, rfl, _, _, rfl, rfl, some _, rfl, .int _, ?_⟩
    have e : btw 1 (some (1000000000000000000000000000000000000000000000000000000000000 - 1)) (V.int (n : Nat)) = true := by
      have z : (10 : Nat) ^ 60 = 1000000000000000000000000000000000000000000000000000000000000 := by decide
      simp only [btw, Bool.and_eq_true, decide_eq_true_eq]
      omega
    rw [e]
    exact ⟨Same.newp s1 hT, _, rfl⟩
  · rintro σ H' ⟨s1, v, w, rfl⟩
    exact q _ s1

/-- the pairs that stand in a list at D -/
def pairV (b n : Nat) : List V := [.int n, .int (back b n)]
def PairsAt (H : Hp) (b : Nat) (D : Addr) (ns : List Nat) : Prop := ∃ rs, H D = some (.lst (rs.map V.ref)) ∧ Rows H rs (ns.map (pairV b))
def inner (b : Nat) (ns : List Nat) (a : Nat) (k : Nat) : List (Nat × Nat) := (List.range k).filterMap fun e => if fits b ns (a + 1) (e + 1) then some (a + 1, e + 1) else none
def outer (b : Nat) (ns : List Nat) (most k : Nat) : List (Nat × Nat) := (List.range k).flatMap fun a => inner b ns a most
theorem inner_succ (b : Nat) (ns : List Nat) (a k : Nat) : inner b ns a (k + 1) = inner b ns a k ++ (if fits b ns (a + 1) (k + 1) then [(a + 1, k + 1)] else []) := by
  unfold inner
  rw [List.range_succ, List.filterMap_append]
  congr 1
  by_cases h : fits b ns (a + 1) (k + 1) = true
  · simp [h]
  · simp [h]
theorem outer_succ (b : Nat) (ns : List Nat) (most k : Nat) : outer b ns most (k + 1) = outer b ns most k ++ inner b ns k most := by
  unfold outer
  rw [List.range_succ, List.flatMap_append]
  simp
theorem inner_len (b : Nat) (ns : List Nat) (a k : Nat) : (inner b ns a k).length ≤ k := by
  unfold inner
  exact Nat.le_trans (List.length_filterMap_le _ _) (by simp)
theorem outer_len (b : Nat) (ns : List Nat) (most : Nat) : ∀ k, (outer b ns most k).length ≤ k * most := by
  intro k
  induction k with
  | zero => simp [outer]
  | succ k ih =>
    rw [outer_succ, List.length_append, Nat.succ_mul]
    have := inner_len b ns k most
    omega
def prV (p : Nat × Nat) : List V := [.int p.1, .int p.2]
theorem dp_rows {K : PySem.W.Frag} {H : Hp} : ∀ {rs : List Addr} {l : List (Nat × Nat)}, Rows H rs (l.map prV) → DpAll K H (rs.map V.ref) (l.map fun p => PyData.tuple [.int p.1, .int p.2])
  | [], [], _ => .nil
  | [], _ :: _, h => by have := h.1; simp at this
  | _ :: _, [], h => by have := h.1; simp at this
  | r :: rs, p :: l, h => by
    have h0 := h.2 0 r (prV p) rfl rfl
    refine .cons (.tup (SqT.of h0) (.cons (.int _) (.cons (.int _) .nil))) (dp_rows ⟨by have := h.1; simpa using this, fun i q xs h1 h2 => h.2 (i + 1) q xs (by simpa using h1) (by simpa using h2)⟩)
def okBit (b a e n : Nat) : Bool := decide (((a : Nat) : Int) * (n : Int) = (e : Int) * ((back b n : Nat) : Int))
theorem okBit_eq (b a e n : Nat) : okBit b a e n = (a * n == e * back b n) := by
  unfold okBit
  rw [← Int.natCast_mul, ← Int.natCast_mul]
  by_cases h : a * n = e * back b n
  · simp [h]
  · have : ¬ ((a * n : Nat) : Int) = ((e * back b n : Nat) : Int) := fun z => h (by omega)
    rw [decide_eq_false this]
    exact (beq_eq_false_iff_ne.mpr h).symm
theorem pure_multiples {K : PySem.W.Frag} (vs : List V) (H : Hp) (Q : VK) (E : XK) (h : sp_multiples K vs H Q E) : t_multiples K { nx := fun _ H' => Q .non H', rt := Q } (L2.start ["base", "numbers", "most", "pairs", "found", "a", "e", "number", "back"] vs) H := by
  obtain ⟨p, b, most, ns, rfl, hb, hb10, hp, hok, hm1, hm20, q⟩ := h
  show t_multiples K _ [some (.int b), some (.ref p), some (.int most), none, none, none, none, none, none] H
  have nb : ∀ n ∈ ns, 1 ≤ n ∧ n < 2 ^ 200 := fun n hn => ⟨(hok.2.2 n hn).1, Nat.lt_of_lt_of_le (hok.2.2 n hn).2 (by decide)⟩
  have c1 : (2 : Int) ≤ (b : Int) := by omega
  have c2 : (b : Int) ≤ 10 := by omega
  have c3 : (1 : Int) ≤ (most : Int) := by omega
  have c4 : (most : Int) ≤ 20 := by omega
  simp only [tSeq, tAsg_name, tAsg_sub, tAsg_tup, tRet, tRetN, tDrop, tIfS, tNext, tNever, tBreak, tCont, tAndV, tOrV, tNotV, tAnd, tOr, tNot, tB, tTest, tIf, tCall, tCons, tNil, tVar, tC, tOp, tUn, tTup, tLst, tRevL, tPar, tPar3, tAug, ipI, tCB, tFld, sFld, iList, iTup, iRng1, iRng2, iEnum, iEnumT, tChain, tSl, tPart, tNoPart, tBM, tCallKw, tTruth, tYes, qAdd, qSub, qMul, qMulW, qDiv, qDivW, qMod, qPow, qLt, qLe, qGt, qGe, qIsN, qNotN, qInt, qAbs, qMax2, qMin2, rI0, rI, rU, rEq, rNe, scal, qIxL, qIxT, qLenQ, qSetL, lstOf_upd, tupOf_upd, atI_0, atI_1, atI_2, atI_3, upd_same, upd_upd, ixL0, ixL1, ixL2, HO.lst.injEq, HO.tup.injEq, List.getElem?_cons_zero, List.getElem?_cons_succ, List.set_cons_zero, List.set_cons_succ, Option.some.injEq, exists_eq_left', exists_eq_left, exists_and_left, V.int.injEq, V.bl.injEq, V.ref.injEq, V.str.injEq, List.append_nil, List.cons.injEq, and_assoc, and_true, true_and, reduceCtorEq, false_and, and_false, false_or, or_false, exists_false, decide_true, decide_false, Bool.not_true, Bool.not_false, not_true_eq_false, not_false_eq_true, if_true, if_false, Bool.false_eq_true, decide_eq_true_eq, Bool.not_eq_true', decide_eq_false_iff_not, t_multiples, t_multiples_s1, sp_check_base, List.append_nil, c1, c2]
  simp only [tSeq, tAsg_name, tAsg_sub, tAsg_tup, tRet, tRetN, tDrop, tIfS, tNext, tNever, tBreak, tCont, tAndV, tOrV, tNotV, tAnd, tOr, tNot, tB, tTest, tIf, tCall, tCons, tNil, tVar, tC, tOp, tUn, tTup, tLst, tRevL, tPar, tPar3, tAug, ipI, tCB, tFld, sFld, iList, iTup, iRng1, iRng2, iEnum, iEnumT, tChain, tSl, tPart, tNoPart, tBM, tCallKw, tTruth, tYes, qAdd, qSub, qMul, qMulW, qDiv, qDivW, qMod, qPow, qLt, qLe, qGt, qGe, qIsN, qNotN, qInt, qAbs, qMax2, qMin2, rI0, rI, rU, rEq, rNe, scal, qIxL, qIxT, qLenQ, qSetL, lstOf_upd, tupOf_upd, atI_0, atI_1, atI_2, atI_3, upd_same, upd_upd, ixL0, ixL1, ixL2, HO.lst.injEq, HO.tup.injEq, List.getElem?_cons_zero, List.getElem?_cons_succ, List.set_cons_zero, List.set_cons_succ, Option.some.injEq, exists_eq_left', exists_eq_left, exists_and_left, V.int.injEq, V.bl.injEq, V.ref.injEq, V.str.injEq, List.append_nil, List.cons.injEq, and_assoc, and_true, true_and, reduceCtorEq, false_and, and_false, false_or, or_false, exists_false, decide_true, decide_false, Bool.not_true, Bool.not_false, not_true_eq_false, not_false_eq_true, if_true, if_false, Bool.false_eq_true, decide_eq_true_eq, Bool.not_eq_true', decide_eq_false_iff_not, t_multiples_s2, sp_check_numbers, List.append_nil]
  refine ⟨ns, hp, hok, fun H1 s1 => ?_⟩
  simp only [tSeq, tAsg_name, tAsg_sub, tAsg_tup, tRet, tRetN, tDrop, tIfS, tNext, tNever, tBreak, tCont, tAndV, tOrV, tNotV, tAnd, tOr, tNot, tB, tTest, tIf, tCall, tCons, tNil, tVar, tC, tOp, tUn, tTup, tLst, tRevL, tPar, tPar3, tAug, ipI, tCB, tFld, sFld, iList, iTup, iRng1, iRng2, iEnum, iEnumT, tChain, tSl, tPart, tNoPart, tBM, tCallKw, tTruth, tYes, qAdd, qSub, qMul, qMulW, qDiv, qDivW, qMod, qPow, qLt, qLe, qGt, qGe, qIsN, qNotN, qInt, qAbs, qMax2, qMin2, rI0, rI, rU, rEq, rNe, scal, qIxL, qIxT, qLenQ, qSetL, lstOf_upd, tupOf_upd, atI_0, atI_1, atI_2, atI_3, upd_same, upd_upd, ixL0, ixL1, ixL2, HO.lst.injEq, HO.tup.injEq, List.getElem?_cons_zero, List.getElem?_cons_succ, List.set_cons_zero, List.set_cons_succ, Option.some.injEq, exists_eq_left', exists_eq_left, exists_and_left, V.int.injEq, V.bl.injEq, V.ref.injEq, V.str.injEq, List.append_nil, List.cons.injEq, and_assoc, and_true, true_and, reduceCtorEq, false_and, and_false, false_or, or_false, exists_false, decide_true, decide_false, Bool.not_true, Bool.not_false, not_true_eq_false, not_false_eq_true, if_true, if_false, Bool.false_eq_true, decide_eq_true_eq, Bool.not_eq_true', decide_eq_false_iff_not, t_multiples_s3, sp_check_between, List.append_nil, c3, c4]
  simp only [tSeq, tAsg_name, tAsg_sub, tAsg_tup, tRet, tRetN, tDrop, tIfS, tNext, tNever, tBreak, tCont, tAndV, tOrV, tNotV, tAnd, tOr, tNot, tB, tTest, tIf, tCall, tCons, tNil, tVar, tC, tOp, tUn, tTup, tLst, tRevL, tPar, tPar3, tAug, ipI, tCB, tFld, sFld, iList, iTup, iRng1, iRng2, iEnum, iEnumT, tChain, tSl, tPart, tNoPart, tBM, tCallKw, tTruth, tYes, qAdd, qSub, qMul, qMulW, qDiv, qDivW, qMod, qPow, qLt, qLe, qGt, qGe, qIsN, qNotN, qInt, qAbs, qMax2, qMin2, rI0, rI, rU, rEq, rNe, scal, qIxL, qIxT, qLenQ, qSetL, lstOf_upd, tupOf_upd, atI_0, atI_1, atI_2, atI_3, upd_same, upd_upd, ixL0, ixL1, ixL2, HO.lst.injEq, HO.tup.injEq, List.getElem?_cons_zero, List.getElem?_cons_succ, List.set_cons_zero, List.set_cons_succ, Option.some.injEq, exists_eq_left', exists_eq_left, exists_and_left, V.int.injEq, V.bl.injEq, V.ref.injEq, V.str.injEq, List.append_nil, List.cons.injEq, and_assoc, and_true, true_and, reduceCtorEq, false_and, and_false, false_or, or_false, exists_false, decide_true, decide_false, Bool.not_true, Bool.not_false, not_true_eq_false, not_false_eq_true, if_true, if_false, Bool.false_eq_true, decide_eq_true_eq, Bool.not_eq_true', decide_eq_false_iff_not, t_multiples_s5]
  refine lc_T (a := p) (xs := ofNats ns) (fun R h => ⟨_, rfl, h⟩) (SqT.of (s1 _ _ hp)) (fun D i H' => H D = none ∧ Same H H' ∧ PairsAt H' b D (ns.take i))
    (fun D hD => ⟨s1.free hD, Same.newp s1 hD, [], by rw [upd_same]; rfl, by simpa using Rows.nil⟩) (fun D i H' _ h => SqT.of (h.2.1 _ _ hp)) ?_ ?_
  · rintro D i x H' hx ⟨hD, s2, rs, hl, hr0⟩
    obtain ⟨n, hn, rfl⟩ := ofNats_get hx
    have hn2 := nb n (List.mem_of_getElem? hn)
    simp only [tSeq, tAsg_name, tAsg_sub, tAsg_tup, tRet, tRetN, tDrop, tIfS, tNext, tNever, tBreak, tCont, tAndV, tOrV, tNotV, tAnd, tOr, tNot, tB, tTest, tIf, tCall, tCons, tNil, tVar, tC, tOp, tUn, tTup, tLst, tRevL, tPar, tPar3, tAug, ipI, tCB, tFld, sFld, iList, iTup, iRng1, iRng2, iEnum, iEnumT, tChain, tSl, tPart, tNoPart, tBM, tCallKw, tTruth, tYes, qAdd, qSub, qMul, qMulW, qDiv, qDivW, qMod, qPow, qLt, qLe, qGt, qGe, qIsN, qNotN, qInt, qAbs, qMax2, qMin2, rI0, rI, rU, rEq, rNe, scal, qIxL, qIxT, qLenQ, qSetL, lstOf_upd, tupOf_upd, atI_0, atI_1, atI_2, atI_3, upd_same, upd_upd, ixL0, ixL1, ixL2, HO.lst.injEq, HO.tup.injEq, List.getElem?_cons_zero, List.getElem?_cons_succ, List.set_cons_zero, List.set_cons_succ, Option.some.injEq, exists_eq_left', exists_eq_left, exists_and_left, V.int.injEq, V.bl.injEq, V.ref.injEq, V.str.injEq, List.append_nil, List.cons.injEq, and_assoc, and_true, true_and, reduceCtorEq, false_and, and_false, false_or, or_false, exists_false, decide_true, decide_false, Bool.not_true, Bool.not_false, not_true_eq_false, not_false_eq_true, if_true, if_false, Bool.false_eq_true, decide_eq_true_eq, Bool.not_eq_true', decide_eq_false_iff_not, gName_ap, gTup_ap, gCons_ap, gNil_ap, gSub_ap, LcTurn, t_multiples_e4, sp_figures_of, sp_number_of, List.append_nil, wipe]
    refine ⟨n, rfl, b, rfl, hb, hb10, Nat.lt_of_lt_of_le hn2.2 (by decide), fun H3 p3 s3 hp3 hl3 => ⟨_, SqL.of hl3, fun r hr => ⟨digs b n, b, ?_⟩⟩⟩
    simp only [tSeq, tAsg_name, tAsg_sub, tAsg_tup, tRet, tRetN, tDrop, tIfS, tNext, tNever, tBreak, tCont, tAndV, tOrV, tNotV, tAnd, tOr, tNot, tB, tTest, tIf, tCall, tCons, tNil, tVar, tC, tOp, tUn, tTup, tLst, tRevL, tPar, tPar3, tAug, ipI, tCB, tFld, sFld, iList, iTup, iRng1, iRng2, iEnum, iEnumT, tChain, tSl, tPart, tNoPart, tBM, tCallKw, tTruth, tYes, qAdd, qSub, qMul, qMulW, qDiv, qDivW, qMod, qPow, qLt, qLe, qGt, qGe, qIsN, qNotN, qInt, qAbs, qMax2, qMin2, rI0, rI, rU, rEq, rNe, scal, qIxL, qIxT, qLenQ, qSetL, lstOf_upd, tupOf_upd, atI_0, atI_1, atI_2, atI_3, upd_same, upd_upd, ixL0, ixL1, ixL2, HO.lst.injEq, HO.tup.injEq, List.getElem?_cons_zero, List.getElem?_cons_succ, List.set_cons_zero, List.set_cons_succ, Option.some.injEq, exists_eq_left', exists_eq_left, exists_and_left, V.int.injEq, V.bl.injEq, V.ref.injEq, V.str.injEq, List.append_nil, List.cons.injEq, and_assoc, and_true, true_and, reduceCtorEq, false_and, and_false, false_or, or_false, exists_false, decide_true, decide_false, Bool.not_true, Bool.not_false, not_true_eq_false, not_false_eq_true, if_true, if_false, Bool.false_eq_true, decide_eq_true_eq, Bool.not_eq_true', decide_eq_false_iff_not]
    refine ⟨SqL.of (by rw [upd_same, ofNats_reverse, List.reverse_reverse]), hb10, by show 2 ≤ sizeLine; decide, fun t ht => ?_⟩
    have S4 : Same H' (upd (upd H3 r (.lst (ofNats (digs b n).reverse).reverse)) t (.tup [.int n, .int (undig b (digs b n))])) := Same.newp (Same.newp s3 hr) ht
    have hlen : rs.length = i := by
      rw [hr0.1]
      have := (List.getElem?_eq_some_iff.mp hn).1
      simp; omega
    have hns := hok.2.1
    have hi := (List.getElem?_eq_some_iff.mp hn).1
    refine ⟨_, S4 _ _ hl, ?_, hD, Same.oldp (s2.trans S4) hD, rs ++ [t], ?_, ?_⟩
    · have : (sizeLine : Nat) = 16777216 := rfl
      rw [List.length_map]; omega
    · rw [upd_same]; simp
    · rw [take_succ_get hn, List.map_append]
      refine Rows.snoc (hr0.mono fun r' xs' hm hx' => ?_) ?_
      · have nd : r' ≠ D := ne_of hx' hl (by intro z; cases z)
        rw [upd_ne nd]
        exact S4 _ _ hx'
      · have nd : t ≠ D := by
          intro z
          have z2 := Same.newp s3 hr (o := .lst (ofNats (digs b n).reverse).reverse) _ _ hl
          rw [← z, ht] at z2; cases z2
        rw [upd_ne nd, upd_same]; rfl
  · rintro D H2 ⟨hD, s2, rs, hl, hr0⟩
    rw [show (ofNats ns).length = ns.length from ofNats_length ns, List.take_length] at hr0
    simp only [tSeq, tAsg_name, tAsg_sub, tAsg_tup, tRet, tRetN, tDrop, tIfS, tNext, tNever, tBreak, tCont, tAndV, tOrV, tNotV, tAnd, tOr, tNot, tB, tTest, tIf, tCall, tCons, tNil, tVar, tC, tOp, tUn, tTup, tLst, tRevL, tPar, tPar3, tAug, ipI, tCB, tFld, sFld, iList, iTup, iRng1, iRng2, iEnum, iEnumT, tChain, tSl, tPart, tNoPart, tBM, tCallKw, tTruth, tYes, qAdd, qSub, qMul, qMulW, qDiv, qDivW, qMod, qPow, qLt, qLe, qGt, qGe, qIsN, qNotN, qInt, qAbs, qMax2, qMin2, rI0, rI, rU, rEq, rNe, scal, qIxL, qIxT, qLenQ, qSetL, lstOf_upd, tupOf_upd, atI_0, atI_1, atI_2, atI_3, upd_same, upd_upd, ixL0, ixL1, ixL2, HO.lst.injEq, HO.tup.injEq, List.getElem?_cons_zero, List.getElem?_cons_succ, List.set_cons_zero, List.set_cons_succ, Option.some.injEq, exists_eq_left', exists_eq_left, exists_and_left, V.int.injEq, V.bl.injEq, V.ref.injEq, V.str.injEq, List.append_nil, List.cons.injEq, and_assoc, and_true, true_and, reduceCtorEq, false_and, and_false, false_or, or_false, exists_false, decide_true, decide_false, Bool.not_true, Bool.not_false, not_true_eq_false, not_false_eq_true, if_true, if_false, Bool.false_eq_true, decide_eq_true_eq, Bool.not_eq_true', decide_eq_false_iff_not, t_multiples_s6]
    refine ⟨Nat.zero_le _, fun F hF => ?_⟩
    have em : ((most : Int) + 1 - 1).toNat = most := by omega
    have hF0 : H F = none := s2.free hF
    have hDF : D ≠ F := ne_of_none hl hF
    simp only [tSeq, tAsg_name, tAsg_sub, tAsg_tup, tRet, tRetN, tDrop, tIfS, tNext, tNever, tBreak, tCont, tAndV, tOrV, tNotV, tAnd, tOr, tNot, tB, tTest, tIf, tCall, tCons, tNil, tVar, tC, tOp, tUn, tTup, tLst, tRevL, tPar, tPar3, tAug, ipI, tCB, tFld, sFld, iList, iTup, iRng1, iRng2, iEnum, iEnumT, tChain, tSl, tPart, tNoPart, tBM, tCallKw, tTruth, tYes, qAdd, qSub, qMul, qMulW, qDiv, qDivW, qMod, qPow, qLt, qLe, qGt, qGe, qIsN, qNotN, qInt, qAbs, qMax2, qMin2, rI0, rI, rU, rEq, rNe, scal, qIxL, qIxT, qLenQ, qSetL, lstOf_upd, tupOf_upd, atI_0, atI_1, atI_2, atI_3, upd_same, upd_upd, ixL0, ixL1, ixL2, HO.lst.injEq, HO.tup.injEq, List.getElem?_cons_zero, List.getElem?_cons_succ, List.set_cons_zero, List.set_cons_succ, Option.some.injEq, exists_eq_left', exists_eq_left, exists_and_left, V.int.injEq, V.bl.injEq, V.ref.injEq, V.str.injEq, List.append_nil, List.cons.injEq, and_assoc, and_true, true_and, reduceCtorEq, false_and, and_false, false_or, or_false, exists_false, decide_true, decide_false, Bool.not_true, Bool.not_false, not_true_eq_false, not_false_eq_true, if_true, if_false, Bool.false_eq_true, decide_eq_true_eq, Bool.not_eq_true', decide_eq_false_iff_not, t_multiples_s14, tFor, em]
    refine ⟨by decide, by decide, by omega, by omega, lp_rng (n := most) (fun k σ H' => But F H2 H' ∧ (∃ fs, H' F = some (.lst (fs.map V.ref)) ∧ Rows H' fs ((outer b ns most k).map prV)) ∧
        ∃ v w, σ = [some (.int b), some (.ref p), some (.int most), some (.ref D), some (.ref F), v, w, none, none])
      ⟨But.new (But.refl F H2) hF, ⟨[], by rw [upd_same]; rfl, by simpa [outer] using Rows.nil⟩, none, none, rfl⟩ ?_ ?_⟩
    · rintro a σ H' ha ⟨b2, ⟨fs, hf, hfr⟩, v, w, rfl⟩
      simp only [tSeq, tAsg_name, tAsg_sub, tAsg_tup, tRet, tRetN, tDrop, tIfS, tNext, tNever, tBreak, tCont, tAndV, tOrV, tNotV, tAnd, tOr, tNot, tB, tTest, tIf, tCall, tCons, tNil, tVar, tC, tOp, tUn, tTup, tLst, tRevL, tPar, tPar3, tAug, ipI, tCB, tFld, sFld, iList, iTup, iRng1, iRng2, iEnum, iEnumT, tChain, tSl, tPart, tNoPart, tBM, tCallKw, tTruth, tYes, qAdd, qSub, qMul, qMulW, qDiv, qDivW, qMod, qPow, qLt, qLe, qGt, qGe, qIsN, qNotN, qInt, qAbs, qMax2, qMin2, rI0, rI, rU, rEq, rNe, scal, qIxL, qIxT, qLenQ, qSetL, lstOf_upd, tupOf_upd, atI_0, atI_1, atI_2, atI_3, upd_same, upd_upd, ixL0, ixL1, ixL2, HO.lst.injEq, HO.tup.injEq, List.getElem?_cons_zero, List.getElem?_cons_succ, List.set_cons_zero, List.set_cons_succ, Option.some.injEq, exists_eq_left', exists_eq_left, exists_and_left, V.int.injEq, V.bl.injEq, V.ref.injEq, V.str.injEq, List.append_nil, List.cons.injEq, and_assoc, and_true, true_and, reduceCtorEq, false_and, and_false, false_or, or_false, exists_false, decide_true, decide_false, Bool.not_true, Bool.not_false, not_true_eq_false, not_false_eq_true, if_true, if_false, Bool.false_eq_true, decide_eq_true_eq, Bool.not_eq_true', decide_eq_false_iff_not, gName_ap, gTup_ap, gCons_ap, gNil_ap, gSub_ap, t_multiples_b13, t_multiples_s12]
      simp only [tSeq, tAsg_name, tAsg_sub, tAsg_tup, tRet, tRetN, tDrop, tIfS, tNext, tNever, tBreak, tCont, tAndV, tOrV, tNotV, tAnd, tOr, tNot, tB, tTest, tIf, tCall, tCons, tNil, tVar, tC, tOp, tUn, tTup, tLst, tRevL, tPar, tPar3, tAug, ipI, tCB, tFld, sFld, iList, iTup, iRng1, iRng2, iEnum, iEnumT, tChain, tSl, tPart, tNoPart, tBM, tCallKw, tTruth, tYes, qAdd, qSub, qMul, qMulW, qDiv, qDivW, qMod, qPow, qLt, qLe, qGt, qGe, qIsN, qNotN, qInt, qAbs, qMax2, qMin2, rI0, rI, rU, rEq, rNe, scal, qIxL, qIxT, qLenQ, qSetL, lstOf_upd, tupOf_upd, atI_0, atI_1, atI_2, atI_3, upd_same, upd_upd, ixL0, ixL1, ixL2, HO.lst.injEq, HO.tup.injEq, List.getElem?_cons_zero, List.getElem?_cons_succ, List.set_cons_zero, List.set_cons_succ, Option.some.injEq, exists_eq_left', exists_eq_left, exists_and_left, V.int.injEq, V.bl.injEq, V.ref.injEq, V.str.injEq, List.append_nil, List.cons.injEq, and_assoc, and_true, true_and, reduceCtorEq, false_and, and_false, false_or, or_false, exists_false, decide_true, decide_false, Bool.not_true, Bool.not_false, not_true_eq_false, not_false_eq_true, if_true, if_false, Bool.false_eq_true, decide_eq_true_eq, Bool.not_eq_true', decide_eq_false_iff_not, tFor, em]
      refine ⟨by decide, by decide, by omega, by omega, lp_rng (n := most) (fun k σ H' => But F H2 H' ∧ (∃ fs, H' F = some (.lst (fs.map V.ref)) ∧ Rows H' fs ((outer b ns most a ++ inner b ns a k).map prV)) ∧
          ∃ w, σ = [some (.int b), some (.ref p), some (.int most), some (.ref D), some (.ref F), some (.int ((a + 1 : Nat) : Int)), w, none, none])
        ⟨b2, ⟨fs, hf, by simpa [inner] using hfr⟩, w, by rw [show ((a + 1 : Nat) : Int) = 1 + (a : Int) from by omega]⟩ ?_ ?_⟩
      · rintro e σ H' he ⟨b3, ⟨fs, hf, hfr⟩, w, rfl⟩
        simp only [tSeq, tAsg_name, tAsg_sub, tAsg_tup, tRet, tRetN, tDrop, tIfS, tNext, tNever, tBreak, tCont, tAndV, tOrV, tNotV, tAnd, tOr, tNot, tB, tTest, tIf, tCall, tCons, tNil, tVar, tC, tOp, tUn, tTup, tLst, tRevL, tPar, tPar3, tAug, ipI, tCB, tFld, sFld, iList, iTup, iRng1, iRng2, iEnum, iEnumT, tChain, tSl, tPart, tNoPart, tBM, tCallKw, tTruth, tYes, qAdd, qSub, qMul, qMulW, qDiv, qDivW, qMod, qPow, qLt, qLe, qGt, qGe, qIsN, qNotN, qInt, qAbs, qMax2, qMin2, rI0, rI, rU, rEq, rNe, scal, qIxL, qIxT, qLenQ, qSetL, lstOf_upd, tupOf_upd, atI_0, atI_1, atI_2, atI_3, upd_same, upd_upd, ixL0, ixL1, ixL2, HO.lst.injEq, HO.tup.injEq, List.getElem?_cons_zero, List.getElem?_cons_succ, List.set_cons_zero, List.set_cons_succ, Option.some.injEq, exists_eq_left', exists_eq_left, exists_and_left, V.int.injEq, V.bl.injEq, V.ref.injEq, V.str.injEq, List.append_nil, List.cons.injEq, and_assoc, and_true, true_and, reduceCtorEq, false_and, and_false, false_or, or_false, exists_false, decide_true, decide_false, Bool.not_true, Bool.not_false, not_true_eq_false, not_false_eq_true, if_true, if_false, Bool.false_eq_true, decide_eq_true_eq, Bool.not_eq_true', decide_eq_false_iff_not, gName_ap, gTup_ap, gCons_ap, gNil_ap, gSub_ap, t_multiples_b11, t_multiples_s10]
        have hD' : H' D = some (.lst (rs.map V.ref)) := b3 _ _ hDF hl
        have hrows : Rows H' rs (ns.map (pairV b)) := hr0.mono fun r xs _ hx => b3 _ _ (ne_of_none hx hF) hx
        refine lc_L (a := D) (xs := rs.map V.ref) (fun R h => ⟨_, rfl, h⟩) (SqL.of hD') (fun D2 i H3 => H' D2 = none ∧ Same H' H3 ∧ H3 D2 = some (.lst (((ns.take i).map (okBit b (a + 1) (e + 1))).map V.bl)))
          (fun D2 h2 => ⟨h2, Same.newp (Same.refl H') h2, by rw [upd_same]; rfl⟩) (fun D2 i H3 _ h => SqL.of (h.2.1 _ _ hD')) ?_ ?_
        · rintro D2 i x H3 hx ⟨h2, s3, h3⟩
          obtain ⟨r, hr, rfl⟩ := refs_get hx
          have hi : i < ns.length := by
            have := (List.getElem?_eq_some_iff.mp hr).1
            have := hrows.1
            simp at this
            omega
          obtain ⟨n, hn⟩ : ∃ n, ns[i]? = some n := ⟨ns[i], List.getElem?_eq_getElem hi⟩
          have ht := hrows.2 i r (pairV b n) hr (by rw [List.getElem?_map, hn]; rfl)
          have hn2 := nb n (List.mem_of_getElem? hn)
          have hbk : back b n < 2 ^ 204 := by
            have h3 := back_lt hb hn2.2 hn2.1
            have h4 : b * n ≤ 10 * n := Nat.mul_le_mul_right _ hb10
            omega
          have w1 : CMulW (((a + 1 : Nat)) : Int) (n : Int) := wide_mul (a := 5) (b := 200) (by omega) (by omega) (by decide) (by decide) (by decide)
          have w2 : CMulW (1 + (e : Int)) ((back b n : Nat) : Int) := wide_mul (a := 5) (b := 204) (by omega) (by omega) (by decide) (by decide) (by decide)
          simp only [tSeq, tAsg_name, tAsg_sub, tAsg_tup, tRet, tRetN, tDrop, tIfS, tNext, tNever, tBreak, tCont, tAndV, tOrV, tNotV, tAnd, tOr, tNot, tB, tTest, tIf, tCall, tCons, tNil, tVar, tC, tOp, tUn, tTup, tLst, tRevL, tPar, tPar3, tAug, ipI, tCB, tFld, sFld, iList, iTup, iRng1, iRng2, iEnum, iEnumT, tChain, tSl, tPart, tNoPart, tBM, tCallKw, tTruth, tYes, qAdd, qSub, qMul, qMulW, qDiv, qDivW, qMod, qPow, qLt, qLe, qGt, qGe, qIsN, qNotN, qInt, qAbs, qMax2, qMin2, rI0, rI, rU, rEq, rNe, scal, qIxL, qIxT, qLenQ, qSetL, lstOf_upd, tupOf_upd, atI_0, atI_1, atI_2, atI_3, upd_same, upd_upd, ixL0, ixL1, ixL2, HO.lst.injEq, HO.tup.injEq, List.getElem?_cons_zero, List.getElem?_cons_succ, List.set_cons_zero, List.set_cons_succ, Option.some.injEq, exists_eq_left', exists_eq_left, exists_and_left, V.int.injEq, V.bl.injEq, V.ref.injEq, V.str.injEq, List.append_nil, List.cons.injEq, and_assoc, and_true, true_and, reduceCtorEq, false_and, and_false, false_or, or_false, exists_false, decide_true, decide_false, Bool.not_true, Bool.not_false, not_true_eq_false, not_false_eq_true, if_true, if_false, Bool.false_eq_true, decide_eq_true_eq, Bool.not_eq_true', decide_eq_false_iff_not, gName_ap, gTup_ap, gCons_ap, gNil_ap, gSub_ap, LcTurn, t_multiples_e7, wipe]
          refine ⟨_, SqT.of (s3 _ _ ht), rfl, _, _, rfl, _, _, rfl, rfl, ?_⟩
          simp only [tSeq, tAsg_name, tAsg_sub, tAsg_tup, tRet, tRetN, tDrop, tIfS, tNext, tNever, tBreak, tCont, tAndV, tOrV, tNotV, tAnd, tOr, tNot, tB, tTest, tIf, tCall, tCons, tNil, tVar, tC, tOp, tUn, tTup, tLst, tRevL, tPar, tPar3, tAug, ipI, tCB, tFld, sFld, iList, iTup, iRng1, iRng2, iEnum, iEnumT, tChain, tSl, tPart, tNoPart, tBM, tCallKw, tTruth, tYes, qAdd, qSub, qMul, qMulW, qDiv, qDivW, qMod, qPow, qLt, qLe, qGt, qGe, qIsN, qNotN, qInt, qAbs, qMax2, qMin2, rI0, rI, rU, rEq, rNe, scal, qIxL, qIxT, qLenQ, qSetL, lstOf_upd, tupOf_upd, atI_0, atI_1, atI_2, atI_3, upd_same, upd_upd, ixL0, ixL1, ixL2, HO.lst.injEq, HO.tup.injEq, List.getElem?_cons_zero, List.getElem?_cons_succ, List.set_cons_zero, List.set_cons_succ, Option.some.injEq, exists_eq_left', exists_eq_left, exists_and_left, V.int.injEq, V.bl.injEq, V.ref.injEq, V.str.injEq, List.append_nil, List.cons.injEq, and_assoc, and_true, true_and, reduceCtorEq, false_and, and_false, false_or, or_false, exists_false, decide_true, decide_false, Bool.not_true, Bool.not_false, not_true_eq_false, not_false_eq_true, if_true, if_false, Bool.false_eq_true, decide_eq_true_eq, Bool.not_eq_true', decide_eq_false_iff_not, w1, w2]
          have e0 : (1 : Int) + (e : Int) = ((e + 1 : Nat) : Int) := by omega
          have hns := hok.2.1
          refine ⟨_, h3, ?_, h2, Same.oldp s3 h2, ?_⟩
          · have : (sizeLine : Nat) = 16777216 := rfl
            simp only [List.length_map, List.length_take]
            omega
          · rw [take_succ_get hn, List.map_append, List.map_append, e0]; rfl
        · rintro D2 H3 ⟨h2, s3, h3⟩
          have el : (rs.map V.ref).length = ns.length := by rw [List.length_map, hrows.1, List.length_map]
          rw [el, List.take_length] at h3
          have efit : ((ns.map (okBit b (a + 1) (e + 1))).all id) = fits b ns (a + 1) (e + 1) := by
            rw [List.all_map]
            unfold fits
            congr 1
            funext n
            exact okBit_eq b (a + 1) (e + 1) n
          have hf3 := s3 _ _ hf
          have hfr3 := hfr.mono fun r xs _ h => s3 _ _ h
          refine ⟨D2, _, rfl, SqL.of h3, _, rfl, ?_⟩
          rw [efit]
          refine ite2 (fun c => ?_) (fun c => ?_)
          · have e0 : (1 : Int) + (e : Int) = ((e + 1 : Nat) : Int) := by omega
            have e1 : (1 : Int) + (a : Int) = ((a + 1 : Nat) : Int) := by omega
            have hfl : fs.length ≤ 400 := by
              have h1 := hfr.1
              have h2 := outer_len b ns most a
              have h3 := inner_len b ns a e
              have h4 : a * most ≤ 19 * 20 := Nat.mul_le_mul (by omega) hm20
              simp at h1
              omega
            simp only [tSeq, tAsg_name, tAsg_sub, tAsg_tup, tRet, tRetN, tDrop, tIfS, tNext, tNever, tBreak, tCont, tAndV, tOrV, tNotV, tAnd, tOr, tNot, tB, tTest, tIf, tCall, tCons, tNil, tVar, tC, tOp, tUn, tTup, tLst, tRevL, tPar, tPar3, tAug, ipI, tCB, tFld, sFld, iList, iTup, iRng1, iRng2, iEnum, iEnumT, tChain, tSl, tPart, tNoPart, tBM, tCallKw, tTruth, tYes, qAdd, qSub, qMul, qMulW, qDiv, qDivW, qMod, qPow, qLt, qLe, qGt, qGe, qIsN, qNotN, qInt, qAbs, qMax2, qMin2, rI0, rI, rU, rEq, rNe, scal, qIxL, qIxT, qLenQ, qSetL, lstOf_upd, tupOf_upd, atI_0, atI_1, atI_2, atI_3, upd_same, upd_upd, ixL0, ixL1, ixL2, HO.lst.injEq, HO.tup.injEq, List.getElem?_cons_zero, List.getElem?_cons_succ, List.set_cons_zero, List.set_cons_succ, Option.some.injEq, exists_eq_left', exists_eq_left, exists_and_left, V.int.injEq, V.bl.injEq, V.ref.injEq, V.str.injEq, List.append_nil, List.cons.injEq, and_assoc, and_true, true_and, reduceCtorEq, false_and, and_false, false_or, or_false, exists_false, decide_true, decide_false, Bool.not_true, Bool.not_false, not_true_eq_false, not_false_eq_true, if_true, if_false, Bool.false_eq_true, decide_eq_true_eq, Bool.not_eq_true', decide_eq_false_iff_not, t_multiples_b9, t_multiples_s8]
            refine ⟨.inl ⟨rfl, _, SqL.of hf3⟩, by show 2 ≤ sizeLine; decide, fun t ht => ⟨F, _, _, rfl, rfl, Same.newp (Same.refl H3) ht _ _ hf3, ?_, ?_, ?_, ?_⟩⟩
            · have : (sizeLine : Nat) = 16777216 := rfl
              rw [List.length_map]; omega
            · exact But.at (But.new (b3.trans (Same.but s3)) ht)
            · refine ⟨fs ++ [t], by rw [upd_same]; simp, ?_⟩
              rw [inner_succ, if_pos c, ← List.append_assoc, List.map_append]
              refine Rows.snoc (hfr3.mono fun r xs _ hx => ?_) ?_
              · have nd : r ≠ F := ne_of hx hf3 (by intro z; cases z)
                rw [upd_ne nd]
                exact Same.newp (Same.refl H3) ht _ _ hx
              · have nd : t ≠ F := by
                  intro z
                  rw [← z, ht] at hf3; cases hf3
                rw [upd_ne nd, upd_same, e0]
                rfl
            · exact ⟨_, rfl⟩
          · refine ⟨b3.trans (Same.but s3), ⟨fs, hf3, ?_⟩, _, rfl⟩
            rw [inner_succ, if_neg c, List.append_nil]
            exact hfr3
      · rintro σ H' ⟨b3, hf, w, rfl⟩
        rw [outer_succ]
        exact ⟨b3, hf, _, _, rfl⟩
    · rintro σ H' ⟨b2, ⟨fs, hf, hfr⟩, v, w, rfl⟩
      simp only [tSeq, tAsg_name, tAsg_sub, tAsg_tup, tRet, tRetN, tDrop, tIfS, tNext, tNever, tBreak, tCont, tAndV, tOrV, tNotV, tAnd, tOr, tNot, tB, tTest, tIf, tCall, tCons, tNil, tVar, tC, tOp, tUn, tTup, tLst, tRevL, tPar, tPar3, tAug, ipI, tCB, tFld, sFld, iList, iTup, iRng1, iRng2, iEnum, iEnumT, tChain, tSl, tPart, tNoPart, tBM, tCallKw, tTruth, tYes, qAdd, qSub, qMul, qMulW, qDiv, qDivW, qMod, qPow, qLt, qLe, qGt, qGe, qIsN, qNotN, qInt, qAbs, qMax2, qMin2, rI0, rI, rU, rEq, rNe, scal, qIxL, qIxT, qLenQ, qSetL, lstOf_upd, tupOf_upd, atI_0, atI_1, atI_2, atI_3, upd_same, upd_upd, ixL0, ixL1, ixL2, HO.lst.injEq, HO.tup.injEq, List.getElem?_cons_zero, List.getElem?_cons_succ, List.set_cons_zero, List.set_cons_succ, Option.some.injEq, exists_eq_left', exists_eq_left, exists_and_left, V.int.injEq, V.bl.injEq, V.ref.injEq, V.str.injEq, List.append_nil, List.cons.injEq, and_assoc, and_true, true_and, reduceCtorEq, false_and, and_false, false_or, or_false, exists_false, decide_true, decide_false, Bool.not_true, Bool.not_false, not_true_eq_false, not_false_eq_true, if_true, if_false, Bool.false_eq_true, decide_eq_true_eq, Bool.not_eq_true', decide_eq_false_iff_not, t_multiples_s15, qTuple]
      refine ⟨_, .inl ⟨SqL.of hf, fun l hl2 => q _ _ (Same.newp (s2.trans (b2.same hF)) hl2) ?_⟩⟩
      have hnew : Same H' (upd H' l (.tup (fs.map V.ref))) := Same.newp (Same.refl H') hl2
      refine .tup (SqT.of upd_same) ?_
      have e : outer b ns most most = mults b ns most := rfl
      rw [← e]
      exact dp_rows (hfr.mono fun r xs _ h => hnew _ _ h)

theorem cutV_mem {xs : List V} {lo hi : Option Int} {i : Nat} {x : V} (h : (cutV xs lo hi)[i]? = some x) : x ∈ xs := by
  have h1 := List.mem_of_getElem? h
  exact List.mem_of_mem_drop (List.mem_of_mem_take h1)
theorem pure__law_fresh {K : PySem.W.Frag} (vs : List V) (H : Hp) (Q : VK) (E : XK) (h : sp__law_fresh K vs H Q E) : t__law_fresh K { nx := fun _ H' => Q .non H', rt := Q } (L2.start ["_law_script", "_law_k", "_law_cell", "_law_seed", "_law_each", "_law_digits_here"] vs) H := by
  obtain ⟨a, ns, k, rfl, hs, hlen, hk, q⟩ := h
  show t__law_fresh K _ [some (.ref a), some (.int k), none, none, none, none] H
  have rest : ∀ c s : Int, tSeq (t__law_fresh_s4 K) (tSeq (t__law_fresh_s5 K) (t__law_fresh_s6 K)) { nx := fun _ H' => Q .non H', rt := Q } [some (.ref a), some (.int k), some (.int c), some (.int s), none, none] H := by
    intro c s
    simp only [tSeq, tAsg_name, tAsg_sub, tAsg_tup, tRet, tRetN, tDrop, tIfS, tNext, tNever, tBreak, tCont, tAndV, tOrV, tNotV, tAnd, tOr, tNot, tB, tTest, tIf, tCall, tCons, tNil, tVar, tC, tOp, tUn, tTup, tLst, tRevL, tPar, tPar3, tAug, ipI, tCB, tFld, sFld, iList, iTup, iRng1, iRng2, iEnum, iEnumT, tChain, tSl, tPart, tNoPart, tBM, tCallKw, tTruth, tYes, qAdd, qSub, qMul, qMulW, qDiv, qDivW, qMod, qPow, qLt, qLe, qGt, qGe, qIsN, qNotN, qInt, qAbs, qMax2, qMin2, rI0, rI, rU, rEq, rNe, scal, qIxL, qIxT, qLenQ, qSetL, lstOf_upd, tupOf_upd, atI_0, atI_1, atI_2, atI_3, upd_same, upd_upd, ixL0, ixL1, ixL2, HO.lst.injEq, HO.tup.injEq, List.getElem?_cons_zero, List.getElem?_cons_succ, List.set_cons_zero, List.set_cons_succ, Option.some.injEq, exists_eq_left', exists_eq_left, exists_and_left, V.int.injEq, V.bl.injEq, V.ref.injEq, V.str.injEq, List.append_nil, List.cons.injEq, and_assoc, and_true, true_and, reduceCtorEq, false_and, and_false, false_or, or_false, exists_false, decide_true, decide_false, Bool.not_true, Bool.not_false, not_true_eq_false, not_false_eq_true, if_true, if_false, Bool.false_eq_true, decide_eq_true_eq, Bool.not_eq_true', decide_eq_false_iff_not, t__law_fresh_s4, tFor, rSlL]
    refine ⟨_, hs, fun p hp => ⟨⟨_, SqL.of upd_same⟩, lp_list (xs := cutV (ns.map V.int) none (some 9)) (fun i σ H' => H' = upd H p (.lst (cutV (ns.map V.int) none (some 9))) ∧ ∃ (z : Int) (v : Option V), σ = [some (.ref a), some (.int k), some (.int c), some (.int z), v, none])
      ⟨rfl, s, none, rfl⟩ (fun i σ H' _ h => by rw [h.1]; exact SqL.of upd_same) ?_ ?_⟩⟩
    · rintro i x σ H' hx ⟨rfl, z, v, rfl⟩
      obtain ⟨y, _, rfl⟩ := List.mem_map.mp (cutV_mem hx)
      simp only [tSeq, tAsg_name, tAsg_sub, tAsg_tup, tRet, tRetN, tDrop, tIfS, tNext, tNever, tBreak, tCont, tAndV, tOrV, tNotV, tAnd, tOr, tNot, tB, tTest, tIf, tCall, tCons, tNil, tVar, tC, tOp, tUn, tTup, tLst, tRevL, tPar, tPar3, tAug, ipI, tCB, tFld, sFld, iList, iTup, iRng1, iRng2, iEnum, iEnumT, tChain, tSl, tPart, tNoPart, tBM, tCallKw, tTruth, tYes, qAdd, qSub, qMul, qMulW, qDiv, qDivW, qMod, qPow, qLt, qLe, qGt, qGe, qIsN, qNotN, qInt, qAbs, qMax2, qMin2, rI0, rI, rU, rEq, rNe, scal, qIxL, qIxT, qLenQ, qSetL, lstOf_upd, tupOf_upd, atI_0, atI_1, atI_2, atI_3, upd_same, upd_upd, ixL0, ixL1, ixL2, HO.lst.injEq, HO.tup.injEq, List.getElem?_cons_zero, List.getElem?_cons_succ, List.set_cons_zero, List.set_cons_succ, Option.some.injEq, exists_eq_left', exists_eq_left, exists_and_left, V.int.injEq, V.bl.injEq, V.ref.injEq, V.str.injEq, List.append_nil, List.cons.injEq, and_assoc, and_true, true_and, reduceCtorEq, false_and, and_false, false_or, or_false, exists_false, decide_true, decide_false, Bool.not_true, Bool.not_false, not_true_eq_false, not_false_eq_true, if_true, if_false, Bool.false_eq_true, decide_eq_true_eq, Bool.not_eq_true', decide_eq_false_iff_not, gName_ap, gTup_ap, gCons_ap, gNil_ap, gSub_ap, t__law_fresh_b3, t__law_fresh_s2]
      exact ⟨.inr ⟨by decide, by decide⟩, by decide, .inl ⟨by decide, by decide⟩, by decide, _, rfl⟩
    · rintro σ H' ⟨rfl, z, v, rfl⟩
      have fin : ∀ d : Int, t__law_fresh_s6 K { nx := fun _ H' => Q .non H', rt := Q } [some (.ref a), some (.int k), some (.int c), some (.int z), v, some (.int d)] (upd H p (.lst (cutV (ns.map V.int) none (some 9)))) := by
        intro d
        simp only [tSeq, tAsg_name, tAsg_sub, tAsg_tup, tRet, tRetN, tDrop, tIfS, tNext, tNever, tBreak, tCont, tAndV, tOrV, tNotV, tAnd, tOr, tNot, tB, tTest, tIf, tCall, tCons, tNil, tVar, tC, tOp, tUn, tTup, tLst, tRevL, tPar, tPar3, tAug, ipI, tCB, tFld, sFld, iList, iTup, iRng1, iRng2, iEnum, iEnumT, tChain, tSl, tPart, tNoPart, tBM, tCallKw, tTruth, tYes, qAdd, qSub, qMul, qMulW, qDiv, qDivW, qMod, qPow, qLt, qLe, qGt, qGe, qIsN, qNotN, qInt, qAbs, qMax2, qMin2, rI0, rI, rU, rEq, rNe, scal, qIxL, qIxT, qLenQ, qSetL, lstOf_upd, tupOf_upd, atI_0, atI_1, atI_2, atI_3, upd_same, upd_upd, ixL0, ixL1, ixL2, HO.lst.injEq, HO.tup.injEq, List.getElem?_cons_zero, List.getElem?_cons_succ, List.set_cons_zero, List.set_cons_succ, Option.some.injEq, exists_eq_left', exists_eq_left, exists_and_left, V.int.injEq, V.bl.injEq, V.ref.injEq, V.str.injEq, List.append_nil, List.cons.injEq, and_assoc, and_true, true_and, reduceCtorEq, false_and, and_false, false_or, or_false, exists_false, decide_true, decide_false, Bool.not_true, Bool.not_false, not_true_eq_false, not_false_eq_true, if_true, if_false, Bool.false_eq_true, decide_eq_true_eq, Bool.not_eq_true', decide_eq_false_iff_not, t__law_fresh_s6]
        refine ⟨by decide, .inl ⟨by decide, by decide⟩, by decide, by show 3 ≤ sizeLine; decide, fun r hr => q _ r ?_ ?_ ?_⟩
        · exact Same.newp (Same.newp (Same.refl H) hp) hr
        · exact (Same.newp (o := .lst (cutV (ns.map V.int) none (some 9))) (Same.refl H) hp).free hr
        · exact ⟨_, _, _, upd_same⟩
      simp only [tSeq, tAsg_name, tAsg_sub, tAsg_tup, tRet, tRetN, tDrop, tIfS, tNext, tNever, tBreak, tCont, tAndV, tOrV, tNotV, tAnd, tOr, tNot, tB, tTest, tIf, tCall, tCons, tNil, tVar, tC, tOp, tUn, tTup, tLst, tRevL, tPar, tPar3, tAug, ipI, tCB, tFld, sFld, iList, iTup, iRng1, iRng2, iEnum, iEnumT, tChain, tSl, tPart, tNoPart, tBM, tCallKw, tTruth, tYes, qAdd, qSub, qMul, qMulW, qDiv, qDivW, qMod, qPow, qLt, qLe, qGt, qGe, qIsN, qNotN, qInt, qAbs, qMax2, qMin2, rI0, rI, rU, rEq, rNe, scal, qIxL, qIxT, qLenQ, qSetL, lstOf_upd, tupOf_upd, atI_0, atI_1, atI_2, atI_3, upd_same, upd_upd, ixL0, ixL1, ixL2, HO.lst.injEq, HO.tup.injEq, List.getElem?_cons_zero, List.getElem?_cons_succ, List.set_cons_zero, List.set_cons_succ, Option.some.injEq, exists_eq_left', exists_eq_left, exists_and_left, V.int.injEq, V.bl.injEq, V.ref.injEq, V.str.injEq, List.append_nil, List.cons.injEq, and_assoc, and_true, true_and, reduceCtorEq, false_and, and_false, false_or, or_false, exists_false, decide_true, decide_false, Bool.not_true, Bool.not_false, not_true_eq_false, not_false_eq_true, if_true, if_false, Bool.false_eq_true, decide_eq_true_eq, Bool.not_eq_true', decide_eq_false_iff_not, t__law_fresh_s5]
      refine ite2 (fun _ => fin _) (fun _ => ⟨⟨by decide, by decide, by decide⟩, ite2 (fun _ => fin _) (fun _ => fin _)⟩)
  simp only [tSeq, tAsg_name, tAsg_sub, tAsg_tup, tRet, tRetN, tDrop, tIfS, tNext, tNever, tBreak, tCont, tAndV, tOrV, tNotV, tAnd, tOr, tNot, tB, tTest, tIf, tCall, tCons, tNil, tVar, tC, tOp, tUn, tTup, tLst, tRevL, tPar, tPar3, tAug, ipI, tCB, tFld, sFld, iList, iTup, iRng1, iRng2, iEnum, iEnumT, tChain, tSl, tPart, tNoPart, tBM, tCallKw, tTruth, tYes, qAdd, qSub, qMul, qMulW, qDiv, qDivW, qMod, qPow, qLt, qLe, qGt, qGe, qIsN, qNotN, qInt, qAbs, qMax2, qMin2, rI0, rI, rU, rEq, rNe, scal, qIxL, qIxT, qLenQ, qSetL, lstOf_upd, tupOf_upd, atI_0, atI_1, atI_2, atI_3, upd_same, upd_upd, ixL0, ixL1, ixL2, HO.lst.injEq, HO.tup.injEq, List.getElem?_cons_zero, List.getElem?_cons_succ, List.set_cons_zero, List.set_cons_succ, Option.some.injEq, exists_eq_left', exists_eq_left, exists_and_left, V.int.injEq, V.bl.injEq, V.ref.injEq, V.str.injEq, List.append_nil, List.cons.injEq, and_assoc, and_true, true_and, reduceCtorEq, false_and, and_false, false_or, or_false, exists_false, decide_true, decide_false, Bool.not_true, Bool.not_false, not_true_eq_false, not_false_eq_true, if_true, if_false, Bool.false_eq_true, decide_eq_true_eq, Bool.not_eq_true', decide_eq_false_iff_not, t__law_fresh, t__law_fresh_s1]
  refine ⟨a, _, rfl, .inl hs, _, rfl, ite2 (fun c => ?_) (fun c => ?_)⟩
  · have hk2 : k < ns.length := by rw [List.length_map] at c; omega
    refine ⟨a, _, _, _, rfl, rfl, hs, atI_nat (by rw [List.getElem?_map, List.getElem?_eq_getElem hk2]; rfl), ?_⟩
    simp only [tSeq, tAsg_name, tAsg_sub, tAsg_tup, tRet, tRetN, tDrop, tIfS, tNext, tNever, tBreak, tCont, tAndV, tOrV, tNotV, tAnd, tOr, tNot, tB, tTest, tIf, tCall, tCons, tNil, tVar, tC, tOp, tUn, tTup, tLst, tRevL, tPar, tPar3, tAug, ipI, tCB, tFld, sFld, iList, iTup, iRng1, iRng2, iEnum, iEnumT, tChain, tSl, tPart, tNoPart, tBM, tCallKw, tTruth, tYes, qAdd, qSub, qMul, qMulW, qDiv, qDivW, qMod, qPow, qLt, qLe, qGt, qGe, qIsN, qNotN, qInt, qAbs, qMax2, qMin2, rI0, rI, rU, rEq, rNe, scal, qIxL, qIxT, qLenQ, qSetL, lstOf_upd, tupOf_upd, atI_0, atI_1, atI_2, atI_3, upd_same, upd_upd, ixL0, ixL1, ixL2, HO.lst.injEq, HO.tup.injEq, List.getElem?_cons_zero, List.getElem?_cons_succ, List.set_cons_zero, List.set_cons_succ, Option.some.injEq, exists_eq_left', exists_eq_left, exists_and_left, V.int.injEq, V.bl.injEq, V.ref.injEq, V.str.injEq, List.append_nil, List.cons.injEq, and_assoc, and_true, true_and, reduceCtorEq, false_and, and_false, false_or, or_false, exists_false, decide_true, decide_false, Bool.not_true, Bool.not_false, not_true_eq_false, not_false_eq_true, if_true, if_false, Bool.false_eq_true, decide_eq_true_eq, Bool.not_eq_true', decide_eq_false_iff_not]
    exact ⟨.inl ⟨by decide, by decide⟩, rest _ _⟩
  · exact ⟨.inl ⟨by decide, by decide⟩, rest _ _⟩

theorem rowOk.mono {b : Nat} {ds : List Nat} {k k' : Nat} (h : rowOk b ds k) (hk : k ≤ k') : rowOk b ds k' := ⟨Nat.le_trans h.1 hk, h.2⟩
theorem rowOk.app {b : Nat} {ds es : List Nat} {k l : Nat} (h : rowOk b ds k) (g : rowOk b es l) : rowOk b (ds ++ es) (k + l) :=
  ⟨by rw [List.length_append]; have := h.1; have := g.1; omega, fun d hd => (List.mem_append.mp hd).elim (h.2 d) (g.2 d)⟩
theorem rowOk.rev {b : Nat} {ds : List Nat} {k : Nat} (h : rowOk b ds k) : rowOk b ds.reverse k :=
  ⟨by rw [List.length_reverse]; exact h.1, fun d hd => h.2 d (List.mem_reverse.mp hd)⟩
theorem rowOk.rep {b d n k : Nat} (h : d < b) (hn : n ≤ k) : rowOk b (List.replicate n d) k :=
  ⟨by rw [List.length_replicate]; exact hn, fun x hx => by rw [(List.mem_replicate.mp hx).2]; exact h⟩
theorem rowOk.nil {b k : Nat} : rowOk b [] k := ⟨Nat.zero_le _, fun d hd => by simp at hd⟩
theorem rowOk.cons {b d k : Nat} {ds : List Nat} (h : d < b) (t : rowOk b ds k) : rowOk b (d :: ds) (k + 1) :=
  ⟨by rw [List.length_cons]; have := t.1; omega, fun x hx => (List.mem_cons.mp hx).elim (fun e => by rw [e]; exact h) (t.2 x)⟩
theorem cut_last (ds : List Nat) : cutV (ofNats ds) none (some (-1)) = ofNats (ds.take (ds.length - 1)) := by
  unfold cutV
  have e : HT.sIx (ofNats ds).length (ofNats ds).length (some (-1)) = ds.length - 1 := by
    show (if (-1 : Int) < 0 then ((-1 : Int) + ((ofNats ds).length : Int)).toNat else min (-1 : Int).toNat (ofNats ds).length) = _
    rw [if_pos (by decide), ofNats_length]
    omega
  rw [e, HT.sIx_none, List.drop_zero, Nat.sub_zero]
  simp [ofNats]
theorem rowOk.take {b : Nat} {ds : List Nat} {k n : Nat} (h : rowOk b ds k) : rowOk b (ds.take n) k :=
  ⟨Nat.le_trans (by rw [List.length_take]; omega) h.1, fun d hd => h.2 d (List.mem_of_mem_take hd)⟩
theorem rep_ofNats (d n : Nat) : (List.replicate n [V.int ((d : Nat) : Int)]).flatten = ofNats (List.replicate n d) := by
  induction n with
  | zero => rfl
  | succ n ih =>
    rw [List.replicate_succ, List.flatten_cons, ih, List.replicate_succ]
    rfl
theorem at_new {H : Hp} {a p : Addr} {o o' : HO} (h : H a = some o) (hp : H p = none) : upd H p o' a = some o := by
  rw [upd_ne (ne_of_none h hp)]
  exact h
theorem Drawn.refl {p : Addr} {H : Hp} (h : PoolAt H p) : Drawn p H H := ⟨But.refl p H, h⟩
theorem Drawn.trans {p : Addr} {H H1 H2 : Hp} (a : Drawn p H H1) (b : Drawn p H1 H2) : Drawn p H H2 := ⟨But.trans a.1 b.1, b.2⟩
theorem PoolAt.new {p r : Addr} {H : Hp} {o : HO} (h : PoolAt H p) (hr : H r = none) : PoolAt (upd H r o) p := by
  obtain ⟨d, s, n, e⟩ := h
  exact ⟨d, s, n, by rw [upd_ne (ne_of_none e hr)]; exact e⟩
theorem PoolAt.ne {p r : Addr} {H : Hp} {o : HO} (h : PoolAt H p) (hne : p ≠ r) : PoolAt (upd H r o) p := by
  obtain ⟨d, s, n, e⟩ := h
  exact ⟨d, s, n, by rw [upd_ne hne]; exact e⟩
theorem PoolAt.not {p r : Addr} {H : Hp} (h : PoolAt H p) (hr : H r = none) : r ≠ p := by
  obtain ⟨d, s, n, e⟩ := h
  intro z
  rw [z, e] at hr; cases hr
theorem Drawn.new {p r : Addr} {H H' : Hp} {o : HO} (a : Drawn p H H') (hr : H' r = none) : Drawn p H (upd H' r o) := ⟨But.new a.1 hr, a.2.new hr⟩
/-- a change of what is new -/
theorem Drawn.own {p r : Addr} {H H' : Hp} {o : HO} (a : Drawn p H H') (hr : H r = none) (hne : r ≠ p) : Drawn p H (upd H' r o) :=
  ⟨fun b u n h => by rw [upd_ne (ne_of_none h hr)]; exact a.1 b u n h, a.2.ne (Ne.symm hne)⟩
theorem Drawn.free {p r : Addr} {H H' : Hp} (a : Drawn p H H') (hr : H' r = none) : H r = none := But.free a.1 hr (a.2.not hr)
theorem draw_c {K : PySem.W.Frag} {p : Addr} {H : Hp} {Q : VK} {E : XK} {z : Int} {w : Nat} (hp : PoolAt H p) (hz : z = (w : Int)) (h0 : 0 < w) (h1 : w < 1000000) (k : ∀ (r : Nat) H', r < w → Drawn p H H' → Q (.int r) H') :
    sp__law_draw K [.ref p, .int z] H Q E := ⟨p, w, by rw [hz], hp, h0, h1, fun r H' hr ⟨d, s, n, e⟩ => k r H' hr (by
      subst e
      exact ⟨But.at (But.refl p H), d, s, n, upd_same⟩)⟩
theorem one_c {K : PySem.W.Frag} {p a : Addr} {H : Hp} {Q : VK} {E : XK} {xs : List V} (hp : PoolAt H p) (ha : H a = some (.lst xs)) (hne : a ≠ p) (h0 : 0 < xs.length) (h1 : xs.length < 1000000) (k : ∀ v H', v ∈ xs → Drawn p H H' → Q v H') :
    sp__law_one K [.ref p, .ref a] H Q E := ⟨p, a, xs, rfl, hp, ha, hne, h0, h1, fun r v H' hr ⟨d, s, n, e⟩ => k v H' (List.mem_of_getElem? hr) (by
      subst e
      exact ⟨But.at (But.refl p H), d, s, n, upd_same⟩)⟩
theorem pure__law_figures {K : PySem.W.Frag} (vs : List V) (H : Hp) (Q : VK) (E : XK) (h : sp__law_figures K vs H Q E) : t__law_figures K { nx := fun _ H' => Q .non H', rt := Q } (L2.start ["_law_pool", "_law_b", "_law_way", "_law_row", "_law_k"] vs) H := by
  obtain ⟨p, b, rfl, hp, hb, hb10, q⟩ := h
  show t__law_figures K _ [some (.ref p), some (.int b), none, none, none] H
  simp only [tSeq, tAsg_name, tAsg_sub, tAsg_tup, tRet, tRetN, tDrop, tIfS, tNext, tNever, tBreak, tCont, tAndV, tOrV, tNotV, tAnd, tOr, tNot, tB, tTest, tIf, tCall, tCons, tNil, tVar, tC, tOp, tUn, tTup, tLst, tRevL, tPar, tPar3, tAug, ipI, tCB, tFld, sFld, iList, iTup, iRng1, iRng2, iEnum, iEnumT, tChain, tSl, tPart, tNoPart, tBM, tCallKw, tTruth, tYes, qAdd, qSub, qMul, qMulW, qDiv, qDivW, qMod, qPow, qLt, qLe, qGt, qGe, qIsN, qNotN, qInt, qAbs, qMax2, qMin2, rI0, rI, rU, rEq, rNe, scal, qIxL, qIxT, qLenQ, qSetL, lstOf_upd, tupOf_upd, atI_0, atI_1, atI_2, atI_3, upd_same, upd_upd, ixL0, ixL1, ixL2, HO.lst.injEq, HO.tup.injEq, List.getElem?_cons_zero, List.getElem?_cons_succ, List.set_cons_zero, List.set_cons_succ, Option.some.injEq, exists_eq_left', exists_eq_left, exists_and_left, V.int.injEq, V.bl.injEq, V.ref.injEq, V.str.injEq, List.append_nil, List.cons.injEq, and_assoc, and_true, true_and, reduceCtorEq, false_and, and_false, false_or, or_false, exists_false, decide_true, decide_false, Bool.not_true, Bool.not_false, not_true_eq_false, not_false_eq_true, if_true, if_false, Bool.false_eq_true, decide_eq_true_eq, Bool.not_eq_true', decide_eq_false_iff_not, t__law_figures, t__law_figures_s1]
  refine draw_c hp rfl (w := 5) (by decide) (by decide) fun way H1 hway d1 => ?_
  refine draw_c d1.2 (w := b - 1) (by omega) (by omega) (by omega) fun r1 H2 hr1 d2 => ?_
  simp only [tSeq, tAsg_name, tAsg_sub, tAsg_tup, tRet, tRetN, tDrop, tIfS, tNext, tNever, tBreak, tCont, tAndV, tOrV, tNotV, tAnd, tOr, tNot, tB, tTest, tIf, tCall, tCons, tNil, tVar, tC, tOp, tUn, tTup, tLst, tRevL, tPar, tPar3, tAug, ipI, tCB, tFld, sFld, iList, iTup, iRng1, iRng2, iEnum, iEnumT, tChain, tSl, tPart, tNoPart, tBM, tCallKw, tTruth, tYes, qAdd, qSub, qMul, qMulW, qDiv, qDivW, qMod, qPow, qLt, qLe, qGt, qGe, qIsN, qNotN, qInt, qAbs, qMax2, qMin2, rI0, rI, rU, rEq, rNe, scal, qIxL, qIxT, qLenQ, qSetL, lstOf_upd, tupOf_upd, atI_0, atI_1, atI_2, atI_3, upd_same, upd_upd, ixL0, ixL1, ixL2, HO.lst.injEq, HO.tup.injEq, List.getElem?_cons_zero, List.getElem?_cons_succ, List.set_cons_zero, List.set_cons_succ, Option.some.injEq, exists_eq_left', exists_eq_left, exists_and_left, V.int.injEq, V.bl.injEq, V.ref.injEq, V.str.injEq, List.append_nil, List.cons.injEq, and_assoc, and_true, true_and, reduceCtorEq, false_and, and_false, false_or, or_false, exists_false, decide_true, decide_false, Bool.not_true, Bool.not_false, not_true_eq_false, not_false_eq_true, if_true, if_false, Bool.false_eq_true, decide_eq_true_eq, Bool.not_eq_true', decide_eq_false_iff_not]
  refine ⟨by show 1 ≤ sizeLine; decide, fun R hR => ?_⟩
  have D2 := d1.trans d2
  have hR0 : H R = none := D2.free hR
  have hRp : R ≠ p := D2.2.not hR
  simp only [tSeq, tAsg_name, tAsg_sub, tAsg_tup, tRet, tRetN, tDrop, tIfS, tNext, tNever, tBreak, tCont, tAndV, tOrV, tNotV, tAnd, tOr, tNot, tB, tTest, tIf, tCall, tCons, tNil, tVar, tC, tOp, tUn, tTup, tLst, tRevL, tPar, tPar3, tAug, ipI, tCB, tFld, sFld, iList, iTup, iRng1, iRng2, iEnum, iEnumT, tChain, tSl, tPart, tNoPart, tBM, tCallKw, tTruth, tYes, qAdd, qSub, qMul, qMulW, qDiv, qDivW, qMod, qPow, qLt, qLe, qGt, qGe, qIsN, qNotN, qInt, qAbs, qMax2, qMin2, rI0, rI, rU, rEq, rNe, scal, qIxL, qIxT, qLenQ, qSetL, lstOf_upd, tupOf_upd, atI_0, atI_1, atI_2, atI_3, upd_same, upd_upd, ixL0, ixL1, ixL2, HO.lst.injEq, HO.tup.injEq, List.getElem?_cons_zero, List.getElem?_cons_succ, List.set_cons_zero, List.set_cons_succ, Option.some.injEq, exists_eq_left', exists_eq_left, exists_and_left, V.int.injEq, V.bl.injEq, V.ref.injEq, V.str.injEq, List.append_nil, List.cons.injEq, and_assoc, and_true, true_and, reduceCtorEq, false_and, and_false, false_or, or_false, exists_false, decide_true, decide_false, Bool.not_true, Bool.not_false, not_true_eq_false, not_false_eq_true, if_true, if_false, Bool.false_eq_true, decide_eq_true_eq, Bool.not_eq_true', decide_eq_false_iff_not, t__law_figures_s4, tFor]
  refine ⟨by show 3 ≤ sizeLine; decide, fun L hL => ?_⟩
  have D3 := (D2.new (o := .lst [V.int (1 + (r1 : Int))]) hR).new (o := .lst [V.int 2, V.int 5, V.int 20]) hL
  have e1 : [V.int (1 + (r1 : Int))] = ofNats [r1 + 1] := by
    show _ = [V.int ((r1 + 1 : Nat) : Int)]
    rw [show ((r1 + 1 : Nat) : Int) = 1 + (r1 : Int) from by omega]
  have hRL : R ≠ L := ne_of_none (upd_same (H := H2) (a := R) (o := .lst [V.int (1 + (r1 : Int))])) hL
  refine one_c D3.2 upd_same ((D2.new (o := .lst [V.int (1 + (r1 : Int))]) hR).2.not hL) (by show 0 < 3; decide) (by show 3 < 1000000; decide) fun v H4 hv d4 => ?_
  obtain ⟨w, rfl, hw0, hw1⟩ : ∃ w : Nat, v = V.int (w : Int) ∧ 0 < w ∧ w ≤ 20 := by
    simp only [List.mem_cons, List.mem_nil_iff, or_false] at hv
    rcases hv with rfl | rfl | rfl
    · exact ⟨2, rfl, by decide, by decide⟩
    · exact ⟨5, rfl, by decide, by decide⟩
    · exact ⟨20, rfl, by decide, by decide⟩
  have D4 := D3.trans d4
  have hR4 : H4 R = some (.lst (ofNats [r1 + 1])) := d4.1 _ _ hRp (by rw [upd_ne hRL, upd_same, e1])
  refine draw_c D4.2 rfl hw0 (by omega) fun n H5 hn d5 => ?_
  have D5 := D4.trans d5
  have hR5 := d5.1 _ _ hRp hR4
  simp only [tSeq, tAsg_name, tAsg_sub, tAsg_tup, tRet, tRetN, tDrop, tIfS, tNext, tNever, tBreak, tCont, tAndV, tOrV, tNotV, tAnd, tOr, tNot, tB, tTest, tIf, tCall, tCons, tNil, tVar, tC, tOp, tUn, tTup, tLst, tRevL, tPar, tPar3, tAug, ipI, tCB, tFld, sFld, iList, iTup, iRng1, iRng2, iEnum, iEnumT, tChain, tSl, tPart, tNoPart, tBM, tCallKw, tTruth, tYes, qAdd, qSub, qMul, qMulW, qDiv, qDivW, qMod, qPow, qLt, qLe, qGt, qGe, qIsN, qNotN, qInt, qAbs, qMax2, qMin2, rI0, rI, rU, rEq, rNe, scal, qIxL, qIxT, qLenQ, qSetL, lstOf_upd, tupOf_upd, atI_0, atI_1, atI_2, atI_3, upd_same, upd_upd, ixL0, ixL1, ixL2, HO.lst.injEq, HO.tup.injEq, List.getElem?_cons_zero, List.getElem?_cons_succ, List.set_cons_zero, List.set_cons_succ, Option.some.injEq, exists_eq_left', exists_eq_left, exists_and_left, V.int.injEq, V.bl.injEq, V.ref.injEq, V.str.injEq, List.append_nil, List.cons.injEq, and_assoc, and_true, true_and, reduceCtorEq, false_and, and_false, false_or, or_false, exists_false, decide_true, decide_false, Bool.not_true, Bool.not_false, not_true_eq_false, not_false_eq_true, if_true, if_false, Bool.false_eq_true, decide_eq_true_eq, Bool.not_eq_true', decide_eq_false_iff_not]
  refine ⟨by omega, by omega, ?_⟩
  have en : (n : Int).toNat = n := by omega
  rw [en]
  refine lp_rng (n := n) (fun i σ H' => ∃ (ds : List Nat) (v : Option V), σ = [some (.ref p), some (.int b), some (.int way), some (.ref R), v] ∧ Drawn p H H' ∧ H' R = some (.lst (ofNats ds)) ∧ rowOk b ds (1 + i))
    ⟨_, none, rfl, D5, hR5, rowOk.cons (by omega) rowOk.nil⟩ ?_ ?_
  · rintro i σ H' hi ⟨ds, v, rfl, D, hd, ok⟩
    simp only [tSeq, tAsg_name, tAsg_sub, tAsg_tup, tRet, tRetN, tDrop, tIfS, tNext, tNever, tBreak, tCont, tAndV, tOrV, tNotV, tAnd, tOr, tNot, tB, tTest, tIf, tCall, tCons, tNil, tVar, tC, tOp, tUn, tTup, tLst, tRevL, tPar, tPar3, tAug, ipI, tCB, tFld, sFld, iList, iTup, iRng1, iRng2, iEnum, iEnumT, tChain, tSl, tPart, tNoPart, tBM, tCallKw, tTruth, tYes, qAdd, qSub, qMul, qMulW, qDiv, qDivW, qMod, qPow, qLt, qLe, qGt, qGe, qIsN, qNotN, qInt, qAbs, qMax2, qMin2, rI0, rI, rU, rEq, rNe, scal, qIxL, qIxT, qLenQ, qSetL, lstOf_upd, tupOf_upd, atI_0, atI_1, atI_2, atI_3, upd_same, upd_upd, ixL0, ixL1, ixL2, HO.lst.injEq, HO.tup.injEq, List.getElem?_cons_zero, List.getElem?_cons_succ, List.set_cons_zero, List.set_cons_succ, Option.some.injEq, exists_eq_left', exists_eq_left, exists_and_left, V.int.injEq, V.bl.injEq, V.ref.injEq, V.str.injEq, List.append_nil, List.cons.injEq, and_assoc, and_true, true_and, reduceCtorEq, false_and, and_false, false_or, or_false, exists_false, decide_true, decide_false, Bool.not_true, Bool.not_false, not_true_eq_false, not_false_eq_true, if_true, if_false, Bool.false_eq_true, decide_eq_true_eq, Bool.not_eq_true', decide_eq_false_iff_not, gName_ap, gTup_ap, gCons_ap, gNil_ap, gSub_ap, t__law_figures_b3, t__law_figures_s2]
    refine ⟨.inl ⟨rfl, _, SqL.of hd⟩, draw_c D.2 rfl (w := b) (by omega) (by omega) fun d H6 hdb d6 => ?_⟩
    have hd6 := d6.1 _ _ hRp hd
    refine ⟨R, _, _, rfl, rfl, hd6, ?_, (D.trans d6).own hR0 hRp, ds ++ [d], ?_, (ok.app (rowOk.cons hdb (rowOk.nil (k := 0)))).mono (by omega)⟩
    · have := ok.1
      have z : (sizeLine : Nat) = 16777216 := rfl
      rw [ofNats_length]
      omega
    · rw [upd_same, ofNats_append]; rfl
  · rintro σ H' ⟨ds, v, rfl, D, hd, ok0⟩
    have ok : rowOk b ds 20 := ok0.mono (by omega)
    have hz : (sizeLine : Nat) = 16777216 := rfl
    have b6 : t__law_figures_b6 K { nx := tSeq (t__law_figures_s10 K) (tSeq (t__law_figures_s11 K) (t__law_figures_s12 K)) { nx := fun _ H' => Q .non H', rt := Q }, rt := Q } [some (.ref p), some (.int b), some (.int way), some (.ref R), v] H' := by
      simp only [tSeq, tAsg_name, tAsg_sub, tAsg_tup, tRet, tRetN, tDrop, tIfS, tNext, tNever, tBreak, tCont, tAndV, tOrV, tNotV, tAnd, tOr, tNot, tB, tTest, tIf, tCall, tCons, tNil, tVar, tC, tOp, tUn, tTup, tLst, tRevL, tPar, tPar3, tAug, ipI, tCB, tFld, sFld, iList, iTup, iRng1, iRng2, iEnum, iEnumT, tChain, tSl, tPart, tNoPart, tBM, tCallKw, tTruth, tYes, qAdd, qSub, qMul, qMulW, qDiv, qDivW, qMod, qPow, qLt, qLe, qGt, qGe, qIsN, qNotN, qInt, qAbs, qMax2, qMin2, rI0, rI, rU, rEq, rNe, scal, qIxL, qIxT, qLenQ, qSetL, lstOf_upd, tupOf_upd, atI_0, atI_1, atI_2, atI_3, upd_same, upd_upd, ixL0, ixL1, ixL2, HO.lst.injEq, HO.tup.injEq, List.getElem?_cons_zero, List.getElem?_cons_succ, List.set_cons_zero, List.set_cons_succ, Option.some.injEq, exists_eq_left', exists_eq_left, exists_and_left, V.int.injEq, V.bl.injEq, V.ref.injEq, V.str.injEq, List.append_nil, List.cons.injEq, and_assoc, and_true, true_and, reduceCtorEq, false_and, and_false, false_or, or_false, exists_false, decide_true, decide_false, Bool.not_true, Bool.not_false, not_true_eq_false, not_false_eq_true, if_true, if_false, Bool.false_eq_true, decide_eq_true_eq, Bool.not_eq_true', decide_eq_false_iff_not, t__law_figures_b6, t__law_figures_s5]
      refine ite2 (fun _ => ?_) (fun _ => ?_)
      · refine ⟨_, SqL.of hd, fun r hr => ⟨R, r, _, _, rfl, rfl, by rw [upd_ne (ne_of_none hd hr)]; exact hd, upd_same, ?_, fun t ht => ?_⟩⟩
        · have := ok.1
          rw [List.length_reverse, ofNats_length]; omega
        · have Dr := D.new (o := .lst (ofNats ds).reverse) hr
          exact q (ds ++ ds.reverse) _ t ((ok.app ok.rev).mono (by decide)) (Dr.new ht) (Dr.free ht) (by rw [upd_same, ofNats_append, ofNats_reverse])
      · simp only [tSeq, tAsg_name, tAsg_sub, tAsg_tup, tRet, tRetN, tDrop, tIfS, tNext, tNever, tBreak, tCont, tAndV, tOrV, tNotV, tAnd, tOr, tNot, tB, tTest, tIf, tCall, tCons, tNil, tVar, tC, tOp, tUn, tTup, tLst, tRevL, tPar, tPar3, tAug, ipI, tCB, tFld, sFld, iList, iTup, iRng1, iRng2, iEnum, iEnumT, tChain, tSl, tPart, tNoPart, tBM, tCallKw, tTruth, tYes, qAdd, qSub, qMul, qMulW, qDiv, qDivW, qMod, qPow, qLt, qLe, qGt, qGe, qIsN, qNotN, qInt, qAbs, qMax2, qMin2, rI0, rI, rU, rEq, rNe, scal, qIxL, qIxT, qLenQ, qSetL, lstOf_upd, tupOf_upd, atI_0, atI_1, atI_2, atI_3, upd_same, upd_upd, ixL0, ixL1, ixL2, HO.lst.injEq, HO.tup.injEq, List.getElem?_cons_zero, List.getElem?_cons_succ, List.set_cons_zero, List.set_cons_succ, Option.some.injEq, exists_eq_left', exists_eq_left, exists_and_left, V.int.injEq, V.bl.injEq, V.ref.injEq, V.str.injEq, List.append_nil, List.cons.injEq, and_assoc, and_true, true_and, reduceCtorEq, false_and, and_false, false_or, or_false, exists_false, decide_true, decide_false, Bool.not_true, Bool.not_false, not_true_eq_false, not_false_eq_true, if_true, if_false, Bool.false_eq_true, decide_eq_true_eq, Bool.not_eq_true', decide_eq_false_iff_not, rSlL]
        refine ⟨_, SqL.of hd, fun r hr => ⟨_, SqL.of (by rw [upd_ne (ne_of_none hd hr)]; exact hd), fun t ht => ⟨r, t, _, _, rfl, rfl, by rw [upd_ne (ne_of_none upd_same ht), upd_same], upd_same, ?_, fun u hu => ?_⟩⟩⟩
        · have := ok.1
          have h2 := cutV_length (ofNats ds) none (some (-1))
          rw [List.length_reverse]
          rw [ofNats_length] at *
          omega
        · have Dr := (D.new (o := .lst (cutV (ofNats ds) none (some (-1)))) hr).new (o := .lst (ofNats ds).reverse) ht
          exact q (ds.take (ds.length - 1) ++ ds.reverse) _ u ((ok.take.app ok.rev).mono (by decide)) (Dr.new hu) (Dr.free hu) (by rw [upd_same, ofNats_append, ofNats_reverse, cut_last])
    have s10 : t__law_figures_s10 K { nx := tSeq (t__law_figures_s11 K) (t__law_figures_s12 K) { nx := fun _ H' => Q .non H', rt := Q }, rt := Q } [some (.ref p), some (.int b), some (.int way), some (.ref R), v] H' := by
      simp only [tSeq, tAsg_name, tAsg_sub, tAsg_tup, tRet, tRetN, tDrop, tIfS, tNext, tNever, tBreak, tCont, tAndV, tOrV, tNotV, tAnd, tOr, tNot, tB, tTest, tIf, tCall, tCons, tNil, tVar, tC, tOp, tUn, tTup, tLst, tRevL, tPar, tPar3, tAug, ipI, tCB, tFld, sFld, iList, iTup, iRng1, iRng2, iEnum, iEnumT, tChain, tSl, tPart, tNoPart, tBM, tCallKw, tTruth, tYes, qAdd, qSub, qMul, qMulW, qDiv, qDivW, qMod, qPow, qLt, qLe, qGt, qGe, qIsN, qNotN, qInt, qAbs, qMax2, qMin2, rI0, rI, rU, rEq, rNe, scal, qIxL, qIxT, qLenQ, qSetL, lstOf_upd, tupOf_upd, atI_0, atI_1, atI_2, atI_3, upd_same, upd_upd, ixL0, ixL1, ixL2, HO.lst.injEq, HO.tup.injEq, List.getElem?_cons_zero, List.getElem?_cons_succ, List.set_cons_zero, List.set_cons_succ, Option.some.injEq, exists_eq_left', exists_eq_left, exists_and_left, V.int.injEq, V.bl.injEq, V.ref.injEq, V.str.injEq, List.append_nil, List.cons.injEq, and_assoc, and_true, true_and, reduceCtorEq, false_and, and_false, false_or, or_false, exists_false, decide_true, decide_false, Bool.not_true, Bool.not_false, not_true_eq_false, not_false_eq_true, if_true, if_false, Bool.false_eq_true, decide_eq_true_eq, Bool.not_eq_true', decide_eq_false_iff_not, t__law_figures_s10]
      refine ite2 (fun _ => ?_) (fun _ => ?_)
      · simp only [tSeq, tAsg_name, tAsg_sub, tAsg_tup, tRet, tRetN, tDrop, tIfS, tNext, tNever, tBreak, tCont, tAndV, tOrV, tNotV, tAnd, tOr, tNot, tB, tTest, tIf, tCall, tCons, tNil, tVar, tC, tOp, tUn, tTup, tLst, tRevL, tPar, tPar3, tAug, ipI, tCB, tFld, sFld, iList, iTup, iRng1, iRng2, iEnum, iEnumT, tChain, tSl, tPart, tNoPart, tBM, tCallKw, tTruth, tYes, qAdd, qSub, qMul, qMulW, qDiv, qDivW, qMod, qPow, qLt, qLe, qGt, qGe, qIsN, qNotN, qInt, qAbs, qMax2, qMin2, rI0, rI, rU, rEq, rNe, scal, qIxL, qIxT, qLenQ, qSetL, lstOf_upd, tupOf_upd, atI_0, atI_1, atI_2, atI_3, upd_same, upd_upd, ixL0, ixL1, ixL2, HO.lst.injEq, HO.tup.injEq, List.getElem?_cons_zero, List.getElem?_cons_succ, List.set_cons_zero, List.set_cons_succ, Option.some.injEq, exists_eq_left', exists_eq_left, exists_and_left, V.int.injEq, V.bl.injEq, V.ref.injEq, V.str.injEq, List.append_nil, List.cons.injEq, and_assoc, and_true, true_and, reduceCtorEq, false_and, and_false, false_or, or_false, exists_false, decide_true, decide_false, Bool.not_true, Bool.not_false, not_true_eq_false, not_false_eq_true, if_true, if_false, Bool.false_eq_true, decide_eq_true_eq, Bool.not_eq_true', decide_eq_false_iff_not, t__law_figures_b9, t__law_figures_s8]
        exact q ds _ R (ok.mono (by decide)) D hR0 hd
      · have s12 : ∀ (es : List Nat) (Hc : Hp) (r : Addr), rowOk b es 12 → Drawn p H Hc → H r = none → r ≠ p → Hc r = some (.lst (ofNats es)) → t__law_figures_s12 K { nx := fun _ H' => Q .non H', rt := Q } [some (.ref p), some (.int b), some (.int way), some (.ref r), v] Hc := by
          intro es Hc r ok2 D2 hr0 hrp hr
          simp only [tSeq, tAsg_name, tAsg_sub, tAsg_tup, tRet, tRetN, tDrop, tIfS, tNext, tNever, tBreak, tCont, tAndV, tOrV, tNotV, tAnd, tOr, tNot, tB, tTest, tIf, tCall, tCons, tNil, tVar, tC, tOp, tUn, tTup, tLst, tRevL, tPar, tPar3, tAug, ipI, tCB, tFld, sFld, iList, iTup, iRng1, iRng2, iEnum, iEnumT, tChain, tSl, tPart, tNoPart, tBM, tCallKw, tTruth, tYes, qAdd, qSub, qMul, qMulW, qDiv, qDivW, qMod, qPow, qLt, qLe, qGt, qGe, qIsN, qNotN, qInt, qAbs, qMax2, qMin2, rI0, rI, rU, rEq, rNe, scal, qIxL, qIxT, qLenQ, qSetL, lstOf_upd, tupOf_upd, atI_0, atI_1, atI_2, atI_3, upd_same, upd_upd, ixL0, ixL1, ixL2, HO.lst.injEq, HO.tup.injEq, List.getElem?_cons_zero, List.getElem?_cons_succ, List.set_cons_zero, List.set_cons_succ, Option.some.injEq, exists_eq_left', exists_eq_left, exists_and_left, V.int.injEq, V.bl.injEq, V.ref.injEq, V.str.injEq, List.append_nil, List.cons.injEq, and_assoc, and_true, true_and, reduceCtorEq, false_and, and_false, false_or, or_false, exists_false, decide_true, decide_false, Bool.not_true, Bool.not_false, not_true_eq_false, not_false_eq_true, if_true, if_false, Bool.false_eq_true, decide_eq_true_eq, Bool.not_eq_true', decide_eq_false_iff_not, t__law_figures_s12]
          refine ite2 (fun _ => ?_) (fun _ => ?_)
          · refine ⟨by show 1 ≤ sizeLine; decide, fun z hz1 => draw_c (D2.new hz1).2 rfl (w := 4) (by decide) (by decide) fun n Hd hn dd => ?_⟩
            have Dd := (D2.new (o := .lst [V.int 0]) hz1).trans dd
            have hzd := dd.1 _ _ (D2.2.not hz1) (upd_same (H := Hc) (a := z) (o := .lst [V.int 0]))
            have hrd := dd.1 _ _ hrp (at_new (o' := .lst [V.int 0]) hr hz1)
            have er : (List.replicate ((n : Int)).toNat [V.int 0]).flatten = ofNats (List.replicate n 0) := rep_ofNats 0 n
            have l1 := ok2.1
            refine ⟨z, n, _, rfl, rfl, hzd, by omega, by omega, by simp only [List.length_cons, List.length_nil]; omega, fun u hu => ?_⟩
            rw [er]
            refine ⟨r, u, _, _, rfl, rfl, at_new hrd hu, upd_same, by rw [ofNats_length, ofNats_length, List.length_replicate]; omega, fun w hw => ⟨w, r, _, _, rfl, rfl, upd_same, at_new (at_new hrd hu) hw, by rw [List.length_append, ofNats_length, ofNats_length, List.length_replicate]; omega, fun x hx => ?_⟩⟩
            have Dx := (Dd.new (o := .lst (ofNats (List.replicate n 0))) hu).new (o := .lst (ofNats es ++ ofNats (List.replicate n 0))) hw
            exact q (es ++ List.replicate n 0 ++ es) _ x (((ok2.app (rowOk.rep (k := 4) (by omega) (by omega))).app ok2).mono (by decide)) (Dx.new hx) (Dx.free hx) (by rw [upd_same, ofNats_append, ofNats_append])
          · exact q es _ r (ok2.mono (by decide)) D2 hr0 hr
        simp only [tSeq, tAsg_name, tAsg_sub, tAsg_tup, tRet, tRetN, tDrop, tIfS, tNext, tNever, tBreak, tCont, tAndV, tOrV, tNotV, tAnd, tOr, tNot, tB, tTest, tIf, tCall, tCons, tNil, tVar, tC, tOp, tUn, tTup, tLst, tRevL, tPar, tPar3, tAug, ipI, tCB, tFld, sFld, iList, iTup, iRng1, iRng2, iEnum, iEnumT, tChain, tSl, tPart, tNoPart, tBM, tCallKw, tTruth, tYes, qAdd, qSub, qMul, qMulW, qDiv, qDivW, qMod, qPow, qLt, qLe, qGt, qGe, qIsN, qNotN, qInt, qAbs, qMax2, qMin2, rI0, rI, rU, rEq, rNe, scal, qIxL, qIxT, qLenQ, qSetL, lstOf_upd, tupOf_upd, atI_0, atI_1, atI_2, atI_3, upd_same, upd_upd, ixL0, ixL1, ixL2, HO.lst.injEq, HO.tup.injEq, List.getElem?_cons_zero, List.getElem?_cons_succ, List.set_cons_zero, List.set_cons_succ, Option.some.injEq, exists_eq_left', exists_eq_left, exists_and_left, V.int.injEq, V.bl.injEq, V.ref.injEq, V.str.injEq, List.append_nil, List.cons.injEq, and_assoc, and_true, true_and, reduceCtorEq, false_and, and_false, false_or, or_false, exists_false, decide_true, decide_false, Bool.not_true, Bool.not_false, not_true_eq_false, not_false_eq_true, if_true, if_false, Bool.false_eq_true, decide_eq_true_eq, Bool.not_eq_true', decide_eq_false_iff_not, t__law_figures_s11]
        refine ite2 (fun c => ?_) (fun _ => ?_)
        · have e2 : (b : Int) - 1 = ((b - 1 : Nat) : Int) := by omega
          have e3 : (b : Int) - 2 = ((b - 2 : Nat) : Int) := by omega
          rw [e2, e3]
          refine ⟨by show 2 ≤ sizeLine; decide, fun a1 h1 => ⟨by show 1 ≤ sizeLine; decide, fun a2 h2 => ?_⟩⟩
          have Da := (D.new (o := .lst [V.int 1, V.int 0]) h1).new (o := .lst [V.int ((b - 1 : Nat) : Int)]) h2
          refine draw_c Da.2 rfl (w := 9) (by decide) (by decide) fun n Hd hn dd => ?_
          have Dd := Da.trans dd
          have g1 := dd.1 _ _ (D.2.not h1) (at_new (o' := .lst [V.int ((b - 1 : Nat) : Int)]) (upd_same (H := H') (a := a1) (o := .lst [V.int 1, V.int 0])) h2)
          have g2 := dd.1 _ _ ((D.new (o := .lst [V.int 1, V.int 0]) h1).2.not h2) (upd_same (H := upd H' a1 (.lst [V.int 1, V.int 0])) (a := a2) (o := .lst [V.int ((b - 1 : Nat) : Int)]))
          have er : (List.replicate ((n : Int)).toNat [V.int ((b - 1 : Nat) : Int)]).flatten = ofNats (List.replicate n (b - 1)) := rep_ofNats (b - 1) n
          refine ⟨a2, n, _, rfl, rfl, g2, by omega, by omega, by simp only [List.length_cons, List.length_nil]; omega, fun a3 h3 => ?_⟩
          rw [er]
          refine ⟨a1, a3, _, _, rfl, rfl, at_new g1 h3, upd_same, by rw [ofNats_length, List.length_replicate]; simp only [List.length_cons, List.length_nil]; omega, fun a4 h4 => ⟨by show 2 ≤ sizeLine; decide, fun a5 h5 => ?_⟩⟩
          refine ⟨a4, a5, _, _, rfl, rfl, at_new upd_same h5, upd_same, by rw [List.length_append, ofNats_length, List.length_replicate]; simp only [List.length_cons, List.length_nil]; omega, fun a6 h6 => ?_⟩
          have Dx := ((Dd.new (o := .lst (ofNats (List.replicate n (b - 1)))) h3).new (o := .lst ([V.int 1, V.int 0] ++ ofNats (List.replicate n (b - 1)))) h4).new (o := .lst [V.int ((b - 2 : Nat) : Int), V.int ((b - 1 : Nat) : Int)]) h5
          refine s12 ([1, 0] ++ List.replicate n (b - 1) ++ [b - 2, b - 1]) _ a6 ?_ (Dx.new h6) (Dx.free h6) (Dx.2.not h6) ?_
          · have o1 : rowOk b [1, 0] 2 := rowOk.cons (by omega) (rowOk.cons (by omega) rowOk.nil)
            have o2 : rowOk b [b - 2, b - 1] 2 := rowOk.cons (by omega) (rowOk.cons (by omega) rowOk.nil)
            exact ((o1.app (rowOk.rep (k := 8) (by omega) (by omega))).app o2).mono (by decide)
          · rw [upd_same, ofNats_append, ofNats_append]; rfl
        · refine ⟨by show 1 ≤ sizeLine; decide, fun r hr => s12 [1] _ r ((rowOk.cons (by omega) (rowOk.nil (k := 0))).mono (by decide)) (D.new hr) (D.free hr) (D.2.not hr) upd_same⟩
    simp only [tSeq, tAsg_name, tAsg_sub, tAsg_tup, tRet, tRetN, tDrop, tIfS, tNext, tNever, tBreak, tCont, tAndV, tOrV, tNotV, tAnd, tOr, tNot, tB, tTest, tIf, tCall, tCons, tNil, tVar, tC, tOp, tUn, tTup, tLst, tRevL, tPar, tPar3, tAug, ipI, tCB, tFld, sFld, iList, iTup, iRng1, iRng2, iEnum, iEnumT, tChain, tSl, tPart, tNoPart, tBM, tCallKw, tTruth, tYes, qAdd, qSub, qMul, qMulW, qDiv, qDivW, qMod, qPow, qLt, qLe, qGt, qGe, qIsN, qNotN, qInt, qAbs, qMax2, qMin2, rI0, rI, rU, rEq, rNe, scal, qIxL, qIxT, qLenQ, qSetL, lstOf_upd, tupOf_upd, atI_0, atI_1, atI_2, atI_3, upd_same, upd_upd, ixL0, ixL1, ixL2, HO.lst.injEq, HO.tup.injEq, List.getElem?_cons_zero, List.getElem?_cons_succ, List.set_cons_zero, List.set_cons_succ, Option.some.injEq, exists_eq_left', exists_eq_left, exists_and_left, V.int.injEq, V.bl.injEq, V.ref.injEq, V.str.injEq, List.append_nil, List.cons.injEq, and_assoc, and_true, true_and, reduceCtorEq, false_and, and_false, false_or, or_false, exists_false, decide_true, decide_false, Bool.not_true, Bool.not_false, not_true_eq_false, not_false_eq_true, if_true, if_false, Bool.false_eq_true, decide_eq_true_eq, Bool.not_eq_true', decide_eq_false_iff_not, t__law_figures_s7]
    refine ite2 (fun _ => b6) (fun _ => ite2 (fun _ => ite2 (fun _ => b6) (fun _ => s10)) (fun _ => s10))

theorem pure__law_number {K : PySem.W.Frag} (vs : List V) (H : Hp) (Q : VK) (E : XK) (h : sp__law_number K vs H Q E) : t__law_number K { nx := fun _ H' => Q .non H', rt := Q } (L2.start ["_law_pool", "_law_b", "_law_rows", "_law_row", "_law_way"] vs) H := by
  obtain ⟨p, a, b, rs, rfl, hp, hb, hb10, hap, ha, hl0, hl1, hrs, q⟩ := h
  show t__law_number K _ [some (.ref p), some (.int b), some (.ref a), none, none] H
  have hz : (sizeLine : Nat) = 16777216 := rfl
  -- the end: a row of at most 57 figures
  have fin : ∀ (ds : List Nat) (Hc : Hp) (r : Addr) (w : V), rowOk b ds 57 → Drawn p H Hc → Hc r = some (.lst (ofNats ds)) → t__law_number_s11 K { nx := fun _ H' => Q .non H', rt := Q } [some (.ref p), some (.int b), some (.ref a), some (.ref r), some w] Hc := by
    intro ds Hc r w ok D hr
    have hu : undig b ds < 10 ^ 57 := by
      have h1 := undig_lt ds ok.2 0
      have h2 : b ^ ds.length ≤ 10 ^ 57 := Nat.le_trans (Nat.pow_le_pow_left hb10 _) (Nat.pow_le_pow_right (by decide) ok.1)
      have h3 : (0 + 1) * b ^ ds.length = b ^ ds.length := by simp
      rw [h3] at h1
      exact Nat.lt_of_lt_of_le h1 h2
    simp only [tSeq, tAsg_name, tAsg_sub, tAsg_tup, tRet, tRetN, tDrop, tIfS, tNext, tNever, tBreak, tCont, tAndV, tOrV, tNotV, tAnd, tOr, tNot, tB, tTest, tIf, tCall, tCons, tNil, tVar, tC, tOp, tUn, tTup, tLst, tRevL, tPar, tPar3, tAug, ipI, tCB, tFld, sFld, iList, iTup, iRng1, iRng2, iEnum, iEnumT, tChain, tSl, tPart, tNoPart, tBM, tCallKw, tTruth, tYes, qAdd, qSub, qMul, qMulW, qDiv, qDivW, qMod, qPow, qLt, qLe, qGt, qGe, qIsN, qNotN, qInt, qAbs, qMax2, qMin2, rI0, rI, rU, rEq, rNe, scal, qIxL, qIxT, qLenQ, qSetL, lstOf_upd, tupOf_upd, atI_0, atI_1, atI_2, atI_3, upd_same, upd_upd, ixL0, ixL1, ixL2, HO.lst.injEq, HO.tup.injEq, List.getElem?_cons_zero, List.getElem?_cons_succ, List.set_cons_zero, List.set_cons_succ, Option.some.injEq, exists_eq_left', exists_eq_left, exists_and_left, V.int.injEq, V.bl.injEq, V.ref.injEq, V.str.injEq, List.append_nil, List.cons.injEq, and_assoc, and_true, true_and, reduceCtorEq, false_and, and_false, false_or, or_false, exists_false, decide_true, decide_false, Bool.not_true, Bool.not_false, not_true_eq_false, not_false_eq_true, if_true, if_false, Bool.false_eq_true, decide_eq_true_eq, Bool.not_eq_true', decide_eq_false_iff_not, t__law_number_s11, sp__law_joined]
    refine ⟨ds, b, rfl, SqL.of hr, hb10, ?_⟩
    have e : (if ((undig b ds : Nat) : Int) > 1 then ((undig b ds : Nat) : Int) else 1) = ((max 1 (undig b ds) : Nat) : Int) := by
      split <;> omega
    rw [e]
    exact q _ Hc (by omega) (by omega) D
  -- a 0 behind, or none
  have s10 : ∀ (ds : List Nat) (Hc : Hp) (r : Addr) (w : Nat), rowOk b ds 57 → (w = 3 → rowOk b ds 56) → Drawn p H Hc → Hc r = some (.lst (ofNats ds)) → t__law_number_s10 K { nx := t__law_number_s11 K { nx := fun _ H' => Q .non H', rt := Q }, rt := Q } [some (.ref p), some (.int b), some (.ref a), some (.ref r), some (.int w)] Hc := by
    intro ds Hc r w ok ok3 D hr
    simp only [tSeq, tAsg_name, tAsg_sub, tAsg_tup, tRet, tRetN, tDrop, tIfS, tNext, tNever, tBreak, tCont, tAndV, tOrV, tNotV, tAnd, tOr, tNot, tB, tTest, tIf, tCall, tCons, tNil, tVar, tC, tOp, tUn, tTup, tLst, tRevL, tPar, tPar3, tAug, ipI, tCB, tFld, sFld, iList, iTup, iRng1, iRng2, iEnum, iEnumT, tChain, tSl, tPart, tNoPart, tBM, tCallKw, tTruth, tYes, qAdd, qSub, qMul, qMulW, qDiv, qDivW, qMod, qPow, qLt, qLe, qGt, qGe, qIsN, qNotN, qInt, qAbs, qMax2, qMin2, rI0, rI, rU, rEq, rNe, scal, qIxL, qIxT, qLenQ, qSetL, lstOf_upd, tupOf_upd, atI_0, atI_1, atI_2, atI_3, upd_same, upd_upd, ixL0, ixL1, ixL2, HO.lst.injEq, HO.tup.injEq, List.getElem?_cons_zero, List.getElem?_cons_succ, List.set_cons_zero, List.set_cons_succ, Option.some.injEq, exists_eq_left', exists_eq_left, exists_and_left, V.int.injEq, V.bl.injEq, V.ref.injEq, V.str.injEq, List.append_nil, List.cons.injEq, and_assoc, and_true, true_and, reduceCtorEq, false_and, and_false, false_or, or_false, exists_false, decide_true, decide_false, Bool.not_true, Bool.not_false, not_true_eq_false, not_false_eq_true, if_true, if_false, Bool.false_eq_true, decide_eq_true_eq, Bool.not_eq_true', decide_eq_false_iff_not, t__law_number_s10]
    refine ite2 (fun c => ?_) (fun _ => fin ds Hc r _ ok D hr)
    simp only [tSeq, tAsg_name, tAsg_sub, tAsg_tup, tRet, tRetN, tDrop, tIfS, tNext, tNever, tBreak, tCont, tAndV, tOrV, tNotV, tAnd, tOr, tNot, tB, tTest, tIf, tCall, tCons, tNil, tVar, tC, tOp, tUn, tTup, tLst, tRevL, tPar, tPar3, tAug, ipI, tCB, tFld, sFld, iList, iTup, iRng1, iRng2, iEnum, iEnumT, tChain, tSl, tPart, tNoPart, tBM, tCallKw, tTruth, tYes, qAdd, qSub, qMul, qMulW, qDiv, qDivW, qMod, qPow, qLt, qLe, qGt, qGe, qIsN, qNotN, qInt, qAbs, qMax2, qMin2, rI0, rI, rU, rEq, rNe, scal, qIxL, qIxT, qLenQ, qSetL, lstOf_upd, tupOf_upd, atI_0, atI_1, atI_2, atI_3, upd_same, upd_upd, ixL0, ixL1, ixL2, HO.lst.injEq, HO.tup.injEq, List.getElem?_cons_zero, List.getElem?_cons_succ, List.set_cons_zero, List.set_cons_succ, Option.some.injEq, exists_eq_left', exists_eq_left, exists_and_left, V.int.injEq, V.bl.injEq, V.ref.injEq, V.str.injEq, List.append_nil, List.cons.injEq, and_assoc, and_true, true_and, reduceCtorEq, false_and, and_false, false_or, or_false, exists_false, decide_true, decide_false, Bool.not_true, Bool.not_false, not_true_eq_false, not_false_eq_true, if_true, if_false, Bool.false_eq_true, decide_eq_true_eq, Bool.not_eq_true', decide_eq_false_iff_not, t__law_number_b9, t__law_number_s8]
    have o3 := ok3 (by omega)
    refine ⟨by show 1 ≤ sizeLine; decide, fun z hz1 => ⟨r, z, _, _, rfl, rfl, at_new hr hz1, upd_same, ?_, fun u hu => ?_⟩⟩
    · have := ok.1
      rw [ofNats_length]; simp only [List.length_cons, List.length_nil]; omega
    · exact fin (ds ++ [0]) _ u _ ((o3.app (rowOk.cons (by omega) (rowOk.nil (k := 0)))).mono (by decide)) ((D.new hz1).new hu) (by rw [upd_same, ofNats_append]; rfl)
  -- the row once more behind itself, or not
  have s7 : ∀ (ds : List Nat) (Hc : Hp) (r : Addr) (w : Nat), rowOk b ds 40 → Drawn p H Hc → Hc r = some (.lst (ofNats ds)) → t__law_number_s7 K { nx := tSeq (t__law_number_s10 K) (t__law_number_s11 K) { nx := fun _ H' => Q .non H', rt := Q }, rt := Q } [some (.ref p), some (.int b), some (.ref a), some (.ref r), some (.int w)] Hc := by
    intro ds Hc r w ok D hr
    have go := s10 ds Hc r w (ok.mono (by decide)) (fun _ => ok.mono (by decide)) D hr
    simp only [tSeq, tAsg_name, tAsg_sub, tAsg_tup, tRet, tRetN, tDrop, tIfS, tNext, tNever, tBreak, tCont, tAndV, tOrV, tNotV, tAnd, tOr, tNot, tB, tTest, tIf, tCall, tCons, tNil, tVar, tC, tOp, tUn, tTup, tLst, tRevL, tPar, tPar3, tAug, ipI, tCB, tFld, sFld, iList, iTup, iRng1, iRng2, iEnum, iEnumT, tChain, tSl, tPart, tNoPart, tBM, tCallKw, tTruth, tYes, qAdd, qSub, qMul, qMulW, qDiv, qDivW, qMod, qPow, qLt, qLe, qGt, qGe, qIsN, qNotN, qInt, qAbs, qMax2, qMin2, rI0, rI, rU, rEq, rNe, scal, qIxL, qIxT, qLenQ, qSetL, lstOf_upd, tupOf_upd, atI_0, atI_1, atI_2, atI_3, upd_same, upd_upd, ixL0, ixL1, ixL2, HO.lst.injEq, HO.tup.injEq, List.getElem?_cons_zero, List.getElem?_cons_succ, List.set_cons_zero, List.set_cons_succ, Option.some.injEq, exists_eq_left', exists_eq_left, exists_and_left, V.int.injEq, V.bl.injEq, V.ref.injEq, V.str.injEq, List.append_nil, List.cons.injEq, and_assoc, and_true, true_and, reduceCtorEq, false_and, and_false, false_or, or_false, exists_false, decide_true, decide_false, Bool.not_true, Bool.not_false, not_true_eq_false, not_false_eq_true, if_true, if_false, Bool.false_eq_true, decide_eq_true_eq, Bool.not_eq_true', decide_eq_false_iff_not, t__law_number_s7, sqOf_lst hr]
    refine ite2 (fun c1 => ite2 (fun c2 => ite2 (fun c3 => ?_) (fun _ => go)) (fun _ => go)) (fun _ => go)
    rw [ofNats_length] at c3
    have hw : (w : Int) - 1 = ((w - 1 : Nat) : Int) := by omega
    have er : (List.replicate (((w - 1 : Nat) : Int)).toNat [V.int 0]).flatten = ofNats (List.replicate (w - 1) 0) := rep_ofNats 0 (w - 1)
    simp only [tSeq, tAsg_name, tAsg_sub, tAsg_tup, tRet, tRetN, tDrop, tIfS, tNext, tNever, tBreak, tCont, tAndV, tOrV, tNotV, tAnd, tOr, tNot, tB, tTest, tIf, tCall, tCons, tNil, tVar, tC, tOp, tUn, tTup, tLst, tRevL, tPar, tPar3, tAug, ipI, tCB, tFld, sFld, iList, iTup, iRng1, iRng2, iEnum, iEnumT, tChain, tSl, tPart, tNoPart, tBM, tCallKw, tTruth, tYes, qAdd, qSub, qMul, qMulW, qDiv, qDivW, qMod, qPow, qLt, qLe, qGt, qGe, qIsN, qNotN, qInt, qAbs, qMax2, qMin2, rI0, rI, rU, rEq, rNe, scal, qIxL, qIxT, qLenQ, qSetL, lstOf_upd, tupOf_upd, atI_0, atI_1, atI_2, atI_3, upd_same, upd_upd, ixL0, ixL1, ixL2, HO.lst.injEq, HO.tup.injEq, List.getElem?_cons_zero, List.getElem?_cons_succ, List.set_cons_zero, List.set_cons_succ, Option.some.injEq, exists_eq_left', exists_eq_left, exists_and_left, V.int.injEq, V.bl.injEq, V.ref.injEq, V.str.injEq, List.append_nil, List.cons.injEq, and_assoc, and_true, true_and, reduceCtorEq, false_and, and_false, false_or, or_false, exists_false, decide_true, decide_false, Bool.not_true, Bool.not_false, not_true_eq_false, not_false_eq_true, if_true, if_false, Bool.false_eq_true, decide_eq_true_eq, Bool.not_eq_true', decide_eq_false_iff_not, t__law_number_b6, t__law_number_s5, hw]
    refine ⟨by show 1 ≤ sizeLine; decide, fun z hz1 => ⟨z, _, _, rfl, rfl, upd_same, by omega, by omega, by simp only [List.length_cons, List.length_nil]; omega, fun u hu => ?_⟩⟩
    rw [er]
    refine ⟨r, u, _, _, rfl, rfl, at_new (at_new hr hz1) hu, upd_same, by rw [ofNats_length, ofNats_length, List.length_replicate]; omega, fun x hx => ⟨x, r, _, _, rfl, rfl, upd_same, at_new (at_new (at_new hr hz1) hu) hx, by rw [List.length_append, ofNats_length, ofNats_length, List.length_replicate]; omega, fun y hy => ?_⟩⟩
    have Dx := ((D.new (o := .lst [V.int 0]) hz1).new (o := .lst (ofNats (List.replicate (w - 1) 0))) hu).new (o := .lst (ofNats ds ++ ofNats (List.replicate (w - 1) 0))) hx
    have o28 : rowOk b ds 28 := ⟨by omega, ok.2⟩
    exact s10 (ds ++ List.replicate (w - 1) 0 ++ ds) _ y w (((o28.app (rowOk.rep (k := 1) (by omega) (by omega))).app o28).mono (by decide)) (fun z => absurd z (by omega)) (Dx.new hy) (by rw [upd_same, ofNats_append, ofNats_append])
  simp only [tSeq, tAsg_name, tAsg_sub, tAsg_tup, tRet, tRetN, tDrop, tIfS, tNext, tNever, tBreak, tCont, tAndV, tOrV, tNotV, tAnd, tOr, tNot, tB, tTest, tIf, tCall, tCons, tNil, tVar, tC, tOp, tUn, tTup, tLst, tRevL, tPar, tPar3, tAug, ipI, tCB, tFld, sFld, iList, iTup, iRng1, iRng2, iEnum, iEnumT, tChain, tSl, tPart, tNoPart, tBM, tCallKw, tTruth, tYes, qAdd, qSub, qMul, qMulW, qDiv, qDivW, qMod, qPow, qLt, qLe, qGt, qGe, qIsN, qNotN, qInt, qAbs, qMax2, qMin2, rI0, rI, rU, rEq, rNe, scal, qIxL, qIxT, qLenQ, qSetL, lstOf_upd, tupOf_upd, atI_0, atI_1, atI_2, atI_3, upd_same, upd_upd, ixL0, ixL1, ixL2, HO.lst.injEq, HO.tup.injEq, List.getElem?_cons_zero, List.getElem?_cons_succ, List.set_cons_zero, List.set_cons_succ, Option.some.injEq, exists_eq_left', exists_eq_left, exists_and_left, V.int.injEq, V.bl.injEq, V.ref.injEq, V.str.injEq, List.append_nil, List.cons.injEq, and_assoc, and_true, true_and, reduceCtorEq, false_and, and_false, false_or, or_false, exists_false, decide_true, decide_false, Bool.not_true, Bool.not_false, not_true_eq_false, not_false_eq_true, if_true, if_false, Bool.false_eq_true, decide_eq_true_eq, Bool.not_eq_true', decide_eq_false_iff_not, t__law_number, t__law_number_s1]
  refine one_c hp ha hap (by rw [List.length_map]; exact hl0) (by rw [List.length_map]; omega) fun v H1 hv d1 => ?_
  obtain ⟨r, hr, rfl⟩ := List.mem_map.mp hv
  obtain ⟨hrp, ds, ok, hrd⟩ := hrs r hr
  refine draw_c d1.2 rfl (w := 8) (by decide) (by decide) fun w H2 hw d2 => ?_
  have D2 := d1.trans d2
  have hr2 := D2.1 _ _ hrp hrd
  simp only [tSeq, tAsg_name, tAsg_sub, tAsg_tup, tRet, tRetN, tDrop, tIfS, tNext, tNever, tBreak, tCont, tAndV, tOrV, tNotV, tAnd, tOr, tNot, tB, tTest, tIf, tCall, tCons, tNil, tVar, tC, tOp, tUn, tTup, tLst, tRevL, tPar, tPar3, tAug, ipI, tCB, tFld, sFld, iList, iTup, iRng1, iRng2, iEnum, iEnumT, tChain, tSl, tPart, tNoPart, tBM, tCallKw, tTruth, tYes, qAdd, qSub, qMul, qMulW, qDiv, qDivW, qMod, qPow, qLt, qLe, qGt, qGe, qIsN, qNotN, qInt, qAbs, qMax2, qMin2, rI0, rI, rU, rEq, rNe, scal, qIxL, qIxT, qLenQ, qSetL, lstOf_upd, tupOf_upd, atI_0, atI_1, atI_2, atI_3, upd_same, upd_upd, ixL0, ixL1, ixL2, HO.lst.injEq, HO.tup.injEq, List.getElem?_cons_zero, List.getElem?_cons_succ, List.set_cons_zero, List.set_cons_succ, Option.some.injEq, exists_eq_left', exists_eq_left, exists_and_left, V.int.injEq, V.bl.injEq, V.ref.injEq, V.str.injEq, List.append_nil, List.cons.injEq, and_assoc, and_true, true_and, reduceCtorEq, false_and, and_false, false_or, or_false, exists_false, decide_true, decide_false, Bool.not_true, Bool.not_false, not_true_eq_false, not_false_eq_true, if_true, if_false, Bool.false_eq_true, decide_eq_true_eq, Bool.not_eq_true', decide_eq_false_iff_not, t__law_number_s4]
  refine ite2 (fun _ => ?_) (fun _ => s7 ds H2 r w ok D2 hr2)
  simp only [tSeq, tAsg_name, tAsg_sub, tAsg_tup, tRet, tRetN, tDrop, tIfS, tNext, tNever, tBreak, tCont, tAndV, tOrV, tNotV, tAnd, tOr, tNot, tB, tTest, tIf, tCall, tCons, tNil, tVar, tC, tOp, tUn, tTup, tLst, tRevL, tPar, tPar3, tAug, ipI, tCB, tFld, sFld, iList, iTup, iRng1, iRng2, iEnum, iEnumT, tChain, tSl, tPart, tNoPart, tBM, tCallKw, tTruth, tYes, qAdd, qSub, qMul, qMulW, qDiv, qDivW, qMod, qPow, qLt, qLe, qGt, qGe, qIsN, qNotN, qInt, qAbs, qMax2, qMin2, rI0, rI, rU, rEq, rNe, scal, qIxL, qIxT, qLenQ, qSetL, lstOf_upd, tupOf_upd, atI_0, atI_1, atI_2, atI_3, upd_same, upd_upd, ixL0, ixL1, ixL2, HO.lst.injEq, HO.tup.injEq, List.getElem?_cons_zero, List.getElem?_cons_succ, List.set_cons_zero, List.set_cons_succ, Option.some.injEq, exists_eq_left', exists_eq_left, exists_and_left, V.int.injEq, V.bl.injEq, V.ref.injEq, V.str.injEq, List.append_nil, List.cons.injEq, and_assoc, and_true, true_and, reduceCtorEq, false_and, and_false, false_or, or_false, exists_false, decide_true, decide_false, Bool.not_true, Bool.not_false, not_true_eq_false, not_false_eq_true, if_true, if_false, Bool.false_eq_true, decide_eq_true_eq, Bool.not_eq_true', decide_eq_false_iff_not, t__law_number_b3, t__law_number_s2]
  refine ⟨_, SqL.of hr2, fun z hz1 => s7 ds.reverse _ z w ok.rev (D2.new hz1) (by rw [upd_same, ofNats_reverse])⟩

/-! ### the mathematics: what fits -/
theorem undig_append (b : Nat) (l m : List Nat) : undig b (l ++ m) = m.foldl (fun a d => a * b + d) (undig b l) := by simp [undig]
theorem undig_pos {b : Nat} {l : List Nat} {d : Nat} (h : 0 < d) : 0 < undig b (l ++ [d]) := by
  rw [undig_step]; omega
theorem digs_last {b : Nat} (hb : 2 ≤ b) : ∀ (k n : Nat), n < 2 ^ k → 1 ≤ n → ∃ l d, digs b n = l ++ [d] ∧ 0 < d := by
  intro k
  induction k with
  | zero => intro n hn h1; omega
  | succ k ih =>
    intro n hn h1
    by_cases h : n < b
    · exact ⟨[], n % b, digs_lt h, by rw [Nat.mod_eq_of_lt h]; exact h1⟩
    · have hq : 1 ≤ n / b := (Nat.le_div_iff_mul_le (by omega)).mpr (by omega)
      have hn2 : n / b < 2 ^ k := by
        rw [Nat.div_lt_iff_lt_mul (by omega)]
        have : 2 ^ k * 2 ≤ 2 ^ k * b := Nat.mul_le_mul_left _ hb
        rw [Nat.pow_succ] at hn
        omega
      obtain ⟨l, d, e, hd⟩ := ih (n / b) hn2 hq
      exact ⟨n % b :: l, d, by rw [digs_ge hb (by omega), e]; rfl, hd⟩
theorem back_pos {b n k : Nat} (hb : 2 ≤ b) (hn : n < 2 ^ k) (h1 : 1 ≤ n) : 0 < back b n := by
  obtain ⟨l, d, e, hd⟩ := digs_last hb k n hn h1
  unfold back
  rw [e]
  exact undig_pos hd
theorem fit_iff {a e n m : Nat} (hn : 0 < n) (hm : 0 < m) : a * n = e * m ↔ ∃ k, a = k * (m / Nat.gcd n m) ∧ e = k * (n / Nat.gcd n m) := by
  have hg : 0 < Nat.gcd n m := Nat.gcd_pos_of_pos_left _ hn
  have co := Nat.coprime_div_gcd_div_gcd hg
  have en : n = Nat.gcd n m * (n / Nat.gcd n m) := (Nat.mul_div_cancel' (Nat.gcd_dvd_left n m)).symm
  have em : m = Nat.gcd n m * (m / Nat.gcd n m) := (Nat.mul_div_cancel' (Nat.gcd_dvd_right n m)).symm
  generalize hP : m / Nat.gcd n m = P at *
  generalize hR : n / Nat.gcd n m = R at *
  generalize Nat.gcd n m = g at *
  have hPp : 0 < P := by
    rcases Nat.eq_zero_or_pos P with z | z
    · rw [z] at em; omega
    · exact z
  have red : a * n = e * m ↔ a * R = e * P := by
    rw [en, em]
    have e1 : a * (g * R) = g * (a * R) := by rw [Nat.mul_left_comm]
    have e2 : e * (g * P) = g * (e * P) := by rw [Nat.mul_left_comm]
    rw [e1, e2]
    exact ⟨fun h => Nat.eq_of_mul_eq_mul_left hg h, fun h => by rw [h]⟩
  rw [red]
  constructor
  · intro h
    have d : P ∣ a * R := ⟨e, by rw [h, Nat.mul_comm]⟩
    obtain ⟨k, hk⟩ := Nat.Coprime.dvd_of_dvd_mul_right (Nat.Coprime.symm co) d
    refine ⟨k, by rw [hk, Nat.mul_comm], ?_⟩
    rw [hk] at h
    have : P * (k * R) = P * e := by rw [← Nat.mul_assoc, h, Nat.mul_comm]
    exact (Nat.eq_of_mul_eq_mul_left hPp this).symm
  · rintro ⟨k, rfl, rfl⟩
    rw [Nat.mul_assoc, Nat.mul_assoc, Nat.mul_comm P R]
/-- lists that ascend by a number, with the same members -/
theorem eq_of_asc {α : Type} (f : α → Nat) : ∀ {l m : List α}, l.Pairwise (fun a b => f a < f b) → m.Pairwise (fun a b => f a < f b) → (∀ x, x ∈ l ↔ x ∈ m) → l = m
  | [], [], _, _, _ => rfl
  | [], b :: m, _, _, h => absurd ((h b).mpr List.mem_cons_self) (by simp)
  | a :: l, [], _, _, h => absurd ((h a).mp List.mem_cons_self) (by simp)
  | a :: l, b :: m, hl, hm, h => by
    rw [List.pairwise_cons] at hl hm
    have e : a = b := by
      rcases List.mem_cons.mp ((h a).mp List.mem_cons_self) with z | z
      · exact z
      · rcases List.mem_cons.mp ((h b).mpr List.mem_cons_self) with y | y
        · exact y.symm
        · have h1 := hm.1 a z
          have h2 := hl.1 b y
          omega
    subst e
    have ih := eq_of_asc f hl.2 hm.2 (fun x => ⟨fun hx => by
      rcases List.mem_cons.mp ((h x).mp (List.mem_cons_of_mem _ hx)) with z | z
      · have := hl.1 x hx; rw [z] at this; omega
      · exact z, fun hx => by
      rcases List.mem_cons.mp ((h x).mpr (List.mem_cons_of_mem _ hx)) with z | z
      · have := hm.1 x hx; rw [z] at this; omega
      · exact z⟩)
    rw [ih]
def dueL (s : Nat × Nat) (top : Nat) : List (Nat × Nat) := (List.range top).filterMap fun k => if (k + 1) * max s.1 s.2 ≤ top then some ((k + 1) * s.1, (k + 1) * s.2) else none
theorem mem_mults {b : Nat} {ns : List Nat} {top : Nat} {x : Nat × Nat} : x ∈ mults b ns top ↔ (1 ≤ x.1 ∧ x.1 ≤ top) ∧ (1 ≤ x.2 ∧ x.2 ≤ top) ∧ fits b ns x.1 x.2 = true := by
  unfold mults
  rw [List.mem_flatMap]
  constructor
  · rintro ⟨a, ha, hx⟩
    rw [List.mem_filterMap] at hx
    obtain ⟨e, he, hx⟩ := hx
    rw [List.mem_range] at ha he
    split at hx
    · next h =>
      cases hx
      exact ⟨⟨Nat.le_add_left _ _, ha⟩, ⟨Nat.le_add_left _ _, he⟩, h⟩
    · cases hx
  · rintro ⟨⟨h1, h2⟩, ⟨h3, h4⟩, h5⟩
    refine ⟨x.1 - 1, List.mem_range.mpr (by omega), List.mem_filterMap.mpr ⟨x.2 - 1, List.mem_range.mpr (by omega), ?_⟩⟩
    rw [show x.1 - 1 + 1 = x.1 from by omega, show x.2 - 1 + 1 = x.2 from by omega, if_pos h5]
theorem asc_mults (b : Nat) (ns : List Nat) (top : Nat) : (mults b ns top).Pairwise (fun x y => x.1 * (top + 1) + x.2 < y.1 * (top + 1) + y.2) := by
  unfold mults
  rw [List.pairwise_flatMap]
  refine ⟨fun a _ => ?_, ?_⟩
  · rw [List.pairwise_filterMap]
    refine List.Pairwise.imp ?_ List.pairwise_lt_range
    intro e e' h x hx y hy
    split at hx
    · split at hy
      · cases hx; cases hy
        show (a + 1) * (top + 1) + (e + 1) < (a + 1) * (top + 1) + (e' + 1)
        omega
      · cases hy
    · cases hx
  · refine List.Pairwise.imp ?_ List.pairwise_lt_range
    intro a a' h x hx y hy
    rw [List.mem_filterMap] at hx hy
    obtain ⟨e, he, hx⟩ := hx
    obtain ⟨e', he', hy⟩ := hy
    rw [List.mem_range] at he he'
    split at hx
    · split at hy
      · cases hx; cases hy
        show (a + 1) * (top + 1) + (e + 1) < (a' + 1) * (top + 1) + (e' + 1)
        have : (a + 1 + 1) * (top + 1) ≤ (a' + 1) * (top + 1) := Nat.mul_le_mul_right _ (by omega)
        rw [Nat.add_mul (a + 1) 1, Nat.one_mul] at this
        omega
      · cases hy
    · cases hx
theorem asc_due (s : Nat × Nat) (top : Nat) (h1 : 0 < s.1) (h2 : 0 < s.2) : (dueL s top).Pairwise (fun x y => x.1 * (top + 1) + x.2 < y.1 * (top + 1) + y.2) := by
  unfold dueL
  rw [List.pairwise_filterMap]
  refine List.Pairwise.imp ?_ List.pairwise_lt_range
  intro k k' h x hx y hy
  split at hx
  · split at hy
    · cases hx; cases hy
      show (k + 1) * s.1 * (top + 1) + (k + 1) * s.2 < (k' + 1) * s.1 * (top + 1) + (k' + 1) * s.2
      have a1 : (k + 1) * s.1 ≤ (k' + 1) * s.1 := Nat.mul_le_mul_right _ (by omega)
      have a2 : (k + 1) * s.1 * (top + 1) ≤ (k' + 1) * s.1 * (top + 1) := Nat.mul_le_mul_right _ a1
      have a3 : (k + 1) * s.2 < (k' + 1) * s.2 := Nat.mul_lt_mul_of_pos_right (by omega) h2
      omega
    · cases hy
  · cases hx
theorem mem_due {s : Nat × Nat} {top : Nat} {x : Nat × Nat} (h1 : 0 < s.1) (h2 : 0 < s.2) : x ∈ dueL s top ↔ (1 ≤ x.1 ∧ x.1 ≤ top) ∧ (1 ≤ x.2 ∧ x.2 ≤ top) ∧ ∃ k, x.1 = k * s.1 ∧ x.2 = k * s.2 := by
  unfold dueL
  rw [List.mem_filterMap]
  constructor
  · rintro ⟨k, hk, hx⟩
    split at hx
    · next h =>
      cases hx
      have a1 : (k + 1) * s.1 ≤ (k + 1) * max s.1 s.2 := Nat.mul_le_mul_left _ (Nat.le_max_left _ _)
      have a2 : (k + 1) * s.2 ≤ (k + 1) * max s.1 s.2 := Nat.mul_le_mul_left _ (Nat.le_max_right _ _)
      exact ⟨⟨Nat.mul_pos (by omega) h1, by show (k + 1) * s.1 ≤ top; omega⟩, ⟨Nat.mul_pos (by omega) h2, by show (k + 1) * s.2 ≤ top; omega⟩, k + 1, rfl, rfl⟩
    · cases hx
  · rintro ⟨⟨a1, a2⟩, ⟨a3, a4⟩, k, e1, e2⟩
    have hk : 0 < k := by
      rcases Nat.eq_zero_or_pos k with z | z
      · rw [z, Nat.zero_mul] at e1; omega
      · exact z
    have hm : k * max s.1 s.2 ≤ top := by
      rcases Nat.le_total s.1 s.2 with z | z
      · rw [Nat.max_eq_right z, ← e2]; exact a4
      · rw [Nat.max_eq_left z, ← e1]; exact a2
    have hk2 : k ≤ top := by
      have : k * 1 ≤ k * s.1 := Nat.mul_le_mul_left _ h1
      omega
    refine ⟨k - 1, List.mem_range.mpr (by omega), ?_⟩
    rw [show k - 1 + 1 = k from by omega, if_pos hm, ← e1, ← e2]
theorem fits_iff {b : Nat} {ns : List Nat} {a e : Nat} : fits b ns a e = true ↔ ∀ n ∈ ns, a * n = e * back b n := by
  unfold fits
  rw [List.all_eq_true]
  exact ⟨fun h n hn => beq_iff_eq.mp (h n hn), fun h n hn => beq_iff_eq.mpr (h n hn)⟩
theorem pair_pos {b n k : Nat} (hb : 2 ≤ b) (hn : n < 2 ^ k) (h1 : 1 ≤ n) : 0 < (pairOf b n).1 ∧ 0 < (pairOf b n).2 ∧ Nat.gcd (pairOf b n).1 (pairOf b n).2 = 1 := by
  have hg : 0 < Nat.gcd n (back b n) := Nat.gcd_pos_of_pos_left _ h1
  refine ⟨Nat.div_pos (Nat.le_of_dvd (back_pos hb hn h1) (Nat.gcd_dvd_right _ _)) hg, Nat.div_pos (Nat.le_of_dvd h1 (Nat.gcd_dvd_left _ _)) hg, ?_⟩
  have := Nat.coprime_div_gcd_div_gcd hg
  rw [Nat.gcd_comm]
  exact this
theorem due_eq {b k top n0 : Nat} {ns : List Nat} (hb : 2 ≤ b) (h0 : n0 ∈ ns) (h : ∀ n ∈ ns, 1 ≤ n ∧ n < 2 ^ k) :
    mults b ns top = if (∀ n ∈ ns, pairOf b n = pairOf b n0) then dueL (pairOf b n0) top else [] := by
  obtain ⟨p1, p2, p3⟩ := pair_pos hb (h n0 h0).2 (h n0 h0).1
  have fit1 : ∀ n ∈ ns, ∀ a e, a * n = e * back b n ↔ ∃ k, a = k * (pairOf b n).1 ∧ e = k * (pairOf b n).2 := fun n hn a e =>
    fit_iff (h n hn).1 (back_pos hb (h n hn).2 (h n hn).1)
  by_cases c : ∀ n ∈ ns, pairOf b n = pairOf b n0
  · rw [if_pos c]
    refine eq_of_asc (fun x => x.1 * (top + 1) + x.2) (asc_mults b ns top) (asc_due _ top p1 p2) fun x => ?_
    rw [mem_mults, mem_due p1 p2, fits_iff]
    refine ⟨fun ⟨a1, a2, a3⟩ => ⟨a1, a2, (fit1 n0 h0 _ _).mp (a3 n0 h0)⟩, fun ⟨a1, a2, a3⟩ => ⟨a1, a2, fun n hn => (fit1 n hn _ _).mpr ?_⟩⟩
    rw [c n hn]
    exact a3
  · rw [if_neg c]
    refine List.eq_nil_iff_forall_not_mem.mpr fun x hx => c fun n hn => ?_
    obtain ⟨⟨a1, _⟩, _, a3⟩ := mem_mults.mp hx
    rw [fits_iff] at a3
    obtain ⟨k1, e1, e2⟩ := (fit1 n0 h0 _ _).mp (a3 n0 h0)
    obtain ⟨k2, e3, e4⟩ := (fit1 n hn _ _).mp (a3 n hn)
    obtain ⟨q1, q2, q3⟩ := pair_pos hb (h n hn).2 (h n hn).1
    have g1 : Nat.gcd x.1 x.2 = k1 := by rw [e1, e2, Nat.gcd_mul_left, p3, Nat.mul_one]
    have g2 : Nat.gcd x.1 x.2 = k2 := by rw [e3, e4, Nat.gcd_mul_left, q3, Nat.mul_one]
    have ek : k1 = k2 := g1.symm.trans g2
    subst ek
    have hk : 0 < k1 := by
      rcases Nat.eq_zero_or_pos k1 with z | z
      · rw [z, Nat.zero_mul] at e1; omega
      · exact z
    exact Prod.ext (Nat.eq_of_mul_eq_mul_left hk (e3.symm.trans e1)) (Nat.eq_of_mul_eq_mul_left hk (e4.symm.trans e2))

theorem sqL_grow {K : PySem.W.Frag} {H H' : Hp} {a : Addr} {xs : List V} (h : SqL K H a xs) (e : Same H H') : SqL K H' a xs :=
  h.elim (fun h => .inl (h.elim (fun h => .inl (e _ _ h)) fun ⟨o, h⟩ => .inr ⟨o, e _ _ h⟩)) fun h => .inr h
theorem sqT_grow {K : PySem.W.Frag} {H H' : Hp} {a : Addr} {xs : List V} (h : SqT K H a xs) (e : Same H H') : SqT K H' a xs :=
  h.elim (fun h => .inl (h.elim (fun h => .inl (e _ _ h)) fun ⟨o, h⟩ => .inr ⟨o, e _ _ h⟩)) fun h => .inr h
mutual
theorem dp_grow {K : PySem.W.Frag} {H H' : Hp} (e : Same H H') : ∀ (d : PyData) (v : V), Dp K H v d → Dp K H' v d
  | .none, _, h => by cases h; exact .non
  | .bool b, _, h => by cases h; exact .bl b
  | .int i, _, h => by cases h; exact .int i
  | .str x, _, h => by cases h; exact .str x
  | .list ds, _, h => by
    cases h with
    | lst hs ha => exact .lst (sqL_grow hs e) (dp_growAll e ds _ ha)
  | .tuple ds, _, h => by
    cases h with
    | tup hs ha => exact .tup (sqT_grow hs e) (dp_growAll e ds _ ha)
  | .dict _, _, h => by cases h
theorem dp_growAll {K : PySem.W.Frag} {H H' : Hp} (e : Same H H') : ∀ (ds : List PyData) (vs : List V), DpAll K H vs ds → DpAll K H' vs ds
  | [], _, h => by cases h; exact .nil
  | d :: ds, _, h => by
    cases h with
    | cons h1 h2 => exact .cons (dp_grow e d _ h1) (dp_growAll e ds _ h2)
end
theorem dpairs_dp {K : PySem.W.Frag} {H : Hp} {t : Addr} {rs : List Addr} {L : List (Nat × Nat)} (h : H t = some (.tup (rs.map V.ref))) (hr : Rows H rs (L.map prV)) : Dp K H (.ref t) (dPairs L) := .tup (SqT.of h) (dp_rows hr)
theorem pr_small {n : Nat} (h : n ≤ 20) : Pr 0 5 (.int (n : Int)) := Pr.int (by decide) (by omega) (by decide)
theorem pr_dpairs {L : List (Nat × Nat)} (h : ∀ x ∈ L, x.1 ≤ 20 ∧ x.2 ≤ 20) (hl : L.length ≤ 400) : Pr 2 8000 (dPairs L) := by
  refine (Pr.tuple (PrAll.all (k := 1) (n := 12) (fun d hd => ?_))).mono (Nat.le_refl _) (by rw [List.length_map]; omega)
  obtain ⟨x, hx, rfl⟩ := List.mem_map.mp hd
  obtain ⟨h1, h2⟩ := h x hx
  exact (Pr.tuple (PrAll.cons (pr_small h1) (PrAll.cons (pr_small h2) PrAll.nil))).mono (Nat.le_refl _) (by decide)
theorem mults_len (b : Nat) (ns : List Nat) (top : Nat) (h : top ≤ 20) : (mults b ns top).length ≤ 400 := by
  have := outer_len b ns top top
  have e : outer b ns top top = mults b ns top := rfl
  rw [e] at this
  have : top * top ≤ 20 * 20 := Nat.mul_le_mul h h
  omega
theorem right_rest {K : PySem.W.Frag} {p S Dd R : Addr} {b top : Nat} {ns : List Nat} {rs : List Addr} {Hc : Hp} {v4 v6 v7 v9 v10 v11 v12 : Option V} {nx bk ct : St → Hp → Prop} {rt : VK}
    (hb : 2 ≤ b) (hb10 : b ≤ 10) (ht : 1 ≤ top) (ht20 : top ≤ 20) (hS : Hc S = some (.lst (ofNats ns))) (hok : numsOk ns) (hD : Hc Dd = some (.lst (rs.map V.ref))) (hR : Rows Hc rs ((mults b ns top).map prV))
    (k : ∀ H' g, Same Hc H' → nx [some (.ref p), some (.int b), some (.int top), some (.ref R), v4, some (.ref S), v6, v7, some (.ref Dd), some g, v10, v11, v12] H') :
    t__law_right_s16 K ⟨t__law_right_s19 K ⟨nx, rt, bk, ct⟩, rt, bk, ct⟩ [some (.ref p), some (.int b), some (.int top), some (.ref R), v4, some (.ref S), v6, v7, some (.ref Dd), v9, v10, v11, v12] Hc := by
  simp only [tSeq, tAsg_name, tAsg_sub, tAsg_tup, tRet, tRetN, tDrop, tIfS, tNext, tNever, tBreak, tCont, tAndV, tOrV, tNotV, tAnd, tOr, tNot, tB, tTest, tIf, tCall, tCons, tNil, tVar, tC, tOp, tUn, tTup, tLst, tRevL, tPar, tPar3, tAug, ipI, tCB, tFld, sFld, iList, iTup, iRng1, iRng2, iEnum, iEnumT, tChain, tSl, tPart, tNoPart, tBM, tCallKw, tTruth, tYes, qAdd, qSub, qMul, qMulW, qDiv, qDivW, qMod, qPow, qLt, qLe, qGt, qGe, qIsN, qNotN, qInt, qAbs, qMax2, qMin2, rI0, rI, rU, rEq, rNe, scal, qIxL, qIxT, qLenQ, qSetL, lstOf_upd, tupOf_upd, atI_0, atI_1, atI_2, atI_3, upd_same, upd_upd, ixL0, ixL1, ixL2, HO.lst.injEq, HO.tup.injEq, List.getElem?_cons_zero, List.getElem?_cons_succ, List.set_cons_zero, List.set_cons_succ, Option.some.injEq, exists_eq_left', exists_eq_left, exists_and_left, V.int.injEq, V.bl.injEq, V.ref.injEq, V.str.injEq, List.append_nil, List.cons.injEq, and_assoc, and_true, true_and, reduceCtorEq, false_and, and_false, false_or, or_false, exists_false, decide_true, decide_false, Bool.not_true, Bool.not_false, not_true_eq_false, not_false_eq_true, if_true, if_false, Bool.false_eq_true, decide_eq_true_eq, Bool.not_eq_true', decide_eq_false_iff_not, t__law_right_s16, qTuple]
  have hok' := hok
  have hS' : SqL K Hc S (ofNats ns) := SqL.of hS
  refine ⟨ofNats ns, .inl ⟨hS', fun l1 h1 => ⟨l1, b, top, ns, rfl, hb, hb10, upd_same, hok, ht, ht20, fun H1 va s1 da => ?_⟩⟩⟩
  have S1 : Same Hc H1 := (Same.newp (Same.refl Hc) h1).trans s1
  refine ⟨ofNats ns, .inl ⟨SqL.of (S1 _ _ hS), fun l2 h2 => ⟨rfl, rfl, ?_⟩⟩⟩
  show sp_multiples K [.int (b : Int), .ref l2, .int (top : Int)] _ _ _
  refine ⟨l2, b, top, ns, rfl, hb, hb10, upd_same, hok, ht, ht20, fun H2 vb s2 db => ?_⟩
  have S2 : Same H1 H2 := (Same.newp (Same.refl H1) h2).trans s2
  refine ⟨by show 2 ≤ sizeLine; decide, fun g hg => ?_⟩
  have S3 : Same Hc (upd H2 g (.lst [va, vb])) := Same.newp (S1.trans S2) hg
  have da3 := dp_grow (Same.newp (o := .lst [va, vb]) S2 hg) _ _ da
  have db3 := dp_grow (Same.newp (o := .lst [va, vb]) (Same.refl H2) hg) _ _ db
  have hD3 := S3 _ _ hD
  have hR3 := hR.mono fun r xs _ h => S3 _ _ h
  have hg3 : (upd H2 g (.lst [va, vb])) g = some (.lst [va, vb]) := upd_same
  revert S3 da3 db3 hD3 hR3 hg3
  generalize upd H2 g (.lst [va, vb]) = H3
  intro S3 da3 db3 hD3 hR3 hg3
  have hp : Pr 60 20000 (.list [dPairs (mults b ns top), dPairs (mults b ns top)]) := by
    have h1 : Pr 2 8000 (dPairs (mults b ns top)) := pr_dpairs (fun x hx => ⟨Nat.le_trans (mem_mults.mp hx).1.2 ht20, Nat.le_trans (mem_mults.mp hx).2.1.2 ht20⟩) (mults_len b ns top ht20)
    exact (Pr.list (PrAll.cons h1 (PrAll.cons h1 PrAll.nil))).mono (by decide) (by decide)
  simp only [tSeq, tAsg_name, tAsg_sub, tAsg_tup, tRet, tRetN, tDrop, tIfS, tNext, tNever, tBreak, tCont, tAndV, tOrV, tNotV, tAnd, tOr, tNot, tB, tTest, tIf, tCall, tCons, tNil, tVar, tC, tOp, tUn, tTup, tLst, tRevL, tPar, tPar3, tAug, ipI, tCB, tFld, sFld, iList, iTup, iRng1, iRng2, iEnum, iEnumT, tChain, tSl, tPart, tNoPart, tBM, tCallKw, tTruth, tYes, qAdd, qSub, qMul, qMulW, qDiv, qDivW, qMod, qPow, qLt, qLe, qGt, qGe, qIsN, qNotN, qInt, qAbs, qMax2, qMin2, rI0, rI, rU, rEq, rNe, scal, qIxL, qIxT, qLenQ, qSetL, lstOf_upd, tupOf_upd, atI_0, atI_1, atI_2, atI_3, upd_same, upd_upd, ixL0, ixL1, ixL2, HO.lst.injEq, HO.tup.injEq, List.getElem?_cons_zero, List.getElem?_cons_succ, List.set_cons_zero, List.set_cons_succ, Option.some.injEq, exists_eq_left', exists_eq_left, exists_and_left, V.int.injEq, V.bl.injEq, V.ref.injEq, V.str.injEq, List.append_nil, List.cons.injEq, and_assoc, and_true, true_and, reduceCtorEq, false_and, and_false, false_or, or_false, exists_false, decide_true, decide_false, Bool.not_true, Bool.not_false, not_true_eq_false, not_false_eq_true, if_true, if_false, Bool.false_eq_true, decide_eq_true_eq, Bool.not_eq_true', decide_eq_false_iff_not, t__law_right_s19, rRepr, qTuple]
  refine ⟨_, .lst (SqL.of hg3) (.cons da3 (.cons db3 .nil)), hp, ?_⟩
  have hz2 : 2 ≤ sizeLine := by decide
  refine ⟨_, .inl ⟨SqL.of hD3, fun l3 h3 => ⟨_, .inl ⟨SqL.of ((Same.newp (Same.refl H3) h3) _ _ hD3), fun l4 h4 => ⟨hz2, fun l5 h5 => ?_⟩⟩⟩⟩⟩
  have T3 : Same H3 (upd H3 l3 (.tup (rs.map V.ref))) := Same.newp (Same.refl H3) h3
  have T4 := Same.newp (o := .tup (rs.map V.ref)) T3 h4
  have T5 := Same.newp (o := .lst [V.ref l3, V.ref l4]) T4 h5
  have U4 := Same.newp (o := .tup (rs.map V.ref)) (Same.refl (upd H3 l3 (.tup (rs.map V.ref)))) h4
  have U5 := Same.newp (o := .lst [V.ref l3, V.ref l4]) U4 h5
  have W5 := Same.newp (o := .lst [V.ref l3, V.ref l4]) (Same.refl (upd (upd H3 l3 (.tup (rs.map V.ref))) l4 (.tup (rs.map V.ref)))) h5
  have hR5 := hR3.mono fun r xs _ h => T5 _ _ h
  have e3 := dpairs_dp (K := K) (U5 _ _ (upd_same)) hR5
  have e4 := dpairs_dp (K := K) (W5 _ _ (upd_same)) hR5
  refine ⟨_, .lst (SqL.of upd_same) (.cons e3 (.cons e4 .nil)), hp, ?_⟩
  rw [if_neg (fun h => h rfl)]
  exact k _ _ (S3.trans T5)

/-- the rows that the law draws from, at D -/
def RowsAt (p : Addr) (b : Nat) (H : Hp) (D : Addr) (n : Nat) : Prop := ∃ rs : List Addr, rs.length = n ∧ H D = some (.lst (rs.map V.ref)) ∧ ∀ r ∈ rs, r ≠ p ∧ ∃ ds, rowOk b ds 40 ∧ H r = some (.lst (ofNats ds))
def dT (p : Nat × Nat) : PyData := .tuple [.int p.1, .int p.2]
theorem dp_prV {K : PySem.W.Frag} {H : Hp} {r : Addr} {p : Nat × Nat} (h : SqT K H r (prV p)) : Dp K H (.ref r) (dT p) := .tup h (.cons (.int _) (.cons (.int _) .nil))
theorem dT_shaped (p : Nat × Nat) : SeqAt.shaped (dT p) = true := rfl
theorem dT_eqv (p s : Nat × Nat) : (!PyData.eqv (dT p) (dT s)) = !decide (p = s) := by
  obtain ⟨a, b⟩ := p
  obtain ⟨c, d⟩ := s
  simp only [dT, PyData.eqv, PyData.eqvAll, Bool.and_true, Prod.mk.injEq]
  congr 1
  rw [Bool.eq_iff_iff]
  simp only [Bool.and_eq_true, beq_iff_eq, decide_eq_true_eq]
  omega
theorem PoolAt.same {p : Addr} {H H1 : Hp} (h : PoolAt H p) (s : Same H H1) : PoolAt H1 p := by
  obtain ⟨d, e, n, h⟩ := h
  exact ⟨d, e, n, s _ _ h⟩
def dList (l : List (Nat × Nat)) : PyData := .list (l.map dT)
theorem dlist_dp {K : PySem.W.Frag} {H : Hp} {t : Addr} {rs : List Addr} {L : List (Nat × Nat)} (h : H t = some (.lst (rs.map V.ref))) (hr : Rows H rs (L.map prV)) : Dp K H (.ref t) (dList L) := .lst (SqL.of h) (dp_rows hr)
theorem dlist_lay : ∀ L : List (Nat × Nat), PyData.canLayAll0 (L.map dT) = true
  | [] => rfl
  | p :: L => by
    show ((dT p).canLay0 && PyData.canLayAll0 (L.map dT)) = true
    rw [dlist_lay L]
    rfl
theorem dlist_dep : ∀ L : List (Nat × Nat), PyData.depthAll (L.map dT) ≤ 1
  | [] => Nat.zero_le _
  | p :: L => Nat.max_le.mpr ⟨Nat.le_refl 1, dlist_dep L⟩
theorem dlist_shaped (L : List (Nat × Nat)) : SeqAt.shaped (dList L) = true := by
  show (PyData.canLayAll0 (L.map dT) && decide (PyData.depthAll (L.map dT) + 1 ≤ 64)) = true
  rw [dlist_lay L, decide_eq_true (by have := dlist_dep L; omega)]
  rfl
theorem dlist_nil (L : List (Nat × Nat)) : PyData.eqv (dList L) (.list []) = L.isEmpty := by
  cases L <;> rfl
def duePre (s : Nat × Nat) (top i : Nat) : List (Nat × Nat) := (List.range i).filterMap fun k => if (k + 1) * max s.1 s.2 ≤ top then some ((k + 1) * s.1, (k + 1) * s.2) else none
theorem duePre_succ (s : Nat × Nat) (top i : Nat) : duePre s top (i + 1) = duePre s top i ++ (if (i + 1) * max s.1 s.2 ≤ top then [((i + 1) * s.1, (i + 1) * s.2)] else []) := by
  unfold duePre
  rw [List.range_succ, List.filterMap_append]
  congr 1
  by_cases h : (i + 1) * max s.1 s.2 ≤ top
  · simp [h]
  · simp [h]
theorem duePre_len (s : Nat × Nat) (top i : Nat) : (duePre s top i).length ≤ i := Nat.le_trans (List.length_filterMap_le _ _) (by simp)
theorem pure__law_right {K : PySem.W.Frag} (vs : List V) (H : Hp) (Q : VK) (E : XK) (h : sp__law_right K vs H Q E) : t__law_right K { nx := fun _ H' => Q .non H', rt := Q } (L2.start ["_law_pool", "_law_b", "_law_top", "_law_rows", "_law_turn", "_law_some", "_law_pairs", "_law_small", "_law_due", "_law_got", "_law_k", "_law_whole", "_law_each"] vs) H := by
  obtain ⟨p, rfl, hp, q⟩ := h
  show t__law_right K _ [some (.ref p), none, none, none, none, none, none, none, none, none, none, none, none] H
  have hz : (sizeLine : Nat) = 16777216 := rfl
  simp only [tSeq, tAsg_name, tAsg_sub, tAsg_tup, tRet, tRetN, tDrop, tIfS, tNext, tNever, tBreak, tCont, tAndV, tOrV, tNotV, tAnd, tOr, tNot, tB, tTest, tIf, tCall, tCons, tNil, tVar, tC, tOp, tUn, tTup, tLst, tRevL, tPar, tPar3, tAug, ipI, tCB, tFld, sFld, iList, iTup, iRng1, iRng2, iEnum, iEnumT, tChain, tSl, tPart, tNoPart, tBM, tCallKw, tTruth, tYes, qAdd, qSub, qMul, qMulW, qDiv, qDivW, qMod, qPow, qLt, qLe, qGt, qGe, qIsN, qNotN, qInt, qAbs, qMax2, qMin2, rI0, rI, rU, rEq, rNe, scal, qIxL, qIxT, qLenQ, qSetL, lstOf_upd, tupOf_upd, atI_0, atI_1, atI_2, atI_3, upd_same, upd_upd, ixL0, ixL1, ixL2, HO.lst.injEq, HO.tup.injEq, List.getElem?_cons_zero, List.getElem?_cons_succ, List.set_cons_zero, List.set_cons_succ, Option.some.injEq, exists_eq_left', exists_eq_left, exists_and_left, V.int.injEq, V.bl.injEq, V.ref.injEq, V.str.injEq, List.append_nil, List.cons.injEq, and_assoc, and_true, true_and, reduceCtorEq, false_and, and_false, false_or, or_false, exists_false, decide_true, decide_false, Bool.not_true, Bool.not_false, not_true_eq_false, not_false_eq_true, if_true, if_false, Bool.false_eq_true, decide_eq_true_eq, Bool.not_eq_true', decide_eq_false_iff_not, t__law_right, t__law_right_s1]
  refine draw_c hp rfl (w := 9) (by decide) (by decide) fun r1 H1 hr1 d1 => ?_
  simp only [tSeq, tAsg_name, tAsg_sub, tAsg_tup, tRet, tRetN, tDrop, tIfS, tNext, tNever, tBreak, tCont, tAndV, tOrV, tNotV, tAnd, tOr, tNot, tB, tTest, tIf, tCall, tCons, tNil, tVar, tC, tOp, tUn, tTup, tLst, tRevL, tPar, tPar3, tAug, ipI, tCB, tFld, sFld, iList, iTup, iRng1, iRng2, iEnum, iEnumT, tChain, tSl, tPart, tNoPart, tBM, tCallKw, tTruth, tYes, qAdd, qSub, qMul, qMulW, qDiv, qDivW, qMod, qPow, qLt, qLe, qGt, qGe, qIsN, qNotN, qInt, qAbs, qMax2, qMin2, rI0, rI, rU, rEq, rNe, scal, qIxL, qIxT, qLenQ, qSetL, lstOf_upd, tupOf_upd, atI_0, atI_1, atI_2, atI_3, upd_same, upd_upd, ixL0, ixL1, ixL2, HO.lst.injEq, HO.tup.injEq, List.getElem?_cons_zero, List.getElem?_cons_succ, List.set_cons_zero, List.set_cons_succ, Option.some.injEq, exists_eq_left', exists_eq_left, exists_and_left, V.int.injEq, V.bl.injEq, V.ref.injEq, V.str.injEq, List.append_nil, List.cons.injEq, and_assoc, and_true, true_and, reduceCtorEq, false_and, and_false, false_or, or_false, exists_false, decide_true, decide_false, Bool.not_true, Bool.not_false, not_true_eq_false, not_false_eq_true, if_true, if_false, Bool.false_eq_true, decide_eq_true_eq, Bool.not_eq_true', decide_eq_false_iff_not]
  refine ⟨by show 6 ≤ sizeLine; decide, fun L1 hL1 => one_c (d1.new hL1).2 upd_same (d1.2.not hL1) (by show 0 < 6; decide) (by show 6 < 1000000; decide) fun v H2 hv d2 => ?_⟩
  have D2 := (d1.new hL1).trans d2
  obtain ⟨b, rfl, hb, hb10⟩ : ∃ b : Nat, v = V.int (b : Int) ∧ 2 ≤ b ∧ b ≤ 10 := by
    simp only [List.mem_cons, List.mem_nil_iff, or_false] at hv
    rcases hv with rfl | rfl | rfl | rfl | rfl | rfl
    · exact ⟨2, rfl, by decide, by decide⟩
    · exact ⟨3, rfl, by decide, by decide⟩
    · exact ⟨4, rfl, by decide, by decide⟩
    · exact ⟨10, rfl, by decide, by decide⟩
    · exact ⟨10, rfl, by decide, by decide⟩
    · exact ⟨2 + r1, by rw [show ((2 + r1 : Nat) : Int) = 2 + (r1 : Int) from by omega], by omega, by omega⟩
  simp only [tSeq, tAsg_name, tAsg_sub, tAsg_tup, tRet, tRetN, tDrop, tIfS, tNext, tNever, tBreak, tCont, tAndV, tOrV, tNotV, tAnd, tOr, tNot, tB, tTest, tIf, tCall, tCons, tNil, tVar, tC, tOp, tUn, tTup, tLst, tRevL, tPar, tPar3, tAug, ipI, tCB, tFld, sFld, iList, iTup, iRng1, iRng2, iEnum, iEnumT, tChain, tSl, tPart, tNoPart, tBM, tCallKw, tTruth, tYes, qAdd, qSub, qMul, qMulW, qDiv, qDivW, qMod, qPow, qLt, qLe, qGt, qGe, qIsN, qNotN, qInt, qAbs, qMax2, qMin2, rI0, rI, rU, rEq, rNe, scal, qIxL, qIxT, qLenQ, qSetL, lstOf_upd, tupOf_upd, atI_0, atI_1, atI_2, atI_3, upd_same, upd_upd, ixL0, ixL1, ixL2, HO.lst.injEq, HO.tup.injEq, List.getElem?_cons_zero, List.getElem?_cons_succ, List.set_cons_zero, List.set_cons_succ, Option.some.injEq, exists_eq_left', exists_eq_left, exists_and_left, V.int.injEq, V.bl.injEq, V.ref.injEq, V.str.injEq, List.append_nil, List.cons.injEq, and_assoc, and_true, true_and, reduceCtorEq, false_and, and_false, false_or, or_false, exists_false, decide_true, decide_false, Bool.not_true, Bool.not_false, not_true_eq_false, not_false_eq_true, if_true, if_false, Bool.false_eq_true, decide_eq_true_eq, Bool.not_eq_true', decide_eq_false_iff_not, t__law_right_s2]
  refine draw_c D2.2 rfl (w := 20) (by decide) (by decide) fun r2 H3 hr2 d3 => ?_
  have D3 := D2.trans d3
  simp only [tSeq, tAsg_name, tAsg_sub, tAsg_tup, tRet, tRetN, tDrop, tIfS, tNext, tNever, tBreak, tCont, tAndV, tOrV, tNotV, tAnd, tOr, tNot, tB, tTest, tIf, tCall, tCons, tNil, tVar, tC, tOp, tUn, tTup, tLst, tRevL, tPar, tPar3, tAug, ipI, tCB, tFld, sFld, iList, iTup, iRng1, iRng2, iEnum, iEnumT, tChain, tSl, tPart, tNoPart, tBM, tCallKw, tTruth, tYes, qAdd, qSub, qMul, qMulW, qDiv, qDivW, qMod, qPow, qLt, qLe, qGt, qGe, qIsN, qNotN, qInt, qAbs, qMax2, qMin2, rI0, rI, rU, rEq, rNe, scal, qIxL, qIxT, qLenQ, qSetL, lstOf_upd, tupOf_upd, atI_0, atI_1, atI_2, atI_3, upd_same, upd_upd, ixL0, ixL1, ixL2, HO.lst.injEq, HO.tup.injEq, List.getElem?_cons_zero, List.getElem?_cons_succ, List.set_cons_zero, List.set_cons_succ, Option.some.injEq, exists_eq_left', exists_eq_left, exists_and_left, V.int.injEq, V.bl.injEq, V.ref.injEq, V.str.injEq, List.append_nil, List.cons.injEq, and_assoc, and_true, true_and, reduceCtorEq, false_and, and_false, false_or, or_false, exists_false, decide_true, decide_false, Bool.not_true, Bool.not_false, not_true_eq_false, not_false_eq_true, if_true, if_false, Bool.false_eq_true, decide_eq_true_eq, Bool.not_eq_true', decide_eq_false_iff_not]
  refine ⟨by show 3 ≤ sizeLine; decide, fun L2 hL2 => one_c (D3.new hL2).2 upd_same (D3.2.not hL2) (by show 0 < 3; decide) (by show 3 < 1000000; decide) fun v H4 hv d4 => ?_⟩
  have D4 := (D3.new hL2).trans d4
  obtain ⟨top, rfl, ht, ht20⟩ : ∃ b : Nat, v = V.int (b : Int) ∧ 1 ≤ b ∧ b ≤ 20 := by
    simp only [List.mem_cons, List.mem_nil_iff, or_false] at hv
    rcases hv with rfl | rfl | rfl
    · exact ⟨20, rfl, by decide, by decide⟩
    · exact ⟨20, rfl, by decide, by decide⟩
    · exact ⟨1 + r2, by rw [show ((1 + r2 : Nat) : Int) = 1 + (r2 : Int) from by omega], by omega, by omega⟩
  simp only [tSeq, tAsg_name, tAsg_sub, tAsg_tup, tRet, tRetN, tDrop, tIfS, tNext, tNever, tBreak, tCont, tAndV, tOrV, tNotV, tAnd, tOr, tNot, tB, tTest, tIf, tCall, tCons, tNil, tVar, tC, tOp, tUn, tTup, tLst, tRevL, tPar, tPar3, tAug, ipI, tCB, tFld, sFld, iList, iTup, iRng1, iRng2, iEnum, iEnumT, tChain, tSl, tPart, tNoPart, tBM, tCallKw, tTruth, tYes, qAdd, qSub, qMul, qMulW, qDiv, qDivW, qMod, qPow, qLt, qLe, qGt, qGe, qIsN, qNotN, qInt, qAbs, qMax2, qMin2, rI0, rI, rU, rEq, rNe, scal, qIxL, qIxT, qLenQ, qSetL, lstOf_upd, tupOf_upd, atI_0, atI_1, atI_2, atI_3, upd_same, upd_upd, ixL0, ixL1, ixL2, HO.lst.injEq, HO.tup.injEq, List.getElem?_cons_zero, List.getElem?_cons_succ, List.set_cons_zero, List.set_cons_succ, Option.some.injEq, exists_eq_left', exists_eq_left, exists_and_left, V.int.injEq, V.bl.injEq, V.ref.injEq, V.str.injEq, List.append_nil, List.cons.injEq, and_assoc, and_true, true_and, reduceCtorEq, false_and, and_false, false_or, or_false, exists_false, decide_true, decide_false, Bool.not_true, Bool.not_false, not_true_eq_false, not_false_eq_true, if_true, if_false, Bool.false_eq_true, decide_eq_true_eq, Bool.not_eq_true', decide_eq_false_iff_not, t__law_right_s4, tLc_go]
  refine ⟨by show 4 ≤ sizeLine; decide, fun L3 hL3 => one_c (D4.new hL3).2 upd_same (D4.2.not hL3) (by show 0 < 4; decide) (by show 4 < 1000000; decide) fun v H5 hv d5 => ?_⟩
  have D5 := (D4.new hL3).trans d5
  obtain ⟨nr, rfl, hnr, hnr2⟩ : ∃ b : Nat, v = V.int (b : Int) ∧ 1 ≤ b ∧ b ≤ 2 := by
    simp only [List.mem_cons, List.mem_nil_iff, or_false] at hv
    rcases hv with rfl | rfl | rfl | rfl
    · exact ⟨1, rfl, by decide, by decide⟩
    · exact ⟨1, rfl, by decide, by decide⟩
    · exact ⟨1, rfl, by decide, by decide⟩
    · exact ⟨2, rfl, by decide, by decide⟩
  simp only [tSeq, tAsg_name, tAsg_sub, tAsg_tup, tRet, tRetN, tDrop, tIfS, tNext, tNever, tBreak, tCont, tAndV, tOrV, tNotV, tAnd, tOr, tNot, tB, tTest, tIf, tCall, tCons, tNil, tVar, tC, tOp, tUn, tTup, tLst, tRevL, tPar, tPar3, tAug, ipI, tCB, tFld, sFld, iList, iTup, iRng1, iRng2, iEnum, iEnumT, tChain, tSl, tPart, tNoPart, tBM, tCallKw, tTruth, tYes, qAdd, qSub, qMul, qMulW, qDiv, qDivW, qMod, qPow, qLt, qLe, qGt, qGe, qIsN, qNotN, qInt, qAbs, qMax2, qMin2, rI0, rI, rU, rEq, rNe, scal, qIxL, qIxT, qLenQ, qSetL, lstOf_upd, tupOf_upd, atI_0, atI_1, atI_2, atI_3, upd_same, upd_upd, ixL0, ixL1, ixL2, HO.lst.injEq, HO.tup.injEq, List.getElem?_cons_zero, List.getElem?_cons_succ, List.set_cons_zero, List.set_cons_succ, Option.some.injEq, exists_eq_left', exists_eq_left, exists_and_left, V.int.injEq, V.bl.injEq, V.ref.injEq, V.str.injEq, List.append_nil, List.cons.injEq, and_assoc, and_true, true_and, reduceCtorEq, false_and, and_false, false_or, or_false, exists_false, decide_true, decide_false, Bool.not_true, Bool.not_false, not_true_eq_false, not_false_eq_true, if_true, if_false, Bool.false_eq_true, decide_eq_true_eq, Bool.not_eq_true', decide_eq_false_iff_not]
  have en : (nr : Int).toNat = nr := by omega
  rw [en]
  refine ⟨by omega, by omega, go_rng (n := nr) (fun D i H' => H D = none ∧ D ≠ p ∧ Drawn p H H' ∧ RowsAt p b H' D i) (fun D hD => ⟨D5.free hD, D5.2.not hD, D5.new hD, [], rfl, upd_same, fun r hr => by simp at hr⟩) ?_ ?_⟩
  · rintro D i H' hi ⟨hD, hDp, DD, rs, hl, hd, hrs⟩
    simp only [tSeq, tAsg_name, tAsg_sub, tAsg_tup, tRet, tRetN, tDrop, tIfS, tNext, tNever, tBreak, tCont, tAndV, tOrV, tNotV, tAnd, tOr, tNot, tB, tTest, tIf, tCall, tCons, tNil, tVar, tC, tOp, tUn, tTup, tLst, tRevL, tPar, tPar3, tAug, ipI, tCB, tFld, sFld, iList, iTup, iRng1, iRng2, iEnum, iEnumT, tChain, tSl, tPart, tNoPart, tBM, tCallKw, tTruth, tYes, qAdd, qSub, qMul, qMulW, qDiv, qDivW, qMod, qPow, qLt, qLe, qGt, qGe, qIsN, qNotN, qInt, qAbs, qMax2, qMin2, rI0, rI, rU, rEq, rNe, scal, qIxL, qIxT, qLenQ, qSetL, lstOf_upd, tupOf_upd, atI_0, atI_1, atI_2, atI_3, upd_same, upd_upd, ixL0, ixL1, ixL2, HO.lst.injEq, HO.tup.injEq, List.getElem?_cons_zero, List.getElem?_cons_succ, List.set_cons_zero, List.set_cons_succ, Option.some.injEq, exists_eq_left', exists_eq_left, exists_and_left, V.int.injEq, V.bl.injEq, V.ref.injEq, V.str.injEq, List.append_nil, List.cons.injEq, and_assoc, and_true, true_and, reduceCtorEq, false_and, and_false, false_or, or_false, exists_false, decide_true, decide_false, Bool.not_true, Bool.not_false, not_true_eq_false, not_false_eq_true, if_true, if_false, Bool.false_eq_true, decide_eq_true_eq, Bool.not_eq_true', decide_eq_false_iff_not, gName_ap, gTup_ap, gCons_ap, gNil_ap, gSub_ap, LcTurn, t__law_right_e3, wipe]
    refine ⟨p, b, rfl, DD.2, hb, hb10, fun ds H'' a ok dd ha hd2 => ?_⟩
    have hd3 := dd.1 _ _ hDp hd
    have haD : a ≠ D := fun z => by rw [z, hd] at ha; cases ha
    have hap : a ≠ p := DD.2.not ha
    refine ⟨_, hd3, by rw [List.length_map]; omega, hD, hDp, (DD.trans dd).own hD hDp, rs ++ [a], by simp [hl], by rw [upd_same]; simp, fun r hr => ?_⟩
    rcases List.mem_append.mp hr with z | z
    · obtain ⟨h1, es, h2, h3⟩ := hrs r z
      have hrD : r ≠ D := fun y => by
        rw [y, hd] at h3
        exact absurd h3 (by intro w; injection w with w; injection w with w; cases rs with
          | nil => simp at z
          | cons c cs => cases es with
            | nil => simp [ofNats] at w
            | cons e es => simp [ofNats] at w)
      exact ⟨h1, es, h2, by rw [upd_ne hrD]; exact dd.1 _ _ h1 h3⟩
    · have : r = a := by simpa using z
      subst this
      exact ⟨hap, ds, ok, by rw [upd_ne haD]; exact hd2⟩
  · rintro R H6 ⟨hR, hRp, D6, rs, hrl, hRd, hrs⟩
    simp only [tSeq, tAsg_name, tAsg_sub, tAsg_tup, tRet, tRetN, tDrop, tIfS, tNext, tNever, tBreak, tCont, tAndV, tOrV, tNotV, tAnd, tOr, tNot, tB, tTest, tIf, tCall, tCons, tNil, tVar, tC, tOp, tUn, tTup, tLst, tRevL, tPar, tPar3, tAug, ipI, tCB, tFld, sFld, iList, iTup, iRng1, iRng2, iEnum, iEnumT, tChain, tSl, tPart, tNoPart, tBM, tCallKw, tTruth, tYes, qAdd, qSub, qMul, qMulW, qDiv, qDivW, qMod, qPow, qLt, qLe, qGt, qGe, qIsN, qNotN, qInt, qAbs, qMax2, qMin2, rI0, rI, rU, rEq, rNe, scal, qIxL, qIxT, qLenQ, qSetL, lstOf_upd, tupOf_upd, atI_0, atI_1, atI_2, atI_3, upd_same, upd_upd, ixL0, ixL1, ixL2, HO.lst.injEq, HO.tup.injEq, List.getElem?_cons_zero, List.getElem?_cons_succ, List.set_cons_zero, List.set_cons_succ, Option.some.injEq, exists_eq_left', exists_eq_left, exists_and_left, V.int.injEq, V.bl.injEq, V.ref.injEq, V.str.injEq, List.append_nil, List.cons.injEq, and_assoc, and_true, true_and, reduceCtorEq, false_and, and_false, false_or, or_false, exists_false, decide_true, decide_false, Bool.not_true, Bool.not_false, not_true_eq_false, not_false_eq_true, if_true, if_false, Bool.false_eq_true, decide_eq_true_eq, Bool.not_eq_true', decide_eq_false_iff_not, t__law_right_s21, tFor]
    refine ⟨by decide, by decide, lp_rng (n := 3) (fun i σ H' => Drawn p H6 H' ∧ ∃ v4 v5 v6 v7 v8 v9, σ = [some (.ref p), some (.int b), some (.int top), some (.ref R), v4, v5, v6, v7, v8, v9, none, none, none])
      ⟨Drawn.refl D6.2, none, none, none, none, none, none, rfl⟩ ?_ ?_⟩
    · rintro turn σ H' _ ⟨DT, v4, v5, v6, v7, v8, v9, rfl⟩
      simp only [tSeq, tAsg_name, tAsg_sub, tAsg_tup, tRet, tRetN, tDrop, tIfS, tNext, tNever, tBreak, tCont, tAndV, tOrV, tNotV, tAnd, tOr, tNot, tB, tTest, tIf, tCall, tCons, tNil, tVar, tC, tOp, tUn, tTup, tLst, tRevL, tPar, tPar3, tAug, ipI, tCB, tFld, sFld, iList, iTup, iRng1, iRng2, iEnum, iEnumT, tChain, tSl, tPart, tNoPart, tBM, tCallKw, tTruth, tYes, qAdd, qSub, qMul, qMulW, qDiv, qDivW, qMod, qPow, qLt, qLe, qGt, qGe, qIsN, qNotN, qInt, qAbs, qMax2, qMin2, rI0, rI, rU, rEq, rNe, scal, qIxL, qIxT, qLenQ, qSetL, lstOf_upd, tupOf_upd, atI_0, atI_1, atI_2, atI_3, upd_same, upd_upd, ixL0, ixL1, ixL2, HO.lst.injEq, HO.tup.injEq, List.getElem?_cons_zero, List.getElem?_cons_succ, List.set_cons_zero, List.set_cons_succ, Option.some.injEq, exists_eq_left', exists_eq_left, exists_and_left, V.int.injEq, V.bl.injEq, V.ref.injEq, V.str.injEq, List.append_nil, List.cons.injEq, and_assoc, and_true, true_and, reduceCtorEq, false_and, and_false, false_or, or_false, exists_false, decide_true, decide_false, Bool.not_true, Bool.not_false, not_true_eq_false, not_false_eq_true, if_true, if_false, Bool.false_eq_true, decide_eq_true_eq, Bool.not_eq_true', decide_eq_false_iff_not, gName_ap, gTup_ap, gCons_ap, gNil_ap, gSub_ap, t__law_right_b20]
      simp only [tSeq, tAsg_name, tAsg_sub, tAsg_tup, tRet, tRetN, tDrop, tIfS, tNext, tNever, tBreak, tCont, tAndV, tOrV, tNotV, tAnd, tOr, tNot, tB, tTest, tIf, tCall, tCons, tNil, tVar, tC, tOp, tUn, tTup, tLst, tRevL, tPar, tPar3, tAug, ipI, tCB, tFld, sFld, iList, iTup, iRng1, iRng2, iEnum, iEnumT, tChain, tSl, tPart, tNoPart, tBM, tCallKw, tTruth, tYes, qAdd, qSub, qMul, qMulW, qDiv, qDivW, qMod, qPow, qLt, qLe, qGt, qGe, qIsN, qNotN, qInt, qAbs, qMax2, qMin2, rI0, rI, rU, rEq, rNe, scal, qIxL, qIxT, qLenQ, qSetL, lstOf_upd, tupOf_upd, atI_0, atI_1, atI_2, atI_3, upd_same, upd_upd, ixL0, ixL1, ixL2, HO.lst.injEq, HO.tup.injEq, List.getElem?_cons_zero, List.getElem?_cons_succ, List.set_cons_zero, List.set_cons_succ, Option.some.injEq, exists_eq_left', exists_eq_left, exists_and_left, V.int.injEq, V.bl.injEq, V.ref.injEq, V.str.injEq, List.append_nil, List.cons.injEq, and_assoc, and_true, true_and, reduceCtorEq, false_and, and_false, false_or, or_false, exists_false, decide_true, decide_false, Bool.not_true, Bool.not_false, not_true_eq_false, not_false_eq_true, if_true, if_false, Bool.false_eq_true, decide_eq_true_eq, Bool.not_eq_true', decide_eq_false_iff_not, t__law_right_s6, tLc_go]
      refine ⟨by show 3 ≤ sizeLine; decide, fun L4 hL4 => one_c (DT.new hL4).2 upd_same (DT.2.not hL4) (by show 0 < 3; decide) (by show 3 < 1000000; decide) fun v H7 hv d7 => ?_⟩
      have D7 := (DT.new hL4).trans d7
      obtain ⟨w, rfl, hw, hw2⟩ : ∃ b : Nat, v = V.int (b : Int) ∧ 1 ≤ b ∧ b ≤ 20 := by
        simp only [List.mem_cons, List.mem_nil_iff, or_false] at hv
        rcases hv with rfl | rfl | rfl
        · exact ⟨1, rfl, by decide, by decide⟩
        · exact ⟨2, rfl, by decide, by decide⟩
        · exact ⟨20, rfl, by decide, by decide⟩
      refine draw_c D7.2 rfl (w := w) hw (by omega) fun m H8 hm d8 => ?_
      have D8 := D7.trans d8
      simp only [tSeq, tAsg_name, tAsg_sub, tAsg_tup, tRet, tRetN, tDrop, tIfS, tNext, tNever, tBreak, tCont, tAndV, tOrV, tNotV, tAnd, tOr, tNot, tB, tTest, tIf, tCall, tCons, tNil, tVar, tC, tOp, tUn, tTup, tLst, tRevL, tPar, tPar3, tAug, ipI, tCB, tFld, sFld, iList, iTup, iRng1, iRng2, iEnum, iEnumT, tChain, tSl, tPart, tNoPart, tBM, tCallKw, tTruth, tYes, qAdd, qSub, qMul, qMulW, qDiv, qDivW, qMod, qPow, qLt, qLe, qGt, qGe, qIsN, qNotN, qInt, qAbs, qMax2, qMin2, rI0, rI, rU, rEq, rNe, scal, qIxL, qIxT, qLenQ, qSetL, lstOf_upd, tupOf_upd, atI_0, atI_1, atI_2, atI_3, upd_same, upd_upd, ixL0, ixL1, ixL2, HO.lst.injEq, HO.tup.injEq, List.getElem?_cons_zero, List.getElem?_cons_succ, List.set_cons_zero, List.set_cons_succ, Option.some.injEq, exists_eq_left', exists_eq_left, exists_and_left, V.int.injEq, V.bl.injEq, V.ref.injEq, V.str.injEq, List.append_nil, List.cons.injEq, and_assoc, and_true, true_and, reduceCtorEq, false_and, and_false, false_or, or_false, exists_false, decide_true, decide_false, Bool.not_true, Bool.not_false, not_true_eq_false, not_false_eq_true, if_true, if_false, Bool.false_eq_true, decide_eq_true_eq, Bool.not_eq_true', decide_eq_false_iff_not]
      have em : (1 + (m : Int)).toNat = m + 1 := by omega
      rw [em]
      refine ⟨by omega, by omega, go_rng (n := m + 1) (fun D i H' => H6 D = none ∧ D ≠ p ∧ Drawn p H6 H' ∧ ∃ ns : List Nat, H' D = some (.lst (ofNats ns)) ∧ ns.length = i ∧ ∀ n ∈ ns, 1 ≤ n ∧ n < 10 ^ 57)
        (fun D hD => ⟨D8.free hD, D8.2.not hD, D8.new hD, [], upd_same, rfl, fun n hn => by simp at hn⟩) ?_ ?_⟩
      · rintro D i H9 hi ⟨hD, hDp, D9, ns, hd, hl, hns⟩
        simp only [tSeq, tAsg_name, tAsg_sub, tAsg_tup, tRet, tRetN, tDrop, tIfS, tNext, tNever, tBreak, tCont, tAndV, tOrV, tNotV, tAnd, tOr, tNot, tB, tTest, tIf, tCall, tCons, tNil, tVar, tC, tOp, tUn, tTup, tLst, tRevL, tPar, tPar3, tAug, ipI, tCB, tFld, sFld, iList, iTup, iRng1, iRng2, iEnum, iEnumT, tChain, tSl, tPart, tNoPart, tBM, tCallKw, tTruth, tYes, qAdd, qSub, qMul, qMulW, qDiv, qDivW, qMod, qPow, qLt, qLe, qGt, qGe, qIsN, qNotN, qInt, qAbs, qMax2, qMin2, rI0, rI, rU, rEq, rNe, scal, qIxL, qIxT, qLenQ, qSetL, lstOf_upd, tupOf_upd, atI_0, atI_1, atI_2, atI_3, upd_same, upd_upd, ixL0, ixL1, ixL2, HO.lst.injEq, HO.tup.injEq, List.getElem?_cons_zero, List.getElem?_cons_succ, List.set_cons_zero, List.set_cons_succ, Option.some.injEq, exists_eq_left', exists_eq_left, exists_and_left, V.int.injEq, V.bl.injEq, V.ref.injEq, V.str.injEq, List.append_nil, List.cons.injEq, and_assoc, and_true, true_and, reduceCtorEq, false_and, and_false, false_or, or_false, exists_false, decide_true, decide_false, Bool.not_true, Bool.not_false, not_true_eq_false, not_false_eq_true, if_true, if_false, Bool.false_eq_true, decide_eq_true_eq, Bool.not_eq_true', decide_eq_false_iff_not, gName_ap, gTup_ap, gCons_ap, gNil_ap, gSub_ap, LcTurn, t__law_right_e5, wipe]
        refine ⟨p, R, b, rs, rfl, D9.2, hb, hb10, hRp, D9.1 _ _ hRp hRd, by omega, by omega, fun r hr => ?_, fun n H10 h1 h2 d10 => ?_⟩
        · obtain ⟨g1, es, g2, g3⟩ := hrs r hr
          exact ⟨g1, es, g2, D9.1 _ _ g1 g3⟩
        · refine ⟨_, d10.1 _ _ hDp hd, by rw [ofNats_length]; omega, hD, hDp, (D9.trans d10).own hD hDp, ns ++ [n], by rw [ofNats_append]; rfl, by simp [hl], fun k hk => ?_⟩
          rcases List.mem_append.mp hk with z | z
          · exact hns k z
          · have : k = n := by simpa using z
            rw [this]; exact ⟨h1, h2⟩
      · rintro S H9 ⟨hS, hSp, D9, ns, hd, hl, hns⟩
        simp only [tSeq, tAsg_name, tAsg_sub, tAsg_tup, tRet, tRetN, tDrop, tIfS, tNext, tNever, tBreak, tCont, tAndV, tOrV, tNotV, tAnd, tOr, tNot, tB, tTest, tIf, tCall, tCons, tNil, tVar, tC, tOp, tUn, tTup, tLst, tRevL, tPar, tPar3, tAug, ipI, tCB, tFld, sFld, iList, iTup, iRng1, iRng2, iEnum, iEnumT, tChain, tSl, tPart, tNoPart, tBM, tCallKw, tTruth, tYes, qAdd, qSub, qMul, qMulW, qDiv, qDivW, qMod, qPow, qLt, qLe, qGt, qGe, qIsN, qNotN, qInt, qAbs, qMax2, qMin2, rI0, rI, rU, rEq, rNe, scal, qIxL, qIxT, qLenQ, qSetL, lstOf_upd, tupOf_upd, atI_0, atI_1, atI_2, atI_3, upd_same, upd_upd, ixL0, ixL1, ixL2, HO.lst.injEq, HO.tup.injEq, List.getElem?_cons_zero, List.getElem?_cons_succ, List.set_cons_zero, List.set_cons_succ, Option.some.injEq, exists_eq_left', exists_eq_left, exists_and_left, V.int.injEq, V.bl.injEq, V.ref.injEq, V.str.injEq, List.append_nil, List.cons.injEq, and_assoc, and_true, true_and, reduceCtorEq, false_and, and_false, false_or, or_false, exists_false, decide_true, decide_false, Bool.not_true, Bool.not_false, not_true_eq_false, not_false_eq_true, if_true, if_false, Bool.false_eq_true, decide_eq_true_eq, Bool.not_eq_true', decide_eq_false_iff_not, t__law_right_s8, tLc_go]
        have hns200 : ∀ n ∈ ns, 1 ≤ n ∧ n < 2 ^ 200 := fun n hn => ⟨(hns n hn).1, Nat.lt_of_lt_of_le (hns n hn).2 (by decide)⟩
        refine ⟨⟨_, SqL.of hd⟩, go_list (xs := ofNats ns) (fun D i H' => H9 D = none ∧ Same H9 H' ∧ ∃ rs2, H' D = some (.lst (rs2.map V.ref)) ∧ Rows H' rs2 (((ns.take i).map (pairOf b)).map prV))
          (fun D hD => ⟨hD, Same.newp (Same.refl H9) hD, [], upd_same, by simpa using Rows.nil⟩) (fun D i H' _ h => SqL.of (h.2.1 _ _ hd)) ?_ ?_⟩
        · rintro D i x H10 hx ⟨hD, s10, rs2, hd2, hr2⟩
          obtain ⟨n, hn, rfl⟩ := ofNats_get hx
          have hnn := hns n (List.mem_of_getElem? hn)
          simp only [tSeq, tAsg_name, tAsg_sub, tAsg_tup, tRet, tRetN, tDrop, tIfS, tNext, tNever, tBreak, tCont, tAndV, tOrV, tNotV, tAnd, tOr, tNot, tB, tTest, tIf, tCall, tCons, tNil, tVar, tC, tOp, tUn, tTup, tLst, tRevL, tPar, tPar3, tAug, ipI, tCB, tFld, sFld, iList, iTup, iRng1, iRng2, iEnum, iEnumT, tChain, tSl, tPart, tNoPart, tBM, tCallKw, tTruth, tYes, qAdd, qSub, qMul, qMulW, qDiv, qDivW, qMod, qPow, qLt, qLe, qGt, qGe, qIsN, qNotN, qInt, qAbs, qMax2, qMin2, rI0, rI, rU, rEq, rNe, scal, qIxL, qIxT, qLenQ, qSetL, lstOf_upd, tupOf_upd, atI_0, atI_1, atI_2, atI_3, upd_same, upd_upd, ixL0, ixL1, ixL2, HO.lst.injEq, HO.tup.injEq, List.getElem?_cons_zero, List.getElem?_cons_succ, List.set_cons_zero, List.set_cons_succ, Option.some.injEq, exists_eq_left', exists_eq_left, exists_and_left, V.int.injEq, V.bl.injEq, V.ref.injEq, V.str.injEq, List.append_nil, List.cons.injEq, and_assoc, and_true, true_and, reduceCtorEq, false_and, and_false, false_or, or_false, exists_false, decide_true, decide_false, Bool.not_true, Bool.not_false, not_true_eq_false, not_false_eq_true, if_true, if_false, Bool.false_eq_true, decide_eq_true_eq, Bool.not_eq_true', decide_eq_false_iff_not, gName_ap, gTup_ap, gCons_ap, gNil_ap, gSub_ap, LcTurn, t__law_right_e7, wipe]
          refine ⟨n, b, rfl, hb, hb10, hnn.1, hnn.2, fun H11 r s11 hr => ?_⟩
          have hil := (List.getElem?_eq_some_iff.mp hn).1
          have hrl2 := hr2.1
          simp only [List.length_map, List.length_take] at hrl2
          have hrD : r ≠ D := ne_of hr (s11 _ _ hd2) (by intro z; cases z)
          refine ⟨_, s11 _ _ hd2, by rw [List.length_map]; omega, hD, Same.oldp (s10.trans s11) hD, rs2 ++ [r], by simp, ?_⟩
          rw [take_succ_get hn, List.map_append, List.map_append]
          refine Rows.snoc (hr2.mono fun r' xs' _ hx' => ?_) (by rw [upd_ne hrD]; exact hr)
          have nd : r' ≠ D := ne_of hx' hd2 (by intro z; cases z)
          rw [upd_ne nd]
          exact s11 _ _ hx'
        · rintro P H10 ⟨hP, s10, rs2, hP2, hr2⟩
          rw [ofNats_length, List.take_length] at hr2
          -- the first pair
          obtain ⟨n0, nt, rfl⟩ : ∃ n0 nt, ns = n0 :: nt := by
            cases ns with
            | nil => simp at hl
            | cons a l => exact ⟨a, l, rfl⟩
          obtain ⟨r0, rt, rfl⟩ : ∃ r0 rt, rs2 = r0 :: rt := by
            cases rs2 with
            | nil => have := hr2.1; simp at this
            | cons a l => exact ⟨a, l, rfl⟩
          have h0 := hr2.2 0 r0 (prV (pairOf b n0)) rfl rfl
          generalize hsm : pairOf b n0 = sm at *
          simp only [tSeq, tAsg_name, tAsg_sub, tAsg_tup, tRet, tRetN, tDrop, tIfS, tNext, tNever, tBreak, tCont, tAndV, tOrV, tNotV, tAnd, tOr, tNot, tB, tTest, tIf, tCall, tCons, tNil, tVar, tC, tOp, tUn, tTup, tLst, tRevL, tPar, tPar3, tAug, ipI, tCB, tFld, sFld, iList, iTup, iRng1, iRng2, iEnum, iEnumT, tChain, tSl, tPart, tNoPart, tBM, tCallKw, tTruth, tYes, qAdd, qSub, qMul, qMulW, qDiv, qDivW, qMod, qPow, qLt, qLe, qGt, qGe, qIsN, qNotN, qInt, qAbs, qMax2, qMin2, rI0, rI, rU, rEq, rNe, scal, qIxL, qIxT, qLenQ, qSetL, lstOf_upd, tupOf_upd, atI_0, atI_1, atI_2, atI_3, upd_same, upd_upd, ixL0, ixL1, ixL2, HO.lst.injEq, HO.tup.injEq, List.getElem?_cons_zero, List.getElem?_cons_succ, List.set_cons_zero, List.set_cons_succ, Option.some.injEq, exists_eq_left', exists_eq_left, exists_and_left, V.int.injEq, V.bl.injEq, V.ref.injEq, V.str.injEq, List.append_nil, List.cons.injEq, and_assoc, and_true, true_and, reduceCtorEq, false_and, and_false, false_or, or_false, exists_false, decide_true, decide_false, Bool.not_true, Bool.not_false, not_true_eq_false, not_false_eq_true, if_true, if_false, Bool.false_eq_true, decide_eq_true_eq, Bool.not_eq_true', decide_eq_false_iff_not, t__law_right_s9, lstOf_of hP2, List.map_cons]
          have et : ((top : Int) + 1 - 1).toNat = top := by omega
          simp only [tSeq, tAsg_name, tAsg_sub, tAsg_tup, tRet, tRetN, tDrop, tIfS, tNext, tNever, tBreak, tCont, tAndV, tOrV, tNotV, tAnd, tOr, tNot, tB, tTest, tIf, tCall, tCons, tNil, tVar, tC, tOp, tUn, tTup, tLst, tRevL, tPar, tPar3, tAug, ipI, tCB, tFld, sFld, iList, iTup, iRng1, iRng2, iEnum, iEnumT, tChain, tSl, tPart, tNoPart, tBM, tCallKw, tTruth, tYes, qAdd, qSub, qMul, qMulW, qDiv, qDivW, qMod, qPow, qLt, qLe, qGt, qGe, qIsN, qNotN, qInt, qAbs, qMax2, qMin2, rI0, rI, rU, rEq, rNe, scal, qIxL, qIxT, qLenQ, qSetL, lstOf_upd, tupOf_upd, atI_0, atI_1, atI_2, atI_3, upd_same, upd_upd, ixL0, ixL1, ixL2, HO.lst.injEq, HO.tup.injEq, List.getElem?_cons_zero, List.getElem?_cons_succ, List.set_cons_zero, List.set_cons_succ, Option.some.injEq, exists_eq_left', exists_eq_left, exists_and_left, V.int.injEq, V.bl.injEq, V.ref.injEq, V.str.injEq, List.append_nil, List.cons.injEq, and_assoc, and_true, true_and, reduceCtorEq, false_and, and_false, false_or, or_false, exists_false, decide_true, decide_false, Bool.not_true, Bool.not_false, not_true_eq_false, not_false_eq_true, if_true, if_false, Bool.false_eq_true, decide_eq_true_eq, Bool.not_eq_true', decide_eq_false_iff_not, t__law_right_s12, tLc_go, et]
          refine ⟨by decide, by decide, by omega, by omega, go_rng (n := top) (fun D i H' => H10 D = none ∧ Same H10 H' ∧ ∃ rs3, H' D = some (.lst (rs3.map V.ref)) ∧ Rows H' rs3 ((duePre sm top i).map prV))
            (fun D hD => ⟨hD, Same.newp (Same.refl H10) hD, [], upd_same, by simpa [duePre] using Rows.nil⟩) ?_ ?_⟩
          · rintro D i H11 hi ⟨hD, s11, rs3, hd3, hr3⟩
            have h0' := s11 _ _ h0
            have ei : (1 : Int) + (i : Int) = ((i + 1 : Nat) : Int) := by omega
            simp only [tSeq, tAsg_name, tAsg_sub, tAsg_tup, tRet, tRetN, tDrop, tIfS, tNext, tNever, tBreak, tCont, tAndV, tOrV, tNotV, tAnd, tOr, tNot, tB, tTest, tIf, tCall, tCons, tNil, tVar, tC, tOp, tUn, tTup, tLst, tRevL, tPar, tPar3, tAug, ipI, tCB, tFld, sFld, iList, iTup, iRng1, iRng2, iEnum, iEnumT, tChain, tSl, tPart, tNoPart, tBM, tCallKw, tTruth, tYes, qAdd, qSub, qMul, qMulW, qDiv, qDivW, qMod, qPow, qLt, qLe, qGt, qGe, qIsN, qNotN, qInt, qAbs, qMax2, qMin2, rI0, rI, rU, rEq, rNe, scal, qIxL, qIxT, qLenQ, qSetL, lstOf_upd, tupOf_upd, atI_0, atI_1, atI_2, atI_3, upd_same, upd_upd, ixL0, ixL1, ixL2, HO.lst.injEq, HO.tup.injEq, List.getElem?_cons_zero, List.getElem?_cons_succ, List.set_cons_zero, List.set_cons_succ, Option.some.injEq, exists_eq_left', exists_eq_left, exists_and_left, V.int.injEq, V.bl.injEq, V.ref.injEq, V.str.injEq, List.append_nil, List.cons.injEq, and_assoc, and_true, true_and, reduceCtorEq, false_and, and_false, false_or, or_false, exists_false, decide_true, decide_false, Bool.not_true, Bool.not_false, not_true_eq_false, not_false_eq_true, if_true, if_false, Bool.false_eq_true, decide_eq_true_eq, Bool.not_eq_true', decide_eq_false_iff_not, gName_ap, gTup_ap, gCons_ap, gNil_ap, gSub_ap, LcTurn, t__law_right_c10, wipe, qMaxT, ei]
            refine ⟨[(sm.1 : Int), (sm.2 : Int)], SqT.of h0', Nat.zero_lt_two, fun m hm1 hm2 => ?_⟩
            have hmx : m = ((max sm.1 sm.2 : Nat) : Int) := by
              have g1 := hm2 (sm.1 : Int) (by simp)
              have g2 := hm2 (sm.2 : Int) (by simp)
              simp only [List.mem_cons, List.mem_nil_iff, or_false] at hm1
              rcases hm1 with z | z <;> omega
            subst hmx
            refine ⟨.inl ⟨by omega, by omega⟩, ?_⟩
            rw [← Int.natCast_mul]
            have hle : (((i + 1) * max sm.1 sm.2 : Nat) : Int) ≤ (top : Int) ↔ (i + 1) * max sm.1 sm.2 ≤ top := by omega
            have hrl3 := hr3.1
            have hpl := duePre_len sm top i
            simp only [List.length_map] at hrl3
            refine ite2 (fun c => ?_) (fun c => ?_)
            · simp only [tSeq, tAsg_name, tAsg_sub, tAsg_tup, tRet, tRetN, tDrop, tIfS, tNext, tNever, tBreak, tCont, tAndV, tOrV, tNotV, tAnd, tOr, tNot, tB, tTest, tIf, tCall, tCons, tNil, tVar, tC, tOp, tUn, tTup, tLst, tRevL, tPar, tPar3, tAug, ipI, tCB, tFld, sFld, iList, iTup, iRng1, iRng2, iEnum, iEnumT, tChain, tSl, tPart, tNoPart, tBM, tCallKw, tTruth, tYes, qAdd, qSub, qMul, qMulW, qDiv, qDivW, qMod, qPow, qLt, qLe, qGt, qGe, qIsN, qNotN, qInt, qAbs, qMax2, qMin2, rI0, rI, rU, rEq, rNe, scal, qIxL, qIxT, qLenQ, qSetL, lstOf_upd, tupOf_upd, atI_0, atI_1, atI_2, atI_3, upd_same, upd_upd, ixL0, ixL1, ixL2, HO.lst.injEq, HO.tup.injEq, List.getElem?_cons_zero, List.getElem?_cons_succ, List.set_cons_zero, List.set_cons_succ, Option.some.injEq, exists_eq_left', exists_eq_left, exists_and_left, V.int.injEq, V.bl.injEq, V.ref.injEq, V.str.injEq, List.append_nil, List.cons.injEq, and_assoc, and_true, true_and, reduceCtorEq, false_and, and_false, false_or, or_false, exists_false, decide_true, decide_false, Bool.not_true, Bool.not_false, not_true_eq_false, not_false_eq_true, if_true, if_false, Bool.false_eq_true, decide_eq_true_eq, Bool.not_eq_true', decide_eq_false_iff_not, t__law_right_e11, tupOf_of h0', prV, ei]
              refine ⟨.inl ⟨by omega, by omega⟩, .inl ⟨by omega, by omega⟩, by show 2 ≤ sizeLine; decide, fun t ht => ?_⟩
              have htD : t ≠ D := fun z => by rw [z, hd3] at ht; cases ht
              refine ⟨_, at_new hd3 ht, by rw [List.length_map]; omega, hD, Same.oldp (Same.newp s11 ht) hD, rs3 ++ [t], by simp, ?_⟩
              rw [duePre_succ, if_pos (hle.mp c), List.map_append]
              refine Rows.snoc (hr3.mono fun r' xs' _ hx' => ?_) ?_
              · have nd : r' ≠ D := ne_of hx' hd3 (by intro z; cases z)
                rw [upd_ne nd]
                exact at_new hx' ht
              · rw [upd_ne htD, upd_same, ← Int.natCast_mul, ← Int.natCast_mul]; rfl
            · refine ⟨hD, s11, rs3, hd3, ?_⟩
              rw [duePre_succ, if_neg (fun z => c (hle.mpr z)), List.append_nil]
              exact hr3
          · rintro D H11 ⟨hD, s11, rs3, hd3, hr3⟩
            simp only [tSeq, tAsg_name, tAsg_sub, tAsg_tup, tRet, tRetN, tDrop, tIfS, tNext, tNever, tBreak, tCont, tAndV, tOrV, tNotV, tAnd, tOr, tNot, tB, tTest, tIf, tCall, tCons, tNil, tVar, tC, tOp, tUn, tTup, tLst, tRevL, tPar, tPar3, tAug, ipI, tCB, tFld, sFld, iList, iTup, iRng1, iRng2, iEnum, iEnumT, tChain, tSl, tPart, tNoPart, tBM, tCallKw, tTruth, tYes, qAdd, qSub, qMul, qMulW, qDiv, qDivW, qMod, qPow, qLt, qLe, qGt, qGe, qIsN, qNotN, qInt, qAbs, qMax2, qMin2, rI0, rI, rU, rEq, rNe, scal, qIxL, qIxT, qLenQ, qSetL, lstOf_upd, tupOf_upd, atI_0, atI_1, atI_2, atI_3, upd_same, upd_upd, ixL0, ixL1, ixL2, HO.lst.injEq, HO.tup.injEq, List.getElem?_cons_zero, List.getElem?_cons_succ, List.set_cons_zero, List.set_cons_succ, Option.some.injEq, exists_eq_left', exists_eq_left, exists_and_left, V.int.injEq, V.bl.injEq, V.ref.injEq, V.str.injEq, List.append_nil, List.cons.injEq, and_assoc, and_true, true_and, reduceCtorEq, false_and, and_false, false_or, or_false, exists_false, decide_true, decide_false, Bool.not_true, Bool.not_false, not_true_eq_false, not_false_eq_true, if_true, if_false, Bool.false_eq_true, decide_eq_true_eq, Bool.not_eq_true', decide_eq_false_iff_not, t__law_right_s15, tLc_go]
            have hP11 := s11 _ _ hP2
            have h011 := s11 _ _ h0
            have hr11 := hr2.mono fun r xs _ h => s11 _ _ h
            let ps := (n0 :: nt).map (pairOf b)
            have hps : ps.length = m + 1 := by simpa [ps] using hl
            refine ⟨⟨_, SqL.of hP11⟩, go_list (xs := (r0 :: rt).map V.ref) (fun F i H' => H11 F = none ∧ Same H11 H' ∧ ∃ rs4, H' F = some (.lst (rs4.map V.ref)) ∧ Rows H' rs4 (((ps.take i).filter (fun x => decide (x ≠ sm))).map prV))
              (fun F hF => ⟨hF, Same.newp (Same.refl H11) hF, [], upd_same, by simpa using Rows.nil⟩) (fun F i H' _ h => SqL.of (h.2.1 _ _ hP11)) ?_ ?_⟩
            · rintro F i x H12 hx ⟨hF, s12, rs4, hf, hr4⟩
              obtain ⟨r, hr, rfl⟩ := refs_get hx
              have hi : i < ps.length := by
                have g1 := (List.getElem?_eq_some_iff.mp hr).1
                have g2 := hr11.1
                simp only [List.length_map] at g2
                simp only [ps, List.length_map]
                omega
              obtain ⟨pp, hpp⟩ : ∃ pp, ps[i]? = some pp := ⟨ps[i], List.getElem?_eq_getElem hi⟩
              have hrow := s12 _ _ (hr11.2 i r (prV pp) hr (by rw [List.getElem?_map]; show (ps[i]?).map prV = _; rw [hpp]; rfl))
              have h012 := s12 _ _ h011
              have hrl4 := hr4.1
              have hfl : ((ps.take i).filter (fun x => decide (x ≠ sm))).length ≤ i := Nat.le_trans (List.length_filter_le _ _) (by simp; omega)
              simp only [List.length_map] at hrl4
              simp only [tSeq, tAsg_name, tAsg_sub, tAsg_tup, tRet, tRetN, tDrop, tIfS, tNext, tNever, tBreak, tCont, tAndV, tOrV, tNotV, tAnd, tOr, tNot, tB, tTest, tIf, tCall, tCons, tNil, tVar, tC, tOp, tUn, tTup, tLst, tRevL, tPar, tPar3, tAug, ipI, tCB, tFld, sFld, iList, iTup, iRng1, iRng2, iEnum, iEnumT, tChain, tSl, tPart, tNoPart, tBM, tCallKw, tTruth, tYes, qAdd, qSub, qMul, qMulW, qDiv, qDivW, qMod, qPow, qLt, qLe, qGt, qGe, qIsN, qNotN, qInt, qAbs, qMax2, qMin2, rI0, rI, rU, rEq, rNe, scal, qIxL, qIxT, qLenQ, qSetL, lstOf_upd, tupOf_upd, atI_0, atI_1, atI_2, atI_3, upd_same, upd_upd, ixL0, ixL1, ixL2, HO.lst.injEq, HO.tup.injEq, List.getElem?_cons_zero, List.getElem?_cons_succ, List.set_cons_zero, List.set_cons_succ, Option.some.injEq, exists_eq_left', exists_eq_left, exists_and_left, V.int.injEq, V.bl.injEq, V.ref.injEq, V.str.injEq, List.append_nil, List.cons.injEq, and_assoc, and_true, true_and, reduceCtorEq, false_and, and_false, false_or, or_false, exists_false, decide_true, decide_false, Bool.not_true, Bool.not_false, not_true_eq_false, not_false_eq_true, if_true, if_false, Bool.false_eq_true, decide_eq_true_eq, Bool.not_eq_true', decide_eq_false_iff_not, gName_ap, gTup_ap, gCons_ap, gNil_ap, gSub_ap, LcTurn, t__law_right_c13, wipe]
              refine ⟨dT pp, dT sm, dp_prV (SqT.of hrow), dp_prV (SqT.of h012), dT_shaped pp, dT_shaped sm, _, rfl, ?_⟩
              rw [dT_eqv]
              have etake : ((ps.take (i + 1)).filter (fun x => decide (x ≠ sm))) = ((ps.take i).filter (fun x => decide (x ≠ sm))) ++ (if pp = sm then [] else [pp]) := by
                rw [take_succ_get hpp, List.filter_append]
                congr 1
                by_cases c : pp = sm
                · simp [c]
                · simp [c]
              rw [etake]
              by_cases c : pp = sm
              · rw [if_pos c, List.append_nil, decide_eq_true c]
                refine iteF ⟨hF, s12, rs4, hf, hr4⟩
              · rw [if_neg c, decide_eq_false c]
                refine iteT ?_
                simp only [tSeq, tAsg_name, tAsg_sub, tAsg_tup, tRet, tRetN, tDrop, tIfS, tNext, tNever, tBreak, tCont, tAndV, tOrV, tNotV, tAnd, tOr, tNot, tB, tTest, tIf, tCall, tCons, tNil, tVar, tC, tOp, tUn, tTup, tLst, tRevL, tPar, tPar3, tAug, ipI, tCB, tFld, sFld, iList, iTup, iRng1, iRng2, iEnum, iEnumT, tChain, tSl, tPart, tNoPart, tBM, tCallKw, tTruth, tYes, qAdd, qSub, qMul, qMulW, qDiv, qDivW, qMod, qPow, qLt, qLe, qGt, qGe, qIsN, qNotN, qInt, qAbs, qMax2, qMin2, rI0, rI, rU, rEq, rNe, scal, qIxL, qIxT, qLenQ, qSetL, lstOf_upd, tupOf_upd, atI_0, atI_1, atI_2, atI_3, upd_same, upd_upd, ixL0, ixL1, ixL2, HO.lst.injEq, HO.tup.injEq, List.getElem?_cons_zero, List.getElem?_cons_succ, List.set_cons_zero, List.set_cons_succ, Option.some.injEq, exists_eq_left', exists_eq_left, exists_and_left, V.int.injEq, V.bl.injEq, V.ref.injEq, V.str.injEq, List.append_nil, List.cons.injEq, and_assoc, and_true, true_and, reduceCtorEq, false_and, and_false, false_or, or_false, exists_false, decide_true, decide_false, Bool.not_true, Bool.not_false, not_true_eq_false, not_false_eq_true, if_true, if_false, Bool.false_eq_true, decide_eq_true_eq, Bool.not_eq_true', decide_eq_false_iff_not, t__law_right_e14]
                refine ⟨_, hf, by rw [List.length_map]; omega, hF, Same.oldp s12 hF, rs4 ++ [r], by simp, ?_⟩
                rw [List.map_append]
                refine Rows.snoc (hr4.mono fun r' xs' _ hx' => ?_) ?_
                · have nd : r' ≠ F := ne_of hx' hf (by intro z; cases z)
                  rw [upd_ne nd]
                  exact hx'
                · have nd : r ≠ F := ne_of hrow hf (by intro z; cases z)
                  rw [upd_ne nd]
                  exact hrow
            · rintro F H12 ⟨hF, s12, rs4, hf, hr4⟩
              have eps : ps.take ((r0 :: rt).map V.ref).length = ps := by
                have g2 := hr11.1
                simp only [List.length_map] at g2
                rw [List.length_map, List.take_of_length_le]
                simp only [ps, List.length_map]
                omega
              rw [eps] at hr4
              refine ⟨by decide, fun E1 hE1 => ?_⟩
              have S12 : Same H9 H12 := (s10.trans s11).trans s12
              have hd12 := S12 _ _ hd
              have hD12 := s12 _ _ hd3
              have hr12 := hr3.mono fun r xs _ h => s12 _ _ h
              have S13 : Same H12 (upd H12 E1 (.lst [])) := Same.newp (Same.refl H12) hE1
              refine ⟨_, _, dlist_dp (K := K) (S13 _ _ hf) (hr4.mono fun r xs _ h => S13 _ _ h), .lst (SqL.of upd_same) .nil, dlist_shaped _, rfl, _, rfl, ?_⟩
              rw [dlist_nil]
              have okns : numsOk (n0 :: nt) := ⟨by simp, by omega, fun n hn => ⟨(hns n hn).1, Nat.lt_of_lt_of_le (hns n hn).2 (by decide)⟩⟩
              have edue := due_eq (b := b) (top := top) hb (List.mem_cons_self (a := n0) (l := nt)) hns200
              rw [hsm] at edue
              have fin : ∀ H' g d, Same H9 H' → (Drawn p H6 H' ∧ ∃ v4 v5 v6 v7 v8 v9, ([some (V.ref p), some (V.int ↑b), some (V.int ↑top), some (V.ref R), some (V.int (0 + ↑turn)), some (V.ref S), some (V.ref P), some (V.ref r0), some (V.ref d), some g, none, none, none] : St) = [some (V.ref p), some (V.int ↑b), some (V.int ↑top), some (V.ref R), v4, v5, v6, v7, v8, v9, none, none, none]) :=
                fun H' g d s => ⟨D9.trans ⟨fun _ _ _ h => s _ _ h, D9.2.same s⟩, _, _, _, _, _, _, rfl⟩
              by_cases c : (ps.filter (fun x => decide (x ≠ sm))).isEmpty = true
              · rw [if_pos c]
                have call : ∀ n ∈ n0 :: nt, pairOf b n = sm := by
                  intro n hn
                  rw [List.isEmpty_iff, List.filter_eq_nil_iff] at c
                  have := c (pairOf b n) (List.mem_map_of_mem hn)
                  simpa using this
                rw [if_pos call] at edue
                refine right_rest hb hb10 ht ht20 (S13 _ _ hd12) okns (S13 _ _ hD12) ?_ (fun H' g s => fin H' g D ((S12.trans S13).trans s))
                rw [edue]
                exact hr12.mono fun r xs _ h => S13 _ _ h
              · rw [if_neg c]
                have call : ¬ ∀ n ∈ n0 :: nt, pairOf b n = sm := by
                  intro h
                  apply c
                  rw [List.isEmpty_iff, List.filter_eq_nil_iff]
                  intro x hx
                  obtain ⟨n, hn, rfl⟩ := List.mem_map.mp hx
                  simp [h n hn]
                rw [if_neg call] at edue
                refine ⟨by decide, fun E2 hE2 => ?_⟩
                have S14 := Same.newp (o := .lst []) S13 hE2
                refine right_rest (rs := []) hb hb10 ht ht20 (S14 _ _ hd12) okns upd_same ?_ (fun H' g s => fin H' g E2 ((S12.trans S14).trans s))
                rw [edue]
                exact Rows.nil
    · rintro σ H' ⟨DT, v4, v5, v6, v7, v8, v9, rfl⟩
      simp only [tSeq, tAsg_name, tAsg_sub, tAsg_tup, tRet, tRetN, tDrop, tIfS, tNext, tNever, tBreak, tCont, tAndV, tOrV, tNotV, tAnd, tOr, tNot, tB, tTest, tIf, tCall, tCons, tNil, tVar, tC, tOp, tUn, tTup, tLst, tRevL, tPar, tPar3, tAug, ipI, tCB, tFld, sFld, iList, iTup, iRng1, iRng2, iEnum, iEnumT, tChain, tSl, tPart, tNoPart, tBM, tCallKw, tTruth, tYes, qAdd, qSub, qMul, qMulW, qDiv, qDivW, qMod, qPow, qLt, qLe, qGt, qGe, qIsN, qNotN, qInt, qAbs, qMax2, qMin2, rI0, rI, rU, rEq, rNe, scal, qIxL, qIxT, qLenQ, qSetL, lstOf_upd, tupOf_upd, atI_0, atI_1, atI_2, atI_3, upd_same, upd_upd, ixL0, ixL1, ixL2, HO.lst.injEq, HO.tup.injEq, List.getElem?_cons_zero, List.getElem?_cons_succ, List.set_cons_zero, List.set_cons_succ, Option.some.injEq, exists_eq_left', exists_eq_left, exists_and_left, V.int.injEq, V.bl.injEq, V.ref.injEq, V.str.injEq, List.append_nil, List.cons.injEq, and_assoc, and_true, true_and, reduceCtorEq, false_and, and_false, false_or, or_false, exists_false, decide_true, decide_false, Bool.not_true, Bool.not_false, not_true_eq_false, not_false_eq_true, if_true, if_false, Bool.false_eq_true, decide_eq_true_eq, Bool.not_eq_true', decide_eq_false_iff_not, t__law_right_s22]
      exact q _ (D6.trans DT).1

def digsF : Nat → Nat → Nat → List Nat
  | 0, _, _ => []
  | k + 1, b, n => if b ≤ n then n % b :: digsF k b (n / b) else [n % b]
theorem digs_fuel {b : Nat} (hb : 2 ≤ b) : ∀ (k n : Nat), n < 2 ^ k → digs b n = digsF (k + 1) b n := by
  intro k
  induction k with
  | zero =>
    intro n h
    have : n = 0 := by omega
    subst this
    rw [digs, digsF, dif_neg (by omega), if_neg (by omega)]
  | succ k ih =>
    intro n h
    rw [digs, digsF]
    by_cases c : b ≤ n
    · rw [dif_pos ⟨hb, c⟩, if_pos c, ih]
      have : n / b ≤ n / 2 := Nat.div_le_div_left hb (by decide)
      rw [Nat.pow_succ] at h
      omega
    · rw [dif_neg (fun z => c z.2), if_neg c]
def fitsF (b : Nat) (ns : List Nat) (a e : Nat) : Bool := ns.all fun n => a * n == e * undig b (digsF 206 b n)
def multsF (b : Nat) (ns : List Nat) (most : Nat) : List (Nat × Nat) := (List.range most).flatMap fun a => (List.range most).filterMap fun e => if fitsF b ns (a + 1) (e + 1) then some (a + 1, e + 1) else none
theorem fitsF_eq {b : Nat} {ns : List Nat} (hb : 2 ≤ b) (h : ∀ n ∈ ns, n < 2 ^ 205) (a e : Nat) : fits b ns a e = fitsF b ns a e := by
  unfold fits fitsF back
  rw [Bool.eq_iff_iff, List.all_eq_true, List.all_eq_true]
  constructor
  · intro g n hn
    rw [← digs_fuel hb 205 n (h n hn)]
    exact g n hn
  · intro g n hn
    rw [digs_fuel hb 205 n (h n hn)]
    exact g n hn
theorem multsF_eq {b : Nat} {ns : List Nat} (hb : 2 ≤ b) (h : ∀ n ∈ ns, n < 2 ^ 205) (most : Nat) : mults b ns most = multsF b ns most := by
  unfold mults multsF
  simp only [fitsF_eq hb h]
def pairsT : List (Nat × Nat) → TA
  | [] => tNil
  | p :: L => tCons (tTup (tCons (tC (.int (p.1 : Nat))) (tCons (tC (.int (p.2 : Nat))) tNil))) (pairsT L)
theorem pairsT_go {K : PySem.W.Frag} {σ : St} : ∀ {L : List (Nat × Nat)} {H : Hp} {R : List V → Hp → Prop}, (∀ rs H', Same H H' → Rows H' rs (L.map prV) → R (rs.map V.ref) H') → pairsT L σ H R
  | [], H, R, k => k [] H (Same.refl H) Rows.nil
  | p :: L, H, R, k => by
    simp only [tSeq, tAsg_name, tAsg_sub, tAsg_tup, tRet, tRetN, tDrop, tIfS, tNext, tNever, tBreak, tCont, tAndV, tOrV, tNotV, tAnd, tOr, tNot, tB, tTest, tIf, tCall, tCons, tNil, tVar, tC, tOp, tUn, tTup, tLst, tRevL, tPar, tPar3, tAug, ipI, tCB, tFld, sFld, iList, iTup, iRng1, iRng2, iEnum, iEnumT, tChain, tSl, tPart, tNoPart, tBM, tCallKw, tTruth, tYes, qAdd, qSub, qMul, qMulW, qDiv, qDivW, qMod, qPow, qLt, qLe, qGt, qGe, qIsN, qNotN, qInt, qAbs, qMax2, qMin2, rI0, rI, rU, rEq, rNe, scal, qIxL, qIxT, qLenQ, qSetL, lstOf_upd, tupOf_upd, atI_0, atI_1, atI_2, atI_3, upd_same, upd_upd, ixL0, ixL1, ixL2, HO.lst.injEq, HO.tup.injEq, List.getElem?_cons_zero, List.getElem?_cons_succ, List.set_cons_zero, List.set_cons_succ, Option.some.injEq, exists_eq_left', exists_eq_left, exists_and_left, V.int.injEq, V.bl.injEq, V.ref.injEq, V.str.injEq, List.append_nil, List.cons.injEq, and_assoc, and_true, true_and, reduceCtorEq, false_and, and_false, false_or, or_false, exists_false, decide_true, decide_false, Bool.not_true, Bool.not_false, not_true_eq_false, not_false_eq_true, if_true, if_false, Bool.false_eq_true, decide_eq_true_eq, Bool.not_eq_true', decide_eq_false_iff_not, pairsT]
    refine ⟨by show 2 ≤ sizeLine; decide, fun l hl => pairsT_go (K := K) (L := L) fun rs H' s hr => k (l :: rs) H' ((Same.newp (Same.refl H) hl).trans s) ⟨?_, ?_⟩⟩
    · simpa using hr.1
    · intro i r xs hi hx
      cases i with
      | zero => cases hi; cases hx; exact s _ _ upd_same
      | succ i => exact hr.2 i r xs hi hx

/-- a display of pairs, of any length in a row -/
theorem tup_pairs {K : PySem.W.Frag} {σ : St} {L : List (Nat × Nat)} {H : Hp} {Q : VK} (hl : L.length ≤ sizeLine) (k : ∀ p H', Same H H' → Dp K H' (.ref p) (dPairs L) → Q (.ref p) H') : tTup (pairsT L) σ H Q := by
  unfold tTup
  refine pairsT_go (K := K) fun rs H1 s hr => ?_
  have hr1 := hr.1
  rw [List.length_map] at hr1
  refine ⟨by rw [List.length_map]; omega, fun p hp => ?_⟩
  exact k p _ (Same.newp s hp) (dpairs_dp upd_same (hr.mono fun r xs _ h => Same.newp (Same.refl H1) hp _ _ h))
theorem dpairs_shaped (L : List (Nat × Nat)) : SeqAt.shaped (dPairs L) = true := by
  show (PyData.canLayAll0 (L.map dT) && decide (PyData.depthAll (L.map dT) + 1 ≤ 64)) = true
  rw [dlist_lay L, decide_eq_true (by have := dlist_dep L; omega)]
  rfl
theorem dpairs_eqv (L : List (Nat × Nat)) : PyData.eqv (dPairs L) (dPairs L) = true := by
  show PyData.eqvAll (L.map dT) (L.map dT) = true
  induction L with
  | nil => rfl
  | cons p L ih =>
    show (PyData.eqv (dT p) (dT p) && PyData.eqvAll (L.map dT) (L.map dT)) = true
    rw [ih]
    have := dT_eqv p p
    simp only [decide_true, Bool.not_true, Bool.not_eq_false'] at this
    rw [this]
    rfl
theorem ask {K : PySem.W.Frag} {σ : St} {H : Hp} {Q : VK} {tn : TA} {b top : Nat} {ns : List Nat} {L : List (Nat × Nat)}
    (hn : ∀ H R, R (ofNats ns) H → tn σ H R) (hb : 2 ≤ b) (hb10 : b ≤ 10) (hok : numsOk ns) (ht : 1 ≤ top) (ht20 : top ≤ 20) (hm : multsF b ns top = L) (hl : L.length ≤ sizeLine)
    (k : ∀ H', Same H H' → Q (.bl false) H') :
    tOp (rNeD K) (tCall (sp_multiples K) [] E0 (tCons (tC (.int (b : Nat))) (tCons (tTup tn) (tCons (tC (.int (top : Nat))) tNil)))) (tTup (pairsT L)) σ H Q := by
  have h205 : ∀ n ∈ ns, n < 2 ^ 205 := fun n hn => Nat.lt_of_lt_of_le (hok.2.2 n hn).2 (by decide)
  have hle : (ofNats ns).length ≤ sizeLine := by
    rw [ofNats_length]
    exact Nat.le_trans hok.2.1 (by decide)
  simp only [tSeq, tAsg_name, tAsg_sub, tAsg_tup, tRet, tRetN, tDrop, tIfS, tNext, tNever, tBreak, tCont, tAndV, tOrV, tNotV, tAnd, tOr, tNot, tB, tTest, tIf, tCall, tCons, tNil, tVar, tC, tOp, tUn, tTup, tLst, tRevL, tPar, tPar3, tAug, ipI, tCB, tFld, sFld, iList, iTup, iRng1, iRng2, iEnum, iEnumT, tChain, tSl, tPart, tNoPart, tBM, tCallKw, tTruth, tYes, qAdd, qSub, qMul, qMulW, qDiv, qDivW, qMod, qPow, qLt, qLe, qGt, qGe, qIsN, qNotN, qInt, qAbs, qMax2, qMin2, rI0, rI, rU, rEq, rNe, scal, qIxL, qIxT, qLenQ, qSetL, lstOf_upd, tupOf_upd, atI_0, atI_1, atI_2, atI_3, upd_same, upd_upd, ixL0, ixL1, ixL2, HO.lst.injEq, HO.tup.injEq, List.getElem?_cons_zero, List.getElem?_cons_succ, List.set_cons_zero, List.set_cons_succ, Option.some.injEq, exists_eq_left', exists_eq_left, exists_and_left, V.int.injEq, V.bl.injEq, V.ref.injEq, V.str.injEq, List.append_nil, List.cons.injEq, and_assoc, and_true, true_and, reduceCtorEq, false_and, and_false, false_or, or_false, exists_false, decide_true, decide_false, Bool.not_true, Bool.not_false, not_true_eq_false, not_false_eq_true, if_true, if_false, Bool.false_eq_true, decide_eq_true_eq, Bool.not_eq_true', decide_eq_false_iff_not]
  refine hn _ _ ⟨hle, fun p hp => ⟨p, b, top, ns, rfl, hb, hb10, upd_same, hok, ht, ht20, fun H1 v s1 dv => ?_⟩⟩
  have S1 : Same H H1 := (Same.newp (Same.refl H) hp).trans s1
  have key := tup_pairs (K := K) (σ := σ) (L := L) (H := H1) (Q := fun w H2 => rNeD K v w H2 Q) hl fun g H2 s2 d2 => by
    refine ⟨_, _, dp_grow s2 _ _ dv, d2, dpairs_shaped _, dpairs_shaped _, ?_⟩
    rw [multsF_eq hb h205, hm, dpairs_eqv]
    exact k _ (S1.trans s2)
  simp only [tSeq, tAsg_name, tAsg_sub, tAsg_tup, tRet, tRetN, tDrop, tIfS, tNext, tNever, tBreak, tCont, tAndV, tOrV, tNotV, tAnd, tOr, tNot, tB, tTest, tIf, tCall, tCons, tNil, tVar, tC, tOp, tUn, tTup, tLst, tRevL, tPar, tPar3, tAug, ipI, tCB, tFld, sFld, iList, iTup, iRng1, iRng2, iEnum, iEnumT, tChain, tSl, tPart, tNoPart, tBM, tCallKw, tTruth, tYes, qAdd, qSub, qMul, qMulW, qDiv, qDivW, qMod, qPow, qLt, qLe, qGt, qGe, qIsN, qNotN, qInt, qAbs, qMax2, qMin2, rI0, rI, rU, rEq, rNe, scal, qIxL, qIxT, qLenQ, qSetL, lstOf_upd, tupOf_upd, atI_0, atI_1, atI_2, atI_3, upd_same, upd_upd, ixL0, ixL1, ixL2, HO.lst.injEq, HO.tup.injEq, List.getElem?_cons_zero, List.getElem?_cons_succ, List.set_cons_zero, List.set_cons_succ, Option.some.injEq, exists_eq_left', exists_eq_left, exists_and_left, V.int.injEq, V.bl.injEq, V.ref.injEq, V.str.injEq, List.append_nil, List.cons.injEq, and_assoc, and_true, true_and, reduceCtorEq, false_and, and_false, false_or, or_false, exists_false, decide_true, decide_false, Bool.not_true, Bool.not_false, not_true_eq_false, not_false_eq_true, if_true, if_false, Bool.false_eq_true, decide_eq_true_eq, Bool.not_eq_true', decide_eq_false_iff_not] at key
  exact key
theorem pure_law {K : PySem.W.Frag} (vs : List V) (H : Hp) (Q : VK) (E : XK) (h : sp_law K vs H Q E) : t_law K { nx := fun _ H' => Q .non H', rt := Q } (L2.start ["_law_script", "_law_k"] vs) H := by
  obtain ⟨a, ns, rfl, ha, hl, q⟩ := h
  show t_law K _ [some (.ref a), none] H
  have ok1 : numsOk [2178, 21978] := ⟨by decide, by decide, by decide⟩
  unfold t_law t_law_s3
  show tOp (rNeD K) (tCall (sp_multiples K) [] E0 (tCons (tC (.int (10 : Nat))) (tCons (tTup _) (tCons (tC (.int (20 : Nat))) tNil)))) (tTup (pairsT [(4, 1), (8, 2), (12, 3), (16, 4), (20, 5)])) [some (.ref a), none] H _
  refine ask (ns := [2178, 21978]) (fun H R h => h) (by decide) (by decide) ⟨by decide, by decide, by decide⟩ (by decide) (by decide) (by decide +kernel) (by decide) fun H1 s1 => ?_
  simp only [tSeq, tAsg_name, tAsg_sub, tAsg_tup, tRet, tRetN, tDrop, tIfS, tNext, tNever, tBreak, tCont, tAndV, tOrV, tNotV, tAnd, tOr, tNot, tB, tTest, tIf, tCall, tCons, tNil, tVar, tC, tOp, tUn, tTup, tLst, tRevL, tPar, tPar3, tAug, ipI, tCB, tFld, sFld, iList, iTup, iRng1, iRng2, iEnum, iEnumT, tChain, tSl, tPart, tNoPart, tBM, tCallKw, tTruth, tYes, qAdd, qSub, qMul, qMulW, qDiv, qDivW, qMod, qPow, qLt, qLe, qGt, qGe, qIsN, qNotN, qInt, qAbs, qMax2, qMin2, rI0, rI, rU, rEq, rNe, scal, qIxL, qIxT, qLenQ, qSetL, lstOf_upd, tupOf_upd, atI_0, atI_1, atI_2, atI_3, upd_same, upd_upd, ixL0, ixL1, ixL2, HO.lst.injEq, HO.tup.injEq, List.getElem?_cons_zero, List.getElem?_cons_succ, List.set_cons_zero, List.set_cons_succ, Option.some.injEq, exists_eq_left', exists_eq_left, exists_and_left, V.int.injEq, V.bl.injEq, V.ref.injEq, V.str.injEq, List.append_nil, List.cons.injEq, and_assoc, and_true, true_and, reduceCtorEq, false_and, and_false, false_or, or_false, exists_false, decide_true, decide_false, Bool.not_true, Bool.not_false, not_true_eq_false, not_false_eq_true, if_true, if_false, Bool.false_eq_true, decide_eq_true_eq, Bool.not_eq_true', decide_eq_false_iff_not]
  unfold t_law_s6
  show tOp (rNeD K) (tCall (sp_multiples K) [] E0 (tCons (tC (.int (10 : Nat))) (tCons (tTup _) (tCons (tC (.int (2 : Nat))) tNil)))) (tTup (pairsT [(1, 1), (2, 2)])) [some (.ref a), none] H1 _
  refine ask (ns := [10 ^ 60 - 1, 7]) (fun H R h => ?_) (by decide) (by decide) ⟨by decide, by decide, by decide⟩ (by decide) (by decide) (by decide +kernel) (by decide) fun H2 s2 => ?_
  · simp only [tSeq, tAsg_name, tAsg_sub, tAsg_tup, tRet, tRetN, tDrop, tIfS, tNext, tNever, tBreak, tCont, tAndV, tOrV, tNotV, tAnd, tOr, tNot, tB, tTest, tIf, tCall, tCons, tNil, tVar, tC, tOp, tUn, tTup, tLst, tRevL, tPar, tPar3, tAug, ipI, tCB, tFld, sFld, iList, iTup, iRng1, iRng2, iEnum, iEnumT, tChain, tSl, tPart, tNoPart, tBM, tCallKw, tTruth, tYes, qAdd, qSub, qMul, qMulW, qDiv, qDivW, qMod, qPow, qLt, qLe, qGt, qGe, qIsN, qNotN, qInt, qAbs, qMax2, qMin2, rI0, rI, rU, rEq, rNe, scal, qIxL, qIxT, qLenQ, qSetL, lstOf_upd, tupOf_upd, atI_0, atI_1, atI_2, atI_3, upd_same, upd_upd, ixL0, ixL1, ixL2, HO.lst.injEq, HO.tup.injEq, List.getElem?_cons_zero, List.getElem?_cons_succ, List.set_cons_zero, List.set_cons_succ, Option.some.injEq, exists_eq_left', exists_eq_left, exists_and_left, V.int.injEq, V.bl.injEq, V.ref.injEq, V.str.injEq, List.append_nil, List.cons.injEq, and_assoc, and_true, true_and, reduceCtorEq, false_and, and_false, false_or, or_false, exists_false, decide_true, decide_false, Bool.not_true, Bool.not_false, not_true_eq_false, not_false_eq_true, if_true, if_false, Bool.false_eq_true, decide_eq_true_eq, Bool.not_eq_true', decide_eq_false_iff_not]
    exact ⟨⟨by decide, by decide, by decide⟩, h⟩
  refine ⟨false, rfl, ?_⟩
  show tOp (rNeD K) (tCall (sp_multiples K) [] E0 (tCons (tC (.int (10 : Nat))) (tCons (tTup _) (tCons (tC (.int (20 : Nat))) tNil)))) (tTup (pairsT [(1, 10), (2, 20)])) [some (.ref a), none] H2 _
  refine ask (ns := [20]) (fun H R h => h) (by decide) (by decide) ⟨by decide, by decide, by decide⟩ (by decide) (by decide) (by decide +kernel) (by decide) fun H3 s3 => ?_
  simp only [tSeq, tAsg_name, tAsg_sub, tAsg_tup, tRet, tRetN, tDrop, tIfS, tNext, tNever, tBreak, tCont, tAndV, tOrV, tNotV, tAnd, tOr, tNot, tB, tTest, tIf, tCall, tCons, tNil, tVar, tC, tOp, tUn, tTup, tLst, tRevL, tPar, tPar3, tAug, ipI, tCB, tFld, sFld, iList, iTup, iRng1, iRng2, iEnum, iEnumT, tChain, tSl, tPart, tNoPart, tBM, tCallKw, tTruth, tYes, qAdd, qSub, qMul, qMulW, qDiv, qDivW, qMod, qPow, qLt, qLe, qGt, qGe, qIsN, qNotN, qInt, qAbs, qMax2, qMin2, rI0, rI, rU, rEq, rNe, scal, qIxL, qIxT, qLenQ, qSetL, lstOf_upd, tupOf_upd, atI_0, atI_1, atI_2, atI_3, upd_same, upd_upd, ixL0, ixL1, ixL2, HO.lst.injEq, HO.tup.injEq, List.getElem?_cons_zero, List.getElem?_cons_succ, List.set_cons_zero, List.set_cons_succ, Option.some.injEq, exists_eq_left', exists_eq_left, exists_and_left, V.int.injEq, V.bl.injEq, V.ref.injEq, V.str.injEq, List.append_nil, List.cons.injEq, and_assoc, and_true, true_and, reduceCtorEq, false_and, and_false, false_or, or_false, exists_false, decide_true, decide_false, Bool.not_true, Bool.not_false, not_true_eq_false, not_false_eq_true, if_true, if_false, Bool.false_eq_true, decide_eq_true_eq, Bool.not_eq_true', decide_eq_false_iff_not]
  unfold t_law_s9
  show tOp (rNeD K) (tCall (sp_multiples K) [] E0 (tCons (tC (.int (2 : Nat))) (tCons (tTup _) (tCons (tC (.int (20 : Nat))) tNil)))) (tTup (pairsT [])) [some (.ref a), none] H3 _
  refine ask (ns := [2, 4]) (fun H R h => h) (by decide) (by decide) ⟨by decide, by decide, by decide⟩ (by decide) (by decide) (by decide +kernel) (by decide) fun H4 s4 => ?_
  refine ⟨false, rfl, ?_⟩
  show tOp (rNeD K) (tCall (sp_multiples K) [] E0 (tCons (tC (.int (10 : Nat))) (tCons (tTup _) (tCons (tC (.int (20 : Nat))) tNil)))) (tTup (pairsT [])) [some (.ref a), none] H4 _
  refine ask (ns := [2178, 1089]) (fun H R h => h) (by decide) (by decide) ⟨by decide, by decide, by decide⟩ (by decide) (by decide) (by decide +kernel) (by decide) fun H5 s5 => ?_
  simp only [tSeq, tAsg_name, tAsg_sub, tAsg_tup, tRet, tRetN, tDrop, tIfS, tNext, tNever, tBreak, tCont, tAndV, tOrV, tNotV, tAnd, tOr, tNot, tB, tTest, tIf, tCall, tCons, tNil, tVar, tC, tOp, tUn, tTup, tLst, tRevL, tPar, tPar3, tAug, ipI, tCB, tFld, sFld, iList, iTup, iRng1, iRng2, iEnum, iEnumT, tChain, tSl, tPart, tNoPart, tBM, tCallKw, tTruth, tYes, qAdd, qSub, qMul, qMulW, qDiv, qDivW, qMod, qPow, qLt, qLe, qGt, qGe, qIsN, qNotN, qInt, qAbs, qMax2, qMin2, rI0, rI, rU, rEq, rNe, scal, qIxL, qIxT, qLenQ, qSetL, lstOf_upd, tupOf_upd, atI_0, atI_1, atI_2, atI_3, upd_same, upd_upd, ixL0, ixL1, ixL2, HO.lst.injEq, HO.tup.injEq, List.getElem?_cons_zero, List.getElem?_cons_succ, List.set_cons_zero, List.set_cons_succ, Option.some.injEq, exists_eq_left', exists_eq_left, exists_and_left, V.int.injEq, V.bl.injEq, V.ref.injEq, V.str.injEq, List.append_nil, List.cons.injEq, and_assoc, and_true, true_and, reduceCtorEq, false_and, and_false, false_or, or_false, exists_false, decide_true, decide_false, Bool.not_true, Bool.not_false, not_true_eq_false, not_false_eq_true, if_true, if_false, Bool.false_eq_true, decide_eq_true_eq, Bool.not_eq_true', decide_eq_false_iff_not]
  simp only [tSeq, tAsg_name, tAsg_sub, tAsg_tup, tRet, tRetN, tDrop, tIfS, tNext, tNever, tBreak, tCont, tAndV, tOrV, tNotV, tAnd, tOr, tNot, tB, tTest, tIf, tCall, tCons, tNil, tVar, tC, tOp, tUn, tTup, tLst, tRevL, tPar, tPar3, tAug, ipI, tCB, tFld, sFld, iList, iTup, iRng1, iRng2, iEnum, iEnumT, tChain, tSl, tPart, tNoPart, tBM, tCallKw, tTruth, tYes, qAdd, qSub, qMul, qMulW, qDiv, qDivW, qMod, qPow, qLt, qLe, qGt, qGe, qIsN, qNotN, qInt, qAbs, qMax2, qMin2, rI0, rI, rU, rEq, rNe, scal, qIxL, qIxT, qLenQ, qSetL, lstOf_upd, tupOf_upd, atI_0, atI_1, atI_2, atI_3, upd_same, upd_upd, ixL0, ixL1, ixL2, HO.lst.injEq, HO.tup.injEq, List.getElem?_cons_zero, List.getElem?_cons_succ, List.set_cons_zero, List.set_cons_succ, Option.some.injEq, exists_eq_left', exists_eq_left, exists_and_left, V.int.injEq, V.bl.injEq, V.ref.injEq, V.str.injEq, List.append_nil, List.cons.injEq, and_assoc, and_true, true_and, reduceCtorEq, false_and, and_false, false_or, or_false, exists_false, decide_true, decide_false, Bool.not_true, Bool.not_false, not_true_eq_false, not_false_eq_true, if_true, if_false, Bool.false_eq_true, decide_eq_true_eq, Bool.not_eq_true', decide_eq_false_iff_not, t_law_s11, tLc_go]
  have S5 : Same H H5 := (((s1.trans s2).trans s3).trans s4).trans s5
  obtain ⟨n, hn5, hnn⟩ : ∃ n : Nat, n ≤ 5 ∧ (if (if (5 : Int) < ((ns.map V.int).length : Int) then 5 else ((ns.map V.int).length : Int)) > 2 then if (5 : Int) < ((ns.map V.int).length : Int) then 5 else ((ns.map V.int).length : Int) else 2) = (n : Int) := by
    by_cases c : (5 : Int) < ((ns.map V.int).length : Int)
    · exact ⟨5, Nat.le_refl _, by rw [if_pos c]; rfl⟩
    · rw [if_neg c]
      by_cases d : ((ns.map V.int).length : Int) > 2
      · exact ⟨(ns.map V.int).length, by omega, by rw [if_pos d]⟩
      · exact ⟨2, by decide, by rw [if_neg d]; rfl⟩
  refine ⟨a, _, rfl, .inl (sqL_grow ha S5), _, rfl, ?_⟩
  rw [hnn]
  refine ⟨by omega, by omega, go_rng (fun D i H' => H5 D = none ∧ Same H5 H' ∧ H' D = some (.lst ((List.replicate i true).map V.bl))) (fun D hD => ⟨hD, Same.newp (Same.refl H5) hD, upd_same⟩) ?_ ?_⟩
  · rintro D i H6 hi ⟨hD, s6, hd⟩
    simp only [tSeq, tAsg_name, tAsg_sub, tAsg_tup, tRet, tRetN, tDrop, tIfS, tNext, tNever, tBreak, tCont, tAndV, tOrV, tNotV, tAnd, tOr, tNot, tB, tTest, tIf, tCall, tCons, tNil, tVar, tC, tOp, tUn, tTup, tLst, tRevL, tPar, tPar3, tAug, ipI, tCB, tFld, sFld, iList, iTup, iRng1, iRng2, iEnum, iEnumT, tChain, tSl, tPart, tNoPart, tBM, tCallKw, tTruth, tYes, qAdd, qSub, qMul, qMulW, qDiv, qDivW, qMod, qPow, qLt, qLe, qGt, qGe, qIsN, qNotN, qInt, qAbs, qMax2, qMin2, rI0, rI, rU, rEq, rNe, scal, qIxL, qIxT, qLenQ, qSetL, lstOf_upd, tupOf_upd, atI_0, atI_1, atI_2, atI_3, upd_same, upd_upd, ixL0, ixL1, ixL2, HO.lst.injEq, HO.tup.injEq, List.getElem?_cons_zero, List.getElem?_cons_succ, List.set_cons_zero, List.set_cons_succ, Option.some.injEq, exists_eq_left', exists_eq_left, exists_and_left, V.int.injEq, V.bl.injEq, V.ref.injEq, V.str.injEq, List.append_nil, List.cons.injEq, and_assoc, and_true, true_and, reduceCtorEq, false_and, and_false, false_or, or_false, exists_false, decide_true, decide_false, Bool.not_true, Bool.not_false, not_true_eq_false, not_false_eq_true, if_true, if_false, Bool.false_eq_true, decide_eq_true_eq, Bool.not_eq_true', decide_eq_false_iff_not, gName_ap, gTup_ap, gCons_ap, gNil_ap, gSub_ap, LcTurn, t_law_e10, wipe]
    refine ⟨a, ns, i, by rw [Int.zero_add], sqL_grow ha (S5.trans s6), hl, by omega, fun H7 p s7 hp pool => ⟨p, rfl, pool, fun H8 hb => ?_⟩⟩
    have hS : ∀ b o, H6 b = some o → H8 b = some o := fun b o h => by
      refine hb b o ?_ (s7 _ _ h)
      intro z
      rw [z, hp] at h
      cases h
    refine ⟨_, hS _ _ hd, ?_, hD, Same.oldp (fun b o h => hS _ _ (s6 b o h)) hD, by rw [List.replicate_succ']; simp⟩
    rw [List.length_map, List.length_replicate]
    have : (5 : Nat) < sizeLine := by decide
    omega
  · rintro D H6 ⟨hD, s6, hd⟩
    refine ⟨D, _, rfl, SqL.of hd, ?_⟩
    rw [show (List.replicate _ true).all id = true from by simp]
    exact q _

/-! ### all defs -/
section
variable {P : Program} {w : World} {K : PySem.W.Frag} {mg : Str → Option Value} {base : Heap}
structure Raws (K : PySem.W.Frag) (mg : Str → Option Value) : Prop where
  T : Txt K mg
  r_is_integer : Raw K mg "is_integer" s_is_integer
  r_is_between : Raw K mg "is_between" s_is_between
  r_check_between : Raw K mg "check_between" s_check_between
  r_check_base : Raw K mg "check_base" s_check_base
  r_figures_of : Raw K mg "figures_of" s_figures_of
  r_number_of : Raw K mg "number_of" s_number_of
  r_check_numbers : Raw K mg "check_numbers" s_check_numbers
  r_multiples : Raw K mg "multiples" s_multiples
  r__law_fresh : Raw K mg "_law_fresh" s__law_fresh
  r__law_draw : Raw K mg "_law_draw" s__law_draw
  r__law_one : Raw K mg "_law_one" s__law_one
  r__law_digits : Raw K mg "_law_digits" s__law_digits
  r__law_joined : Raw K mg "_law_joined" s__law_joined
  r__law_back : Raw K mg "_law_back" s__law_back
  r__law_shared : Raw K mg "_law_shared" s__law_shared
  r__law_figures : Raw K mg "_law_figures" s__law_figures
  r__law_number : Raw K mg "_law_number" s__law_number
  r__law_pair : Raw K mg "_law_pair" s__law_pair
  r__law_right : Raw K mg "_law_right" s__law_right
  r_law : Raw K mg "law" s_law
theorem len_is_integer (vs : List V) (H : Hp) (Q : VK) (E : XK) (h : sp_is_integer K vs H Q E) : vs.length = 1 := by
  unfold sp_is_integer at h
  repeat (obtain ⟨_, h⟩ := h)
  subst_vars
  rfl
theorem len_is_between (vs : List V) (H : Hp) (Q : VK) (E : XK) (h : sp_is_between K vs H Q E) : vs.length = 3 := by
  unfold sp_is_between at h
  repeat (obtain ⟨_, h⟩ := h)
  subst_vars
  rfl
theorem len_check_between (vs : List V) (H : Hp) (Q : VK) (E : XK) (h : sp_check_between K vs H Q E) : vs.length = 3 := by
  unfold sp_check_between at h
  repeat (obtain ⟨_, h⟩ := h)
  subst_vars
  rfl
theorem len_check_base (vs : List V) (H : Hp) (Q : VK) (E : XK) (h : sp_check_base K vs H Q E) : vs.length = 1 := by
  unfold sp_check_base at h
  repeat (obtain ⟨_, h⟩ := h)
  subst_vars
  rfl
theorem len_figures_of (vs : List V) (H : Hp) (Q : VK) (E : XK) (h : sp_figures_of K vs H Q E) : vs.length = 2 := by
  unfold sp_figures_of at h
  repeat (obtain ⟨_, h⟩ := h)
  subst_vars
  rfl
theorem len_number_of (vs : List V) (H : Hp) (Q : VK) (E : XK) (h : sp_number_of K vs H Q E) : vs.length = 2 := by
  unfold sp_number_of at h
  repeat (obtain ⟨_, h⟩ := h)
  subst_vars
  rfl
theorem len_check_numbers (vs : List V) (H : Hp) (Q : VK) (E : XK) (h : sp_check_numbers K vs H Q E) : vs.length = 1 := by
  unfold sp_check_numbers at h
  repeat (obtain ⟨_, h⟩ := h)
  subst_vars
  rfl
theorem len_multiples (vs : List V) (H : Hp) (Q : VK) (E : XK) (h : sp_multiples K vs H Q E) : vs.length = 3 := by
  unfold sp_multiples at h
  repeat (obtain ⟨_, h⟩ := h)
  subst_vars
  rfl
theorem len__law_fresh (vs : List V) (H : Hp) (Q : VK) (E : XK) (h : sp__law_fresh K vs H Q E) : vs.length = 2 := by
  unfold sp__law_fresh at h
  repeat (obtain ⟨_, h⟩ := h)
  subst_vars
  rfl
theorem len__law_draw (vs : List V) (H : Hp) (Q : VK) (E : XK) (h : sp__law_draw K vs H Q E) : vs.length = 2 := by
  unfold sp__law_draw at h
  repeat (obtain ⟨_, h⟩ := h)
  subst_vars
  rfl
theorem len__law_one (vs : List V) (H : Hp) (Q : VK) (E : XK) (h : sp__law_one K vs H Q E) : vs.length = 2 := by
  unfold sp__law_one at h
  repeat (obtain ⟨_, h⟩ := h)
  subst_vars
  rfl
theorem len__law_digits (vs : List V) (H : Hp) (Q : VK) (E : XK) (h : sp__law_digits K vs H Q E) : vs.length = 2 := by
  unfold sp__law_digits at h
  repeat (obtain ⟨_, h⟩ := h)
  subst_vars
  rfl
theorem len__law_joined (vs : List V) (H : Hp) (Q : VK) (E : XK) (h : sp__law_joined K vs H Q E) : vs.length = 2 := by
  unfold sp__law_joined at h
  repeat (obtain ⟨_, h⟩ := h)
  subst_vars
  rfl
theorem len__law_back (vs : List V) (H : Hp) (Q : VK) (E : XK) (h : sp__law_back K vs H Q E) : vs.length = 2 := by
  unfold sp__law_back at h
  repeat (obtain ⟨_, h⟩ := h)
  subst_vars
  rfl
theorem len__law_shared (vs : List V) (H : Hp) (Q : VK) (E : XK) (h : sp__law_shared K vs H Q E) : vs.length = 2 := by
  unfold sp__law_shared at h
  repeat (obtain ⟨_, h⟩ := h)
  subst_vars
  rfl
theorem len__law_figures (vs : List V) (H : Hp) (Q : VK) (E : XK) (h : sp__law_figures K vs H Q E) : vs.length = 2 := by
  unfold sp__law_figures at h
  repeat (obtain ⟨_, h⟩ := h)
  subst_vars
  rfl
theorem len__law_number (vs : List V) (H : Hp) (Q : VK) (E : XK) (h : sp__law_number K vs H Q E) : vs.length = 3 := by
  unfold sp__law_number at h
  repeat (obtain ⟨_, h⟩ := h)
  subst_vars
  rfl
theorem len__law_pair (vs : List V) (H : Hp) (Q : VK) (E : XK) (h : sp__law_pair K vs H Q E) : vs.length = 2 := by
  unfold sp__law_pair at h
  repeat (obtain ⟨_, h⟩ := h)
  subst_vars
  rfl
theorem len__law_right (vs : List V) (H : Hp) (Q : VK) (E : XK) (h : sp__law_right K vs H Q E) : vs.length = 1 := by
  unfold sp__law_right at h
  repeat (obtain ⟨_, h⟩ := h)
  subst_vars
  rfl
theorem len_law (vs : List V) (H : Hp) (Q : VK) (E : XK) (h : sp_law K vs H Q E) : vs.length = 1 := by
  unfold sp_law at h
  repeat (obtain ⟨_, h⟩ := h)
  subst_vars
  rfl
theorem go_is_integer (R : Raws K mg) : Has P w K mg base "is_integer" s_is_integer 1 ["value"] (sp_is_integer K) := ok_is_integer R.T R.r_is_integer  len_is_integer pure_is_integer
theorem go_is_between (R : Raws K mg) : Has P w K mg base "is_between" s_is_between 2 ["value", "least", "most"] (sp_is_between K) := ok_is_between R.T R.r_is_between (go_is_integer R) len_is_between pure_is_between
theorem go_check_between (R : Raws K mg) : Has P w K mg base "check_between" s_check_between 3 ["value", "least", "most"] (sp_check_between K) := ok_check_between R.T R.r_check_between (go_is_between R) len_check_between pure_check_between
theorem go_check_base (R : Raws K mg) : Has P w K mg base "check_base" s_check_base 4 ["base"] (sp_check_base K) := ok_check_base R.T R.r_check_base (go_check_between R) len_check_base pure_check_base
theorem go_figures_of (R : Raws K mg) : Has P w K mg base "figures_of" s_figures_of 1 ["number", "base"] (sp_figures_of K) := ok_figures_of R.T R.r_figures_of  len_figures_of pure_figures_of
theorem go_number_of (R : Raws K mg) : Has P w K mg base "number_of" s_number_of 1 ["figures", "base"] (sp_number_of K) := ok_number_of R.T R.r_number_of  len_number_of pure_number_of
theorem go_check_numbers (R : Raws K mg) : Has P w K mg base "check_numbers" s_check_numbers 3 ["numbers"] (sp_check_numbers K) := ok_check_numbers R.T R.r_check_numbers (go_is_between R) len_check_numbers pure_check_numbers
theorem go_multiples (R : Raws K mg) : Has P w K mg base "multiples" s_multiples 5 ["base", "numbers", "most"] (sp_multiples K) := ok_multiples R.T R.r_multiples (go_check_base R) (go_check_numbers R) (go_check_between R) (go_number_of R) (go_figures_of R) len_multiples pure_multiples
theorem go__law_fresh (R : Raws K mg) : Has P w K mg base "_law_fresh" s__law_fresh 1 ["_law_script", "_law_k"] (sp__law_fresh K) := ok__law_fresh R.T R.r__law_fresh  len__law_fresh pure__law_fresh
theorem go__law_draw (R : Raws K mg) : Has P w K mg base "_law_draw" s__law_draw 1 ["_law_pool", "_law_wide"] (sp__law_draw K) := ok__law_draw R.T R.r__law_draw  len__law_draw pure__law_draw
theorem go__law_one (R : Raws K mg) : Has P w K mg base "_law_one" s__law_one 2 ["_law_pool", "_law_some"] (sp__law_one K) := ok__law_one R.T R.r__law_one (go__law_draw R) len__law_one pure__law_one
theorem go__law_digits (R : Raws K mg) : Has P w K mg base "_law_digits" s__law_digits 1 ["_law_whole", "_law_b"] (sp__law_digits K) := ok__law_digits R.T R.r__law_digits  len__law_digits pure__law_digits
theorem go__law_joined (R : Raws K mg) : Has P w K mg base "_law_joined" s__law_joined 1 ["_law_row", "_law_b"] (sp__law_joined K) := ok__law_joined R.T R.r__law_joined  len__law_joined pure__law_joined
theorem go__law_back (R : Raws K mg) : Has P w K mg base "_law_back" s__law_back 2 ["_law_whole", "_law_b"] (sp__law_back K) := ok__law_back R.T R.r__law_back (go__law_joined R) (go__law_digits R) len__law_back pure__law_back
theorem go__law_shared (R : Raws K mg) : Has P w K mg base "_law_shared" s__law_shared 1 ["_law_left", "_law_right_here"] (sp__law_shared K) := ok__law_shared R.T R.r__law_shared  len__law_shared pure__law_shared
theorem go__law_figures (R : Raws K mg) : Has P w K mg base "_law_figures" s__law_figures 3 ["_law_pool", "_law_b"] (sp__law_figures K) := ok__law_figures R.T R.r__law_figures (go__law_draw R) (go__law_one R) len__law_figures pure__law_figures
theorem go__law_number (R : Raws K mg) : Has P w K mg base "_law_number" s__law_number 3 ["_law_pool", "_law_b", "_law_rows"] (sp__law_number K) := ok__law_number R.T R.r__law_number (go__law_one R) (go__law_draw R) (go__law_joined R) len__law_number pure__law_number
theorem go__law_pair (R : Raws K mg) : Has P w K mg base "_law_pair" s__law_pair 3 ["_law_whole", "_law_b"] (sp__law_pair K) := ok__law_pair R.T R.r__law_pair (go__law_back R) (go__law_shared R) len__law_pair pure__law_pair
theorem go__law_right (R : Raws K mg) : HasG P w K mg base "_law_right" s__law_right 6 ["_law_pool"] (sp__law_right K) := ok__law_right R.T R.r__law_right (go__law_one R) (go__law_draw R) (go__law_figures R) (go__law_number R) (go__law_pair R) (go_multiples R) len__law_right pure__law_right
theorem go_law (R : Raws K mg) : HasG P w K mg base "law" s_law 7 ["_law_script"] (sp_law K) := ok_law R.T R.r_law (go_multiples R) (go__law_right R) (go__law_fresh R) len_law pure_law
end
theorem all_mk {K : PySem.W.Frag} {h : Heap} {mg : Str → Option Value} (X : K.In h) (G : h.Ns mainGlobals mg) {f0 : Addr} {od0 an0 : Option Addr} {sl0 : Array (Option Value)} {oc0 kV0 dc0 pm0 cd0 ct0 : Value} {f1 : Addr} {od1 an1 : Option Addr} {sl1 : Array (Option Value)} {oc1 kV1 dc1 pm1 cd1 ct1 : Value} {f2 : Addr} {od2 an2 : Option Addr} {sl2 : Array (Option Value)} {oc2 kV2 dc2 pm2 cd2 ct2 : Value} {f3 : Addr} {od3 an3 : Option Addr} {sl3 : Array (Option Value)} {oc3 kV3 dc3 pm3 cd3 ct3 : Value} {f4 : Addr} {od4 an4 : Option Addr} {sl4 : Array (Option Value)} {oc4 kV4 dc4 pm4 cd4 ct4 : Value} {f5 : Addr} {od5 an5 : Option Addr} {sl5 : Array (Option Value)} {oc5 kV5 dc5 pm5 cd5 ct5 : Value} {f6 : Addr} {od6 an6 : Option Addr} {sl6 : Array (Option Value)} {oc6 kV6 dc6 pm6 cd6 ct6 : Value} {f7 : Addr} {od7 an7 : Option Addr} {sl7 : Array (Option Value)} {oc7 kV7 dc7 pm7 cd7 ct7 : Value} {f8 : Addr} {od8 an8 : Option Addr} {sl8 : Array (Option Value)} {oc8 kV8 dc8 pm8 cd8 ct8 : Value} {f9 : Addr} {od9 an9 : Option Addr} {sl9 : Array (Option Value)} {oc9 kV9 dc9 pm9 cd9 ct9 : Value} {f10 : Addr} {od10 an10 : Option Addr} {sl10 : Array (Option Value)} {oc10 kV10 dc10 pm10 cd10 ct10 : Value} {f11 : Addr} {od11 an11 : Option Addr} {sl11 : Array (Option Value)} {oc11 kV11 dc11 pm11 cd11 ct11 : Value} {f12 : Addr} {od12 an12 : Option Addr} {sl12 : Array (Option Value)} {oc12 kV12 dc12 pm12 cd12 ct12 : Value} {f13 : Addr} {od13 an13 : Option Addr} {sl13 : Array (Option Value)} {oc13 kV13 dc13 pm13 cd13 ct13 : Value} {f14 : Addr} {od14 an14 : Option Addr} {sl14 : Array (Option Value)} {oc14 kV14 dc14 pm14 cd14 ct14 : Value} {f15 : Addr} {od15 an15 : Option Addr} {sl15 : Array (Option Value)} {oc15 kV15 dc15 pm15 cd15 ct15 : Value} {f16 : Addr} {od16 an16 : Option Addr} {sl16 : Array (Option Value)} {oc16 kV16 dc16 pm16 cd16 ct16 : Value} {f17 : Addr} {od17 an17 : Option Addr} {sl17 : Array (Option Value)} {oc17 kV17 dc17 pm17 cd17 ct17 : Value} {f18 : Addr} {od18 an18 : Option Addr} {sl18 : Array (Option Value)} {oc18 kV18 dc18 pm18 cd18 ct18 : Value} {f19 : Addr} {od19 an19 : Option Addr} {sl19 : Array (Option Value)} {oc19 kV19 dc19 pm19 cd19 ct19 : Value} {t12 : Addr} {t13 : Addr} {t14 : Addr} {t15 : Addr} {t16 : Addr}
    (a0 : PySem.W.nsIn K mainGlobals "is_integer" = some (some (.ref f0))) (l0 : K.lookup f0 = some ⟨oc0, od0, .func (PySem.W.fnOf "is_integer" "is_integer" (defArgs s_is_integer) (defBody s_is_integer) (defScope s_is_integer) .none kV0 dc0 pm0 an0 cd0 ct0), sl0⟩) (c0 : PySem.W.codeIn K cd0 "is_integer" = true) (k0 : PySem.W.keepIn K (.ref f0) = true)
    (a1 : PySem.W.nsIn K mainGlobals "is_between" = some (some (.ref f1))) (l1 : K.lookup f1 = some ⟨oc1, od1, .func (PySem.W.fnOf "is_between" "is_between" (defArgs s_is_between) (defBody s_is_between) (defScope s_is_between) .none kV1 dc1 pm1 an1 cd1 ct1), sl1⟩) (c1 : PySem.W.codeIn K cd1 "is_between" = true) (k1 : PySem.W.keepIn K (.ref f1) = true)
    (a2 : PySem.W.nsIn K mainGlobals "check_between" = some (some (.ref f2))) (l2 : K.lookup f2 = some ⟨oc2, od2, .func (PySem.W.fnOf "check_between" "check_between" (defArgs s_check_between) (defBody s_check_between) (defScope s_check_between) .none kV2 dc2 pm2 an2 cd2 ct2), sl2⟩) (c2 : PySem.W.codeIn K cd2 "check_between" = true) (k2 : PySem.W.keepIn K (.ref f2) = true)
    (a3 : PySem.W.nsIn K mainGlobals "check_base" = some (some (.ref f3))) (l3 : K.lookup f3 = some ⟨oc3, od3, .func (PySem.W.fnOf "check_base" "check_base" (defArgs s_check_base) (defBody s_check_base) (defScope s_check_base) .none kV3 dc3 pm3 an3 cd3 ct3), sl3⟩) (c3 : PySem.W.codeIn K cd3 "check_base" = true) (k3 : PySem.W.keepIn K (.ref f3) = true)
    (a4 : PySem.W.nsIn K mainGlobals "figures_of" = some (some (.ref f4))) (l4 : K.lookup f4 = some ⟨oc4, od4, .func (PySem.W.fnOf "figures_of" "figures_of" (defArgs s_figures_of) (defBody s_figures_of) (defScope s_figures_of) .none kV4 dc4 pm4 an4 cd4 ct4), sl4⟩) (c4 : PySem.W.codeIn K cd4 "figures_of" = true) (k4 : PySem.W.keepIn K (.ref f4) = true)
    (a5 : PySem.W.nsIn K mainGlobals "number_of" = some (some (.ref f5))) (l5 : K.lookup f5 = some ⟨oc5, od5, .func (PySem.W.fnOf "number_of" "number_of" (defArgs s_number_of) (defBody s_number_of) (defScope s_number_of) .none kV5 dc5 pm5 an5 cd5 ct5), sl5⟩) (c5 : PySem.W.codeIn K cd5 "number_of" = true) (k5 : PySem.W.keepIn K (.ref f5) = true)
    (a6 : PySem.W.nsIn K mainGlobals "check_numbers" = some (some (.ref f6))) (l6 : K.lookup f6 = some ⟨oc6, od6, .func (PySem.W.fnOf "check_numbers" "check_numbers" (defArgs s_check_numbers) (defBody s_check_numbers) (defScope s_check_numbers) .none kV6 dc6 pm6 an6 cd6 ct6), sl6⟩) (c6 : PySem.W.codeIn K cd6 "check_numbers" = true) (k6 : PySem.W.keepIn K (.ref f6) = true)
    (a7 : PySem.W.nsIn K mainGlobals "multiples" = some (some (.ref f7))) (l7 : K.lookup f7 = some ⟨oc7, od7, .func (PySem.W.fnOf "multiples" "multiples" (defArgs s_multiples) (defBody s_multiples) (defScope s_multiples) .none kV7 dc7 pm7 an7 cd7 ct7), sl7⟩) (c7 : PySem.W.codeIn K cd7 "multiples" = true) (k7 : PySem.W.keepIn K (.ref f7) = true)
    (a8 : PySem.W.nsIn K mainGlobals "_law_fresh" = some (some (.ref f8))) (l8 : K.lookup f8 = some ⟨oc8, od8, .func (PySem.W.fnOf "_law_fresh" "_law_fresh" (defArgs s__law_fresh) (defBody s__law_fresh) (defScope s__law_fresh) .none kV8 dc8 pm8 an8 cd8 ct8), sl8⟩) (c8 : PySem.W.codeIn K cd8 "_law_fresh" = true) (k8 : PySem.W.keepIn K (.ref f8) = true)
    (a9 : PySem.W.nsIn K mainGlobals "_law_draw" = some (some (.ref f9))) (l9 : K.lookup f9 = some ⟨oc9, od9, .func (PySem.W.fnOf "_law_draw" "_law_draw" (defArgs s__law_draw) (defBody s__law_draw) (defScope s__law_draw) .none kV9 dc9 pm9 an9 cd9 ct9), sl9⟩) (c9 : PySem.W.codeIn K cd9 "_law_draw" = true) (k9 : PySem.W.keepIn K (.ref f9) = true)
    (a10 : PySem.W.nsIn K mainGlobals "_law_one" = some (some (.ref f10))) (l10 : K.lookup f10 = some ⟨oc10, od10, .func (PySem.W.fnOf "_law_one" "_law_one" (defArgs s__law_one) (defBody s__law_one) (defScope s__law_one) .none kV10 dc10 pm10 an10 cd10 ct10), sl10⟩) (c10 : PySem.W.codeIn K cd10 "_law_one" = true) (k10 : PySem.W.keepIn K (.ref f10) = true)
    (a11 : PySem.W.nsIn K mainGlobals "_law_digits" = some (some (.ref f11))) (l11 : K.lookup f11 = some ⟨oc11, od11, .func (PySem.W.fnOf "_law_digits" "_law_digits" (defArgs s__law_digits) (defBody s__law_digits) (defScope s__law_digits) .none kV11 dc11 pm11 an11 cd11 ct11), sl11⟩) (c11 : PySem.W.codeIn K cd11 "_law_digits" = true) (k11 : PySem.W.keepIn K (.ref f11) = true)
    (a12 : PySem.W.nsIn K mainGlobals "_law_joined" = some (some (.ref f12))) (l12 : K.lookup f12 = some ⟨oc12, od12, .func (PySem.W.fnOf "_law_joined" "_law_joined" (defArgs s__law_joined) (defBody s__law_joined) (defScope s__law_joined) .none kV12 dc12 pm12 an12 cd12 ct12), sl12⟩) (c12 : PySem.W.codeIn K cd12 "_law_joined" = true) (k12 : PySem.W.keepIn K (.ref f12) = true)
    (a13 : PySem.W.nsIn K mainGlobals "_law_back" = some (some (.ref f13))) (l13 : K.lookup f13 = some ⟨oc13, od13, .func (PySem.W.fnOf "_law_back" "_law_back" (defArgs s__law_back) (defBody s__law_back) (defScope s__law_back) .none kV13 dc13 pm13 an13 cd13 ct13), sl13⟩) (c13 : PySem.W.codeIn K cd13 "_law_back" = true) (k13 : PySem.W.keepIn K (.ref f13) = true)
    (a14 : PySem.W.nsIn K mainGlobals "_law_shared" = some (some (.ref f14))) (l14 : K.lookup f14 = some ⟨oc14, od14, .func (PySem.W.fnOf "_law_shared" "_law_shared" (defArgs s__law_shared) (defBody s__law_shared) (defScope s__law_shared) .none kV14 dc14 pm14 an14 cd14 ct14), sl14⟩) (c14 : PySem.W.codeIn K cd14 "_law_shared" = true) (k14 : PySem.W.keepIn K (.ref f14) = true)
    (a15 : PySem.W.nsIn K mainGlobals "_law_figures" = some (some (.ref f15))) (l15 : K.lookup f15 = some ⟨oc15, od15, .func (PySem.W.fnOf "_law_figures" "_law_figures" (defArgs s__law_figures) (defBody s__law_figures) (defScope s__law_figures) .none kV15 dc15 pm15 an15 cd15 ct15), sl15⟩) (c15 : PySem.W.codeIn K cd15 "_law_figures" = true) (k15 : PySem.W.keepIn K (.ref f15) = true)
    (a16 : PySem.W.nsIn K mainGlobals "_law_number" = some (some (.ref f16))) (l16 : K.lookup f16 = some ⟨oc16, od16, .func (PySem.W.fnOf "_law_number" "_law_number" (defArgs s__law_number) (defBody s__law_number) (defScope s__law_number) .none kV16 dc16 pm16 an16 cd16 ct16), sl16⟩) (c16 : PySem.W.codeIn K cd16 "_law_number" = true) (k16 : PySem.W.keepIn K (.ref f16) = true)
    (a17 : PySem.W.nsIn K mainGlobals "_law_pair" = some (some (.ref f17))) (l17 : K.lookup f17 = some ⟨oc17, od17, .func (PySem.W.fnOf "_law_pair" "_law_pair" (defArgs s__law_pair) (defBody s__law_pair) (defScope s__law_pair) .none kV17 dc17 pm17 an17 cd17 ct17), sl17⟩) (c17 : PySem.W.codeIn K cd17 "_law_pair" = true) (k17 : PySem.W.keepIn K (.ref f17) = true)
    (a18 : PySem.W.nsIn K mainGlobals "_law_right" = some (some (.ref f18))) (l18 : K.lookup f18 = some ⟨oc18, od18, .func (PySem.W.fnOf "_law_right" "_law_right" (defArgs s__law_right) (defBody s__law_right) (defScope s__law_right) .none kV18 dc18 pm18 an18 cd18 ct18), sl18⟩) (c18 : PySem.W.codeIn K cd18 "_law_right" = true) (k18 : PySem.W.keepIn K (.ref f18) = true)
    (a19 : PySem.W.nsIn K mainGlobals "law" = some (some (.ref f19))) (l19 : K.lookup f19 = some ⟨oc19, od19, .func (PySem.W.fnOf "law" "law" (defArgs s_law) (defBody s_law) (defScope s_law) .none kV19 dc19 pm19 an19 cd19 ct19), sl19⟩) (c19 : PySem.W.codeIn K cd19 "law" = true) (k19 : PySem.W.keepIn K (.ref f19) = true)
    (z0 : PySem.W.nsIn K mainGlobals "int" = some none)
    (z1 : PySem.W.nsIn K mainGlobals "isinstance" = some none)
    (z2 : PySem.W.nsIn K mainGlobals "bool" = some none)
    (z3 : PySem.W.nsIn K mainGlobals "tuple" = some none)
    (z4 : PySem.W.nsIn K mainGlobals "len" = some none)
    (z5 : PySem.W.nsIn K mainGlobals "enumerate" = some none)
    (z6 : PySem.W.nsIn K mainGlobals "range" = some none)
    (z7 : PySem.W.nsIn K mainGlobals "all" = some none)
    (z8 : PySem.W.nsIn K mainGlobals "abs" = some none)
    (z9 : PySem.W.nsIn K mainGlobals "max" = some none)
    (z10 : PySem.W.nsIn K mainGlobals "repr" = some none)
    (z11 : PySem.W.nsIn K mainGlobals "min" = some none)
    (z12 : PySem.W.nsIn K mainGlobals "LEAST_BASE" = some (some (.int 2 t12)))
    (z13 : PySem.W.nsIn K mainGlobals "MOST_BASE" = some (some (.int 10 t13)))
    (z14 : PySem.W.nsIn K mainGlobals "MOST_TOLD" = some (some (.int 20 t14)))
    (z15 : PySem.W.nsIn K mainGlobals "MOST_NUMBER" = some (some (.int 1000000000000000000000000000000000000000000000000000000000000 t15)))
    (z16 : PySem.W.nsIn K mainGlobals "MOST_TIMES" = some (some (.int 20 t16)))
    : Raws K mg :=
  ⟨⟨PySem.W.mg_none_of X G z0, PySem.W.mg_none_of X G z1, PySem.W.mg_none_of X G z2, PySem.W.mg_none_of X G z3, PySem.W.mg_none_of X G z4, PySem.W.mg_none_of X G z5, PySem.W.mg_none_of X G z6, PySem.W.mg_none_of X G z7, PySem.W.mg_none_of X G z8, PySem.W.mg_none_of X G z9, PySem.W.mg_none_of X G z10, PySem.W.mg_none_of X G z11, ⟨t12, PySem.W.mg_of X G z12⟩, ⟨t13, PySem.W.mg_of X G z13⟩, ⟨t14, PySem.W.mg_of X G z14⟩, ⟨t15, PySem.W.mg_of X G z15⟩, ⟨t16, PySem.W.mg_of X G z16⟩⟩,
    ⟨f0, _, PySem.W.mg_of X G a0, fun_mk (st := s_is_integer) l0 c0 k0⟩,
    ⟨f1, _, PySem.W.mg_of X G a1, fun_mk (st := s_is_between) l1 c1 k1⟩,
    ⟨f2, _, PySem.W.mg_of X G a2, fun_mk (st := s_check_between) l2 c2 k2⟩,
    ⟨f3, _, PySem.W.mg_of X G a3, fun_mk (st := s_check_base) l3 c3 k3⟩,
    ⟨f4, _, PySem.W.mg_of X G a4, fun_mk (st := s_figures_of) l4 c4 k4⟩,
    ⟨f5, _, PySem.W.mg_of X G a5, fun_mk (st := s_number_of) l5 c5 k5⟩,
    ⟨f6, _, PySem.W.mg_of X G a6, fun_mk (st := s_check_numbers) l6 c6 k6⟩,
    ⟨f7, _, PySem.W.mg_of X G a7, fun_mk (st := s_multiples) l7 c7 k7⟩,
    ⟨f8, _, PySem.W.mg_of X G a8, fun_mk (st := s__law_fresh) l8 c8 k8⟩,
    ⟨f9, _, PySem.W.mg_of X G a9, fun_mk (st := s__law_draw) l9 c9 k9⟩,
    ⟨f10, _, PySem.W.mg_of X G a10, fun_mk (st := s__law_one) l10 c10 k10⟩,
    ⟨f11, _, PySem.W.mg_of X G a11, fun_mk (st := s__law_digits) l11 c11 k11⟩,
    ⟨f12, _, PySem.W.mg_of X G a12, fun_mk (st := s__law_joined) l12 c12 k12⟩,
    ⟨f13, _, PySem.W.mg_of X G a13, fun_mk (st := s__law_back) l13 c13 k13⟩,
    ⟨f14, _, PySem.W.mg_of X G a14, fun_mk (st := s__law_shared) l14 c14 k14⟩,
    ⟨f15, _, PySem.W.mg_of X G a15, fun_mk (st := s__law_figures) l15 c15 k15⟩,
    ⟨f16, _, PySem.W.mg_of X G a16, fun_mk (st := s__law_number) l16 c16 k16⟩,
    ⟨f17, _, PySem.W.mg_of X G a17, fun_mk (st := s__law_pair) l17 c17 k17⟩,
    ⟨f18, _, PySem.W.mg_of X G a18, fun_mk (st := s__law_right) l18 c18 k18⟩,
    ⟨f19, _, PySem.W.mg_of X G a19, fun_mk (st := s_law) l19 c19 k19⟩⟩
theorem walk {l : PySem.W.OpenLaw} {q : Program} {loose : List Str} {XP : (Str → Option Value) → Heap → Prop} {YP : World → Heap → Prop} {d : DefRec} {K : Params → PySem.W.Frag} (hn : l.most = some 63) (hdf : d.params.defaults = []) (hnm : d.name = "law")
    (hY : ∀ (w : World) (h : Heap), YP w h → (K w.params).In h)
    (F : ∀ (w : World) (mg : Str → Option Value) (h : Heap), (K w.params).In h → h.Ns mainGlobals mg → Raws (K w.params) mg) :
    PySem.W.WalkO q loose XP YP l.row.toRowW d [] (fun f vs => PySem.call f vs) :=
  walk_G (n := 63) (k := 7) (x := "_law_script") (st := s_law) (sp := sp_law) hn (by decide) hdf ⟨rfl, by decide, by decide⟩ hY
    (fun w mg h KX G base _ _ => by
      rw [hnm]
      exact go_law (F w mg h KX G))
    (fun K H a ns hl _ hS => ⟨a, ns, rfl, hS, hl, fun _ => rfl⟩)
end RA.K33

open PySem PySem.W PyProof.Rows in
set_option maxRecDepth 100000 in
set_option maxHeartbeats 0 in
theorem PySem.Challenge.cw_readaround_k33_whole_multiples_that_fit_holds : PySem.Challenge.rw_readaround_k33_whole_multiples_that_fit.Holds := by
  w_on; o_law; k_head; (case hw => w_witness2)
  k_fill
  refine RA.K33.walk (l := PySem.Challenge.rw_readaround_k33_whole_multiples_that_fit) rfl rfl rfl (fun w h Y => PySem.W.kIn_of Y) ?F
  case F =>
    intro w mg h KX G
    refine' RA.K33.all_mk KX G ?a0 ?l0 ?c0 ?k0 ?a1 ?l1 ?c1 ?k1 ?a2 ?l2 ?c2 ?k2 ?a3 ?l3 ?c3 ?k3 ?a4 ?l4 ?c4 ?k4 ?a5 ?l5 ?c5 ?k5 ?a6 ?l6 ?c6 ?k6 ?a7 ?l7 ?c7 ?k7 ?a8 ?l8 ?c8 ?k8 ?a9 ?l9 ?c9 ?k9 ?a10 ?l10 ?c10 ?k10 ?a11 ?l11 ?c11 ?k11 ?a12 ?l12 ?c12 ?k12 ?a13 ?l13 ?c13 ?k13 ?a14 ?l14 ?c14 ?k14 ?a15 ?l15 ?c15 ?k15 ?a16 ?l16 ?c16 ?k16 ?a17 ?l17 ?c17 ?k17 ?a18 ?l18 ?c18 ?k18 ?a19 ?l19 ?c19 ?k19 ?z0 ?z1 ?z2 ?z3 ?z4 ?z5 ?z6 ?z7 ?z8 ?z9 ?z10 ?z11 ?z12 ?z13 ?z14 ?z15 ?z16
    (case a0 => k_is)
    (case l0 => k_is)
    (case c0 => k_is)
    (case k0 => k_is)
    (case a1 => k_is)
    (case l1 => k_is)
    (case c1 => k_is)
    (case k1 => k_is)
    (case a2 => k_is)
    (case l2 => k_is)
    (case c2 => k_is)
    (case k2 => k_is)
    (case a3 => k_is)
    (case l3 => k_is)
    (case c3 => k_is)
    (case k3 => k_is)
    (case a4 => k_is)
    (case l4 => k_is)
    (case c4 => k_is)
    (case k4 => k_is)
    (case a5 => k_is)
    (case l5 => k_is)
    (case c5 => k_is)
    (case k5 => k_is)
    (case a6 => k_is)
    (case l6 => k_is)
    (case c6 => k_is)
    (case k6 => k_is)
    (case a7 => k_is)
    (case l7 => k_is)
    (case c7 => k_is)
    (case k7 => k_is)
    (case a8 => k_is)
    (case l8 => k_is)
    (case c8 => k_is)
    (case k8 => k_is)
    (case a9 => k_is)
    (case l9 => k_is)
    (case c9 => k_is)
    (case k9 => k_is)
    (case a10 => k_is)
    (case l10 => k_is)
    (case c10 => k_is)
    (case k10 => k_is)
    (case a11 => k_is)
    (case l11 => k_is)
    (case c11 => k_is)
    (case k11 => k_is)
    (case a12 => k_is)
    (case l12 => k_is)
    (case c12 => k_is)
    (case k12 => k_is)
    (case a13 => k_is)
    (case l13 => k_is)
    (case c13 => k_is)
    (case k13 => k_is)
    (case a14 => k_is)
    (case l14 => k_is)
    (case c14 => k_is)
    (case k14 => k_is)
    (case a15 => k_is)
    (case l15 => k_is)
    (case c15 => k_is)
    (case k15 => k_is)
    (case a16 => k_is)
    (case l16 => k_is)
    (case c16 => k_is)
    (case k16 => k_is)
    (case a17 => k_is)
    (case l17 => k_is)
    (case c17 => k_is)
    (case k17 => k_is)
    (case a18 => k_is)
    (case l18 => k_is)
    (case c18 => k_is)
    (case k18 => k_is)
    (case a19 => k_is)
    (case l19 => k_is)
    (case c19 => k_is)
    (case k19 => k_is)
    (case z0 => k_is)
    (case z1 => k_is)
    (case z2 => k_is)
    (case z3 => k_is)
    (case z4 => k_is)
    (case z5 => k_is)
    (case z6 => k_is)
    (case z7 => k_is)
    (case z8 => k_is)
    (case z9 => k_is)
    (case z10 => k_is)
    (case z11 => k_is)
    (case z12 => k_is)
    (case z13 => k_is)
    (case z14 => k_is)
    (case z15 => k_is)
    (case z16 => k_is)

