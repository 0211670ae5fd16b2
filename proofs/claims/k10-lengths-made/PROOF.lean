import PyProof.Rows.All
import Wide.All
import OpenK.AllK
import Wide.FinOn
import HandS.ForMost
import HandS.IsInst
import HandS.Wide
import HandS.Flow
import HandS.Zip
import PyProof.ReprRoads
import PyProof.ReprLen
import HandS.Iter
import HandS.Style
import KE.GoesMore
import KE.GoesEnum
import HandS.Property
import HandS.MakeKw
import HandS.Conv
import HandS.Records
import PyProof.InstNe
import PySem.Challenge.RW_readaround_k10_sets_of_lengths_made
set_option Elab.async false
set_option linter.all false
set_option maxRecDepth 100000
set_option maxHeartbeats 4000000
/-! RaBase: promises that also know that nothing is being shown (guards), defs by name, values' operations by cases. -/
namespace RA
open PySem PySem.Spec L2
open PyProof.Rows hiding St

/-! ### promises under which repr may run -/
structure FnOkG (P : Program) (w : World) (K : PySem.W.Frag) (mg : Str → Option Value) (base : Heap) (k : Nat) (f : Addr) (fd : FuncData) (ps : List Str) (sp : Sp) : Prop where
  len : ∀ vs H Q E, sp vs H Q E → vs.length = ps.length
  go : ∀ (A : Around), Room k A → A.guards = some [] → ∀ (outer : List Env) (s : Shared) (H : Hp) (args : Args) (us : List Value) (vs : List V) (Q : VK) (E : XK),
    Env0 P w K mg base A outer s H → BindsTo s fd args (ps.zip us) → Vals vs us → sp vs H Q E →
    codeAny (model P w) A (.call (.ref f) args) (CR CX0 outer P w H s Q E) s

theorem FnOkG.of {P : Program} {w : World} {K : PySem.W.Frag} {mg : Str → Option Value} {base : Heap} {k : Nat} {f : Addr} {fd : FuncData} {ps : List Str} {sp : Sp}
    (F : FnOk P w K mg base CX0 k f fd ps sp) : FnOkG P w K mg base k f fd ps sp :=
  ⟨F.len, fun A r _ outer s H args us vs Q E e b v h => F.run A outer s H args us vs Q E r e b v h⟩

theorem guards_deeper (A : Around) (env : Env) : (A.deeper env).guards = A.guards := rfl

/-- a def's body under such a promise -/
theorem bodyG {P : Program} {w : World} {K : PySem.W.Frag} {mg : Str → Option Value} {base : Heap} {k : Nat} {x qual : Str} {st : Stmt} {f : Addr} {fd : FuncData} {N ps : List Str} {sp : Sp}
    (F : Fun K x qual st f fd) (S : FnScope N ps (defScope st)) (len : ∀ vs H Q E, sp vs H Q E → vs.length = ps.length)
    (hbody : ∀ (cdv : Value) (A : Around) (outer : List Env) (s : Shared) (H : Hp) (vs : List V) (Q : VK) (E : XK),
      Room k (A.deeper (envOfC qual (defScope st) s.heap.objs.size f cdv)) → (A.deeper (envOfC qual (defScope st) s.heap.objs.size f cdv)).guards = some [] → sp vs H Q E →
      ∃ t, PSs (cxOf CX0 P w K mg base N qual (defScope st) f cdv A outer s H E).nox (defBody st) t ∧ t { nx := fun _ H' => Q .non H', rt := Q } (start N vs) H) :
    FnOkG P w K mg base (k + 1) f fd ps sp := by
  obtain ⟨oc, od, kV, doc, pm, an, cdv, ct, osl, rfl, lk, hcd⟩ := F.ex
  refine ⟨len, ?_⟩
  intro A room gd outer s H args us vs Q E e0 hb rv hsp
  have KIn : K.In s.heap := e0.mod.kin.keeps (fun b o z => (e0.bs b o z).1)
  have noLim : s.heap.NoLimit := e0.mod.nolimit.keeps (fun b o z => (e0.bs b o z).1)
  refine codeAny_call_function room.depth (KIn _ _ lk) rfl S.co S.gen rfl (PySem.W.codeRec_of KIn hcd) (hb _ _ _ _ ?_)
  have kinds : ∀ y ∈ ps.zip us, (defScope st).names.lookup y.1 = some .local ∨ ((defScope st).names.lookup y.1 = some .cell ∧ ((cellsFrom (s.heap.objs.size + 1) (defScope st).names []).lookup y.1).isSome = true) := by
    rintro ⟨n, v⟩ hy
    cases S.par n (List.of_mem_zip hy).1 with
    | inl q => exact .inl q
    | inr q => exact .inr ⟨q, PySem.W.cellsFrom_some _ _ _ (.inl q)⟩
  refine wpAny_newFunctionEnv_cells S.kind kinds fun env he s1 inn => ?_
  subst he
  refine ⟨noLim.keeps inn.toInCall.keep, codeAny_func ?_⟩
  obtain ⟨t, hps, ht⟩ := hbody cdv A outer s H vs Q E (room.deeper _) gd hsp
  have I0 := inv_start (CX := CX0) (P := P) (E := E) S room.hd e0 (len _ _ _ _ hsp) rv inn
  refine wpAny_mono (hps.nox.run [] s1 (start N vs) H _ I0 ht) (fun fl s' hs => ?_) (fun _ _ z => z)
  match fl, hs with
  | .ret u, ⟨v, _, H', J, r, q⟩ => exact ⟨v, H', J.os, J.bare, J.base, J.hok, r, q⟩
  | .next, ⟨_, H', J, q⟩ => exact ⟨V.non, H', J.os, J.bare, J.base, J.hok, rfl, q⟩
  | .brk, ⟨_, _, _, q⟩ => exact q.elim
  | .cont, ⟨_, _, _, q⟩ => exact q.elim

/-- a call under such a promise -/
theorem runG {X : Cx} {k : Nat} {f : Addr} {fd : FuncData} {ps : List Str} {sp : Sp} {pins : List (Addr × Obj)} {σ : St} {H : Hp} {s : Shared} {Q : VK} {us : List Value} {vs : List V}
    (F : FnOkG X.prog X.w X.K X.mg X.base k f fd ps sp) (hr : Room k X.A) (gd : X.A.guards = some []) (hb : Binds X.K fd ps [])
    (I : Inv X pins σ H s) (r : Vals vs us) (h : sp vs H Q E0) : wpAny (model X.prog X.w) X.A (call (.ref f) us) (EP X pins σ Q) X.xe s := by
  have hl : (us ++ []).length = ps.length := by rw [List.append_nil, ← r.length]; exact F.len _ _ _ _ h
  have hb' : BindsTo s fd ⟨us, []⟩ (ps.zip us) := by
    have := hb s us I.kIn hl
    rwa [List.append_nil] at this
  refine wpAny_call (codeAny_mono (F.go X.A hr gd X.stack s H ⟨us, []⟩ us vs Q E0 I.env0 hb' r h) fun res s' hq => ?_)
  match res, hq with
  | .error _, hq => exact False.elim hq
  | .ok (.ret _), hq => exact I.after hq
  | .ok .next, hq => exact False.elim hq
  | .ok .brk, hq => exact False.elim hq
  | .ok .cont, hq => exact False.elim hq

/-! ### defs by their names -/
structure Raw (K : PySem.W.Frag) (mg : Str → Option Value) (x : Str) (st : Stmt) : Prop where
  ex : ∃ f fd, mg x = some (.ref f) ∧ Fun K x x st f fd
structure Has (P : Program) (w : World) (K : PySem.W.Frag) (mg : Str → Option Value) (base : Heap) (x : Str) (st : Stmt) (k : Nat) (ps : List Str) (sp : Sp) : Prop where
  ex : ∃ f fd, mg x = some (.ref f) ∧ Fun K x x st f fd ∧ Binds K fd ps [] ∧ FnOk P w K mg base CX0 k f fd ps sp
structure HasG (P : Program) (w : World) (K : PySem.W.Frag) (mg : Str → Option Value) (base : Heap) (x : Str) (st : Stmt) (k : Nat) (ps : List Str) (sp : Sp) : Prop where
  ex : ∃ f fd, mg x = some (.ref f) ∧ Fun K x x st f fd ∧ Binds K fd ps [] ∧ FnOkG P w K mg base k f fd ps sp

/-- how the arguments bind, by the def's text -/
def BindTxt (x : Str) (st : Stmt) (ps : List Str) : Prop := ∀ (kV doc pm : Value) (an : Option Addr) (cdv ct : Value) (us : List Value), us.length = ps.length →
  bindArgs (PySem.W.fnOf x x (defArgs st) (defBody st) (defScope st) .none kV doc pm an cdv ct) ⟨us, []⟩ = pure (ps.zip us)

section
variable {P : Program} {w : World} {K : PySem.W.Frag} {mg : Str → Option Value} {base : Heap} {x : Str} {st : Stmt} {k : Nat} {N ps : List Str} {sp : Sp}
theorem has_mk (R : Raw K mg x st) (S : FnScope N ps (defScope st)) (bt : BindTxt x st ps) (len : ∀ vs H Q E, sp vs H Q E → vs.length = ps.length)
    (hbody : ∀ (f : Addr) (cdv : Value) (A : Around) (outer : List Env) (s : Shared) (H : Hp) (vs : List V) (Q : VK) (E : XK), Room k (A.deeper (envOfC x (defScope st) s.heap.objs.size f cdv)) → sp vs H Q E →
      ∃ t, PSs (cxOf CX0 P w K mg base N x (defScope st) f cdv A outer s H E).nox (defBody st) t ∧ t { nx := fun _ H' => Q .non H', rt := Q } (start N vs) H) : Has P w K mg base x st (k + 1) ps sp := by
  obtain ⟨f, fd, hm, F⟩ := R.ex
  exact ⟨f, fd, hm, F, F.binds bt, F.ok S len (hbody f)⟩
theorem hasG_mk (R : Raw K mg x st) (S : FnScope N ps (defScope st)) (bt : BindTxt x st ps) (len : ∀ vs H Q E, sp vs H Q E → vs.length = ps.length)
    (hbody : ∀ (f : Addr) (cdv : Value) (A : Around) (outer : List Env) (s : Shared) (H : Hp) (vs : List V) (Q : VK) (E : XK), Room k (A.deeper (envOfC x (defScope st) s.heap.objs.size f cdv)) → (A.deeper (envOfC x (defScope st) s.heap.objs.size f cdv)).guards = some [] → sp vs H Q E →
      ∃ t, PSs (cxOf CX0 P w K mg base N x (defScope st) f cdv A outer s H E).nox (defBody st) t ∧ t { nx := fun _ H' => Q .non H', rt := Q } (start N vs) H) : HasG P w K mg base x st (k + 1) ps sp := by
  obtain ⟨f, fd, hm, F⟩ := R.ex
  exact ⟨f, fd, hm, F, F.binds bt, bodyG F S len (hbody f)⟩
theorem Has.mono {j : Nat} (h : Has P w K mg base x st j ps sp) (le : j ≤ k) : Has P w K mg base x st k ps sp := by
  obtain ⟨f, fd, hm, F, b, G⟩ := h.ex
  exact ⟨f, fd, hm, F, b, G.mono le⟩
end

section
variable {X : Cx} {x : Str} {st : Stmt} {k : Nat} {ps : List Str} {sp : Sp} {p pos : Pos} {e : Expr} {es : List Expr} {t tk : TA} {kws : List Keyword}
/-- f(e, ..) -/
theorem pe_f (h : Has X.prog X.w X.K X.mg X.base x st k ps sp) (hr : Room k X.A) (ha : PA X (e :: es) t) (hg : Gl X x := by rfl)
    (hdb : (x == ("__debug__" : Str)) = false := by decide) (he : starEach (e :: es) X.env = (false, eval e X.env) :: starEach es X.env := by rfl) (hpl : (backTo pos (starEach es X.env)).any (·.1) = false := by rfl) :
    PE X (.Call (.Name x p) (e :: es) [] pos) (tCall sp [] E0 t) := by
  obtain ⟨f, fd, hm, F, b, G⟩ := h.ex
  exact pe_call G hr hg hm F.kp b .nil pass0 ha hdb he hpl
theorem pe_f0 (h : Has X.prog X.w X.K X.mg X.base x st k ps sp) (hr : Room k X.A) (hg : Gl X x := by rfl)
    (hdb : (x == ("__debug__" : Str)) = false := by decide) : PE X (.Call (.Name x p) [] [] pos) (tCall sp [] E0 tNil) := by
  obtain ⟨f, fd, hm, F, b, G⟩ := h.ex
  exact pe_call0 G hr hg hm F.kp b .nil pass0 hdb
theorem pe_fG (h : HasG X.prog X.w X.K X.mg X.base x st k ps sp) (hr : Room k X.A) (gd : X.A.guards = some []) (ha : PA X (e :: es) t) (hg : Gl X x := by rfl)
    (hdb : (x == ("__debug__" : Str)) = false := by decide) (he : starEach (e :: es) X.env = (false, eval e X.env) :: starEach es X.env := by rfl) (hpl : (backTo pos (starEach es X.env)).any (·.1) = false := by rfl) :
    PE X (.Call (.Name x p) (e :: es) [] pos) (tCall sp [] E0 t) := by
  obtain ⟨f, fd, hm, F, b, G⟩ := h.ex
  constructor
  intro pins s σ H Q I q
  refine wpAny_Call_Name_kw (ld_glob I hg hm ?_ hdb)
  refine PySem.W.callWith_K (h₀ := X.base) I.ok.mod.kin F.kp (thn (ha.run pos pins s σ H _ I q) ?_) he hpl
  rintro us s1 ⟨vs, H1, I1, r, q1⟩
  have q1' : sp vs H1 Q E0 := by
    have q2 : sp (vs ++ []) H1 Q E0 := q1
    rwa [List.append_nil] at q2
  exact ⟨I1.kIn, runG G hr gd b I1 r q1'⟩
end

/-! ### repr of data -/
/-- data that may be shown: depth, weight -/
structure Pr (k n : Nat) (d : PyData) : Prop where
  sh : d.showable = true
  nd : d.hasDict = false
  lf : d.leavesShort 650 = true
  dp : d.depth ≤ k
  wt : d.weight ≤ n
structure PrAll (k n : Nat) (ds : List PyData) : Prop where
  sh : PyData.showableAll ds = true
  nd : PyData.hasDictAll ds = false
  lf : PyData.leavesShortAll 650 ds = true
  dp : PyData.depthAll ds ≤ k
  wt : PyData.weightAll ds ≤ n
theorem Pr.mono {k n k' n' : Nat} {d : PyData} (h : Pr k n d) (hk : k ≤ k') (hn : n ≤ n') : Pr k' n' d := ⟨h.sh, h.nd, h.lf, Nat.le_trans h.dp hk, Nat.le_trans h.wt hn⟩
theorem PrAll.mono {k n k' n' : Nat} {d : List PyData} (h : PrAll k n d) (hk : k ≤ k') (hn : n ≤ n') : PrAll k' n' d := ⟨h.sh, h.nd, h.lf, Nat.le_trans h.dp hk, Nat.le_trans h.wt hn⟩
theorem Pr.none : Pr 0 0 .none := ⟨rfl, rfl, rfl, Nat.le_refl _, Nat.le_refl _⟩
theorem Pr.bool (b : Bool) : Pr 0 0 (.bool b) := ⟨rfl, rfl, rfl, Nat.le_refl _, Nat.le_refl _⟩
theorem Pr.int {i : Int} {b : Nat} (h0 : 0 < b) (h : i.natAbs < 2 ^ b) (hb : b ≤ 600) : Pr 0 b (.int i) := by
  have hl : i.natAbs.log2 < b := by
    by_cases z : i.natAbs = 0
    · rw [z]; exact h0
    · exact (Nat.log2_lt z).mpr h
  refine ⟨?_, rfl, ?_, Nat.le_refl _, ?_⟩
  · show decide (i.natAbs.log2 < 1920) = true
    exact decide_eq_true (by omega)
  · show decide ((PyData.shown (.int i)).length ≤ 650) = true
    refine decide_eq_true ?_
    have e : (toString i).length ≤ b + 1 := int_text_length_le h0 hl
    have e2 : (PyData.shown (.int i)).length = (toString i).length := by
      show (Str.ofString (toString i)).length = _
      exact PySem.ofString_length _
    omega
  · show (if i == 0 then 0 else i.natAbs.log2 + 1) ≤ b
    split <;> omega
theorem PrAll.nil {k : Nat} : PrAll k 0 [] := ⟨rfl, rfl, rfl, Nat.zero_le _, Nat.le_refl _⟩
theorem PrAll.cons {k n m : Nat} {d : PyData} {ds : List PyData} (h : Pr k n d) (t : PrAll k m ds) : PrAll k (n + 1 + m) (d :: ds) := by
  refine ⟨?_, ?_, ?_, ?_, ?_⟩
  · show (d.showable && PyData.showableAll ds) = true
    rw [h.sh, t.sh]; rfl
  · show (d.hasDict || PyData.hasDictAll ds) = false
    rw [h.nd, t.nd]; rfl
  · show (d.leavesShort 650 && PyData.leavesShortAll 650 ds) = true
    rw [h.lf, t.lf]; rfl
  · show max d.depth (PyData.depthAll ds) ≤ k
    exact Nat.max_le.mpr ⟨h.dp, t.dp⟩
  · show d.weight + 1 + PyData.weightAll ds ≤ n + 1 + m
    have := h.wt; have := t.wt; omega
theorem PrAll.all {k n : Nat} : ∀ {ds : List PyData}, (∀ d ∈ ds, Pr k n d) → PrAll k (ds.length * (n + 1)) ds
  | [], _ => PrAll.nil.mono (Nat.le_refl _) (Nat.zero_le _)
  | d :: ds, h => ((PrAll.all fun x hx => h x (List.mem_cons_of_mem _ hx)).cons (h d List.mem_cons_self)).mono (Nat.le_refl _) (by
      rw [List.length_cons, Nat.add_mul]; omega)
theorem Pr.list {k n : Nat} {ds : List PyData} (h : PrAll k n ds) : Pr (k + 1) n (.list ds) :=
  ⟨h.sh, h.nd, h.lf, Nat.succ_le_succ h.dp, h.wt⟩
theorem Pr.tuple {k n : Nat} {ds : List PyData} (h : PrAll k n ds) : Pr (k + 1) n (.tuple ds) :=
  ⟨h.sh, h.nd, h.lf, Nat.succ_le_succ h.dp, h.wt⟩
def rRepr (K : PySem.W.Frag) : List V → Hp → VK → Prop := fun vs H Q => ∃ v d, vs = [v] ∧ Dp K H v d ∧ Pr 60 20000 d ∧ Q (.str d.shown) H
theorem Pr.fits {k n : Nat} {d : PyData} (h : Pr k n d) (hn : n ≤ 20000) : d.shown.length ≤ sizeLine := by
  have e := PyData.shown_le 650 (by decide) d h.lf
  have e2 := h.wt
  have e3 : (650 + 2) * d.weight ≤ (650 + 2) * 20000 := Nat.mul_le_mul_left _ (Nat.le_trans e2 hn)
  have e4 : (sizeLine : Nat) = 16777216 := rfl
  omega
theorem noDict_of {d : PyData} (h : d.hasDict = false) {as : List Addr} : d.hasDict = true → sysModules ∉ as := fun z => by rw [h] at z; cases z
theorem call_repr {X : Cx} (gd : X.A.guards = some []) (hu : X.A.units + 64 < cLine) : CallR X (.builtin "repr") (rRepr X.K) := by
  intro pins s σ H xs us Q I r h
  obtain ⟨v, d, rfl, hd, hp, q⟩ := h
  obtain ⟨u, rfl, r1⟩ := vals1 r
  have hz := hp.fits (Nat.le_refl _)
  have big : ∀ {a : Addr} {as : List Addr}, Reads s.heap (.ref a) d as → wpAny (model X.prog X.w) X.A (call (.builtin "repr") [.ref a]) (EP X pins σ Q) X.xe s := fun rd =>
    repr_of_reads' rd hp.sh (noDict_of hp.nd) gd (by have := hp.dp; omega) (fun _ _ z => z) (fun h' t tk kp => ⟨.str d.shown, H, I.kept kp, ⟨t, rfl⟩, q⟩) hz
  obtain ⟨as, hr⟩ := hd.reads I d v u r1
  cases hd with
  | non => cases r1; exact PySem.P.repr_of_none ⟨.str _, H, I.tok _, ⟨_, rfl⟩, q⟩
  | bl b => cases r1; exact PySem.P.repr_of_bool ⟨.str _, H, I.tok _, ⟨_, rfl⟩, q⟩
  | int i =>
    obtain ⟨t, rfl⟩ := r1
    exact PySem.P.repr_of_int (of_decide_eq_true hp.sh) ⟨.str _, H, I.tok _, ⟨_, rfl⟩, q⟩
  | str x =>
    obtain ⟨t, rfl⟩ := r1
    exact PySem.P.repr_of_str ⟨.str _, H, I.tok _, ⟨_, rfl⟩, q⟩ hz
  | lst h1 h2 => cases r1; exact big hr
  | tup h1 h2 => cases r1; exact big hr

/-! ### the end of a law's row, for such promises -/
theorem law_callG {P : Program} {w : World} {K : PySem.W.Frag} {mg mb : Str → Option Value} {k : Nat} {fa a : Addr} {fd : FuncData} {x : Str} {sp : Sp} {s1 : Shared} {vs : List Value} {ns : List Int}
    (KX : K.In s1.heap) (hns : s1.heap.Ns mainGlobals mg) (hb : s1.heap.Ns builtinsNs mb) (hbb : ∀ y : Str, y ≠ "__name__" → mb y = bootBuiltins y) (hlim : s1.heap.NoLimit) (hg : s1.gens = #[])
    (ha : s1.heap.get? a = some { cls := .type "list", data := .seq vs.toArray }) (hi : IntsAre vs ns) (hl : ns.length ≤ sizeLine) (hr : Room k callerA)
    (F : ∀ base : Heap, K.In base → base.Ns mainGlobals mg → FnOkG P w K mg base k fa fd [x] sp) (hbind : ∀ u : Value, BindsTo s1 fd ⟨[u], []⟩ [(x, u)])
    (hsp : ∀ H : Hp, Only H → SqL K H a (ns.map V.int) → sp [.ref a] H (fun v _ => v = .bl true) fun _ _ _ => False) :
    codeAny (model P w) callerA (.call (.ref fa) ⟨[.ref a], []⟩) (fun r s' => r = .ok (.ret (.bool true)) ∧ OldK s1.heap s'.heap ∧ s'.os = s1.os ∧ AllBare s'.gens) s1 := by
  have rvals := L2.vals_ints hi
  have elen := hi.length
  -- any abstract heap that tracks at most the script
  suffices key : ∀ H : Hp, Only H → SqL K H a (ns.map V.int) → HOk P w H s1.heap → (∀ b, H b ≠ none → b = a) → (H a ≠ none → K.lookup a = none) →
      codeAny (model P w) callerA (.call (.ref fa) ⟨[.ref a], []⟩) (fun r s' => r = .ok (.ret (.bool true)) ∧ OldK s1.heap s'.heap ∧ s'.os = s1.os ∧ AllBare s'.gens) s1 by
    cases hk : K.lookup a with
    | some o =>
      have ho := KX a o hk
      rw [ha] at ho
      cases ho
      refine key (fun _ => none) (fun _ => .inl rfl) (.inr ⟨_, vs.toArray, _, hk, rfl, rfl, rfl, ?_, by simpa using rvals⟩) (fun b u z => ?_) (fun b z => absurd rfl z) (fun z => absurd rfl z)
      · rw [List.size_toArray, elen]; exact hl
      · exact absurd (show (none : Option HO) = some u from z) (by intro q; cases q)
    | none =>
      let sc : HO := .frz { cls := .type "list", data := .seq vs.toArray } (.lst (ns.map V.int))
      have at_a : (fun b => if b = a then some sc else none : Hp) a = some sc := if_pos rfl
      have at_b : ∀ {b : Addr}, b ≠ a → (fun b => if b = a then some sc else none : Hp) b = none := fun q => if_neg q
      refine key (fun b => if b = a then some sc else none) (fun b => ?_) (.inl (.inr ⟨_, at_a⟩)) (fun b u z => ?_) (fun b z => ?_) (fun _ => hk)
      · by_cases q : b = a
        · subst q; exact .inr ⟨_, _, at_a⟩
        · exact .inl (at_b q)
      · by_cases q : b = a
        · subst q
          have e := at_a.symm.trans z
          cases e
          exact ⟨ha, by rw [List.length_map]; exact hl, vs, _, rvals, ha⟩
        · exact absurd ((at_b q).symm.trans z) (by intro e; cases e)
      · by_cases q : b = a
        · exact q
        · exact absurd (at_b q) z
  intro H hO hS hok hA hK
  have tracked : ∀ {b : Addr} {u : HO}, H b = some u → b = a := fun q => hA _ (by rw [q]; intro z; cases z)
  have notDict : ∀ {b : Addr} {o : Obj} {es : Array DictEntry} {ep : Nat}, s1.heap.get? b = some o → o.data = .dict es ep → H b = none := by
    intro b o es ep e d
    cases q : H b with
    | none => rfl
    | some u =>
      have eb := tracked q
      subst eb
      rw [ha] at e
      cases e
      exact absurd (show Data.seq vs.toArray _ = Data.dict es ep from d) (by intro z; cases z)
  have nsB : ∀ {b : Addr} {m : Str → Option Value}, s1.heap.Ns b m → (hidT s1.heap H).Ns b m := by
    rintro b m ⟨o, es, ep, e, d, rest⟩
    exact ⟨o, es, ep, hidT_get e (notDict e d), d, rest⟩
  have KB : K.In (hidT s1.heap H) := by
    intro b o e
    refine hidT_get (KX b o e) ?_
    cases q : H b with
    | none => rfl
    | some u =>
      have eb := tracked q
      subst eb
      rw [hK (by rw [q]; intro z; cases z)] at e
      cases e
  have lim : (hidT s1.heap H).NoLimit := by
    obtain ⟨mc, h1, h2⟩ := hlim
    exact ⟨mc, nsB h1, h2⟩
  have e0 : Env0 P w K mg (hidT s1.heap H) callerA [] s1 H :=
    { frames := rfl, mod := ⟨KB, nsB hns, ⟨mb, nsB hb, hbb⟩, lim⟩, bs := fun _ _ e => of_hidT e, bsz := Nat.le_of_eq (hidT_size _ _), funs := trivial, frf := (fun _ z => nomatch z), hok := hok, bare := .of_eq hg }
  refine codeAny_mono ((F _ KB (nsB hns)).go callerA hr rfl [] s1 H ⟨[.ref a], []⟩ [.ref a] [.ref a] (fun v _ => v = .bl true) (fun _ _ _ => False) e0 (hbind (.ref a)) (.cons rfl .nil) (hsp H hO hS)) fun r s' h => ?_
  match r, h with
  | .error _, h => exact False.elim h
  | .ok .next, h => exact False.elim h
  | .ok .brk, h => exact False.elim h
  | .ok .cont, h => exact False.elim h
  | .ok (.ret u), ⟨v, H', os, bare, un, hok', rel, q⟩ =>
    have q' : v = .bl true := q
    subst q'
    cases (show u = Value.bool true from rel)
    refine ⟨rfl, OldK.of_keep fun b o e => ?_, os, bare⟩
    cases z : H b with
    | none => exact un.keep b o e z (fun m => nomatch m) (fun m => nomatch m)
    | some t =>
      rcases hO b with zz | ⟨ob, xs, zz⟩
      · rw [z] at zz; cases zz
      · have later := un.frzs b ob _ zz
        have e1 := (hok b _ zz).1
        have e2 := (hok' b _ later).1
        rw [e] at e1
        cases e1
        exact e2

theorem walk_G {l : PySem.W.OpenLaw} {n k : Nat} {q : Program} {loose : List Str} {XP : (Str → Option Value) → Heap → Prop} {YP : World → Heap → Prop} {d : DefRec} {K : Params → PySem.W.Frag} {sp : PySem.W.Frag → Sp} {x : Str} {st : Stmt}
    (hn : l.most = some n) (hn2 : n ≤ sizeLine) (hdf : d.params.defaults = []) (hr : Room k callerA)
    (hY : ∀ (w : World) (h : Heap), YP w h → (K w.params).In h)
    (F : ∀ (w : World) (mg : Str → Option Value) (h : Heap), (K w.params).In h → h.Ns mainGlobals mg →
      ∀ base : Heap, (K w.params).In base → base.Ns mainGlobals mg → HasG l.prog w (K w.params) mg base d.name st k [x] (sp (K w.params)))
    (hsp : ∀ (K : PySem.W.Frag) (H : Hp) (a : Addr) (ns : List Int), ns.length ≤ n → Only H → SqL K H a (ns.map V.int) → sp K [.ref a] H (fun v _ => v = .bl true) fun _ _ _ => False) :
    PySem.W.WalkO q loose XP YP l.row.toRowW d [] (fun f vs => PySem.call f vs) := by
  refine Att.attach_call hn hdf ?_
  intro w s0 s1 mg mb fa o pm cd doc a vs ns G Y ho hd hcd hmg hobj hints hlen hg
  have KX := hY w _ Y
  obtain ⟨f0, fd, hm0, F0, b0, _⟩ := (F w mg _ KX G.T.g _ KX G.T.g).ex
  rw [hmg] at hm0
  cases hm0
  have same : ∀ base : Heap, (K w.params).In base → base.Ns mainGlobals mg → FnOkG l.prog w (K w.params) mg base k fa fd [x] (sp (K w.params)) := by
    intro base hK hN
    obtain ⟨f1, fd1, hm1, F1, b1, ok1⟩ := (F w mg _ KX G.T.g base hK hN).ex
    rw [hmg] at hm1
    cases hm1
    obtain ⟨_, _, _, _, _, _, _, _, _, e0, l0, _⟩ := F0.ex
    obtain ⟨_, _, _, _, _, _, _, _, _, e1, l1, _⟩ := F1.ex
    have e := l0.symm.trans l1
    injection e with e
    injection e with _ _ e _
    injection e with e
    rw [e]
    exact ok1
  refine law_callG KX G.T.g G.T.b G.T.builtins G.T.nolimit hg hobj hints (Nat.le_trans hlen hn2) hr same (fun u => ?_) (fun H hO hS => hsp _ H a ns hlen hO hS)
  exact b0 s1 [u] KX rfl

end RA

/-! RaIter: enumerate(tuple). -/
namespace PySem
open AutoSeq1 (wpAny_loadPart')
theorem ra_meets_enum1 {v : Value} {o : Obj} {H : Heap → Prop} (B : Begins v o H) :
    Meets (Builtin.«enumerate.__new__» ⟨[.type "enumerate", v], []⟩) (fun _ R s => H s.heap ∧
      R (.ok (.ret (.ref (s.heap.push o).objs.size))) { s with heap := (s.heap.push o).push { cls := .type "enumerate", data := .fields #[.none, .bool false, .ref s.heap.objs.size, rawInt 0, .none, .none] } }) :=
  .of_wp fun prog w A R s h => by
    obtain ⟨hp, g, d, tk, os⟩ := s
    obtain ⟨h1, h2⟩ := h
    have hsub := sub_enumerate
    have it1 : ∀ {A' : Around} {E : Value → Shared → Prop} {Q : Value → Shared → Prop}, Q (.ref hp.objs.size) ⟨hp.push o, g, d, tk, os⟩ → wpAny (model prog w) A' (pyIter v) Q E ⟨hp, g, d, tk, os⟩ :=
      fun q => B.iter prog w _ _ ⟨hp, g, d, tk, os⟩ _ h1 q
    wp_walk using it1
    refine wpAny_stack_any fun st => wpAny_pure ?_
    split
    · rename_i c _ _ _ _ _
      cases (c == Value.type "enumerate")
      all_goals
        wp_walk using it1
        exact ⟨_, rfl, h2⟩
    · wp_walk using it1
      exact ⟨_, rfl, h2⟩
section
variable {prog : Program} {w : World} {A : Around} {E : Value → Shared → Prop} {s : Shared}
theorem ra_enum1 {v : Value} {o : Obj} {H : Heap → Prop} {Q : Value → Shared → Prop} (B : Begins v o H) (h1 : H s.heap)
    (h : ∀ h', IsEnum h' (s.heap.objs.size + 1) s.heap.objs.size 0 .none → h'.get? s.heap.objs.size = some o → h'.objs.size = s.heap.objs.size + 2 →
      (∀ b ob, s.heap.get? b = some ob → h'.get? b = some ob) → Q (.ref (s.heap.objs.size + 1)) { s with heap := h' }) :
    wpAny (model prog w) A (call (.type "enumerate") [v]) Q E s := by
  refine callType_new F.called_enumerate (by decide) (F.typeCall_enumerate_1 _) (F.newCall_enumerate_1 _) (fun obj => F.args_object_init_2 obj _) F.entry_enumerate_new
    (ra_meets_enum1 B) ⟨h1, ?_⟩
  have size1 : (s.heap.push o).objs.size = s.heap.objs.size + 1 := Heap.size_push ..
  show _ ∧ _
  rw [size1]
  let en : Obj := { cls := .type "enumerate", data := .fields #[.none, .bool false, .ref s.heap.objs.size, rawInt 0, .none, .none] }
  have isE : IsEnum ((s.heap.push o).push en) (s.heap.objs.size + 1) s.heap.objs.size 0 .none := by
    have q := Heap.get?_push_size (s.heap.push o) (o := en) rfl
    rw [size1] at q
    exact q
  exact ⟨⟨_, isE, rfl⟩, h _ isE (Heap.get?_push_of_some _ (Heap.get?_push_size _ B.free)) (by rw [Heap.size_push, size1]) fun b ob x => Heap.get?_push_of_some _ (Heap.get?_push_of_some _ x)⟩
end
end PySem
namespace RA
open PySem PySem.Spec L2
open PyProof.Rows hiding St
/-- the tuple at a, each item in a new pair -/
def ItE (K : PySem.W.Frag) (a : Addr) : It :=
  ⟨fun i H => ∃ (xs : List V) (x : V), SqT K H a xs ∧ xs[i]? = some x,
   fun i H v H' => ∃ T x, v = .ref T ∧ H T = none ∧ H' = upd H T (.tup [.int (i : Nat), x]) ∧ ∀ xs, SqT K H a xs → xs[i]? = some x,
   fun i H => ∃ xs : List V, SqT K H a xs ∧ xs.length ≤ i⟩
theorem turn_enumT {P : Program} {w : World} {K : PySem.W.Frag} {elts : List Expr} {kk : Nat} {tpos : Pos} (a e it : Addr) (hai : a ≠ it) :
    Turn P w K (.Tuple elts kk tpos) (ItE K a) [e, it] e (fun i h => (∃ old, IsEnum h e it ((i : Nat) : Int) old) ∧ h.IsTupleIter it a i ∧ e ≠ it ∧ e ≠ a) where
  mem := by simp
  obj := fun i h st b hb => by
    obtain ⟨⟨old, he⟩, ⟨o, ho, hc, hd⟩, _⟩ := st
    have e' : b = e ∨ b = it := by simpa using hb
    rcases e' with z | z
    · rw [z]; exact ⟨_, he, fun v q => nomatch q⟩
    · rw [z]; exact ⟨o, ho, fun v q => by rw [hd] at q; cases q⟩
  keep := fun i h h' st k => by
    obtain ⟨⟨old, he⟩, hi, h3⟩ := st
    exact ⟨⟨old, k e (by simp) _ he⟩, hi.at (fun o q => k it (by simp) o q), h3⟩
  item := by
    intro X hP hw hK hc i pins s σ H E I hf st hg
    subst hP hw hK
    obtain ⟨⟨old, he⟩, hit, hne, hea⟩ := st
    obtain ⟨xs, x, hq, hx⟩ := hg
    obtain ⟨its, rv, p, hz⟩ := I.tuple hq
    obtain ⟨u, hu, ru⟩ := rv.get hx
    have lenI := rv.length
    have hel : e < s.heap.objs.size := Heap.lt_size he
    have hil : it < s.heap.objs.size := by obtain ⟨_, q, _⟩ := hit; exact Heap.lt_size q
    have hlt : i < its.toArray.size := by
      have := (List.getElem?_eq_some_iff.mp hu).1
      simpa using this
    refine wpAny_pyNext_enum_itemD (Draws.tuple (prog := X.prog) (w := X.w) (A := X.A.in1) (I.ok.hd hc) it a hai its.toArray) he ⟨hit, p⟩ hlt hne (by simp [hne, hea]) fun y h' tk hy ho st' hT hsz hk => ?_
    have ey : y = u := by
      have z : its.toArray[i]? = some y := hy
      have z2 : its[i]? = some y := by simpa using z
      rw [hu] at z2
      exact (Option.some.inj z2).symm
    subst ey
    refine ⟨_, rfl, wpAny_letOwnedTupleGo_enum (s := { s with heap := h', toks := tk + 1 }) ho fun h'' he' sb => ?_⟩
    have hT2 : h''.get? s.heap.objs.size = some { cls := .type "tuple", data := .seq #[.int i tk, y] } := (sb.2 _ (Nat.ne_of_gt hel)).trans hT
    have new : ObjOk X.prog X.w (upd H s.heap.objs.size (.tup [.int (i : Nat), x])) h'' s.heap.objs.size (.tup [.int (i : Nat), x]) :=
      ⟨by show 2 ≤ sizeLine; decide, [.int i tk, y], .cons ⟨_, rfl⟩ (.cons ru .nil), ⟨_, hT2, rfl, _, rfl⟩⟩
    have I1 : Inv X pins σ (upd H s.heap.objs.size (.tup [.int (i : Nat), x])) { s with heap := h'', toks := tk + 1 } :=
      I.turnedNew (ch := [e, it]) (fun b ob hb q => (sb.2 b (fun z => hb (by simp [z]))).trans (hk b ob (fun z => hb (by simp [z])) (fun z => hb (by simp [z])) q)) hf (Nat.le_refl _) new
    refine ⟨.ref s.heap.objs.size, _, I1, rfl, ⟨_, x, rfl, I.hok.fresh (Nat.le_refl _), rfl, fun ys hy => by rw [I.tuple_inj hy hq]; exact hx⟩, ⟨⟨y, ?_⟩, st'.1.at (fun o q => (sb.2 it (Ne.symm hne)).trans q), hne, hea⟩, fun b hb => ?_⟩
    · have e1 : ((i + 1 : Nat) : Int) = (i : Int) + 1 := by omega
      rw [e1]; exact he'
    · have hb' : b < s.heap.objs.size := by
        have e' : b = e ∨ b = it := by simpa using hb
        rcases e' with z | z
        · rw [z]; exact hel
        · rw [z]; exact hil
      rw [upd_ne (Nat.ne_of_lt hb')]
      exact (hf b hb).1
  done := by
    intro X hP hw hK hc i pins s σ H E I hf st hg
    subst hP hw hK
    obtain ⟨⟨old, he⟩, hit, hne, hea⟩ := st
    obtain ⟨xs, hq, hx⟩ := hg
    obtain ⟨its, rv, p, hz⟩ := I.tuple hq
    obtain ⟨f0, f1, f2, f3, f4, f5⟩ := hf it (by simp)
    have hl := rv.length
    have hT : s.TypeIs (.ref e) "enumerate" := ⟨_, he, rfl⟩
    unfold pyNext
    refine wpAny_bind (wpAny_attempt (wpAny_callSpecial?_slot (name := Str.ofString "__next__") hT F.slot_enumerate_next
      (wpAny_call_entry F.slot_enumerate_next hT F.entry_enumerate_next ?_ (F.args_enumerate_next_1 _))))
    show wpAny _ _ (field (.ref e) 2 >>= _) _ _ _
    refine wpAny_bind (wpAny_field he rfl (x := .ref it) rfl ?_)
    refine wpAny_bind (wpAny_nextOf_tuple_end (I.ok.hd hc) hit p (by simp; omega) fun h' x he' hx' => ?_)
    obtain ⟨o, ho, hcc⟩ := hx'
    refine wpAny_bind (wpAny_isInstance (T := "StopIteration") (b := true) ⟨o, ho, hcc⟩ isSubtype_stop ?_)
    exact wpAny_pure ⟨rfl, I.turned (t' := s.toks) (fun b o hb q => he' b o hb q) f0 f1 f3 f4 f5⟩
  self := fun A i s Q E st h => by
    obtain ⟨⟨_, he⟩, _⟩ := st
    exact wpAny_pyIter_enum he h
def iEnumT (K : PySem.W.Frag) (ta : TA) : TI := fun σ H R => ta σ H fun vs H1 => ∃ a xs, vs = [.ref a] ∧ SqT K H1 a xs ∧ R (ItE K a) H1
theorem pi_enumT {X : Cx} {e : Expr} {ta : TA} {p pos tpos : Pos} {elts : List Expr} {kk : Nat} (hg : Gl X "enumerate") (hm : X.mg "enumerate" = none) (ha : PA X [e] ta) (hs : starEach [e] X.env = [(false, eval e X.env)] := by rfl) :
    PI X (.Tuple elts kk tpos) (.Call (.Name "enumerate" p) [e] [] pos) (iEnumT X.K ta) := by
  constructor
  intro pins s σ H R I h
  refine Call_ (ld_blt I hg hm boot_enumerate (PyProof.Rows.callWith_type1 (thn (ha.run pos pins s σ H _ I h) ?_) hs rfl))
  rintro us s1 ⟨vs, H1, I1, r1, a, xs, rfl, hq, q⟩
  cases r1 with
  | cons r rr =>
    cases rr
    cases r
    obtain ⟨its, rv, p', hz⟩ := I1.tuple hq
    have hal : a < s1.heap.objs.size := by
      obtain ⟨o, ho, _⟩ := p'
      exact Heap.lt_size ho
    refine ra_enum1 (begins_tuple a its.toArray) p' fun h' he hit hsz hk => wpAny_pyIter_enum he ?_
    have I2 : Inv X pins σ H1 { s1 with heap := h' } := I1.kept (t' := s1.toks) hk
    refine ⟨s1.heap.objs.size + 1, [s1.heap.objs.size + 1, s1.heap.objs.size], _, _, H1, rfl, I2, turn_enumT a (s1.heap.objs.size + 1) s1.heap.objs.size (Nat.ne_of_lt hal), ⟨⟨.none, he⟩, ⟨_, hit, rfl, rfl⟩, Nat.succ_ne_self _, Nat.ne_of_gt (Nat.lt_succ_of_lt hal)⟩, fun b hb => ?_, q⟩
    have e' : b = s1.heap.objs.size + 1 ∨ b = s1.heap.objs.size := by simpa using hb
    have hle : s1.heap.objs.size ≤ b := by
      rcases e' with z | z
      · rw [z]; exact Nat.le_add_right _ _
      · rw [z]; exact Nat.le_refl _
    exact I1.fpOk hle (I1.hok.fresh hle)
/-- the loop over it, the tuple standing still: each pair is new -/
theorem for_enumT {K : PySem.W.Frag} {a : Addr} {xs : List V} {g : TG} {tb : TS} {D : Ends} {σ : St} {H : Hp} (Pv : Nat → St → Hp → Prop) (h0 : Pv 0 σ H) (hl : ∀ i σ H, i ≤ xs.length → Pv i σ H → SqT K H a xs)
    (hs : ∀ (i : Nat) x T σ H, xs[i]? = some x → Pv i σ H → H T = none → g (.ref T) σ (upd H T (.tup [.int (i : Nat), x])) fun σ2 H2 => tb { D with nx := Pv (i + 1), ct := Pv (i + 1), bk := D.nx } σ2 H2) (hd : ∀ σ H, Pv xs.length σ H → D.nx σ H) :
    ∃ W : Nat → Nat → St → Hp → Prop, (∃ m, W 0 m σ H) ∧ ∀ i m σ H, W i m σ H →
      ((ItE K a).stop i H ∧ D.nx σ H) ∨ ((ItE K a).go i H ∧ ∃ N : St → Hp → Prop, (∀ σ' H', N σ' H' → ∃ m', m' < m ∧ W (i + 1) m' σ' H') ∧ ∀ x H', (ItE K a).yld i H x H' → g x σ H' fun σ2 H2 => tb { D with nx := N, ct := N, bk := D.nx } σ2 H2) := by
  refine ⟨fun i m σ H => m + i = xs.length ∧ Pv i σ H, ⟨xs.length, by omega, h0⟩, ?_⟩
  rintro i m σ H ⟨hm, hp⟩
  have hle : i ≤ xs.length := by omega
  have ht := hl i σ H hle hp
  by_cases hi : i < xs.length
  · obtain ⟨x, hx⟩ : ∃ x, xs[i]? = some x := ⟨xs[i], List.getElem?_eq_getElem hi⟩
    refine .inr ⟨⟨xs, x, ht, hx⟩, Pv (i + 1), fun σ' H' hp' => ⟨m - 1, by omega, by omega, hp'⟩, ?_⟩
    rintro v H' ⟨T, y, rfl, hT, rfl, hy⟩
    have e := hy xs ht
    rw [hx] at e
    cases e
    exact hs i x T σ H hx hp hT
  · have e : i = xs.length := by omega
    subst e
    exact .inl ⟨⟨xs, ht, Nat.le_refl _⟩, hd σ H hp⟩
end RA

/-! RaOps: short names for the readings that the printed texts use. -/
namespace RA
open PySem PySem.Spec L2
open PyProof.Rows hiding St
def qAdd : R2 := rI0 fun i j => .int (i + j)
def qSub : R2 := rI0 fun i j => .int (i - j)
def qMul : R2 := rI CMul fun i j => .int (i * j)
def qMulW : R2 := rI CMulW fun i j => .int (i * j)
def qDiv : R2 := rI CDiv fun i j => .int (i / j)
def qDivW : R2 := rI CDivW fun i j => .int (i / j)
def qMod : R2 := rI (fun _ j => 0 < j) fun i j => .int (i % j)
def qPow : R2 := rI CPow fun i j => .int (i ^ j.toNat)
def qLt : R2 := rI0 fun i j => .bl (decide (i < j))
def qLe : R2 := rI0 fun i j => .bl (decide (i ≤ j))
def qGt : R2 := rI0 fun i j => .bl (decide (j < i))
def qGe : R2 := rI0 fun i j => .bl (decide (j ≤ i))
def qIsN : R2 := fun x y H Q => y = .non ∧ Q (.bl (decide (x = .non))) H
def qNotN : R2 := fun x y H Q => y = .non ∧ Q (.bl (!decide (x = .non))) H
def qCatS : R2 := fun x y H Q => ∃ i j, x = .str i ∧ y = .str j ∧ i.length + j.length ≤ sizeLine ∧ Q (.str (i ++ j)) H
def qLtS : R2 := fun x y H Q => ∃ i j, x = .str i ∧ y = .str j ∧ Q (.bl (decide (i.cps.toList < j.cps.toList))) H
def qIn1 : R2 := fun x y H Q => ∃ (c : Nat) (z : Str), x = .str ⟨#[c]⟩ ∧ y = .str z ∧ Q (.bl (decide (c ∈ z.cps.toList))) H
def qNotIn1 : R2 := fun x y H Q => ∃ (c : Nat) (z : Str), x = .str ⟨#[c]⟩ ∧ y = .str z ∧ Q (.bl (!decide (c ∈ z.cps.toList))) H
def qInt : List V → Hp → VK → Prop := fun xs H Q => (∃ i, xs = [.int i] ∧ Q (.int i) H) ∨ ∃ k, xs = [.bl k] ∧ Q (.int (if k then 1 else 0)) H
def qAbs : List V → Hp → VK → Prop := fun xs H Q => ∃ i, xs = [.int i] ∧ Q (.int (if i < 0 then -i else i)) H
def qMax2 : List V → Hp → VK → Prop := fun xs H Q => ∃ i j, xs = [.int i, .int j] ∧ Q (.int (if j > i then j else i)) H
def qMin2 : List V → Hp → VK → Prop := fun xs H Q => ∃ i j, xs = [.int i, .int j] ∧ Q (.int (if j < i then j else i)) H
def qLen (K : PySem.W.Frag) : List V → Hp → VK → Prop := fun xs H Q => ∃ p ys, xs = [.ref p] ∧ (SqL K H p ys ∨ SqT K H p ys) ∧ Q (.int ys.length) H
def qLenS : List V → Hp → VK → Prop := fun xs H Q => ∃ z, xs = [.str z] ∧ z.length ≤ sizeLine ∧ Q (.int z.length) H
def qTuple (K : PySem.W.Frag) : List V → Hp → VK → Prop := fun xs H Q => ∃ p ys, xs = [.ref p] ∧ ((SqL K H p ys ∧ ∀ l, H l = none → Q (.ref l) (upd H l (.tup ys))) ∨ (SqT K H p ys ∧ Q (.ref p) H))
def qStrI : List V → Hp → VK → Prop := fun xs H Q => ∃ i, xs = [.int i] ∧ i.natAbs.log2 < 1920 ∧ Q (.str (toString i)) H
/-! ### lists and tuples that are tracked, by a function -/
def lstOf (H : Hp) (p : Addr) : Option (List V) := match H p with
  | some (.lst xs) => some xs
  | some (.frz _ (.lst xs)) => some xs
  | _ => none
def tupOf (H : Hp) (p : Addr) : Option (List V) := match H p with
  | some (.tup xs) => some xs
  | some (.frz _ (.tup xs)) => some xs
  | _ => none
def sqOf (H : Hp) (p : Addr) : Option (List V) := match H p with
  | some (.lst xs) => some xs
  | some (.frz _ (.lst xs)) => some xs
  | some (.tup xs) => some xs
  | some (.frz _ (.tup xs)) => some xs
  | _ => none
theorem lstOf_of {H : Hp} {p : Addr} {xs : List V} (h : H p = some (.lst xs)) : lstOf H p = some xs := by unfold lstOf; rw [h]
theorem tupOf_of {H : Hp} {p : Addr} {xs : List V} (h : H p = some (.tup xs)) : tupOf H p = some xs := by unfold tupOf; rw [h]
theorem sqOf_lst {H : Hp} {p : Addr} {xs : List V} (h : H p = some (.lst xs)) : sqOf H p = some xs := by unfold sqOf; rw [h]
theorem sqOf_tup {H : Hp} {p : Addr} {xs : List V} (h : H p = some (.tup xs)) : sqOf H p = some xs := by unfold sqOf; rw [h]
theorem lstOf_upd {H : Hp} {p : Addr} {xs : List V} : lstOf (upd H p (.lst xs)) p = some xs := lstOf_of upd_same
theorem tupOf_upd {H : Hp} {p : Addr} {xs : List V} : tupOf (upd H p (.tup xs)) p = some xs := tupOf_of upd_same
theorem lstOf_sq {K : PySem.W.Frag} {H : Hp} {p : Addr} {xs : List V} (h : lstOf H p = some xs) : SqL K H p xs := by
  unfold lstOf at h
  split at h
  · next e => cases h; exact .inl (.inl e)
  · next e => cases h; exact .inl (.inr ⟨_, e⟩)
  · cases h
theorem tupOf_sq {K : PySem.W.Frag} {H : Hp} {p : Addr} {xs : List V} (h : tupOf H p = some xs) : SqT K H p xs := by
  unfold tupOf at h
  split at h
  · next e => cases h; exact .inl (.inl e)
  · next e => cases h; exact .inl (.inr ⟨_, e⟩)
  · cases h
theorem sqOf_sq {K : PySem.W.Frag} {H : Hp} {p : Addr} {xs : List V} (h : sqOf H p = some xs) : SqL K H p xs ∨ SqT K H p xs := by
  unfold sqOf at h
  split at h
  · next e => cases h; exact .inl (.inl (.inl e))
  · next e => cases h; exact .inl (.inl (.inr ⟨_, e⟩))
  · next e => cases h; exact .inr (.inl (.inl e))
  · next e => cases h; exact .inr (.inl (.inr ⟨_, e⟩))
  · cases h
def qIxL : R2 := fun x y H Q => ∃ p i, x = .ref p ∧ y = .int i ∧ ∃ xs, lstOf H p = some xs ∧ ∃ v, atI xs i = some v ∧ Q v H
def qIxT : R2 := fun x y H Q => ∃ p i, x = .ref p ∧ y = .int i ∧ ∃ xs, tupOf H p = some xs ∧ ∃ v, atI xs i = some v ∧ Q v H
theorem ix_l {X : Cx} : IxR X qIxL := by
  intro value slice pins s σ H x y v u Q I rx ry h hs
  obtain ⟨p, i, h1, h2, xs, h3, w, h4, q⟩ := h
  exact ix_list value slice pins s σ H x y v u Q I rx ry ⟨p, xs, i, w, h1, h2, lstOf_sq h3, h4, q⟩ hs
theorem ix_t {X : Cx} : IxR X qIxT := by
  intro value slice pins s σ H x y v u Q I rx ry h hs
  obtain ⟨p, i, h1, h2, xs, h3, w, h4, q⟩ := h
  exact ix_tup value slice pins s σ H x y v u Q I rx ry ⟨p, xs, i, w, h1, h2, tupOf_sq h3, h4, q⟩ hs
def qLenQ : List V → Hp → VK → Prop := fun xs H Q => ∃ p, xs = [.ref p] ∧ ∃ ys, sqOf H p = some ys ∧ Q (.int ys.length) H
theorem cl_len {X : Cx} : CallR X (.builtin "len") qLenQ := by
  intro pins s σ H xs us Q I r h
  obtain ⟨p, h1, ys, h2, q⟩ := h
  exact call_len_seq pins s σ H xs us Q I r ⟨p, ys, h1, sqOf_sq h2, q⟩
/-- an item of a written row -/
theorem atI_0 {α : Type} {x : α} {xs : List α} : atI (x :: xs) 0 = some x := by
  have h : (0 : Int) < ((x :: xs).length : Int) := by rw [List.length_cons]; omega
  simp only [atI, ixN, Int.le_refl, if_true, h, Option.bind_some, Int.toNat_zero, List.getElem?_cons_zero]
theorem atI_1 {α : Type} {x y : α} {xs : List α} : atI (x :: y :: xs) 1 = some y := atI_nat (j := 1) rfl
theorem atI_2 {α : Type} {x y z : α} {xs : List α} : atI (x :: y :: z :: xs) 2 = some z := atI_nat (j := 2) rfl
theorem atI_3 {α : Type} {x y z u : α} {xs : List α} : atI (x :: y :: z :: u :: xs) 3 = some u := atI_nat (j := 3) rfl
theorem ixN_0 {n : Nat} : ixN (n + 1) 0 = some 0 := by
  unfold ixN
  rw [if_pos (Int.le_refl 0), if_pos (by omega)]; rfl
theorem ixL0 {α : Type} {a : α} {l : List α} : ixN (a :: l).length 0 = some 0 := ixN_0
theorem ixL1 {α : Type} {a b : α} {l : List α} : ixN (a :: b :: l).length 1 = some 1 := by
  simp only [List.length_cons]
  unfold ixN
  rw [if_pos (by decide), if_pos (by omega)]; rfl
theorem ixL2 {α : Type} {a b c : α} {l : List α} : ixN (a :: b :: c :: l).length 2 = some 2 := by
  simp only [List.length_cons]
  unfold ixN
  rw [if_pos (by decide), if_pos (by omega)]; rfl
/-- a store into a tracked list -/
def qSetL : V → V → V → Hp → (Hp → Prop) → Prop := fun o i v H Q => ∃ p k, o = .ref p ∧ i = .int k ∧ ∃ xs, H p = some (.lst xs) ∧ ∃ j, ixN xs.length k = some j ∧ Q (upd H p (.lst (xs.set j v)))
theorem set_l {X : Cx} : PSet X qSetL := by
  intro pins s σ H o i v ov iv u Q I ro ri rv h
  obtain ⟨p, k, h1, h2, xs, h3, j, h4, q⟩ := h
  exact set_list pins s σ H o i v ov iv u Q I ro ri rv ⟨p, xs, k, j, h1, h2, h3, h4, q⟩
/-- a test that is a value's truth -/
def tTruth (K : PySem.W.Frag) (ta : TE) : TT := fun σ H Q => ta σ H fun x H' => ∃ k, TruV K x H' k ∧ Q k H'
/-- a module's constant -/
theorem pe_gI {X : Cx} {x : Str} {i : Int} {pos : Pos} (h : ∃ t, X.mg x = some (.int i t)) (hg : Gl X x := by rfl) (hd : (x == ("__debug__" : Str)) = false := by decide) : PE X (.Name x pos) (tC (.int i)) := by
  obtain ⟨t, e⟩ := h
  exact pe_glob hg e ⟨t, rfl⟩ hd
theorem pe_gS {X : Cx} {x : Str} {i : Str} {pos : Pos} (h : ∃ t, X.mg x = some (.str i t)) (hg : Gl X x := by rfl) (hd : (x == ("__debug__" : Str)) = false := by decide) : PE X (.Name x pos) (tC (.str i)) := by
  obtain ⟨t, e⟩ := h
  exact pe_glob hg e ⟨t, rfl⟩ hd
theorem pe_gR {X : Cx} {x : Str} {a : Addr} {pos : Pos} (h : X.mg x = some (.ref a)) (hg : Gl X x := by rfl) (hd : (x == ("__debug__" : Str)) = false := by decide) : PE X (.Name x pos) (tC (.ref a)) :=
  pe_glob hg h rfl hd
theorem pe_ty {X : Cx} {x : Str} {n : String} {pos : Pos} (hm : X.mg x = none) (hv : bootBuiltins x = some (.type n)) (hg : Gl X x := by rfl) (hn : x ≠ "__name__" := by decide) (hd : (x == ("__debug__" : Str)) = false := by decide) : PE X (.Name x pos) (tC (.ty n)) :=
  pe_bltn hg hm hv rfl hn hd

/-! ### a call by keywords alone, or behind some by place -/
/-- how it binds, by the def's text: n by place, then the keywords; g puts them in the parameters' order -/
def KwTxt (x : Str) (st : Stmt) (ps ks : List Str) (n : Nat) (g : List Value → List Value → List Value) : Prop :=
  ∀ (kV doc pm : Value) (an : Option Addr) (cdv ct : Value) (us ws : List Value), us.length = n → ws.length = ks.length →
    bindArgs (PySem.W.fnOf x x (defArgs st) (defBody st) (defScope st) .none kV doc pm an cdv ct) ⟨us, ks.zip ws⟩ = pure (ps.zip (g us ws))
def KwRel (n m : Nat) (g : List Value → List Value → List Value) (gV : List V → List V → List V) : Prop :=
  ∀ (vs zs : List V) (us ws : List Value), vs.length = n → zs.length = m → Vals vs us → Vals zs ws → Vals (gV vs zs) (g us ws)
def tCallKw (sp : Sp) (n m : Nat) (gV : List V → List V → List V) (t tk : TA) : TE := fun σ H Q => t σ H fun vs H1 => tk σ H1 fun zs H2 => vs.length = n ∧ zs.length = m ∧ sp (gV vs zs) H2 Q E0
section
variable {X : Cx} {x : Str} {st : Stmt} {k n : Nat} {ps ks : List Str} {sp : Sp} {p pos : Pos} {t tk : TA} {kws : List Keyword} {e : Expr} {es : List Expr}
variable {g : List Value → List Value → List Value} {gV : List V → List V → List V}
theorem runKw {f : Addr} {fd : FuncData} {pins : List (Addr × Obj)} {σ : St} {H : Hp} {s : Shared} {Q : VK} {us ws : List Value} {vs zs : List V}
    (F : Fun X.K x x st f fd) (G : FnOk X.prog X.w X.K X.mg X.base CX0 k f fd ps sp) (hr : Room k X.A) (hb : KwTxt x st ps ks n g) (hrel : KwRel n ks.length g gV)
    (I : Inv X pins σ H s) (r : Vals vs us) (rz : Vals zs ws) (h1 : vs.length = n) (h2 : zs.length = ks.length) (h : sp (gV vs zs) H Q E0) :
    wpAny (model X.prog X.w) X.A (call (.ref f) us (ks.zip ws)) (EP X pins σ Q) X.xe s := by
  have b : BindsTo s fd ⟨us, ks.zip ws⟩ (ps.zip (g us ws)) := by
    obtain ⟨oc, od, kV, doc, pm, an, cdv, ct, osl, rfl, lk, hcd⟩ := F.ex
    exact .of_eq (hb kV doc pm an cdv ct us ws (by rw [← r.length]; exact h1) (by rw [← rz.length]; exact h2))
  refine wpAny_call (codeAny_mono (G.run X.A X.stack s H ⟨us, ks.zip ws⟩ (g us ws) (gV vs zs) Q E0 hr I.env0 b (hrel vs zs us ws h1 h2 r rz) h) fun res s' hq => ?_)
  match res, hq with
  | .error _, hq => exact False.elim hq
  | .ok (.ret _), hq => exact I.after hq
  | .ok .next, hq => exact False.elim hq
  | .ok .brk, hq => exact False.elim hq
  | .ok .cont, hq => exact False.elim hq
/-- keywords only -/
theorem pe_fK0 (h : Has X.prog X.w X.K X.mg X.base x st k ps sp) (hr : Room k X.A) (hb : KwTxt x st ps ks 0 g) (hrel : KwRel 0 ks.length g gV)
    (hkw : PK X kws tk) (hg : Gl X x := by rfl) (hdb : (x == ("__debug__" : Str)) = false := by decide)
    (hall : (backToKw pos (keywordEach kws X.env)).all (·.1.isSome) = true := by rfl) (hks : (backToKw pos (keywordEach kws X.env)).filterMap (·.1) = ks := by rfl)
    (hpl : ((backTo pos (starEach [] X.env)).any (·.1) || (backToKw pos (keywordEach kws X.env)).any (·.1.isNone)) = false := by rfl) :
    PE X (.Call (.Name x p) [] kws pos) (tCallKw sp 0 ks.length gV tNil tk) := by
  obtain ⟨f, fd, hm, F, b, G⟩ := h.ex
  constructor
  intro pins s σ H Q I q
  refine wpAny_Call_Name_kw (ld_glob I hg hm ?_ hdb)
  refine PySem.W.callWith_KW0 (h₀ := X.base) I.ok.mod.kin F.kp hall (thn (hkw.run pos pins s σ H _ I q) ?_) hpl
  rintro ws s2 ⟨zs, H2, I2, rz, q1, q2, q3⟩
  refine ⟨I2.kIn, ?_⟩
  rw [hks]
  exact runKw F G hr hb hrel I2 .nil rz q1 q2 q3
theorem pe_fK (h : Has X.prog X.w X.K X.mg X.base x st k ps sp) (hr : Room k X.A) (hb : KwTxt x st ps ks n g) (hrel : KwRel n ks.length g gV)
    (ha : PA X (e :: es) t) (hkw : PK X kws tk) (hg : Gl X x := by rfl) (hdb : (x == ("__debug__" : Str)) = false := by decide)
    (hall : (backToKw pos (keywordEach kws X.env)).all (·.1.isSome) = true := by rfl) (hks : (backToKw pos (keywordEach kws X.env)).filterMap (·.1) = ks := by rfl)
    (he : starEach (e :: es) X.env = (false, eval e X.env) :: starEach es X.env := by rfl)
    (hpl : ((backTo pos (starEach (e :: es) X.env)).any (·.1) || (backToKw pos (keywordEach kws X.env)).any (·.1.isNone)) = false := by rfl) :
    PE X (.Call (.Name x p) (e :: es) kws pos) (tCallKw sp n ks.length gV t tk) := by
  obtain ⟨f, fd, hm, F, b, G⟩ := h.ex
  constructor
  intro pins s σ H Q I q
  refine wpAny_Call_Name_kw (ld_glob I hg hm ?_ hdb)
  refine PySem.W.callWith_KW (h₀ := X.base) I.ok.mod.kin F.kp hall (thn (ha.run pos pins s σ H _ I q) ?_) hpl he
  rintro us s1 ⟨vs, H1, I1, r, q0⟩
  refine thn (hkw.run pos pins s1 σ H1 _ I1 q0) ?_
  rintro ws s2 ⟨zs, H2, I2, rz, q1, q2, q3⟩
  refine ⟨I2.kIn, ?_⟩
  rw [hks]
  exact runKw F G hr hb hrel I2 r rz q1 q2 q3
end

/-! ### max of a tuple of ints -/
def qMaxT (K : PySem.W.Frag) : List V → Hp → VK → Prop := fun vs H Q => ∃ (a : Addr) (ns : List Int), vs = [V.ref a] ∧ SqT K H a (ns.map V.int) ∧ 0 < ns.length ∧ ∀ m, m ∈ ns → (∀ y, y ∈ ns → y ≤ m) → Q (.int m) H
theorem cl_maxT {X : Cx} (hc : X.calm = true) : CallR X (.builtin "max") (qMaxT X.K) := by
  intro pins s σ H vs us Q I r h
  obtain ⟨a, ns, rfl, hs, hne, q⟩ := h
  obtain ⟨its, rv, ht, _⟩ := I.tuple hs
  rw [Vals.ref1 r]
  have hi := rv.ints
  obtain ⟨xs, e⟩ := hi.allInts.items
  have hn : numsOf (intItems xs).toList = ns := by rw [← e]; exact hi.numsOf
  rw [nums_intItems] at hn
  subst hn
  have hz : 0 < xs.size := by simpa using hne
  have ht' : s.heap.IsTuple a (intItems xs) := by rw [← e]; exact ht
  have hal : a < s.heap.objs.size := by obtain ⟨o, ho, _⟩ := ht'; exact Heap.lt_size ho
  refine call_max_walk (wpAny_pyIter_tuple ht' ?_)
  refine ⟨s.heap.objs.size, [s.heap.objs.size, a], _, _, _, _, _, rfl, Walks.tuple (A := X.A.in1) (I.ok.hd hc) _ a (Nat.ne_of_lt hal) (intItems xs), ⟨⟨_, Heap.get?_push_size _ rfl, rfl, rfl⟩, ht'.at fun o q => Heap.get?_push_of_some _ q⟩, ?_, ?_, CmpOf.ints_gt (numAt xs) (fun _ _ => intItems_at), ?_⟩
  · intro b hb
    show b < (s.heap.push _).objs.size
    rw [Heap.size_push]
    have : b = s.heap.objs.size ∨ b = a := by simpa using hb
    rcases this with z | z
    · rw [z]; exact Nat.lt_succ_self _
    · rw [z]; exact Nat.lt_succ_of_lt hal
  · simpa [intItems] using hz
  · intro v h' tk hP hk
    obtain ⟨t, rfl⟩ := intItems_at (by simpa [intItems] using hP)
    have hsz : (intItems xs).size = xs.size := by simp [intItems]
    obtain ⟨h1, h2⟩ := argBest_gt (numAt xs) (xs.size - 1)
    refine ⟨.int _, H, I.kept (fun b o z => ?_), ⟨t, rfl⟩, q _ ?_ fun y hy => ?_⟩
    · refine hk b o (fun hm => ?_) (Heap.get?_push_of_some _ z)
      have : b = s.heap.objs.size := by simpa using hm
      exact absurd (this ▸ Heap.lt_size z) (Nat.lt_irrefl _)
    · rw [numAt_eq]
      exact PySem.getD_mem (by rw [List.length_map, Array.length_toList]; exact Nat.lt_of_le_of_lt h1 (Nat.sub_lt hz Nat.one_pos))
    · obtain ⟨j, hj, rfl⟩ := mem_getD hy
      rw [List.length_map, Array.length_toList] at hj
      rw [← numAt_eq]
      exact h2 j (by omega)

/-! ### readings of assignments, by their targets -/
theorem tAsg_name {te : TE} {i : Nat} : tAsg te (gName i) = fun D σ H => te σ H fun x H1 => D.nx (σ.set i (some x)) H1 := rfl
theorem tAsg_sub {te to ti : TE} {t : TSet} : tAsg te (gSub to ti t) = fun D σ H => te σ H fun x H1 => to σ H1 fun o H2 => ti σ H2 fun i H3 => t o i x H3 fun H4 => D.nx σ H4 := rfl
theorem tAsg_tup {K : PySem.W.Frag} {te : TE} {n : Nat} {t : TGs} : tAsg te (gTup K n t) = fun D σ H => te σ H fun x H1 => ∃ a xs, x = .ref a ∧ SqT K H1 a xs ∧ xs.length = n ∧ t xs σ H1 D.nx := rfl
theorem gName_ap {i : Nat} {v : V} {σ : St} {H : Hp} {Q : St → Hp → Prop} : gName i v σ H Q = Q (σ.set i (some v)) H := rfl
theorem gTup_ap {K : PySem.W.Frag} {n : Nat} {t : TGs} {v : V} {σ : St} {H : Hp} {Q : St → Hp → Prop} : gTup K n t v σ H Q = ∃ a xs, v = .ref a ∧ SqT K H a xs ∧ xs.length = n ∧ t xs σ H Q := rfl
theorem gCons_ap {t : TG} {u : TGs} {vs : List V} {σ : St} {H : Hp} {Q : St → Hp → Prop} : gCons t u vs σ H Q = ∃ v r, vs = v :: r ∧ t v σ H fun σ' H' => u r σ' H' Q := rfl
theorem gNil_ap {vs : List V} {σ : St} {H : Hp} {Q : St → Hp → Prop} : gNil vs σ H Q = (vs = [] ∧ Q σ H) := rfl
theorem gSub_ap {to ti : TE} {t : TSet} {v : V} {σ : St} {H : Hp} {Q : St → Hp → Prop} : gSub to ti t v σ H Q = to σ H fun o H1 => ti σ H1 fun i H2 => t o i v H2 fun H3 => Q σ H3 := rfl
/-! ### loops, by what they walk -/
section
variable {K : PySem.W.Frag} {g : TG} {tb : TS} {D : Ends} {σ : St} {H : Hp}
theorem for_v {i : Nat} {a : Addr} {xs : List V} (hv : σ[i]? = some (some (.ref a))) (Pv : Nat → St → Hp → Prop) (h0 : Pv 0 σ H) (hl : ∀ i σ H, i ≤ xs.length → Pv i σ H → SqL K H a xs)
    (hs : ∀ i x σ H, xs[i]? = some x → Pv i σ H → g x σ H fun σ2 H2 => tb { D with nx := Pv (i + 1), ct := Pv (i + 1), bk := D.nx } σ2 H2) (hd : ∀ σ H, Pv xs.length σ H → D.nx σ H) :
    tFor (iList K (tVar i)) g tb D σ H := ⟨_, hv, a, rfl, ⟨xs, hl 0 σ H (Nat.zero_le _) h0⟩, for_list (xs := xs) Pv h0 hl hs hd⟩
end

/-! ### loops whose ends are told apart -/
section
variable {K : PySem.W.Frag} {g : TG} {tb : TS} {nx : St → Hp → Prop} {rt : VK} {σ : St} {H : Hp}
theorem lp_list {a : Addr} {xs : List V} (Pv : Nat → St → Hp → Prop) (h0 : Pv 0 σ H) (hl : ∀ i σ H, i ≤ xs.length → Pv i σ H → SqL K H a xs)
    (hs : ∀ i x σ H, xs[i]? = some x → Pv i σ H → g x σ H fun σ2 H2 => tb ⟨Pv (i + 1), rt, nx, Pv (i + 1)⟩ σ2 H2) (hd : ∀ σ H, Pv xs.length σ H → nx σ H) :
    ∃ W : Nat → Nat → St → Hp → Prop, (∃ m, W 0 m σ H) ∧ ∀ i m σ H, W i m σ H →
      ((Itl K a).stop i H ∧ nx σ H) ∨ ((Itl K a).go i H ∧ ∃ N : St → Hp → Prop, (∀ σ' H', N σ' H' → ∃ m', m' < m ∧ W (i + 1) m' σ' H') ∧ ∀ x H', (Itl K a).yld i H x H' → g x σ H' fun σ2 H2 => tb ⟨N, rt, nx, N⟩ σ2 H2) :=
  for_list (D := ⟨nx, rt, fun _ _ => False, fun _ _ => False⟩) Pv h0 hl hs hd
theorem lp_tup {a : Addr} {xs : List V} (Pv : Nat → St → Hp → Prop) (h0 : Pv 0 σ H) (hl : ∀ i σ H, i ≤ xs.length → Pv i σ H → SqT K H a xs)
    (hs : ∀ i x σ H, xs[i]? = some x → Pv i σ H → g x σ H fun σ2 H2 => tb ⟨Pv (i + 1), rt, nx, Pv (i + 1)⟩ σ2 H2) (hd : ∀ σ H, Pv xs.length σ H → nx σ H) :
    ∃ W : Nat → Nat → St → Hp → Prop, (∃ m, W 0 m σ H) ∧ ∀ i m σ H, W i m σ H →
      ((Itt K a).stop i H ∧ nx σ H) ∨ ((Itt K a).go i H ∧ ∃ N : St → Hp → Prop, (∀ σ' H', N σ' H' → ∃ m', m' < m ∧ W (i + 1) m' σ' H') ∧ ∀ x H', (Itt K a).yld i H x H' → g x σ H' fun σ2 H2 => tb ⟨N, rt, nx, N⟩ σ2 H2) :=
  for_tup (D := ⟨nx, rt, fun _ _ => False, fun _ _ => False⟩) Pv h0 hl hs hd
theorem lp_enumT {a : Addr} {xs : List V} (Pv : Nat → St → Hp → Prop) (h0 : Pv 0 σ H) (hl : ∀ i σ H, i ≤ xs.length → Pv i σ H → SqT K H a xs)
    (hs : ∀ (i : Nat) x T σ H, xs[i]? = some x → Pv i σ H → H T = none → g (.ref T) σ (upd H T (.tup [.int (i : Nat), x])) fun σ2 H2 => tb ⟨Pv (i + 1), rt, nx, Pv (i + 1)⟩ σ2 H2) (hd : ∀ σ H, Pv xs.length σ H → nx σ H) :
    ∃ W : Nat → Nat → St → Hp → Prop, (∃ m, W 0 m σ H) ∧ ∀ i m σ H, W i m σ H →
      ((ItE K a).stop i H ∧ nx σ H) ∨ ((ItE K a).go i H ∧ ∃ N : St → Hp → Prop, (∀ σ' H', N σ' H' → ∃ m', m' < m ∧ W (i + 1) m' σ' H') ∧ ∀ x H', (ItE K a).yld i H x H' → g x σ H' fun σ2 H2 => tb ⟨N, rt, nx, N⟩ σ2 H2) :=
  for_enumT (D := ⟨nx, rt, fun _ _ => False, fun _ _ => False⟩) Pv h0 hl hs hd
theorem lp_rng {lo : Int} {n : Nat} (Pv : Nat → St → Hp → Prop) (h0 : Pv 0 σ H)
    (hs : ∀ i σ H, i < n → Pv i σ H → g (.int (lo + i)) σ H fun σ2 H2 => tb ⟨Pv (i + 1), rt, nx, Pv (i + 1)⟩ σ2 H2) (hd : ∀ σ H, Pv n σ H → nx σ H) :
    ∃ W : Nat → Nat → St → Hp → Prop, (∃ m, W 0 m σ H) ∧ ∀ i m σ H, W i m σ H →
      ((Itr lo n).stop i H ∧ nx σ H) ∨ ((Itr lo n).go i H ∧ ∃ N : St → Hp → Prop, (∀ σ' H', N σ' H' → ∃ m', m' < m ∧ W (i + 1) m' σ' H') ∧ ∀ x H', (Itr lo n).yld i H x H' → g x σ H' fun σ2 H2 => tb ⟨N, rt, nx, N⟩ σ2 H2) :=
  for_range (D := ⟨nx, rt, fun _ _ => False, fun _ _ => False⟩) Pv h0 hs hd
end

/-! ### comprehensions, by what they walk -/
section
variable {K : PySem.W.Frag} {g : TG} {tt : TT} {te : TE} {vs : List Nat} {σ : St} {H : Hp} {Q : VK} {tl : TE} {ta : TA}
/-- a turn of a comprehension -/
def LcTurn (g : TG) (tt : TT) (te : TE) (vs : List Nat) (σ : St) (D : Addr) (x : V) (H' : Hp) (N : Hp → Prop) : Prop :=
  g x (wipe σ vs) H' fun σ2 H2 => wipe σ2 vs = wipe σ vs ∧ tt σ2 H2 fun b H3 =>
    if b = true then te σ2 H3 fun y H4 => ∃ acc, H4 D = some (.lst acc) ∧ acc.length < sizeLine ∧ N (upd H4 D (.lst (acc ++ [y]))) else N H3
theorem lc_T {a : Addr} {xs : List V} (he : ∀ R : VK, R (.ref a) H → tl σ H R) (hq : SqT K H a xs) (Pv : Addr → Nat → Hp → Prop) (h0 : ∀ D, H D = none → Pv D 0 (upd H D (.lst [])))
    (hl : ∀ D i H', i ≤ xs.length → Pv D i H' → SqT K H' a xs) (hs : ∀ D i x H', xs[i]? = some x → Pv D i H' → LcTurn g tt te vs σ D x H' (Pv D (i + 1)))
    (hd : ∀ D H', Pv D xs.length H' → Q (.ref D) H') : tLc (iTup K tl) g tt te vs σ H Q :=
  he _ ⟨a, rfl, ⟨xs, hq⟩, fun D hD => lc_tup (xs := xs) (Pv D) (h0 D hD) (hl D) (hs D) (hd D)⟩
theorem lc_L {a : Addr} {xs : List V} (he : ∀ R : VK, R (.ref a) H → tl σ H R) (hq : SqL K H a xs) (Pv : Addr → Nat → Hp → Prop) (h0 : ∀ D, H D = none → Pv D 0 (upd H D (.lst [])))
    (hl : ∀ D i H', i ≤ xs.length → Pv D i H' → SqL K H' a xs) (hs : ∀ D i x H', xs[i]? = some x → Pv D i H' → LcTurn g tt te vs σ D x H' (Pv D (i + 1)))
    (hd : ∀ D H', Pv D xs.length H' → Q (.ref D) H') : tLc (iList K tl) g tt te vs σ H Q :=
  he _ ⟨a, rfl, ⟨xs, hq⟩, fun D hD => lc_list (xs := xs) (Pv D) (h0 D hD) (hl D) (hs D) (hd D)⟩
/-- over range(n); the heap may have changed before -/
theorem lc_R {H1 : Hp} {n : Nat} (he : ∀ R : List V → Hp → Prop, R [.int (n : Int)] H1 → ta σ H R) (hn : (n : Int) < 2 ^ 62) (Pv : Addr → Nat → Hp → Prop) (h0 : ∀ D, H1 D = none → Pv D 0 (upd H1 D (.lst [])))
    (hs : ∀ D i H', i < n → Pv D i H' → LcTurn g tt te vs σ D (.int (0 + (i : Nat))) H' (Pv D (i + 1)))
    (hd : ∀ D H', Pv D n H' → Q (.ref D) H') : tLc (iRng1 ta) g tt te vs σ H Q :=
  he _ ⟨n, rfl, by omega, hn, fun D hD => by
    have h := lc_range (lo := 0) (n := n) (tt := tt) (te := te) (g := g) (vs := vs) (σ := σ) (D := D) (H1 := H1) (Qd := fun H' => Q (.ref D) H') (Pv D) (h0 D hD) (hs D) (hd D)
    simpa using h⟩
theorem lc_R2 {n : Nat} {lo : Int} (he : ∀ R : List V → Hp → Prop, R [.int lo, .int (lo + n)] H → ta σ H R) (h1 : -(2 ^ 62) ≤ lo) (h2 : lo + n < 2 ^ 62) (Pv : Addr → Nat → Hp → Prop) (h0 : ∀ D, H D = none → Pv D 0 (upd H D (.lst [])))
    (hs : ∀ D i H', i < n → Pv D i H' → LcTurn g tt te vs σ D (.int (lo + (i : Nat))) H' (Pv D (i + 1)))
    (hd : ∀ D H', Pv D n H' → Q (.ref D) H') : tLc (iRng2 ta) g tt te vs σ H Q :=
  he _ ⟨lo, lo + n, rfl, ⟨h1, by omega, by omega, h2⟩, fun D hD => by
    have e : (lo + (n : Int) - lo).toNat = n := by omega
    rw [e]
    exact lc_range (lo := lo) (n := n) (Qd := fun H' => Q (.ref D) H') (Pv D) (h0 D hD) (hs D) (hd D)⟩
end

/-- a comprehension behind its source -/
def LcGo (J : It) (g : TG) (tt : TT) (te : TE) (vs : List Nat) (σ : St) (H1 : Hp) (Q : VK) : Prop := ∀ D, H1 D = none → ∃ W : Nat → Nat → Hp → Prop, (∃ m, W 0 m (upd H1 D (.lst []))) ∧ ∀ i m H, W i m H →
  (J.stop i H ∧ Q (.ref D) H) ∨ (J.go i H ∧ ∃ Nx : Hp → Prop, (∀ H', Nx H' → ∃ m', m' < m ∧ W (i + 1) m' H') ∧ ∀ x H', J.yld i H x H' → g x (wipe σ vs) H' fun σ2 H2 => wipe σ2 vs = wipe σ vs ∧ tt σ2 H2 fun b H3 =>
    if b = true then te σ2 H3 fun y H4 => ∃ acc, H4 D = some (.lst acc) ∧ acc.length < sizeLine ∧ Nx (upd H4 D (.lst (acc ++ [y]))) else Nx H3)
theorem tLc_go {wi : TI} {g : TG} {tt : TT} {te : TE} {vs : List Nat} : tLc wi g tt te vs = fun σ H Q => wi σ H fun J H1 => LcGo J g tt te vs σ H1 Q := rfl
section
variable {K : PySem.W.Frag} {g : TG} {tt : TT} {te : TE} {vs : List Nat} {σ : St} {H : Hp} {Q : VK}
theorem go_rng {lo : Int} {n : Nat} (Pv : Addr → Nat → Hp → Prop) (h0 : ∀ D, H D = none → Pv D 0 (upd H D (.lst [])))
    (hs : ∀ D i H', i < n → Pv D i H' → LcTurn g tt te vs σ D (.int (lo + (i : Nat))) H' (Pv D (i + 1)))
    (hd : ∀ D H', Pv D n H' → Q (.ref D) H') : LcGo (Itr lo n) g tt te vs σ H Q := fun D hD => lc_range (lo := lo) (n := n) (Qd := fun H' => Q (.ref D) H') (Pv D) (h0 D hD) (hs D) (hd D)
theorem go_list {a : Addr} {xs : List V} (Pv : Addr → Nat → Hp → Prop) (h0 : ∀ D, H D = none → Pv D 0 (upd H D (.lst [])))
    (hl : ∀ D i H', i ≤ xs.length → Pv D i H' → SqL K H' a xs) (hs : ∀ D i x H', xs[i]? = some x → Pv D i H' → LcTurn g tt te vs σ D x H' (Pv D (i + 1)))
    (hd : ∀ D H', Pv D xs.length H' → Q (.ref D) H') : LcGo (Itl K a) g tt te vs σ H Q := fun D hD => lc_list (xs := xs) (Qd := fun H' => Q (.ref D) H') (Pv D) (h0 D hD) (hl D) (hs D) (hd D)
theorem go_tup {a : Addr} {xs : List V} (Pv : Addr → Nat → Hp → Prop) (h0 : ∀ D, H D = none → Pv D 0 (upd H D (.lst [])))
    (hl : ∀ D i H', i ≤ xs.length → Pv D i H' → SqT K H' a xs) (hs : ∀ D i x H', xs[i]? = some x → Pv D i H' → LcTurn g tt te vs σ D x H' (Pv D (i + 1)))
    (hd : ∀ D H', Pv D xs.length H' → Q (.ref D) H') : LcGo (Itt K a) g tt te vs σ H Q := fun D hD => lc_tup (xs := xs) (Qd := fun H' => Q (.ref D) H') (Pv D) (h0 D hD) (hl D) (hs D) (hd D)
end

/-! ### rooms -/
theorem u64 {k : Nat} {A : Around} (r : Room k A) : A.units + 64 < cLine := r.units
end RA

/-! RaCls: own classes by their defs: methods, makers, properties, own in, == and !=. -/
namespace RA
open PySem PySem.Spec L2
open PyProof.Rows hiding St

/-! ### raw facts and promises of a class's defs -/
structure MRaw (K : PySem.W.Frag) (C : Addr) (m qual : Str) (st : Stmt) : Prop where
  ex : ∃ f fd, Meth K C m f ∧ Fun K m qual st f fd
structure HasM (P : Program) (w : World) (K : PySem.W.Frag) (mg : Str → Option Value) (base : Heap) (C : Addr) (m qual : Str) (st : Stmt) (k : Nat) (ps : List Str) (sp : Sp) : Prop where
  ex : ∃ f fd, Meth K C m f ∧ Fun K m qual st f fd ∧ Binds K fd ps [] ∧ FnOk P w K mg base CX0 k f fd ps sp
structure PRaw (K : PySem.W.Frag) (C : Addr) (m qual : Str) (st : Stmt) : Prop where
  ex : ∃ p f fd, PropOf K C m p f ∧ Fun K m qual st f fd
structure HasP (P : Program) (w : World) (K : PySem.W.Frag) (mg : Str → Option Value) (base : Heap) (C : Addr) (m qual : Str) (st : Stmt) (k : Nat) (ps : List Str) (sp : Sp) : Prop where
  ex : ∃ p f fd, PropOf K C m p f ∧ Fun K m qual st f fd ∧ Binds K fd ps [] ∧ FnOk P w K mg base CX0 k f fd ps sp
structure IRaw (K : PySem.W.Frag) (mg : Str → Option Value) (C : Addr) (cn qual : Str) (st : Stmt) : Prop where
  ex : ∃ f fd, mg cn = some (.ref C) ∧ Mk K C f ∧ Fun K "__init__" qual st f fd
structure HasI (P : Program) (w : World) (K : PySem.W.Frag) (mg : Str → Option Value) (base : Heap) (C : Addr) (cn qual : Str) (st : Stmt) (k : Nat) (ps : List Str) (sp : Sp) : Prop where
  ex : ∃ f fd, mg cn = some (.ref C) ∧ Mk K C f ∧ Fun K "__init__" qual st f fd ∧ Binds K fd ps [] ∧ FnOk P w K mg base CX0 k f fd ps sp

/-- how the arguments bind, by the def's text -/
def BindTxtQ (x qual : Str) (st : Stmt) (ps : List Str) : Prop := ∀ (kV doc pm : Value) (an : Option Addr) (cdv ct : Value) (us : List Value), us.length = ps.length →
  bindArgs (PySem.W.fnOf x qual (defArgs st) (defBody st) (defScope st) .none kV doc pm an cdv ct) ⟨us, []⟩ = pure (ps.zip us)

section
variable {P : Program} {w : World} {K : PySem.W.Frag} {mg : Str → Option Value} {base : Heap} {x qual cn : Str} {st : Stmt} {k : Nat} {N ps : List Str} {sp : Sp} {C : Addr}
theorem hasM_mk (R : MRaw K C x qual st) (S : FnScope N ps (defScope st)) (bt : BindTxtQ x qual st ps) (len : ∀ vs H Q E, sp vs H Q E → vs.length = ps.length)
    (hbody : ∀ (f : Addr) (cdv : Value) (A : Around) (outer : List Env) (s : Shared) (H : Hp) (vs : List V) (Q : VK) (E : XK), Room k (A.deeper (envOfC qual (defScope st) s.heap.objs.size f cdv)) → sp vs H Q E →
      ∃ t, PSs (cxOf CX0 P w K mg base N qual (defScope st) f cdv A outer s H E).nox (defBody st) t ∧ t { nx := fun _ H' => Q .non H', rt := Q } (start N vs) H) : HasM P w K mg base C x qual st (k + 1) ps sp := by
  obtain ⟨f, fd, hm, F⟩ := R.ex
  exact ⟨f, fd, hm, F, F.binds bt, F.ok S len (hbody f)⟩
theorem hasP_mk (R : PRaw K C x qual st) (S : FnScope N ps (defScope st)) (bt : BindTxtQ x qual st ps) (len : ∀ vs H Q E, sp vs H Q E → vs.length = ps.length)
    (hbody : ∀ (f : Addr) (cdv : Value) (A : Around) (outer : List Env) (s : Shared) (H : Hp) (vs : List V) (Q : VK) (E : XK), Room k (A.deeper (envOfC qual (defScope st) s.heap.objs.size f cdv)) → sp vs H Q E →
      ∃ t, PSs (cxOf CX0 P w K mg base N qual (defScope st) f cdv A outer s H E).nox (defBody st) t ∧ t { nx := fun _ H' => Q .non H', rt := Q } (start N vs) H) : HasP P w K mg base C x qual st (k + 1) ps sp := by
  obtain ⟨p, f, fd, hm, F⟩ := R.ex
  exact ⟨p, f, fd, hm, F, F.binds bt, F.ok S len (hbody f)⟩
theorem hasI_mk (R : IRaw K mg C cn qual st) (S : FnScope N ps (defScope st)) (bt : BindTxtQ "__init__" qual st ps) (len : ∀ vs H Q E, sp vs H Q E → vs.length = ps.length)
    (hbody : ∀ (f : Addr) (cdv : Value) (A : Around) (outer : List Env) (s : Shared) (H : Hp) (vs : List V) (Q : VK) (E : XK), Room k (A.deeper (envOfC qual (defScope st) s.heap.objs.size f cdv)) → sp vs H Q E →
      ∃ t, PSs (cxOf CX0 P w K mg base N qual (defScope st) f cdv A outer s H E).nox (defBody st) t ∧ t { nx := fun _ H' => Q .non H', rt := Q } (start N vs) H) : HasI P w K mg base C cn qual st (k + 1) ps sp := by
  obtain ⟨f, fd, hg, hm, F⟩ := R.ex
  exact ⟨f, fd, hg, hm, F, F.binds bt, F.ok S len (hbody f)⟩
end

/-! ### expressions -/
/-- e.f, an attribute of an instance of the class at C -/
def tFldC (C : Addr) (f : Str) (ta : TE) : TE := fun σ H Q => ta σ H fun x H1 => ∃ a dx fs v, x = .ref a ∧ H1 a = some (.ins C dx fs) ∧ fs.lookup f = some v ∧ Q v H1
/-- e.f = value, of an instance of the class at C -/
def sFldC (C : Addr) (f : Str) (ta tv : TE) : TS := fun D σ H => tv σ H fun y H1 => ta σ H1 fun x H2 => ∃ a dx fs, x = .ref a ∧ H2 a = some (.ins C dx fs) ∧ fs.length < 1000 ∧
  D.nx σ (upd H2 a (.ins C dx (putF f y fs)))
/-- C(k = v, ..) -/
def tMakeKw (C : Addr) (n m : Nat) (sp : Sp) (gV : List V → List V → List V) (t tk : TA) : TE := fun σ H Q => t σ H fun vs H1 => tk σ H1 fun zs H2 => vs.length = n ∧ zs.length = m ∧
  ∀ x dx, H2 x = none → H2 dx = none → dx ≠ x → sp (gV (.ref x :: vs) zs) (upd (upd H2 dx (.own x)) x (.ins C dx [])) (fun v H3 => v = .non ∧ Q (.ref x) H3) E0
def KwTxtQ (x qual : Str) (st : Stmt) (ps ks : List Str) (n : Nat) (g : {α : Type} → List α → List α → List α) : Prop := ∀ (kV doc pm : Value) (an : Option Addr) (cdv ct : Value) (us ws : List Value), us.length = n → ws.length = ks.length →
  bindArgs (PySem.W.fnOf x qual (defArgs st) (defBody st) (defScope st) .none kV doc pm an cdv ct) ⟨us, ks.zip ws⟩ = pure (ps.zip (g us ws))
section
variable {X : Cx} {x m qual cn f : Str} {st : Stmt} {k : Nat} {ps ks : List Str} {sp : Sp} {p pos apos : Pos} {e o : Expr} {es : List Expr} {t tk : TA} {ta tv : TE} {kws : List Keyword} {C : Addr} {g : {α : Type} → List α → List α → List α} {n : Nat}
theorem pe_mM {pl : Sem Bool} (h : HasM X.prog X.w X.K X.mg X.base C m qual st k ps sp) (hr : Room k X.A) (c : Cls X.K C) (he : PE X o ta) (ha : PA X (e :: es) t)
    (hst : starEach (e :: es) X.env = (false, eval e X.env) :: starEach es X.env := by rfl) (hpl : (backTo pos (starEach es X.env)).any (·.1) = false := by rfl)
    (ht : eval (.Call (.Attribute o m apos) (e :: es) [] pos) X.env = (do
      let ov ← eval o X.env
      standAt apos.atName
      let (f, first) ← holding [ov] (getMethod ov m pl)
      callWith pos f first (backTo pos (starEach (e :: es) X.env)) (backToKw pos (keywordEach [] X.env))) := by rfl) :
    PE X (.Call (.Attribute o m apos) (e :: es) [] pos) (tMeth C m sp [] E0 ta t) := by
  obtain ⟨f, fd, hm, F, b, G⟩ := h.ex
  exact pe_meth he c hm G hr b .nil pass0 ha hst hpl ht
theorem pe_mM0 {pl : Sem Bool} (h : HasM X.prog X.w X.K X.mg X.base C m qual st k ps sp) (hr : Room k X.A) (c : Cls X.K C) (he : PE X o ta)
    (ht : eval (.Call (.Attribute o m apos) [] [] pos) X.env = (do
      let ov ← eval o X.env
      standAt apos.atName
      let (f, first) ← holding [ov] (getMethod ov m pl)
      callWith pos f first (backTo pos (starEach [] X.env)) (backToKw pos (keywordEach [] X.env))) := by rfl) :
    PE X (.Call (.Attribute o m apos) [] [] pos) (tMeth C m sp [] E0 ta tNil) := by
  obtain ⟨f, fd, hm, F, b, G⟩ := h.ex
  exact pe_meth0 he c hm G hr b .nil pass0 (ht := ht)
theorem pe_mP (h : HasP X.prog X.w X.K X.mg X.base C m qual st k ps sp) (hr : Room (k + 1) X.A) (c : Cls X.K C) (he : PE X o ta) (hab : attributeBase o m X.env (eval o X.env) = eval o X.env := by rfl) :
    PE X (.Attribute o m pos) (tProp C sp [] E0 ta) := by
  obtain ⟨p, f, fd, hm, F, b, G⟩ := h.ex
  exact pe_prop he c hm G hr b .nil pass0 hab
theorem pe_mI (h : HasI X.prog X.w X.K X.mg X.base C x qual st k ps sp) (hr : Room (k + 1) X.A) (ha : PA X (e :: es) t) (hg : Gl X x := by rfl)
    (hdb : (x == ("__debug__" : Str)) = false := by decide) (he : starEach (e :: es) X.env = (false, eval e X.env) :: starEach es X.env := by rfl) (hpl : (backTo pos (starEach es X.env)).any (·.1) = false := by rfl) :
    PE X (.Call (.Name x p) (e :: es) [] pos) (tMake C sp [] E0 t) := by
  obtain ⟨f, fd, hm, M, F, b, G⟩ := h.ex
  exact pe_make M G hr hg hm b .nil pass0 ha hdb he hpl
theorem kbn_of {cn : Str} {fI : Addr} {fd : FuncData} (F : Fun X.K x qual st fI fd) (hb : KwTxtQ x qual st ps ks n g) (hrel : KwRel n ks.length g g) (n0 : n = n) :
    ∀ (s : Shared) (us ws : List Value), X.K.In s.heap → us.length = n → ws.length = ks.length → BindsTo s fd ⟨us, ks.zip ws⟩ (ps.zip (g us ws)) := by
  obtain ⟨oc, od, kV, doc, pm, an, cdv, ct, osl, rfl, lk, hcd⟩ := F.ex
  intro s us ws _ h1 h2
  exact .of_eq (hb kV doc pm an cdv ct us ws h1 h2)
theorem pe_fldC (c : Cls X.K C) (na : NoAttr X.K C f) (he : PE X e ta) (hb : attributeBase e f X.env (eval e X.env) = eval e X.env := by rfl) : PE X (.Attribute e f pos) (tFldC C f ta) := by
  refine ⟨fun pins s σ H Q I h => ?_⟩
  refine attr_of hb (thn (he.run pins s σ H _ I h) fun u s1 ⟨x, H1, I1, rx, a, dx, fs, v, ex, ea, l, q⟩ => ?_)
  subst ex
  obtain rfl : u = Value.ref a := rx
  exact getattr_ok I1 ea c na l fun u' s2 I2 ru => ⟨v, H1, I2, ru, q⟩
theorem ps_fldC {pos' : Pos} {value : Expr} (c : Cls X.K C) (na : NoAttr X.K C f) (ha : PE X o ta) (hv : PE X value tv) (hs : swapsWith value (some (.Attribute o f pos')) pos.line X.env = pure false := by rfl) :
    PS X (.Assign [.Attribute o f pos'] value pos) (sFldC C f ta tv) := by
  refine ⟨fun pins s σ H D I h => ?_⟩
  refine plainObj_wpAny_Assign_Attribute (thn (hv.run pins s σ H _ I h) fun u s1 ⟨y, H1, I1, ry, q⟩ => thn (ha.run pins s1 σ H1 _ I1 q) fun ov s2 ⟨x, H2, I2, rx, a, dx, fs, ex, ea, l, q2⟩ => ?_) hs
  subst ex
  obtain rfl : ov = Value.ref a := rx
  exact setattr_ok I2 ea c na l ry fun s3 I3 => ⟨σ, _, I3, q2⟩
end

/-! ### calls below, own operators -/
section
variable {X : Cx} {k : Nat} {f C : Addr} {fd : FuncData} {ps : List Str} {sp : Sp} {qual : Str} {st : Stmt}
theorem run_in1 {pins : List (Addr × Obj)} {σ : St} {H : Hp} {s : Shared} {Q : VK} {us : List Value} {vs : List V} (F : FnOk X.prog X.w X.K X.mg X.base CX0 k f fd ps sp) (hr : Room (k + 1) X.A) (hb : Binds X.K fd ps [])
    (I : Inv X pins σ H s) (r : Vals vs us) (h : sp vs H Q E0) : wpAny (model X.prog X.w) X.A.in1 (call (.ref f) us) (EP X pins σ Q) X.xe s := by
  have hl : (us ++ []).length = ps.length := by rw [List.append_nil, ← r.length]; exact F.len _ _ _ _ h
  have hb' : BindsTo s fd ⟨us, []⟩ (ps.zip us) := by
    have := hb s us I.kIn hl
    rwa [List.append_nil] at this
  refine wpAny_call (codeAny_mono (F.run X.A.in1 X.stack s H ⟨us, []⟩ us vs Q E0 hr.in1 I.env0.in1 hb' r h) fun res s' hq => ?_)
  match res, hq with
  | .error _, hq => exact False.elim hq
  | .ok (.ret _), hq => exact I.after hq
  | .ok .next, hq => exact False.elim hq
  | .ok .brk, hq => exact False.elim hq
  | .ok .cont, hq => exact False.elim hq
/-- x in c, c an instance of the class at C that has an own __contains__ -/
def rInOwn (C : Addr) (sp : Sp) (g : Bool → Bool) : R2 := fun x y H Q => ∃ a dx fs, y = .ref a ∧ H a = some (.ins C dx fs) ∧ sp [y, x] H (fun v H' => ∃ b : Bool, v = .bl b ∧ Q (.bl (g b)) H') E0
theorem contains_own {pins : List (Addr × Obj)} {σ : St} {H : Hp} {s : Shared} {x y : V} {u v : Value} {Q : Bool → Hp → Prop} (h : HasM X.prog X.w X.K X.mg X.base C "__contains__" qual st k ps sp) (hr : Room k X.A) (I : Inv X pins σ H s)
    (rx : RelV x v) (ry : RelV y u) (q : ∃ a dx fs, y = .ref a ∧ H a = some (.ins C dx fs) ∧ sp [y, x] H (fun z H' => ∃ b : Bool, z = .bl b ∧ Q b H') E0) : wpAny (model X.prog X.w) X.A (contains u v) (TP X pins σ Q) X.xe s := by
  obtain ⟨f, fd, hm, F, b, G⟩ := h.ex
  obtain ⟨a, dx, fs, rfl, ea, q⟩ := q
  cases (show u = Value.ref a from ry)
  obtain ⟨mA, O, _, _, _, _⟩ := ins_get I.hok ea
  obtain ⟨od, J, _⟩ := O.look
  have hf := beq_iff_eq.mp hm.fn
  unfold contains
  refine wpAny_holding ?_
  simp only [stdlibNamesSay?]
  refine wpAny_bind (wpAny_bind (J.type.here ((PySem.W.looks_findIn I.kIn hm.at_).here ?_)))
  refine wpAny_ite_false (by rfl) ?_
  unfold callSpecialUnlessNone?
  refine wpAny_bind (wpAny_bind (wpAny_bind (J.type.here ((PySem.W.looks_findIn I.kIn hm.at_).here ?_))))
  refine wpAny_holding (wpAny_bind ((PySem.W.bind_fn I.kIn _ hf).here ?_))
  refine wpAny_ite_false (by rfl) ?_
  refine wpAny_bind (wpAny_mono (run_fn (us := [.ref a, v]) (vs := [.ref a, x]) G hr b .nil pass0 I (.cons rfl (.cons rx .nil)) q) (fun w s' z => ?_) fun _ _ e => e)
  obtain ⟨zv, H', I', rz, b', rfl, qb⟩ := z
  cases (show w = Value.bool b' from rz)
  exact wpAny_pure (wpAny_truthy_bool ⟨H', I', qb⟩)
theorem op_inOwn (h : HasM X.prog X.w X.K X.mg X.base C "__contains__" qual st k ps sp) (hr : Room k X.A) : OpR X (compareOp .In) (rInOwn C sp fun b => b) := by
  intro pins s σ H x y v u Q I rx ry q
  obtain ⟨a, dx, fs, e1, e2, q⟩ := q
  show wpAny _ _ (contains u v >>= fun b => pure (Value.bool b)) _ _ _
  refine wpAny_bind (wpAny_mono (contains_own h hr I rx ry (Q := fun b H' => Q (.bl b) H') ⟨a, dx, fs, e1, e2, q⟩) (fun b s' z => ?_) fun _ _ e => e)
  obtain ⟨H', I', z⟩ := z
  exact wpAny_pure ⟨.bl b, H', I', rfl, z⟩
theorem op_notInOwn (h : HasM X.prog X.w X.K X.mg X.base C "__contains__" qual st k ps sp) (hr : Room k X.A) : OpR X (compareOp .NotIn) (rInOwn C sp fun b => !b) := by
  intro pins s σ H x y v u Q I rx ry q
  obtain ⟨a, dx, fs, e1, e2, q⟩ := q
  show wpAny _ _ (contains u v >>= fun b => pure (Value.bool (!b))) _ _ _
  refine wpAny_bind (wpAny_mono (contains_own h hr I rx ry (Q := fun b H' => Q (.bl (!b)) H') ⟨a, dx, fs, e1, e2, q⟩) (fun b s' z => ?_) fun _ _ e => e)
  obtain ⟨H', I', z⟩ := z
  exact wpAny_pure ⟨.bl (!b), H', I', rfl, z⟩
/-- what the library asks of the right side of == -/
theorem ty_looks {pins : List (Addr × Obj)} {σ : St} {H : Hp} {s : Shared} {y : V} {u t : Value} {M : Model} (I : Inv X pins σ H s) (ry : RelV y u) (ty : TyX X.K H y t) : PySem.W.Looks M s.heap (typeOf u) t := by
  obtain ⟨P, kx, hp, _⟩ := kit_of I ry ty
  exact kx.ty _ _ I.kIn hp
/-- x == y, x an instance of the class at C that has an own __eq__ -/
def rEqOwn (K : PySem.W.Frag) (C : Addr) (sp : Sp) (g : Bool → Bool) : R2 := fun x y H Q => ∃ a dx fs t, x = .ref a ∧ H a = some (.ins C dx fs) ∧ TyX K H y t ∧ PySem.W.notFirst K C t = true ∧ sp [x, y] H (fun v H' => ∃ b : Bool, v = .bl b ∧ Q (.bl (g b)) H') E0
theorem op_eqOwn (h : HasM X.prog X.w X.K X.mg X.base C "__eq__" qual st k ps sp) (hr : Room k X.A) : OpR X (compareOp .Eq) (rEqOwn X.K C sp fun b => b) := by
  intro pins s σ H x y v u Q I rx ry q
  obtain ⟨f, fd, hm, F, b, G⟩ := h.ex
  obtain ⟨a, dx, fs, t, rfl, ea, ty, nf, q⟩ := q
  cases (show v = Value.ref a from rx)
  obtain ⟨mA, O, _, _, _, _⟩ := ins_get I.hok ea
  obtain ⟨od, J, _⟩ := O.look
  obtain ⟨m, hF⟩ := I.fr
  show wpAny _ _ (richCompare .Eq (.ref a) u) _ _ _
  refine PySem.W.cmp_K (op := .Eq) (tb := t) hr.units0 hF I.ok.mod.kin J (ty_looks I ry ty) nf hm.at_ hm.fn ?_
  refine wpAny_mono (run_fn (us := [.ref a, u]) (vs := [.ref a, y]) G hr b .nil pass0 I (.cons rfl (.cons ry .nil)) q) (fun w s' z => ?_) fun _ _ e => e
  obtain ⟨zv, H', I', rz, b', rfl, qb⟩ := z
  cases (show w = Value.bool b' from rz)
  exact ⟨.bl b', H', I', rfl, qb⟩
/-- != by object's, which asks the own __eq__ -/
structure NeObj (K : PySem.W.Frag) (C : Addr) : Prop where
  ne : PySem.W.findIn K (.ref C) "__ne__" = some (some (.builtin "object.__ne__"))
  mo : PySem.W.mroIn K C (.type "object") = some true
theorem ne_bind (self : Value) : bindSpecial (.builtin "object.__ne__") self = pure (.builtin "object.__ne__", [self]) :=
  (Slot.of (T := "object") (name := "__ne__") (owner := "object") (n := "__ne__") (by rw [typeLookup_type, builtinLookup_eq_fast]; kernel_rfl) (by decide +kernel) (by decide +kernel) (by decide +kernel)
    (.inl (by decide +kernel)) (by rw [isSubtype_type]; kernel_rfl)).bind self
theorem op_neOwn (ne : NeObj X.K C) (h : HasM X.prog X.w X.K X.mg X.base C "__eq__" qual st k ps sp) (hr : Room (k + 1) X.A) : OpR X (compareOp .NotEq) (rEqOwn X.K C sp fun b => !b) := by
  intro pins s σ H x y v u Q I rx ry q
  obtain ⟨f, fd, hm, F, b, G⟩ := h.ex
  obtain ⟨a, dx, fs, t, rfl, ea, ty, nf, q⟩ := q
  cases (show v = Value.ref a from rx)
  obtain ⟨mA, O, _, _, _, _⟩ := ins_get I.hok ea
  obtain ⟨od, J, _⟩ := O.look
  have hb := ty_looks (M := model X.prog X.w) I ry ty
  have hu : X.A.units < cLine := hr.units0
  have hu1 : X.A.in1.units < cLine := hr.in1.units0
  have sub : PySem.W.Looks (model X.prog X.w) s.heap (isInstance (.ref a) (.type "object")) true := J.type.andThen (PySem.W.looks_mroIn I.kIn ne.mo)
  have inner : wpAny (model X.prog X.w) X.A.in1 (Builtin.«object.__ne__» ⟨[.ref a, u], []⟩) (fun fin s' => ∃ b', fin = .done (.ret (.bool (!b'))) ∧ ∃ H', Inv X pins σ H' s' ∧ Q (.bl (!b')) H') X.xe s := by
    unfold Builtin.«object.__ne__»
    repeat (first
      | with_reducible refine wpAny_cRoomFor hu1 ?_
      | (refine wpAny_bind (m := callSpecialIfBound? (.ref a) (Str.ofString "__eq__") [u]) (PySem.W.ifBound_K I.kIn J hm.at_ hm.fn
          (wpAny_mono (run_in1 (us := [.ref a, u]) (vs := [.ref a, y]) G hr b I (.cons rfl (.cons ry .nil)) q) (fun w s' z => by
            obtain ⟨zv, H', I', rz, b', rfl, qb⟩ := z
            cases (show w = Value.bool b' from rz)
            repeat (first | exact ⟨b', rfl, H', I', qb⟩ | (refine wpAny_bind (m := truthy (.bool _)) (wpAny_truthy_bool ?_)) | wp_step)) fun _ _ e => e)))
      | wp_step)
  have one : wpAny (model X.prog X.w) X.A (tryCompare (.ref a) "__ne__" u) (fun r s' => ∃ v, r = some v ∧ EP X pins σ Q v s') X.xe s := by
    unfold tryCompare
    refine wpAny_bind (m := callSpecialIfBound? (.ref a) (Str.ofString "__ne__") [u]) ?_
    simp only [callSpecialIfBound?, bindSpecialIfBound?]
    refine wpAny_holding (wpAny_bind (wpAny_bind (wpAny_bind (J.type.here ((PySem.W.looks_findIn I.kIn ne.ne).here ?_)))))
    simp only [ne_bind]
    refine wpAny_bind (wpAny_askSetting (wpAny_ite ?_))
    have hcall : wpAny (model X.prog X.w) X.A (call (.builtin "object.__ne__") [.ref a, u]) (fun v s' => ∃ b', v = .bool b' ∧ ∃ H', Inv X pins σ H' s' ∧ Q (.bl b') H') X.xe s := by
      refine wpAny_call (codeAny_call_builtin (by decide +kernel) PySem.F.cmpEntry_ne (PySem.W.check_slot PySem.F.cmpKind_ne PySem.F.cmpSplit_ne sub (PySem.F.cmpArgs_ne _ _) ?_))
      refine wpAny_mono inner (fun fin s' z => ?_) fun _ _ e => e
      obtain ⟨b', rfl, H', I', qb⟩ := z
      exact ⟨!b', rfl, H', I', qb⟩
    have fin : ∀ Z : Option Value → Shared → Prop, (∀ b' s', (∃ H', Inv X pins σ H' s' ∧ Q (.bl b') H') → Z (some (.bool b')) s') →
        wpAny (model X.prog X.w) X.A (call (.builtin "object.__ne__") ([.ref a] ++ [u]) >>= fun v => pure (some v)) Z X.xe s := fun Z hZ =>
      wpAny_bind (wpAny_mono hcall (fun v s' z => by
        obtain ⟨b', rfl, z⟩ := z
        exact wpAny_pure (hZ b' s' z)) fun _ _ e => e)
    have last : ∀ b' s', (∃ H', Inv X pins σ H' s' ∧ Q (.bl b') H') → ∃ v, (some (Value.bool b')) = some v ∧ EP X pins σ Q v s' := fun b' s' ⟨H', I', qb⟩ => ⟨_, rfl, .bl b', H', I', rfl, qb⟩
    split
    · exact wpAny_bind (wpAny_pure (wpAny_pure (fin _ fun b' s' z => wpAny_pure (last b' s' z))))
    · exact wpAny_tryCatch (wpAny_bind (wpAny_pure (wpAny_pure (fin _ fun b' s' z => wpAny_pure (last b' s' z)))))
  show wpAny _ _ (richCompare .NotEq (.ref a) u) _ _ _
  unfold richCompare
  simp only [oneThing_ref]
  refine wpAny_holding (wpAny_bind (wpAny_cRoomFor hu ?_))
  refine wpAny_bind (J.type.here (wpAny_bind (hb.here ?_)))
  split
  · rename_i q
    have e : PySem.W.subIn X.K t (.ref C) = some false := by
      rcases Bool.or_eq_true_iff.mp nf with e | e
      · rw [beq_iff_eq.mp e] at q; simp at q
      · exact beq_iff_eq.mp e
    refine wpAny_bind ((PySem.W.looks_subIn I.kIn e).here ?_)
    simp only [Bool.false_eq_true, if_false]
    refine wpAny_bind (wpAny_mono one (fun r s' z => ?_) fun _ _ e => e)
    obtain ⟨v, rfl, hq⟩ := z
    exact wpAny_pure hq
  · refine wpAny_bind (wpAny_pure ?_)
    simp only [Bool.false_eq_true, if_false]
    refine wpAny_bind (wpAny_mono one (fun r s' z => ?_) fun _ _ e => e)
    obtain ⟨v, rfl, hq⟩ := z
    exact wpAny_pure hq

/-- an instance of the class at C, without own truth, is true -/
def rTru (C : Addr) : V → Hp → (Bool → Hp → Prop) → Prop := fun x H Q => ∃ a dx fs, x = .ref a ∧ H a = some (.ins C dx fs) ∧ Q true H
theorem tru_own (hb : PySem.W.findIn X.K (.ref C) "__bool__" = some none) (hl : PySem.W.findIn X.K (.ref C) "__len__" = some none) : TruR X (rTru C) := by
  intro pins s σ H x v Q I rx q
  obtain ⟨a, dx, fs, rfl, ea, q⟩ := q
  cases (show v = Value.ref a from rx)
  obtain ⟨mA, O, _, _, _, _⟩ := ins_get I.hok ea
  obtain ⟨od, J, _⟩ := O.look
  obtain ⟨m, hF⟩ := I.fr
  exact PySem.W.truthy_K0 hF I.ok.mod.kin J hb hl ⟨H, I, q⟩
def tNotR (r : V → Hp → (Bool → Hp → Prop) → Prop) (ta : TE) : TE := fun σ H Q => ta σ H fun x H1 => r x H1 (fun c H2 => Q (.bl (!c)) H2)
theorem pe_notR {r : V → Hp → (Bool → Hp → Prop) → Prop} {a : Expr} {ta : TE} {pos : Pos} (hr : TruR X r) (ha : PE X a ta) : PE X (.UnaryOp .Not a pos) (tNotR r ta) := by
  refine ⟨fun pins s σ H Q I h => ?_⟩
  refine UnaryOp_ (thn (ha.run pins s σ H _ I h) fun v s1 ⟨x, H1, I1, r1, q1⟩ => ?_)
  exact not_of (thn (hr pins s1 σ H1 x v (fun c H2 => Q (.bl (!c)) H2) I1 r1 q1) fun c s2 ⟨H2, I2, q2⟩ => ⟨.bl (!c), H2, I2, rfl, q2⟩)
def tTruR (r : V → Hp → (Bool → Hp → Prop) → Prop) (ta : TE) : TT := fun σ H Q => ta σ H fun x H' => r x H' Q
/-- what isinstance asks of instances of the class at C -/
structure InsF (K : PySem.W.Frag) (C : Addr) : Prop where
  cl : Cls K C
  ha : PySem.W.findIn K (.ref C) "__class__" = some (some (.builtin "object.__class__"))
  hn : PySem.W.specialIn K (.builtin "object.__class__") "__get__" = some (some (.builtin "getset_descriptor.__get__"))
  htk : PySem.W.takesIn K (.builtin "object.__class__") = some true
  hm : PySem.W.mroIn K C (.type "object") = some true
theorem InsF.ty {K : PySem.W.Frag} {C a dx : Addr} {H : Hp} {fs : List (Str × V)} (F : InsF K C) (e : H a = some (.ins C dx fs)) : TyX K H (.ref a) (.ref C) := .base (.ins e F.cl F.ha F.hn F.htk F.hm)
theorem tyx_tup {K : PySem.W.Frag} {H : Hp} {a : Addr} {xs : List V} (h : SqT K H a xs) : TyX K H (.ref a) (.type "tuple") := by
  rcases h with (h | ⟨o, h⟩) | ⟨o, its, n, h, c, _⟩
  · exact .base (.tup h)
  · exact .fTuple h
  · exact .kTuple h c
theorem tyx_lst {K : PySem.W.Frag} {H : Hp} {a : Addr} {xs : List V} (h : SqL K H a xs) : TyX K H (.ref a) (.type "list") := by
  rcases h with (h | ⟨o, h⟩) | ⟨o, its, n, h, c, _⟩
  · exact .base (.lst h)
  · exact .base (.frz h)
  · exact .kList h c
/-- C(k = v, ..), keywords alone -/
theorem pe_mK0 {x : Str} {p pos : Pos} {kws : List Keyword} {ks : List Str} {tk : TA} {g : {α : Type} → List α → List α → List α} (h : HasI X.prog X.w X.K X.mg X.base C x qual st k ps sp) (hr : Room (k + 1) X.A)
    (hb : KwTxtQ "__init__" qual st ps ks 1 g) (hrel : KwRel 1 ks.length g g) (hkw : PK X kws tk) (hg : Gl X x := by rfl) (hdb : (x == ("__debug__" : Str)) = false := by decide)
    (hall : (backToKw pos (keywordEach kws X.env)).all (·.1.isSome) = true := by rfl) (hks : (backToKw pos (keywordEach kws X.env)).filterMap (·.1) = ks := by rfl)
    (hpl : ((backTo pos (starEach [] X.env)).any (·.1) || (backToKw pos (keywordEach kws X.env)).any (·.1.isNone)) = false := by rfl) :
    PE X (.Call (.Name x p) [] kws pos) (tMakeKw C 0 ks.length sp g tNil tk) := by
  obtain ⟨f, fd, hm, M, F, b, G⟩ := h.ex
  have kb : KBn X.K fd ps (0 + 1) ks (fun us ws => if us.length = 1 ∧ ws.length = ks.length then g us ws else us ++ ws) (fun vs zs => if vs.length = 1 ∧ zs.length = ks.length then g vs zs else vs ++ zs) := by
    obtain ⟨oc, od, kV, doc, pm, an, cdv, ct, osl, rfl, lk, hcd⟩ := F.ex
    refine ⟨fun s us ws _ h1 h2 => ?_, fun {vs us zs ws} r1 r2 => ?_⟩
    · rw [if_pos ⟨h1, h2⟩]
      exact .of_eq (hb kV doc pm an cdv ct us ws h1 h2)
    · by_cases c : vs.length = 1 ∧ zs.length = ks.length
      · rw [if_pos c, if_pos ⟨r1.length ▸ c.1, r2.length ▸ c.2⟩]
        exact hrel vs zs us ws c.1 c.2 r1 r2
      · rw [if_neg c, if_neg (fun z => c ⟨r1.length.trans z.1, r2.length.trans z.2⟩)]
        exact r1.append r2
  constructor
  intro pins s σ H Q I q
  refine wpAny_Call_Name_kw (ld_glob I hg hm ?_ hdb)
  refine PySem.W.callWith_KW0 (h₀ := X.base) I.ok.mod.kin M.kp hall (thn (hkw.run pos pins s σ H _ I q) ?_) hpl
  rintro ws s2 ⟨zs, H2, I2, rz, q1, q2, q3⟩
  refine ⟨I2.kIn, ?_⟩
  rw [hks]
  refine run_makeN M G hr kb pass0 I2 .nil rz q1 q2 fun x dx h1 h2 h3 => ?_
  rw [if_pos (⟨rfl, q2⟩ : [V.ref x].length = 1 ∧ zs.length = ks.length)]
  exact q3 x dx h1 h2 h3
end
theorem kit_own {K : PySem.W.Frag} {C : Addr} : PySem.W.kitOne K (.ref C) (.ref C) = some true := if_pos (beq_self_eq_true _)
theorem kit_sub {K : PySem.W.Frag} {t : Value} {C : Addr} {b : Bool} (h0 : (t == .ref C) = false) (h1 : PySem.W.isClsIn K C = true) (h2 : PySem.W.typeIn K (.ref C) = some (.type "type")) (h3 : PySem.W.subIn K t (.ref C) = some b) : PySem.W.kitOne K t (.ref C) = some b := by
  unfold PySem.W.kitOne PySem.W.kitCls
  rw [h0, if_neg (by decide)]
  show (if ((PySem.W.clsIn K C).isSome && PySem.W.typeIn K (.ref C) == some (.type "type")) = true then PySem.W.subIn K t (.ref C) else none) = some b
  rw [show (PySem.W.clsIn K C).isSome = true from h1, h2, if_pos (by simp)]
  exact h3
theorem not_first {K : PySem.W.Frag} {t : Value} {C : Addr} (h3 : PySem.W.subIn K t (.ref C) = some false) : PySem.W.notFirst K C t = true := by
  unfold PySem.W.notFirst
  rw [h3]
  simp
end RA

/-! RaPlain: plain facts that several laws use. -/
namespace RA
open PySem PySem.Spec L2
open PyProof.Rows hiding St
def ofNats (l : List Nat) : List V := l.map fun d => V.int (d : Nat)
def NotInt (K : PySem.W.Frag) (H : Hp) (v : V) : Prop := ∃ t, TyX K H v t ∧ PySem.W.kitOne K t (.type "int") = some false
/-- an int, a truth, or something else -/
inductive Kd (K : PySem.W.Frag) (H : Hp) : V → Prop
  | int (i : Int) : Kd K H (.int i)
  | bl (b : Bool) : Kd K H (.bl b)
  | not {v : V} (h : NotInt K H v) (h1 : ∀ i, v ≠ .int i) (h2 : ∀ b, v ≠ .bl b) : Kd K H v
def isI : V → Bool
  | .int _ => true
  | _ => false
def btw (lo : Int) (hi : Option Int) : V → Bool
  | .int i => decide (lo ≤ i) && (match hi with | none => true | some h => decide (i ≤ h))
  | _ => false
def optI : Option Int → V
  | none => .non
  | some i => .int i
/-- a pool that numbers are drawn from -/
def PoolAt (H : Hp) (p : Addr) : Prop := ∃ d s n : Int, H p = some (.lst [.int d, .int s, .int n])
/-- all but the object at p is as it was, and there stands a pool -/
def Drawn (p : Addr) (H H' : Hp) : Prop := (∀ b o, b ≠ p → H b = some o → H' b = some o) ∧ PoolAt H' p
def spIsInt (K : PySem.W.Frag) : Sp := fun vs H Q _ => ∃ v, vs = [v] ∧ Kd K H v ∧ Q (.bl (isI v)) H
def spBetween (K : PySem.W.Frag) : Sp := fun vs H Q _ => ∃ v lo hi, vs = [v, .int lo, optI hi] ∧ Kd K H v ∧ Q (.bl (btw lo hi v)) H
def spFresh (K : PySem.W.Frag) : Sp := fun vs H Q _ => ∃ (a : Addr) (ns : List Int) (k : Nat), vs = [.ref a, .int k] ∧ SqL K H a (ns.map V.int) ∧ ns.length ≤ 63 ∧ k < 63 ∧
  ∀ H' p, Same H H' → H p = none → PoolAt H' p → Q (.ref p) H'
def spDraw : Sp := fun vs H Q _ => ∃ (p : Addr) (w : Nat), vs = [.ref p, .int w] ∧ PoolAt H p ∧ 0 < w ∧ w < 1000000 ∧ ∀ (r : Nat) H', r < w → (∃ d s n : Int, H' = upd H p (.lst [.int d, .int s, .int n])) → Q (.int r) H'
def spOne : Sp := fun vs H Q _ => ∃ (p a : Addr) (xs : List V), vs = [.ref p, .ref a] ∧ PoolAt H p ∧ H a = some (.lst xs) ∧ a ≠ p ∧ 0 < xs.length ∧ xs.length < 1000000 ∧
  ∀ (r : Nat) v H', xs[r]? = some v → (∃ d s n : Int, H' = upd H p (.lst [.int d, .int s, .int n])) → Q v H'
def spLaw (K : PySem.W.Frag) : Sp := fun vs H Q _ => ∃ (a : Addr) (ns : List Int), vs = [.ref a] ∧ SqL K H a (ns.map V.int) ∧ ns.length ≤ 63 ∧ ∀ H', Q (.bl true) H'
theorem isInt_kit {K : PySem.W.Frag} : PySem.W.kitOne K (.type "int") (.type "int") = some true := kit_ty (by decide +kernel)
theorem isInt_bool {K : PySem.W.Frag} : PySem.W.kitOne K (.type "int") (.type "bool") = some false := kit_ty (by decide +kernel)
theorem bool_int {K : PySem.W.Frag} : PySem.W.kitOne K (.type "bool") (.type "int") = some true := kit_ty (by decide +kernel)
theorem bool_bool {K : PySem.W.Frag} : PySem.W.kitOne K (.type "bool") (.type "bool") = some true := kit_ty (by decide +kernel)
theorem fin_nat {Q : VK} {z : Int} {H : Hp} (h0 : 0 ≤ z) (h : ∀ r : Nat, (r : Int) = z → Q (.int (r : Int)) H) : Q (.int z) H := by
  have e : ((z.toNat : Nat) : Int) = z := Int.toNat_of_nonneg h0
  rw [← e]
  exact h _ e
theorem ofNats_length (l : List Nat) : (ofNats l).length = l.length := by simp [ofNats]
theorem ofNats_append (l m : List Nat) : ofNats (l ++ m) = ofNats l ++ ofNats m := by simp [ofNats]
theorem ofNats_reverse (l : List Nat) : ofNats l.reverse = (ofNats l).reverse := by simp [ofNats]
theorem Same.newp {H0 H : Hp} {p : Addr} {o : HO} (s : Same H0 H) (hp : H p = none) : Same H0 (upd H p o) := fun b u h => by
  rw [upd_ne (ne_of_none (s b u h) hp)]
  exact s b u h
theorem Same.oldp {H0 H : Hp} {p : Addr} {o : HO} (s : Same H0 H) (hp : H0 p = none) : Same H0 (upd H p o) := fun b u h => by
  rw [upd_ne (ne_of_none h hp)]
  exact s b u h
theorem ofNats_get {l : List Nat} {i : Nat} {x : V} (h : (ofNats l)[i]? = some x) : ∃ d, l[i]? = some d ∧ x = .int (d : Nat) := by
  rw [ofNats, List.getElem?_map] at h
  cases e : l[i]? with
  | none => rw [e] at h; cases h
  | some d => rw [e] at h; exact ⟨d, rfl, (Option.some.inj h).symm⟩
theorem take_succ_get {α : Type} {l : List α} {i : Nat} {x : α} (h : l[i]? = some x) : l.take (i + 1) = l.take i ++ [x] := by
  rw [List.take_add_one, h]; rfl
def But (p : Addr) (H H' : Hp) : Prop := ∀ b o, b ≠ p → H b = some o → H' b = some o
theorem But.refl (p : Addr) (H : Hp) : But p H H := fun _ _ _ h => h
theorem But.trans {p : Addr} {H H1 H2 : Hp} (a : But p H H1) (b : But p H1 H2) : But p H H2 := fun c o n h => b c o n (a c o n h)
theorem But.new {p r : Addr} {H H' : Hp} {o : HO} (a : But p H H') (hr : H' r = none) : But p H (upd H' r o) := fun b u n h => by
  have h' := a b u n h
  rw [upd_ne (ne_of_none h' hr)]
  exact h'
theorem But.at {p : Addr} {H H' : Hp} {o : HO} (a : But p H H') : But p H (upd H' p o) := fun b u n h => by
  rw [upd_ne n]
  exact a b u n h
theorem Same.but {p : Addr} {H H' : Hp} (a : Same H H') : But p H H' := fun b o _ h => a b o h
theorem But.same {p : Addr} {H H' : Hp} (a : But p H H') (hp : H p = none) : Same H H' := fun b o h => a b o (ne_of_none h hp) h
theorem But.free {p r : Addr} {H H' : Hp} (a : But p H H') (hr : H' r = none) (n : r ≠ p) : H r = none := by
  cases q : H r with
  | none => rfl
  | some o => rw [a r o n q] at hr; cases hr
def Rows (H : Hp) (rs : List Addr) (xss : List (List V)) : Prop := rs.length = xss.length ∧ ∀ (i : Nat) (r : Addr) (xs : List V), rs[i]? = some r → xss[i]? = some xs → H r = some (.tup xs)
theorem Rows.nil {H : Hp} : Rows H [] [] := ⟨rfl, fun i r xs h => by simp at h⟩
theorem Rows.mono {H H' : Hp} {rs : List Addr} {xss : List (List V)} (h : Rows H rs xss) (k : ∀ r xs, r ∈ rs → H r = some (.tup xs) → H' r = some (.tup xs)) : Rows H' rs xss :=
  ⟨h.1, fun i r xs h1 h2 => k r xs (List.mem_of_getElem? h1) (h.2 i r xs h1 h2)⟩
theorem Rows.snoc {H : Hp} {rs : List Addr} {xss : List (List V)} {r : Addr} {xs : List V} (h : Rows H rs xss) (hr : H r = some (.tup xs)) : Rows H (rs ++ [r]) (xss ++ [xs]) := by
  refine ⟨by simp [h.1], fun i q ys h1 h2 => ?_⟩
  by_cases c : i < rs.length
  · rw [List.getElem?_append_left c] at h1
    rw [List.getElem?_append_left (by rw [← h.1]; exact c)] at h2
    exact h.2 i q ys h1 h2
  · rw [List.getElem?_append_right (by omega)] at h1
    rw [List.getElem?_append_right (by rw [← h.1]; omega), ← h.1] at h2
    have e : i - rs.length = 0 := by
      rcases Nat.eq_zero_or_pos (i - rs.length) with z | z
      · exact z
      · obtain ⟨j, hj⟩ : ∃ j, i - rs.length = j + 1 := ⟨i - rs.length - 1, by omega⟩
        rw [hj] at h1
        simp at h1
    rw [e] at h1 h2
    simp at h1 h2
    rw [← h1, ← h2]
    exact hr
theorem Rows.mem {H : Hp} {rs : List Addr} {xss : List (List V)} (h : Rows H rs xss) {r : Addr} (hr : r ∈ rs) : ∃ xs, H r = some (.tup xs) := by
  obtain ⟨i, hi⟩ := List.getElem?_of_mem hr
  have hlt := (List.getElem?_eq_some_iff.mp hi).1
  obtain ⟨xs, hx⟩ : ∃ xs, xss[i]? = some xs := ⟨xss[i]'(h.1 ▸ hlt), List.getElem?_eq_getElem _⟩
  exact ⟨xs, h.2 i r xs hi hx⟩
theorem refs_get {rs : List Addr} {i : Nat} {x : V} (h : (rs.map V.ref)[i]? = some x) : ∃ r, rs[i]? = some r ∧ x = .ref r := by
  rw [List.getElem?_map] at h
  cases e : rs[i]? with
  | none => rw [e] at h; cases h
  | some r => rw [e] at h; exact ⟨r, rfl, (Option.some.inj h).symm⟩
theorem cutV_mem {xs : List V} {lo hi : Option Int} {i : Nat} {x : V} (h : (cutV xs lo hi)[i]? = some x) : x ∈ xs := by
  have h1 := List.mem_of_getElem? h
  exact List.mem_of_mem_drop (List.mem_of_mem_take h1)
theorem at_new {H : Hp} {a p : Addr} {o o' : HO} (h : H a = some o) (hp : H p = none) : upd H p o' a = some o := by
  rw [upd_ne (ne_of_none h hp)]
  exact h
theorem Drawn.refl {p : Addr} {H : Hp} (h : PoolAt H p) : Drawn p H H := ⟨But.refl p H, h⟩
theorem Drawn.trans {p : Addr} {H H1 H2 : Hp} (a : Drawn p H H1) (b : Drawn p H1 H2) : Drawn p H H2 := ⟨But.trans a.1 b.1, b.2⟩
theorem PoolAt.new {p r : Addr} {H : Hp} {o : HO} (h : PoolAt H p) (hr : H r = none) : PoolAt (upd H r o) p := by
  obtain ⟨d, s, n, e⟩ := h
  exact ⟨d, s, n, by rw [upd_ne (ne_of_none e hr)]; exact e⟩
theorem PoolAt.ne {p r : Addr} {H : Hp} {o : HO} (h : PoolAt H p) (hne : p ≠ r) : PoolAt (upd H r o) p := by
  obtain ⟨d, s, n, e⟩ := h
  exact ⟨d, s, n, by rw [upd_ne hne]; exact e⟩
theorem PoolAt.not {p r : Addr} {H : Hp} (h : PoolAt H p) (hr : H r = none) : r ≠ p := by
  obtain ⟨d, s, n, e⟩ := h
  intro z
  rw [z, e] at hr; cases hr
theorem Drawn.new {p r : Addr} {H H' : Hp} {o : HO} (a : Drawn p H H') (hr : H' r = none) : Drawn p H (upd H' r o) := ⟨But.new a.1 hr, a.2.new hr⟩
theorem Drawn.own {p r : Addr} {H H' : Hp} {o : HO} (a : Drawn p H H') (hr : H r = none) (hne : r ≠ p) : Drawn p H (upd H' r o) :=
  ⟨fun b u n h => by rw [upd_ne (ne_of_none h hr)]; exact a.1 b u n h, a.2.ne (Ne.symm hne)⟩
theorem Drawn.free {p r : Addr} {H H' : Hp} (a : Drawn p H H') (hr : H' r = none) : H r = none := But.free a.1 hr (a.2.not hr)
theorem sqL_grow {K : PySem.W.Frag} {H H' : Hp} {a : Addr} {xs : List V} (h : SqL K H a xs) (e : Same H H') : SqL K H' a xs :=
  h.elim (fun h => .inl (h.elim (fun h => .inl (e _ _ h)) fun ⟨o, h⟩ => .inr ⟨o, e _ _ h⟩)) fun h => .inr h
theorem sqT_grow {K : PySem.W.Frag} {H H' : Hp} {a : Addr} {xs : List V} (h : SqT K H a xs) (e : Same H H') : SqT K H' a xs :=
  h.elim (fun h => .inl (h.elim (fun h => .inl (e _ _ h)) fun ⟨o, h⟩ => .inr ⟨o, e _ _ h⟩)) fun h => .inr h
mutual
theorem dp_grow {K : PySem.W.Frag} {H H' : Hp} (e : Same H H') : ∀ (d : PyData) (v : V), Dp K H v d → Dp K H' v d
  | .none, _, h => by cases h; exact .non
  | .bool b, _, h => by cases h; exact .bl b
  | .int i, _, h => by cases h; exact .int i
  | .str x, _, h => by cases h; exact .str x
  | .list ds, _, h => by
    cases h with
    | lst hs ha => exact .lst (sqL_grow hs e) (dp_growAll e ds _ ha)
  | .tuple ds, _, h => by
    cases h with
    | tup hs ha => exact .tup (sqT_grow hs e) (dp_growAll e ds _ ha)
  | .dict _, _, h => by cases h
theorem dp_growAll {K : PySem.W.Frag} {H H' : Hp} (e : Same H H') : ∀ (ds : List PyData) (vs : List V), DpAll K H vs ds → DpAll K H' vs ds
  | [], _, h => by cases h; exact .nil
  | d :: ds, _, h => by
    cases h with
    | cons h1 h2 => exact .cons (dp_grow e d _ h1) (dp_growAll e ds _ h2)
end
theorem PoolAt.same {p : Addr} {H H1 : Hp} (h : PoolAt H p) (s : Same H H1) : PoolAt H1 p := by
  obtain ⟨d, e, n, h⟩ := h
  exact ⟨d, e, n, s _ _ h⟩
theorem draw_c {p : Addr} {H : Hp} {Q : VK} {E : XK} {z : Int} {w : Nat} (hp : PoolAt H p) (hz : z = (w : Int)) (h0 : 0 < w) (h1 : w < 1000000) (k : ∀ (r : Nat) H', r < w → Drawn p H H' → Q (.int r) H') :
    spDraw [.ref p, .int z] H Q E := ⟨p, w, by rw [hz], hp, h0, h1, fun r H' hr ⟨d, s, n, e⟩ => k r H' hr (by
      subst e
      exact ⟨But.at (But.refl p H), d, s, n, upd_same⟩)⟩
theorem one_c {p a : Addr} {H : Hp} {Q : VK} {E : XK} {xs : List V} (hp : PoolAt H p) (ha : H a = some (.lst xs)) (hne : a ≠ p) (h0 : 0 < xs.length) (h1 : xs.length < 1000000) (k : ∀ v H', v ∈ xs → Drawn p H H' → Q v H') :
    spOne [.ref p, .ref a] H Q E := ⟨p, a, xs, rfl, hp, ha, hne, h0, h1, fun r v H' hr ⟨d, s, n, e⟩ => k v H' (List.mem_of_getElem? hr) (by
      subst e
      exact ⟨But.at (But.refl p H), d, s, n, upd_same⟩)⟩
theorem fin_mod {Q : VK} {z : Int} {w : Nat} {H : Hp} (hw : 0 < w) (h : ∀ r : Nat, r < w → Q (.int (r : Int)) H) : Q (.int (z % (w : Int))) H := by
  have hw' : (0 : Int) < (w : Int) := by omega
  have h0 := Int.emod_nonneg z (by omega : (w : Int) ≠ 0)
  have h1 := Int.emod_lt_of_pos z hw'
  exact fin_nat h0 fun r hr => h r (by omega)
end RA

/-! RaComp: comprehensions whose turns only make objects, or draw from a pool. -/
namespace RA
open PySem PySem.Spec L2
open PyProof.Rows hiding St
/-- a turn's element, if its tests let it -/
def LcStep (g : TG) (tt : TT) (te : TE) (vs : List Nat) (σ : St) (x : V) (H' : Hp) (R : Option V → Hp → Prop) : Prop :=
  g x (wipe σ vs) H' fun σ2 H2 => wipe σ2 vs = wipe σ vs ∧ tt σ2 H2 fun b H3 => if b = true then te σ2 H3 fun y H4 => R (some y) H4 else R none H3
theorem LcStep.turn {g : TG} {tt : TT} {te : TE} {vs : List Nat} {σ : St} {D : Addr} {x : V} {H' : Hp} {N : Hp → Prop}
    (h : LcStep g tt te vs σ x H' (fun o H4 => match o with | some y => ∃ acc, H4 D = some (.lst acc) ∧ acc.length < sizeLine ∧ N (upd H4 D (.lst (acc ++ [y]))) | none => N H4)) : LcTurn g tt te vs σ D x H' N := h
section
variable {K : PySem.W.Frag} {g : TG} {tt : TT} {te : TE} {vs : List Nat} {σ : St} {H : Hp} {Q : VK}
/-- what the turns keep: the heap has only grown, the list of the results -/
structure SInv (H : Hp) (P : List V → Prop) (D : Addr) (H' : Hp) : Prop where
  new : H D = none
  same : Same H H'
  ex : ∃ acc, H' D = some (.lst acc) ∧ P acc
theorem SInv.step {P P' : List V → Prop} {D : Addr} {H' : Hp} {g : TG} {tt : TT} {te : TE} {vs : List Nat} {σ : St} {x : V} (n : Nat) (hn : n ≤ 16777215) (i : SInv H P D H') (hl : ∀ acc, P acc → acc.length ≤ n)
    (h : ∀ acc R, P acc → (∀ o H'', Same H' H'' → P' (acc ++ o.toList) → R o H'') → LcStep g tt te vs σ x H' R) : LcTurn g tt te vs σ D x H' (SInv H P' D) := by
  obtain ⟨h1, h2, acc, h3, h4⟩ := i
  refine LcStep.turn (h acc _ h4 fun o H'' s p => ?_)
  have hz : sizeLine = 16777216 := rfl
  have := hl acc h4
  cases o with
  | none => exact ⟨h1, h2.trans s, acc, s _ _ h3, by simpa using p⟩
  | some y => exact ⟨acc, s _ _ h3, by omega, h1, Same.oldp (h2.trans s) h1, _, upd_same, p⟩
theorem SInv.zero {P : List V → Prop} {D : Addr} (h : H D = none) (p : P []) : SInv H P D (upd H D (.lst [])) := ⟨h, Same.newp (Same.refl H) h, [], upd_same, p⟩
theorem acc_rng {lo : Int} {n : Nat} (P : Nat → List V → Prop) (hn : n ≤ 16777215) (h0 : P 0 []) (hl : ∀ i acc, i < n → P i acc → acc.length ≤ i)
    (hs : ∀ i acc H' R, i < n → P i acc → Same H H' → (∀ o H'', Same H' H'' → P (i + 1) (acc ++ o.toList) → R o H'') → LcStep g tt te vs σ (.int (lo + (i : Nat))) H' R)
    (hd : ∀ D acc H', Same H H' → H D = none → H' D = some (.lst acc) → P n acc → Q (.ref D) H') : LcGo (Itr lo n) g tt te vs σ H Q :=
  go_rng (fun D i => SInv H (P i) D) (fun D hD => SInv.zero hD h0) (fun D i H' hi iv => iv.step i (by omega) (fun acc p => hl i acc hi p) fun acc R p k => hs i acc H' R hi p iv.same k)
    (fun D H' iv => by obtain ⟨a, b, acc, c, d⟩ := iv; exact hd D acc H' b a c d)
theorem acc_list {a : Addr} {xs : List V} (hq : SqL K H a xs) (P : Nat → List V → Prop) (hn : xs.length ≤ 16777215) (h0 : P 0 []) (hl : ∀ i acc, i < xs.length → P i acc → acc.length ≤ i)
    (hs : ∀ (i : Nat) (x : V) (acc : List V) (H' : Hp) (R : Option V → Hp → Prop), xs[i]? = some x → P i acc → Same H H' → (∀ o H'', Same H' H'' → P (i + 1) (acc ++ o.toList) → R o H'') → LcStep g tt te vs σ x H' R)
    (hd : ∀ D acc H', Same H H' → H D = none → H' D = some (.lst acc) → P xs.length acc → Q (.ref D) H') : LcGo (Itl K a) g tt te vs σ H Q :=
  go_list (fun D i => SInv H (P i) D) (fun D hD => SInv.zero hD h0) (fun D i H' _ iv => sqL_grow hq iv.same)
    (fun D i x H' hx iv => by
      have hi := (List.getElem?_eq_some_iff.mp hx).1
      exact iv.step i (by omega) (fun acc p => hl i acc hi p) fun acc R p k => hs i x acc H' R hx p iv.same k)
    (fun D H' iv => by obtain ⟨a, b, acc, c, d⟩ := iv; exact hd D acc H' b a c d)
theorem acc_tup {a : Addr} {xs : List V} (hq : SqT K H a xs) (P : Nat → List V → Prop) (hn : xs.length ≤ 16777215) (h0 : P 0 []) (hl : ∀ i acc, i < xs.length → P i acc → acc.length ≤ i)
    (hs : ∀ (i : Nat) (x : V) (acc : List V) (H' : Hp) (R : Option V → Hp → Prop), xs[i]? = some x → P i acc → Same H H' → (∀ o H'', Same H' H'' → P (i + 1) (acc ++ o.toList) → R o H'') → LcStep g tt te vs σ x H' R)
    (hd : ∀ D acc H', Same H H' → H D = none → H' D = some (.lst acc) → P xs.length acc → Q (.ref D) H') : LcGo (Itt K a) g tt te vs σ H Q :=
  go_tup (fun D i => SInv H (P i) D) (fun D hD => SInv.zero hD h0) (fun D i H' _ iv => sqT_grow hq iv.same)
    (fun D i x H' hx iv => by
      have hi := (List.getElem?_eq_some_iff.mp hx).1
      exact iv.step i (by omega) (fun acc p => hl i acc hi p) fun acc R p k => hs i x acc H' R hx p iv.same k)
    (fun D H' iv => by obtain ⟨a, b, acc, c, d⟩ := iv; exact hd D acc H' b a c d)
/-- each turn gives what f says -/
theorem fm_len {α : Type} (f : Nat → Option α) (i : Nat) : ((List.range i).filterMap f).length ≤ i := Nat.le_trans (List.length_filterMap_le _ _) (by simp)
theorem fm_succ {α : Type} (f : Nat → Option α) (i : Nat) : (List.range (i + 1)).filterMap f = (List.range i).filterMap f ++ (f i).toList := by
  rw [List.range_succ, List.filterMap_append]
  cases h : f i <;> simp [h]
theorem map_rng {lo : Int} {n : Nat} (f : Nat → Option V) (hn : n ≤ 16777215)
    (hs : ∀ i H' R, i < n → Same H H' → (∀ H'', Same H' H'' → R (f i) H'') → LcStep g tt te vs σ (.int (lo + (i : Nat))) H' R)
    (hd : ∀ D H', Same H H' → H D = none → H' D = some (.lst ((List.range n).filterMap f)) → Q (.ref D) H') : LcGo (Itr lo n) g tt te vs σ H Q :=
  acc_rng (fun i acc => acc = (List.range i).filterMap f) hn rfl (fun i acc _ h => by rw [h]; exact fm_len f i)
    (fun i acc H' R hi h s k => hs i H' R hi s fun H'' s' => k _ _ s' (by rw [h, fm_succ])) (fun D acc H' s n c h => hd D H' s n (by rw [c, h]))
theorem lfm_succ {α : Type} {xs : List V} {i : Nat} {x : V} (f : V → Option α) (h : xs[i]? = some x) : (xs.take (i + 1)).filterMap f = (xs.take i).filterMap f ++ (f x).toList := by
  rw [take_succ_get h, List.filterMap_append]
  cases e : f x <;> simp [e]
theorem lfm_len {α : Type} (f : V → Option α) (xs : List V) (i : Nat) : ((xs.take i).filterMap f).length ≤ i := Nat.le_trans (List.length_filterMap_le _ _) (by simp; omega)
theorem map_list {a : Addr} {xs : List V} (hq : SqL K H a xs) (f : V → Option V) (hn : xs.length ≤ 16777215)
    (hs : ∀ (i : Nat) (x : V) (H' : Hp) (R : Option V → Hp → Prop), xs[i]? = some x → Same H H' → (∀ H'', Same H' H'' → R (f x) H'') → LcStep g tt te vs σ x H' R)
    (hd : ∀ D H', Same H H' → H D = none → H' D = some (.lst (xs.filterMap f)) → Q (.ref D) H') : LcGo (Itl K a) g tt te vs σ H Q :=
  acc_list hq (fun i acc => acc = (xs.take i).filterMap f) hn rfl (fun i acc _ h => by rw [h]; exact lfm_len f xs i)
    (fun i x acc H' R hx h s k => hs i x H' R hx s fun H'' s' => k _ _ s' (by rw [h, lfm_succ f hx])) (fun D acc H' s n c h => hd D H' s n (by rw [c, h, List.take_length]))
theorem map_tup {a : Addr} {xs : List V} (hq : SqT K H a xs) (f : V → Option V) (hn : xs.length ≤ 16777215)
    (hs : ∀ (i : Nat) (x : V) (H' : Hp) (R : Option V → Hp → Prop), xs[i]? = some x → Same H H' → (∀ H'', Same H' H'' → R (f x) H'') → LcStep g tt te vs σ x H' R)
    (hd : ∀ D H', Same H H' → H D = none → H' D = some (.lst (xs.filterMap f)) → Q (.ref D) H') : LcGo (Itt K a) g tt te vs σ H Q :=
  acc_tup hq (fun i acc => acc = (xs.take i).filterMap f) hn rfl (fun i acc _ h => by rw [h]; exact lfm_len f xs i)
    (fun i x acc H' R hx h s k => hs i x H' R hx s fun H'' s' => k _ _ s' (by rw [h, lfm_succ f hx])) (fun D acc H' s n c h => hd D H' s n (by rw [c, h, List.take_length]))
/-- over a range, drawing from the pool at p -/
structure DInv (p : Addr) (H : Hp) (P : List V → Prop) (D : Addr) (H' : Hp) : Prop where
  new : H D = none
  ne : D ≠ p
  drawn : Drawn p H H'
  ex : ∃ acc, H' D = some (.lst acc) ∧ P acc
theorem draw_rng {p : Addr} {lo : Int} {n : Nat} (hp : PoolAt H p) (P : Nat → List V → Prop) (hn : n ≤ 16777215) (h0 : P 0 []) (hl : ∀ i acc, i < n → P i acc → acc.length ≤ i)
    (hs : ∀ i acc H' R, i < n → P i acc → Drawn p H H' → (∀ o H'', Drawn p H' H'' → P (i + 1) (acc ++ o.toList) → R o H'') → LcStep g tt te vs σ (.int (lo + (i : Nat))) H' R)
    (hd : ∀ D acc H', Drawn p H H' → H D = none → D ≠ p → H' D = some (.lst acc) → P n acc → Q (.ref D) H') : LcGo (Itr lo n) g tt te vs σ H Q := by
  refine go_rng (fun D i => DInv p H (P i) D) (fun D hD => ⟨hD, hp.not hD, (Drawn.refl hp).new hD, [], upd_same, h0⟩) (fun D i H' hi iv => ?_) (fun D H' iv => ?_)
  · obtain ⟨h1, h2, h3, acc, h4, h5⟩ := iv
    have hz : sizeLine = 16777216 := rfl
    have := hl i acc hi h5
    refine LcStep.turn (hs i acc H' _ hi h5 h3 fun o H'' d q => ?_)
    have h4' := d.1 _ _ h2 h4
    cases o with
    | none => exact ⟨h1, h2, h3.trans d, acc, h4', by simpa using q⟩
    | some y => exact ⟨acc, h4', by omega, h1, h2, (h3.trans d).own h1 h2, _, upd_same, q⟩
  · obtain ⟨h1, h2, h3, acc, h4, h5⟩ := iv
    exact hd D acc H' h3 h1 h2 h4 h5
end
theorem isTup_kit {K : PySem.W.Frag} : PySem.W.kitOne K (.type "tuple") (.type "tuple") = some true := kit_ty (by decide +kernel)
theorem rAll_bl {K : PySem.W.Frag} {H : Hp} {D : Addr} {bs : List Bool} {Q : VK} {b : Bool} (h : H D = some (.lst (bs.map V.bl))) (hb : bs.all id = b) (q : Q (.bl b) H) : rAll K [.ref D] H Q := ⟨D, bs, rfl, SqL.of h, by rw [hb]; exact q⟩
theorem fm_some {α β : Type} (f : α → β) (l : List α) : l.filterMap (fun x => some (f x)) = l.map f := by induction l <;> simp_all
theorem atI_ofNats {l : List Nat} {i : Nat} (h : i < l.length) : atI (ofNats l) (i : Int) = some (.int (l[i] : Nat)) := atI_nat (by rw [ofNats, List.getElem?_map, List.getElem?_eq_getElem h]; rfl)
def bitsV (f : Nat → Bool) (n : Nat) : List V := (List.range n).map fun k => V.bl (f k)
theorem bitsV_length (f : Nat → Bool) (n : Nat) : (bitsV f n).length = n := by simp [bitsV]
theorem bitsV_get {f : Nat → Bool} {n i : Nat} (h : i < n) : (bitsV f n)[i]? = some (.bl (f i)) := by simp [bitsV, h]
theorem atI_bits {f : Nat → Bool} {n i : Nat} {z : Int} (e : z = (i : Int)) (h : i < n) : atI (bitsV f n) z = some (.bl (f i)) := by rw [e]; exact atI_nat (bitsV_get h)
theorem bitsV_all (f : Nat → Bool) (n : Nat) : bitsV f n = ((List.range n).map f).map V.bl := by rw [bitsV, List.map_map]; rfl
theorem bitsV_succ (f : Nat → Bool) (n : Nat) : bitsV f (n + 1) = bitsV f n ++ [V.bl (f n)] := by simp [bitsV, List.range_succ]
theorem lp_while {c : TT} {tb : TS} {D : Ends} {σ : St} {H : Hp} (Pv : St → Hp → Prop) (μ : St → Hp → Nat) (h0 : Pv σ H)
    (hs : ∀ σ H, Pv σ H → ∀ R : Bool → Hp → Prop, (∀ H1, tb ⟨fun σ' H' => Pv σ' H' ∧ μ σ' H' < μ σ H, D.rt, D.nx, fun σ' H' => Pv σ' H' ∧ μ σ' H' < μ σ H⟩ σ H1 → R true H1) → (∀ H1, D.nx σ H1 → R false H1) → c σ H R) :
    tWhile c tb D σ H := by
  refine ⟨fun m σ H => m = μ σ H ∧ Pv σ H, ⟨_, rfl, h0⟩, ?_⟩
  rintro m σ H ⟨rfl, p⟩
  refine hs σ H p _ (fun H1 q => ?_) fun H1 q => ?_
  · rw [if_pos rfl]
    exact ⟨_, fun σ' H' z => ⟨_, z.2, rfl, z.1⟩, q⟩
  · rw [if_neg (by decide)]
    exact q
/-- if a or b or c, all of them false -/
theorem ifOr3 {A B C : TT} {t u : TS} {D : Ends} {σ : St} {H : Hp} (hA : ∀ R : Bool → Hp → Prop, (∀ H', Same H H' → R false H') → A σ H R)
    (hB : ∀ H1, Same H H1 → ∀ R : Bool → Hp → Prop, (∀ H', Same H H' → R false H') → B σ H1 R) (hC : ∀ H1, Same H H1 → ∀ R : Bool → Hp → Prop, (∀ H', Same H H' → R false H') → C σ H1 R)
    (hu : ∀ H', Same H H' → u D σ H') : tIfS (tOr A (tOr B C)) t u D σ H := by
  refine hA _ fun H1 s1 => ?_
  rw [if_neg (by decide)]
  refine hB H1 s1 _ fun H2 s2 => ?_
  rw [if_neg (by decide)]
  refine hC H2 s2 _ fun H3 s3 => ?_
  rw [if_neg (by decide)]
  exact hu H3 s3
end RA

namespace RA.K10
open PySem PySem.Spec L2 RA
open PyProof.Rows hiding St
def top (i : Nat) : Stmt := PySem.Challenge.pw_readaround_k10_sets_of_lengths_made.main.body.getD i (.Pass ⟨0, 0, 0, 0⟩)
structure CA where
  c_Lengths : Addr
structure Txt (K : PySem.W.Frag) (mg : Str → Option Value) (B : CA) : Prop where
  b_int : mg "int" = none
  b_isinstance : mg "isinstance" = none
  b_bool : mg "bool" = none
  b_tuple : mg "tuple" = none
  b_all : mg "all" = none
  b_range : mg "range" = none
  b_len : mg "len" = none
  b_sorted : mg "sorted" = none
  b_abs : mg "abs" = none
  b_repr : mg "repr" = none
  b_list : mg "list" = none
  b_min : mg "min" = none
  b_max : mg "max" = none
  c_MOST_START : ∃ t, mg "MOST_START" = some (.int 10000 t)
  n_Lengths_held : NoAttr K B.c_Lengths "held"
  i_Lengths : InsF K B.c_Lengths
  g_Lengths : mg "Lengths" = some (.ref B.c_Lengths)
  ne_Lengths : NeObj K B.c_Lengths
  b0_Lengths : PySem.W.findIn K (.ref B.c_Lengths) "__bool__" = some none
  l0_Lengths : PySem.W.findIn K (.ref B.c_Lengths) "__len__" = some none
  nf_tup : PySem.W.notFirst K B.c_Lengths (.type "tuple") = true
  ki_own : PySem.W.kitOne K (.ref B.c_Lengths) (.ref B.c_Lengths) = some true
  ki_tup : PySem.W.kitOne K (.type "tuple") (.ref B.c_Lengths) = some false
/-! ### what the defs promise -/
/-- a set of lengths, told: the early ones, the start, the remainders, the period -/
structure Form where
  E : List Nat
  s : Nat
  A : List Nat
  P : Nat
deriving DecidableEq
def setS (F : Form) (n : Nat) : Bool := if n < F.s then decide (n ∈ F.E) else decide (n % F.P ∈ F.A)
def isPer (S : Nat → Bool) (s P d : Nat) : Bool := (List.range P).all fun k => S (s + k) == S (s + k % d)
def sizes (P : Nat) : List Nat := (List.range P).filterMap fun i => if P % (i + 1) = 0 then some (i + 1) else none
def lpers (S : Nat → Bool) (s P : Nat) : List Nat := (sizes P).filter (isPer S s P)
def lper (S : Nat → Bool) (s P : Nat) : Nat := (lpers S s P).headD P
def lstart (S : Nat → Bool) (p : Nat) : Nat → Nat
  | 0 => 0
  | 1 => 1
  | s + 2 => if S (s + 1) = S (s + 1 + p) then lstart S p (s + 1) else s + 2
def normS (S : Nat → Bool) (s P : Nat) : Form :=
  ⟨(List.range (lstart S (lper S s P) s - 1)).filterMap fun i => if S (i + 1) then some (i + 1) else none, lstart S (lper S s P) s,
    (List.range (lper S s P)).filter fun r => S (lper S s P * lstart S (lper S s P) s + r), lper S s P⟩
def norm (F : Form) : Form := normS (setS F) F.s F.P
def Asc (lo hi : Nat) (l : List Nat) : Prop := (∀ n ∈ l, lo ≤ n ∧ n ≤ hi) ∧ l.Pairwise (· < ·)
structure OkF (F : Form) : Prop where
  s1 : 1 ≤ F.s
  s2 : F.s ≤ 10000
  p1 : 1 ≤ F.P
  p2 : F.P ≤ 10000
  e : Asc 1 (F.s - 1) F.E
  a : Asc 0 (F.P - 1) F.A
def HeldAt (H : Hp) (r : Addr) (F : Form) : Prop := ∃ e g, H r = some (.tup [.ref e, .int F.s, .ref g, .int F.P]) ∧ H e = some (.tup (ofNats F.E)) ∧ H g = some (.tup (ofNats F.A))
def LenAt (B : CA) (H : Hp) (a : Addr) (F : Form) : Prop := ∃ dx r, H a = some (.ins B.c_Lengths dx [("held", .ref r)]) ∧ HeldAt H r F
def sp_is_integer (K : PySem.W.Frag) (_ : CA) : Sp := spIsInt K
def sp_is_between (K : PySem.W.Frag) (_ : CA) : Sp := spBetween K
def sp_are_ascending (K : PySem.W.Frag) (_ : CA) : Sp := fun vs H Q _ => ∃ (p : Addr) (ns : List Nat) (lo hi : Nat) (hiV : Int), vs = [.ref p, .int lo, .int hiV] ∧ hiV = (hi : Int) ∧ H p = some (.tup (ofNats ns)) ∧ ns.length ≤ 10000 ∧ Asc lo hi ns ∧ ∀ H', Same H H' → Q (.bl true) H'
def sp_least_form (_ : PySem.W.Frag) (_ : CA) : Sp := fun vs H Q _ => ∃ (p : Addr) (S : Nat → Bool) (s P : Nat), vs = [.ref p, .int s, .int P] ∧ H p = some (.lst (bitsV (fun i => S (i + 1)) (s - 1 + P))) ∧ 1 ≤ s ∧ s ≤ 10000 ∧ 1 ≤ P ∧ P ≤ 10000 ∧
  (∀ n, s ≤ n → S (n + P) = S n) ∧ (normS S s P).A.length < 64 ∧ ∀ H' r, Same H H' → HeldAt H' r (normS S s P) → Q (.ref r) H'
def sp_Lengths____init__ (K : PySem.W.Frag) (B : CA) : Sp := fun vs H Q _ => ∃ (x dx pe pg : Addr) (F : Form), vs = [.ref x, .ref pe, .int F.s, .ref pg, .int F.P] ∧ H x = some (.ins B.c_Lengths dx []) ∧ H pe = some (.tup (ofNats F.E)) ∧ H pg = some (.tup (ofNats F.A)) ∧
  OkF F ∧ (norm F).A.length < 64 ∧ ∀ H', But x H H' → LenAt B H' x (norm F) → Q .non H'
def sp_Lengths__early (_ : PySem.W.Frag) (B : CA) : Sp := fun vs H Q _ => ∃ (a : Addr) (F : Form), vs = [.ref a] ∧ LenAt B H a F ∧ ∀ e, H e = some (.tup (ofNats F.E)) → Q (.ref e) H
def sp_Lengths__start (_ : PySem.W.Frag) (B : CA) : Sp := fun vs H Q _ => ∃ (a : Addr) (F : Form), vs = [.ref a] ∧ LenAt B H a F ∧ Q (.int F.s) H
def sp_Lengths__again (_ : PySem.W.Frag) (B : CA) : Sp := fun vs H Q _ => ∃ (a : Addr) (F : Form), vs = [.ref a] ∧ LenAt B H a F ∧ ∀ e, H e = some (.tup (ofNats F.A)) → Q (.ref e) H
def sp_Lengths__period (_ : PySem.W.Frag) (B : CA) : Sp := fun vs H Q _ => ∃ (a : Addr) (F : Form), vs = [.ref a] ∧ LenAt B H a F ∧ Q (.int F.P) H
def inB (F : Form) : V → Bool
  | .int i => decide (1 ≤ i) && setS F i.toNat
  | _ => false
def sp_Lengths____contains__ (K : PySem.W.Frag) (B : CA) : Sp := fun vs H Q _ => ∃ (a : Addr) (F : Form) (v : V), vs = [.ref a, v] ∧ LenAt B H a F ∧ 1 ≤ F.P ∧ Kd K H v ∧ Q (.bl (inB F v)) H
def later (F : Form) : List Nat := (List.range F.P).filterMap fun i => if setS F (F.s + i) then some (F.s + i) else none
def firstV (F : Form) : V := match F.E ++ later F with
  | n :: _ => .int (n : Nat)
  | [] => .non
def sp_Lengths__first (_ : PySem.W.Frag) (B : CA) : Sp := fun vs H Q _ => ∃ (a : Addr) (F : Form), vs = [.ref a] ∧ LenAt B H a F ∧ OkF F ∧ ∀ H', Same H H' → Q (firstV F) H'
def sp_Lengths__endless (_ : PySem.W.Frag) (B : CA) : Sp := fun vs H Q _ => ∃ (a : Addr) (F : Form), vs = [.ref a] ∧ LenAt B H a F ∧ ∀ H', Same H H' → Q (.bl (!F.A.isEmpty)) H'
def sp_Lengths____eq__ (K : PySem.W.Frag) (B : CA) : Sp := fun vs H Q _ => ∃ (a : Addr) (F : Form) (v : V), vs = [.ref a, v] ∧ LenAt B H a F ∧
  ((∃ b G, v = .ref b ∧ LenAt B H b G ∧ Q (.bl (decide (F = G))) H) ∨ (∃ p xs, v = .ref p ∧ SqT K H p xs ∧ Q (.bl false) H))
/-! the law's own -/
def SmallF (F : Form) : Prop := OkF F ∧ F.s ≤ 8 ∧ F.P ≤ 6
def sp__law_flagged (_ : PySem.W.Frag) (_ : CA) : Sp := fun vs H Q _ => ∃ (r : Addr) (F : Form), vs = [.ref r] ∧ HeldAt H r F ∧ 1 ≤ F.P ∧ ∀ H' D, Same H H' → H D = none → H' D = some (.lst (bitsV (setS F) 61)) → Q (.ref D) H'
def sp__law_drawn_set (_ : PySem.W.Frag) (_ : CA) : Sp := fun vs H Q _ => ∃ p, vs = [.ref p] ∧ PoolAt H p ∧ ∀ H' r F, Drawn p H H' → HeldAt H' r F → SmallF F → Q (.ref r) H'
def sp__law_longer (_ : PySem.W.Frag) (_ : CA) : Sp := fun vs H Q _ => ∃ p r F, vs = [.ref p, .ref r] ∧ PoolAt H p ∧ HeldAt H r F ∧ SmallF F ∧
  ∀ H' r' G m, Drawn p H H' → HeldAt H' r' G → OkF G → G.s ≤ 12 → F.s ≤ G.s → 1 ≤ m → m ≤ 3 → G.P = F.P * m → (∀ n, 1 ≤ n → setS G n = setS F n) → Q (.ref r') H'
def sp__law_is_least (_ : PySem.W.Frag) (_ : CA) : Sp := fun vs H Q _ => ∃ (D : Addr) (f : Nat → Bool) (s P : Nat), vs = [.ref D, .int s, .int P] ∧ H D = some (.lst (bitsV f 61)) ∧ 1 ≤ s ∧ 1 ≤ P ∧ s + P ≤ 61 ∧
  (∀ k, 1 ≤ k → k < P → ∃ i, s ≤ i ∧ i + k < 61 ∧ f i ≠ f (i + k)) ∧ (∀ i, s ≤ i → i + P < 61 → f i = f (i + P)) ∧ (s = 1 ∨ f (s - 1) ≠ f (s - 1 + P)) ∧ ∀ H', Same H H' → Q (.bl true) H'
def sp__law_right (_ : PySem.W.Frag) (_ : CA) : Sp := fun vs H Q _ => ∃ p, vs = [.ref p] ∧ PoolAt H p ∧ ∀ H', (∀ b o, b ≠ p → H b = some o → H' b = some o) → Q (.bl true) H'
def sp_law (K : PySem.W.Frag) (_ : CA) : Sp := spLaw K
abbrev s_is_integer : Stmt := top 6
def N_is_integer : List Str := ["value"]
theorem sc_is_integer : FnScope ["value"] ["value"] (defScope s_is_integer) := ⟨rfl, rfl, rfl, by decide +kernel, rfl, by decide +kernel, by decide +kernel⟩
theorem bt_is_integer : BindTxt "is_integer" s_is_integer ["value"] := fun _ _ _ _ _ _ us hl => match us, hl with | [_], _ => rfl
def t_is_integer_s1 (K : PySem.W.Frag) (B : CA) : TS := (tRet (tAndV (tCB (rIsi K) (tCons (tVar 0) (tCons (tC (.ty "int")) tNil))) (tNotV (tCB (rIsi K) (tCons (tVar 0) (tCons (tC (.ty "bool")) tNil))))))
def t_is_integer (K : PySem.W.Frag) (B : CA) : TS := (t_is_integer_s1 K B)

abbrev s_is_between : Stmt := top 7
def N_is_between : List Str := ["value", "least", "most"]
theorem sc_is_between : FnScope ["value", "least", "most"] ["value", "least", "most"] (defScope s_is_between) := ⟨rfl, rfl, rfl, by decide +kernel, rfl, by decide +kernel, by decide +kernel⟩
theorem bt_is_between : BindTxt "is_between" s_is_between ["value", "least", "most"] := fun _ _ _ _ _ _ us hl => match us, hl with | [_, _, _], _ => rfl
def t_is_between_s1 (K : PySem.W.Frag) (B : CA) : TS := (tRet (tAndV (tCall (sp_is_integer K B) [] E0 (tCons (tVar 0) tNil)) (tAndV (tOp qLe (tVar 1) (tVar 0)) (tOrV (tOp qIsN (tVar 2) (tC .non)) (tOp qLe (tVar 0) (tVar 2))))))
def t_is_between (K : PySem.W.Frag) (B : CA) : TS := (t_is_between_s1 K B)

abbrev s_are_ascending : Stmt := top 8
def N_are_ascending : List Str := ["value", "least", "most", "each", "k"]
theorem sc_are_ascending : FnScope ["value", "least", "most", "each", "k"] ["value", "least", "most"] (defScope s_are_ascending) := ⟨rfl, rfl, rfl, by decide +kernel, rfl, by decide +kernel, by decide +kernel⟩
theorem bt_are_ascending : BindTxt "are_ascending" s_are_ascending ["value", "least", "most"] := fun _ _ _ _ _ _ us hl => match us, hl with | [_, _, _], _ => rfl
def t_are_ascending_e1 (K : PySem.W.Frag) (B : CA) : TE := (tCall (sp_is_between K B) [] E0 (tCons (tVar 3) (tCons (tVar 1) (tCons (tVar 2) tNil))))
def t_are_ascending_s2 (K : PySem.W.Frag) (B : CA) : TS := (tRet (tC (.bl false)))
def t_are_ascending_b3 (K : PySem.W.Frag) (B : CA) : TS := (t_are_ascending_s2 K B)
def t_are_ascending_s4 (K : PySem.W.Frag) (B : CA) : TS := (tIfS (tOr (tNot (tB (tCB (rIsi K) (tCons (tVar 0) (tCons (tC (.ty "tuple")) tNil))))) (tNot (tB (tCB (rAll K) (tCons (tLc (iTup K (tVar 0)) (gName 3) tYes (t_are_ascending_e1 K B) [3]) tNil))))) (t_are_ascending_b3 K B) tNext)
def t_are_ascending_e5 (K : PySem.W.Frag) (B : CA) : TE := (tOp qLt (tOp qIxT (tVar 0) (tVar 4)) (tOp qIxT (tVar 0) (tOp qAdd (tVar 4) (tC (.int 1)))))
def t_are_ascending_s6 (K : PySem.W.Frag) (B : CA) : TS := (tRet (tCB (rAll K) (tCons (tLc (iRng1 (tCons (tOp qSub (tCB qLenQ (tCons (tVar 0) tNil)) (tC (.int 1))) tNil)) (gName 4) tYes (t_are_ascending_e5 K B) [4]) tNil)))
def t_are_ascending (K : PySem.W.Frag) (B : CA) : TS := (tSeq (t_are_ascending_s4 K B) (t_are_ascending_s6 K B))

abbrev s_least_form : Stmt := top 11
def N_least_form : List Str := ["flags", "start", "period", "tail", "sizes", "least", "longer", "early", "again", "size", "k", "length"]
theorem sc_least_form : FnScope ["flags", "start", "period", "tail", "sizes", "least", "longer", "early", "again", "size", "k", "length"] ["flags", "start", "period"] (defScope s_least_form) := ⟨rfl, rfl, rfl, by decide +kernel, rfl, by decide +kernel, by decide +kernel⟩
theorem bt_least_form : BindTxt "least_form" s_least_form ["flags", "start", "period"] := fun _ _ _ _ _ _ us hl => match us, hl with | [_, _, _], _ => rfl
def t_least_form_s1 (K : PySem.W.Frag) (B : CA) : TS := (tAsg (tSl (rSlL K) (tVar 0) (tPart (tOp qSub (tVar 1) (tC (.int 1)))) tNoPart) (gName 3))
def t_least_form_c2 (K : PySem.W.Frag) (B : CA) : TT := (tTest (tOp rEq (tOp qMod (tVar 2) (tVar 9)) (tC (.int 0))))
def t_least_form_e3 (K : PySem.W.Frag) (B : CA) : TE := (tVar 9)
def t_least_form_s4 (K : PySem.W.Frag) (B : CA) : TS := (tAsg (tLc (iRng2 (tCons (tC (.int 1)) (tCons (tOp qAdd (tVar 2) (tC (.int 1))) tNil))) (gName 9) (t_least_form_c2 K B) (t_least_form_e3 K B) [9]) (gName 4))
def t_least_form_e5 (K : PySem.W.Frag) (B : CA) : TE := (tOp rEq (tOp qIxL (tVar 3) (tVar 10)) (tOp qIxL (tVar 3) (tOp qMod (tVar 10) (tVar 9))))
def t_least_form_c6 (K : PySem.W.Frag) (B : CA) : TT := (tB (tCB (rAll K) (tCons (tLc (iRng1 (tCons (tVar 2) tNil)) (gName 10) tYes (t_least_form_e5 K B) [10]) tNil)))
def t_least_form_e7 (K : PySem.W.Frag) (B : CA) : TE := (tVar 9)
def t_least_form_s8 (K : PySem.W.Frag) (B : CA) : TS := (tAsg (tOp qIxL (tLc (iList K (tVar 4)) (gName 9) (t_least_form_c6 K B) (t_least_form_e7 K B) [9]) (tC (.int 0))) (gName 5))
def t_least_form_s9 (K : PySem.W.Frag) (B : CA) : TS := (tAsg (tOp rCat (tVar 0) (tVar 3)) (gName 6))
def t_least_form_w10 (K : PySem.W.Frag) (B : CA) : TT := (tAnd (tTest (tOp qGt (tVar 1) (tC (.int 1)))) (tTest (tOp rEq (tOp qIxL (tVar 6) (tOp qSub (tVar 1) (tC (.int 2)))) (tOp qIxL (tVar 6) (tOp qAdd (tOp qSub (tVar 1) (tC (.int 2))) (tVar 5))))))
def t_least_form_s11 (K : PySem.W.Frag) (B : CA) : TS := (tAug 1 (tC (.int 1)) (ipI fun i j => i - j))
def t_least_form_b12 (K : PySem.W.Frag) (B : CA) : TS := (t_least_form_s11 K B)
def t_least_form_s13 (K : PySem.W.Frag) (B : CA) : TS := (tWhile (t_least_form_w10 K B) (t_least_form_b12 K B))
def t_least_form_c14 (K : PySem.W.Frag) (B : CA) : TT := (tB (tOp qIxL (tVar 0) (tOp qSub (tVar 11) (tC (.int 1)))))
def t_least_form_e15 (K : PySem.W.Frag) (B : CA) : TE := (tVar 11)
def t_least_form_s16 (K : PySem.W.Frag) (B : CA) : TS := (tAsg (tCB (qTuple K) (tCons (tLc (iRng2 (tCons (tC (.int 1)) (tCons (tVar 1) tNil))) (gName 11) (t_least_form_c14 K B) (t_least_form_e15 K B) [11]) tNil)) (gName 7))
def t_least_form_c17 (K : PySem.W.Frag) (B : CA) : TT := (tB (tOp qIxL (tVar 6) (tOp qSub (tVar 11) (tC (.int 1)))))
def t_least_form_e18 (K : PySem.W.Frag) (B : CA) : TE := (tOp qMod (tVar 11) (tVar 5))
def t_least_form_s19 (K : PySem.W.Frag) (B : CA) : TS := (tAsg (tLc (iRng2 (tCons (tVar 1) (tCons (tOp qAdd (tVar 1) (tVar 5)) tNil))) (gName 11) (t_least_form_c17 K B) (t_least_form_e18 K B) [11]) (gName 8))
def t_least_form_s20 (K : PySem.W.Frag) (B : CA) : TS := (tRet (tTup (tCons (tVar 7) (tCons (tVar 1) (tCons (tCB (qTuple K) (tCons (tCB (rSorted K) (tCons (tVar 8) tNil)) tNil)) (tCons (tVar 5) tNil))))))
def t_least_form (K : PySem.W.Frag) (B : CA) : TS := (tSeq (t_least_form_s1 K B) (tSeq (t_least_form_s4 K B) (tSeq (t_least_form_s8 K B) (tSeq (t_least_form_s9 K B) (tSeq (t_least_form_s13 K B) (tSeq (t_least_form_s16 K B) (tSeq (t_least_form_s19 K B) (t_least_form_s20 K B))))))))

abbrev s_Lengths____init__ : Stmt := inClass (top 10) 0
def N_Lengths____init__ : List Str := ["self", "early", "start", "again", "period", "flags", "length"]
theorem sc_Lengths____init__ : FnScope ["self", "early", "start", "again", "period", "flags", "length"] ["self", "early", "start", "again", "period"] (defScope s_Lengths____init__) := ⟨rfl, rfl, rfl, by decide +kernel, rfl, by decide +kernel, by decide +kernel⟩
theorem bt_Lengths____init__ : BindTxtQ "__init__" "Lengths.__init__" s_Lengths____init__ ["self", "early", "start", "again", "period"] := fun _ _ _ _ _ _ us hl => match us, hl with | [_, _, _, _, _], _ => rfl
def t_Lengths____init___s1 (K : PySem.W.Frag) (B : CA) : TS := (tIfS (tNot (tB (tCall (sp_is_between K B) [] E0 (tCons (tVar 2) (tCons (tC (.int 1)) (tCons (tC (.int 10000)) tNil)))))) tNever tNext)
def t_Lengths____init___s2 (K : PySem.W.Frag) (B : CA) : TS := (tIfS (tNot (tB (tCall (sp_are_ascending K B) [] E0 (tCons (tVar 1) (tCons (tC (.int 1)) (tCons (tOp qSub (tVar 2) (tC (.int 1))) tNil)))))) tNever tNext)
def t_Lengths____init___s3 (K : PySem.W.Frag) (B : CA) : TS := (tIfS (tNot (tB (tCall (sp_is_between K B) [] E0 (tCons (tVar 4) (tCons (tC (.int 1)) (tCons (tC (.int 10000)) tNil)))))) tNever tNext)
def t_Lengths____init___s4 (K : PySem.W.Frag) (B : CA) : TS := (tIfS (tNot (tB (tCall (sp_are_ascending K B) [] E0 (tCons (tVar 3) (tCons (tC (.int 0)) (tCons (tOp qSub (tVar 4) (tC (.int 1))) tNil)))))) tNever tNext)
def t_Lengths____init___e5 (K : PySem.W.Frag) (B : CA) : TE := (tOp (rIn K false) (tVar 6) (tVar 1))
def t_Lengths____init___s6 (K : PySem.W.Frag) (B : CA) : TS := (tAsg (tLc (iRng2 (tCons (tC (.int 1)) (tCons (tVar 2) tNil))) (gName 6) tYes (t_Lengths____init___e5 K B) [6]) (gName 5))
def t_Lengths____init___e7 (K : PySem.W.Frag) (B : CA) : TE := (tOp (rIn K false) (tOp qMod (tVar 6) (tVar 4)) (tVar 3))
def t_Lengths____init___s8 (K : PySem.W.Frag) (B : CA) : TS := (tAsg (tOp rCat (tVar 5) (tLc (iRng2 (tCons (tVar 2) (tCons (tOp qAdd (tVar 2) (tVar 4)) tNil))) (gName 6) tYes (t_Lengths____init___e7 K B) [6])) (gName 5))
def t_Lengths____init___s9 (K : PySem.W.Frag) (B : CA) : TS := (sFldC B.c_Lengths "held" (tVar 0) (tCall (sp_least_form K B) [] E0 (tCons (tVar 5) (tCons (tVar 2) (tCons (tVar 4) tNil)))))
def t_Lengths____init__ (K : PySem.W.Frag) (B : CA) : TS := (tSeq (t_Lengths____init___s1 K B) (tSeq (t_Lengths____init___s2 K B) (tSeq (t_Lengths____init___s3 K B) (tSeq (t_Lengths____init___s4 K B) (tSeq (t_Lengths____init___s6 K B) (tSeq (t_Lengths____init___s8 K B) (t_Lengths____init___s9 K B)))))))

abbrev s_Lengths__early : Stmt := inClass (top 10) 1
def N_Lengths__early : List Str := ["self"]
theorem sc_Lengths__early : FnScope ["self"] ["self"] (defScope s_Lengths__early) := ⟨rfl, rfl, rfl, by decide +kernel, rfl, by decide +kernel, by decide +kernel⟩
theorem bt_Lengths__early : BindTxtQ "early" "Lengths.early" s_Lengths__early ["self"] := fun _ _ _ _ _ _ us hl => match us, hl with | [_], _ => rfl
def t_Lengths__early_s1 (K : PySem.W.Frag) (B : CA) : TS := (tRet (tOp qIxT (tFldC B.c_Lengths "held" (tVar 0)) (tC (.int 0))))
def t_Lengths__early (K : PySem.W.Frag) (B : CA) : TS := (t_Lengths__early_s1 K B)

abbrev s_Lengths__start : Stmt := inClass (top 10) 2
def N_Lengths__start : List Str := ["self"]
theorem sc_Lengths__start : FnScope ["self"] ["self"] (defScope s_Lengths__start) := ⟨rfl, rfl, rfl, by decide +kernel, rfl, by decide +kernel, by decide +kernel⟩
theorem bt_Lengths__start : BindTxtQ "start" "Lengths.start" s_Lengths__start ["self"] := fun _ _ _ _ _ _ us hl => match us, hl with | [_], _ => rfl
def t_Lengths__start_s1 (K : PySem.W.Frag) (B : CA) : TS := (tRet (tOp qIxT (tFldC B.c_Lengths "held" (tVar 0)) (tC (.int 1))))
def t_Lengths__start (K : PySem.W.Frag) (B : CA) : TS := (t_Lengths__start_s1 K B)

abbrev s_Lengths__again : Stmt := inClass (top 10) 3
def N_Lengths__again : List Str := ["self"]
theorem sc_Lengths__again : FnScope ["self"] ["self"] (defScope s_Lengths__again) := ⟨rfl, rfl, rfl, by decide +kernel, rfl, by decide +kernel, by decide +kernel⟩
theorem bt_Lengths__again : BindTxtQ "again" "Lengths.again" s_Lengths__again ["self"] := fun _ _ _ _ _ _ us hl => match us, hl with | [_], _ => rfl
def t_Lengths__again_s1 (K : PySem.W.Frag) (B : CA) : TS := (tRet (tOp qIxT (tFldC B.c_Lengths "held" (tVar 0)) (tC (.int 2))))
def t_Lengths__again (K : PySem.W.Frag) (B : CA) : TS := (t_Lengths__again_s1 K B)

abbrev s_Lengths__period : Stmt := inClass (top 10) 4
def N_Lengths__period : List Str := ["self"]
theorem sc_Lengths__period : FnScope ["self"] ["self"] (defScope s_Lengths__period) := ⟨rfl, rfl, rfl, by decide +kernel, rfl, by decide +kernel, by decide +kernel⟩
theorem bt_Lengths__period : BindTxtQ "period" "Lengths.period" s_Lengths__period ["self"] := fun _ _ _ _ _ _ us hl => match us, hl with | [_], _ => rfl
def t_Lengths__period_s1 (K : PySem.W.Frag) (B : CA) : TS := (tRet (tOp qIxT (tFldC B.c_Lengths "held" (tVar 0)) (tC (.int 3))))
def t_Lengths__period (K : PySem.W.Frag) (B : CA) : TS := (t_Lengths__period_s1 K B)

abbrev s_Lengths____contains__ : Stmt := inClass (top 10) 5
def N_Lengths____contains__ : List Str := ["self", "value"]
theorem sc_Lengths____contains__ : FnScope ["self", "value"] ["self", "value"] (defScope s_Lengths____contains__) := ⟨rfl, rfl, rfl, by decide +kernel, rfl, by decide +kernel, by decide +kernel⟩
theorem bt_Lengths____contains__ : BindTxtQ "__contains__" "Lengths.__contains__" s_Lengths____contains__ ["self", "value"] := fun _ _ _ _ _ _ us hl => match us, hl with | [_, _], _ => rfl
def t_Lengths____contains___s1 (K : PySem.W.Frag) (B : CA) : TS := (tRet (tC (.bl false)))
def t_Lengths____contains___b2 (K : PySem.W.Frag) (B : CA) : TS := (t_Lengths____contains___s1 K B)
def t_Lengths____contains___s3 (K : PySem.W.Frag) (B : CA) : TS := (tIfS (tOr (tNot (tB (tCall (sp_is_integer K B) [] E0 (tCons (tVar 1) tNil)))) (tTest (tOp qLt (tVar 1) (tC (.int 1))))) (t_Lengths____contains___b2 K B) tNext)
def t_Lengths____contains___s4 (K : PySem.W.Frag) (B : CA) : TS := (tRet (tOp (rIn K false) (tVar 1) (tProp B.c_Lengths (sp_Lengths__early K B) [] E0 (tVar 0))))
def t_Lengths____contains___b5 (K : PySem.W.Frag) (B : CA) : TS := (t_Lengths____contains___s4 K B)
def t_Lengths____contains___s6 (K : PySem.W.Frag) (B : CA) : TS := (tIfS (tTest (tOp qLt (tVar 1) (tProp B.c_Lengths (sp_Lengths__start K B) [] E0 (tVar 0)))) (t_Lengths____contains___b5 K B) tNext)
def t_Lengths____contains___s7 (K : PySem.W.Frag) (B : CA) : TS := (tRet (tOp (rIn K false) (tOp qMod (tVar 1) (tProp B.c_Lengths (sp_Lengths__period K B) [] E0 (tVar 0))) (tProp B.c_Lengths (sp_Lengths__again K B) [] E0 (tVar 0))))
def t_Lengths____contains__ (K : PySem.W.Frag) (B : CA) : TS := (tSeq (t_Lengths____contains___s3 K B) (tSeq (t_Lengths____contains___s6 K B) (t_Lengths____contains___s7 K B)))

abbrev s_Lengths__first : Stmt := inClass (top 10) 6
def N_Lengths__first : List Str := ["self", "some", "length"]
theorem sc_Lengths__first : FnScope ["self", "some", "length"] ["self"] (defScope s_Lengths__first) := ⟨rfl, rfl, rfl, by decide +kernel, rfl, by decide +kernel, by decide +kernel⟩
theorem bt_Lengths__first : BindTxtQ "first" "Lengths.first" s_Lengths__first ["self"] := fun _ _ _ _ _ _ us hl => match us, hl with | [_], _ => rfl
def t_Lengths__first_s1 (K : PySem.W.Frag) (B : CA) : TS := (tRet (tOp qIxT (tProp B.c_Lengths (sp_Lengths__early K B) [] E0 (tVar 0)) (tC (.int 0))))
def t_Lengths__first_b2 (K : PySem.W.Frag) (B : CA) : TS := (t_Lengths__first_s1 K B)
def t_Lengths__first_s3 (K : PySem.W.Frag) (B : CA) : TS := (tIfS (tTest (tOp (rNeD K) (tProp B.c_Lengths (sp_Lengths__early K B) [] E0 (tVar 0)) (tTup tNil))) (t_Lengths__first_b2 K B) tNext)
def t_Lengths__first_c4 (K : PySem.W.Frag) (B : CA) : TT := (tTest (tOp (rIn K false) (tOp qMod (tVar 2) (tProp B.c_Lengths (sp_Lengths__period K B) [] E0 (tVar 0))) (tProp B.c_Lengths (sp_Lengths__again K B) [] E0 (tVar 0))))
def t_Lengths__first_e5 (K : PySem.W.Frag) (B : CA) : TE := (tVar 2)
def t_Lengths__first_s6 (K : PySem.W.Frag) (B : CA) : TS := (tAsg (tLc (iRng2 (tCons (tProp B.c_Lengths (sp_Lengths__start K B) [] E0 (tVar 0)) (tCons (tOp qAdd (tProp B.c_Lengths (sp_Lengths__start K B) [] E0 (tVar 0)) (tProp B.c_Lengths (sp_Lengths__period K B) [] E0 (tVar 0))) tNil))) (gName 2) (t_Lengths__first_c4 K B) (t_Lengths__first_e5 K B) [2]) (gName 1))
def t_Lengths__first_s7 (K : PySem.W.Frag) (B : CA) : TS := (tRet (tIf (tTest (tOp (rNeD K) (tVar 1) (tLst tNil))) (tOp qIxL (tVar 1) (tC (.int 0))) (tC .non)))
def t_Lengths__first (K : PySem.W.Frag) (B : CA) : TS := (tSeq (t_Lengths__first_s3 K B) (tSeq (t_Lengths__first_s6 K B) (t_Lengths__first_s7 K B)))

abbrev s_Lengths__endless : Stmt := inClass (top 10) 7
def N_Lengths__endless : List Str := ["self"]
theorem sc_Lengths__endless : FnScope ["self"] ["self"] (defScope s_Lengths__endless) := ⟨rfl, rfl, rfl, by decide +kernel, rfl, by decide +kernel, by decide +kernel⟩
theorem bt_Lengths__endless : BindTxtQ "endless" "Lengths.endless" s_Lengths__endless ["self"] := fun _ _ _ _ _ _ us hl => match us, hl with | [_], _ => rfl
def t_Lengths__endless_s1 (K : PySem.W.Frag) (B : CA) : TS := (tRet (tOp (rNeD K) (tProp B.c_Lengths (sp_Lengths__again K B) [] E0 (tVar 0)) (tTup tNil)))
def t_Lengths__endless (K : PySem.W.Frag) (B : CA) : TS := (t_Lengths__endless_s1 K B)

abbrev s_Lengths____eq__ : Stmt := inClass (top 10) 12
def N_Lengths____eq__ : List Str := ["self", "other"]
theorem sc_Lengths____eq__ : FnScope ["self", "other"] ["self", "other"] (defScope s_Lengths____eq__) := ⟨rfl, rfl, rfl, by decide +kernel, rfl, by decide +kernel, by decide +kernel⟩
theorem bt_Lengths____eq__ : BindTxtQ "__eq__" "Lengths.__eq__" s_Lengths____eq__ ["self", "other"] := fun _ _ _ _ _ _ us hl => match us, hl with | [_, _], _ => rfl
def t_Lengths____eq___s1 (K : PySem.W.Frag) (B : CA) : TS := (tRet (tAndV (tCB (rIsi K) (tCons (tVar 1) (tCons (tC (.ref B.c_Lengths)) tNil))) (tOp (rEqD K) (tFldC B.c_Lengths "held" (tVar 0)) (tFldC B.c_Lengths "held" (tVar 1)))))
def t_Lengths____eq__ (K : PySem.W.Frag) (B : CA) : TS := (t_Lengths____eq___s1 K B)

abbrev s__law_bag : Stmt := top 13
def N__law_bag : List Str := ["_law_script", "_law_k", "_law_held_cell", "_law_seed", "_law_this", "_law_held_signs"]
theorem sc__law_bag : FnScope ["_law_script", "_law_k", "_law_held_cell", "_law_seed", "_law_this", "_law_held_signs"] ["_law_script", "_law_k"] (defScope s__law_bag) := ⟨rfl, rfl, rfl, by decide +kernel, rfl, by decide +kernel, by decide +kernel⟩
theorem bt__law_bag : BindTxt "_law_bag" s__law_bag ["_law_script", "_law_k"] := fun _ _ _ _ _ _ us hl => match us, hl with | [_, _], _ => rfl
def t__law_bag_s1 (K : PySem.W.Frag) (B : CA) : TS := (tPar 2 3 (tCons (tIf (tTest (tOp qLt (tVar 1) (tCB (qLen K) (tCons (tVar 0) tNil)))) (tCB qInt (tCons (tOp (rIxL K) (tVar 0) (tVar 1)) tNil)) (tC (.int 0))) (tCons (tOp qMul (tC (.int 60013)) (tOp qAdd (tVar 1) (tC (.int 5)))) tNil)))
def t__law_bag_s2 (K : PySem.W.Frag) (B : CA) : TS := (tAsg (tOp qMod (tCB qInt (tCons (tOp qAdd (tOp qAdd (tOp qMul (tVar 3) (tC (.int 31543))) (tOp qMod (tCB qInt (tCons (tVar 4) tNil)) (tC (.int 1000121)))) (tOp qMul (tC (.int 17)) (tVar 1))) tNil)) (tC (.int 2147483549))) (gName 3))
def t__law_bag_b3 (K : PySem.W.Frag) (B : CA) : TS := (t__law_bag_s2 K B)
def t__law_bag_s4 (K : PySem.W.Frag) (B : CA) : TS := (tFor (iList K (tSl (rSlL K) (tVar 0) tNoPart (tPart (tC (.int 7))))) (gName 4) (t__law_bag_b3 K B))
def t__law_bag_s5 (K : PySem.W.Frag) (B : CA) : TS := (tAsg (tIf (tOr (tTest (tOp qLt (tVar 2) (tC (.int 0)))) (tTest (tOp qGe (tVar 2) (tOp qPow (tC (.int 10)) (tC (.int 15)))))) (tCB qAbs (tCons (tVar 2) tNil)) (tC (.int 0))) (gName 5))
def t__law_bag_s6 (K : PySem.W.Frag) (B : CA) : TS := (tRet (tLst (tCons (tVar 5) (tCons (tOp qMod (tCB qInt (tCons (tOp qAdd (tVar 3) (tOp qMul (tC (.int 80051)) (tOp qMod (tCB qInt (tCons (tVar 2) tNil)) (tC (.int 999931))))) tNil)) (tC (.int 2147483549))) (tCons (tC (.int 0)) tNil)))))
def t__law_bag (K : PySem.W.Frag) (B : CA) : TS := (tSeq (t__law_bag_s1 K B) (tSeq (t__law_bag_s4 K B) (tSeq (t__law_bag_s5 K B) (t__law_bag_s6 K B))))

abbrev s__law_draw : Stmt := top 14
def N__law_draw : List Str := ["_law_bag_here", "_law_wide", "_law_figure", "_law_held", "_law_times"]
theorem sc__law_draw : FnScope ["_law_bag_here", "_law_wide", "_law_figure", "_law_held", "_law_times"] ["_law_bag_here", "_law_wide"] (defScope s__law_draw) := ⟨rfl, rfl, rfl, by decide +kernel, rfl, by decide +kernel, by decide +kernel⟩
theorem bt__law_draw : BindTxt "_law_draw" s__law_draw ["_law_bag_here", "_law_wide"] := fun _ _ _ _ _ _ us hl => match us, hl with | [_, _], _ => rfl
def t__law_draw_s1 (K : PySem.W.Frag) (B : CA) : TS := (tAsg (tOp qAdd (tOp qIxL (tVar 0) (tC (.int 2))) (tC (.int 1))) (gSub (tVar 0) (tC (.int 2)) qSetL))
def t__law_draw_s2 (K : PySem.W.Frag) (B : CA) : TS := (tAsg (tOp qMod (tCB qInt (tCons (tOp qIxL (tVar 0) (tC (.int 0))) tNil)) (tVar 1)) (gName 2))
def t__law_draw_s3 (K : PySem.W.Frag) (B : CA) : TS := (tAsg (tOp qDiv (tOp qIxL (tVar 0) (tC (.int 0))) (tVar 1)) (gSub (tVar 0) (tC (.int 0)) qSetL))
def t__law_draw_s4 (K : PySem.W.Frag) (B : CA) : TS := (tRet (tVar 2))
def t__law_draw_b5 (K : PySem.W.Frag) (B : CA) : TS := (tSeq (t__law_draw_s2 K B) (tSeq (t__law_draw_s3 K B) (t__law_draw_s4 K B)))
def t__law_draw_s6 (K : PySem.W.Frag) (B : CA) : TS := (tIfS (tTest (tOp qGt (tOp qIxL (tVar 0) (tC (.int 0))) (tC (.int 0)))) (t__law_draw_b5 K B) tNext)
def t__law_draw_s7 (K : PySem.W.Frag) (B : CA) : TS := (tAsg (tOp qAdd (tCB qInt (tCons (tOp qIxL (tVar 0) (tC (.int 1))) tNil)) (tOp qMul (tC (.int 76001)) (tOp qIxL (tVar 0) (tC (.int 2))))) (gName 3))
def t__law_draw_s8 (K : PySem.W.Frag) (B : CA) : TS := (tAsg (tOp qAdd (tOp qMod (tCB qInt (tCons (tVar 3) tNil)) (tC (.int 49999))) (tC (.int 38011))) (gName 4))
def t__law_draw_s9 (K : PySem.W.Frag) (B : CA) : TS := (tAsg (tOp qMod (tCB qInt (tCons (tOp qAdd (tOp qAdd (tOp qMul (tVar 3) (tVar 4)) (tOp qMul (tC (.int 11)) (tOp qIxL (tVar 0) (tC (.int 2))))) (tC (.int 19))) tNil)) (tC (.int 2147483549))) (gSub (tVar 0) (tC (.int 1)) qSetL))
def t__law_draw_s10 (K : PySem.W.Frag) (B : CA) : TS := (tRet (tOp qMod (tOp qDiv (tCB qInt (tCons (tOp qIxL (tVar 0) (tC (.int 1))) tNil)) (tC (.int 509))) (tVar 1)))
def t__law_draw (K : PySem.W.Frag) (B : CA) : TS := (tSeq (t__law_draw_s1 K B) (tSeq (t__law_draw_s6 K B) (tSeq (t__law_draw_s7 K B) (tSeq (t__law_draw_s8 K B) (tSeq (t__law_draw_s9 K B) (t__law_draw_s10 K B))))))

abbrev s__law_one : Stmt := top 15
def N__law_one : List Str := ["_law_bag_here", "_law_some"]
theorem sc__law_one : FnScope ["_law_bag_here", "_law_some"] ["_law_bag_here", "_law_some"] (defScope s__law_one) := ⟨rfl, rfl, rfl, by decide +kernel, rfl, by decide +kernel, by decide +kernel⟩
theorem bt__law_one : BindTxt "_law_one" s__law_one ["_law_bag_here", "_law_some"] := fun _ _ _ _ _ _ us hl => match us, hl with | [_, _], _ => rfl
def t__law_one_s1 (K : PySem.W.Frag) (B : CA) : TS := (tRet (tOp qIxL (tVar 1) (tCall (spDraw) [] E0 (tCons (tVar 0) (tCons (tCB qLenQ (tCons (tVar 1) tNil)) tNil)))))
def t__law_one (K : PySem.W.Frag) (B : CA) : TS := (t__law_one_s1 K B)

abbrev s__law_flagged : Stmt := top 16
def N__law_flagged : List Str := ["_law_shape", "_law_early_here", "_law_begin", "_law_again_here", "_law_turn", "_law_k"]
theorem sc__law_flagged : FnScope ["_law_shape", "_law_early_here", "_law_begin", "_law_again_here", "_law_turn", "_law_k"] ["_law_shape"] (defScope s__law_flagged) := ⟨rfl, rfl, rfl, by decide +kernel, rfl, by decide +kernel, by decide +kernel⟩
theorem bt__law_flagged : BindTxt "_law_flagged" s__law_flagged ["_law_shape"] := fun _ _ _ _ _ _ us hl => match us, hl with | [_], _ => rfl
def t__law_flagged_s1 (K : PySem.W.Frag) (B : CA) : TS := (tAsg (tVar 0) (gTup K 4 (gCons (gName 1) (gCons (gName 2) (gCons (gName 3) (gCons (gName 4) gNil))))))
def t__law_flagged_e2 (K : PySem.W.Frag) (B : CA) : TE := (tIf (tTest (tOp qLt (tVar 5) (tVar 2))) (tOp (rIn K false) (tVar 5) (tVar 1)) (tOp (rIn K false) (tOp qMod (tCB qInt (tCons (tVar 5) tNil)) (tVar 4)) (tVar 3)))
def t__law_flagged_s3 (K : PySem.W.Frag) (B : CA) : TS := (tRet (tLc (iRng1 (tCons (tC (.int 61)) tNil)) (gName 5) tYes (t__law_flagged_e2 K B) [5]))
def t__law_flagged (K : PySem.W.Frag) (B : CA) : TS := (tSeq (t__law_flagged_s1 K B) (t__law_flagged_s3 K B))

abbrev s__law_drawn_set : Stmt := top 17
def N__law_drawn_set : List Str := ["_law_bag_here", "_law_begin", "_law_turn", "_law_early_here", "_law_again_here", "_law_k"]
theorem sc__law_drawn_set : FnScope ["_law_bag_here", "_law_begin", "_law_turn", "_law_early_here", "_law_again_here", "_law_k"] ["_law_bag_here"] (defScope s__law_drawn_set) := ⟨rfl, rfl, rfl, by decide +kernel, rfl, by decide +kernel, by decide +kernel⟩
theorem bt__law_drawn_set : BindTxt "_law_drawn_set" s__law_drawn_set ["_law_bag_here"] := fun _ _ _ _ _ _ us hl => match us, hl with | [_], _ => rfl
def t__law_drawn_set_s1 (K : PySem.W.Frag) (B : CA) : TS := (tPar 1 2 (tCons (tOp qAdd (tC (.int 1)) (tCall (spDraw) [] E0 (tCons (tVar 0) (tCons (tC (.int 8)) tNil)))) (tCons (tOp qAdd (tC (.int 1)) (tCall (spDraw) [] E0 (tCons (tVar 0) (tCons (tC (.int 6)) tNil)))) tNil)))
def t__law_drawn_set_c2 (K : PySem.W.Frag) (B : CA) : TT := (tTest (tOp rEq (tCall (spDraw) [] E0 (tCons (tVar 0) (tCons (tC (.int 2)) tNil))) (tC (.int 0))))
def t__law_drawn_set_e3 (K : PySem.W.Frag) (B : CA) : TE := (tVar 5)
def t__law_drawn_set_s4 (K : PySem.W.Frag) (B : CA) : TS := (tAsg (tCB (qTuple K) (tCons (tLc (iRng2 (tCons (tC (.int 1)) (tCons (tVar 1) tNil))) (gName 5) (t__law_drawn_set_c2 K B) (t__law_drawn_set_e3 K B) [5]) tNil)) (gName 3))
def t__law_drawn_set_c5 (K : PySem.W.Frag) (B : CA) : TT := (tTest (tOp rEq (tCall (spDraw) [] E0 (tCons (tVar 0) (tCons (tC (.int 2)) tNil))) (tC (.int 0))))
def t__law_drawn_set_e6 (K : PySem.W.Frag) (B : CA) : TE := (tVar 5)
def t__law_drawn_set_s7 (K : PySem.W.Frag) (B : CA) : TS := (tAsg (tCB (qTuple K) (tCons (tLc (iRng1 (tCons (tVar 2) tNil)) (gName 5) (t__law_drawn_set_c5 K B) (t__law_drawn_set_e6 K B) [5]) tNil)) (gName 4))
def t__law_drawn_set_s8 (K : PySem.W.Frag) (B : CA) : TS := (tRet (tTup (tCons (tVar 3) (tCons (tVar 1) (tCons (tCall (spOne) [] E0 (tCons (tVar 0) (tCons (tLst (tCons (tVar 4) (tCons (tVar 4) (tCons (tTup tNil) tNil)))) tNil))) (tCons (tVar 2) tNil))))))
def t__law_drawn_set (K : PySem.W.Frag) (B : CA) : TS := (tSeq (t__law_drawn_set_s1 K B) (tSeq (t__law_drawn_set_s4 K B) (tSeq (t__law_drawn_set_s7 K B) (t__law_drawn_set_s8 K B))))

abbrev s__law_longer : Stmt := top 18
def N__law_longer : List Str := ["_law_bag_here", "_law_shape", "_law_flags", "_law_turn", "_law_begin", "_law_early_here", "_law_k"]
theorem sc__law_longer : FnScope ["_law_bag_here", "_law_shape", "_law_flags", "_law_turn", "_law_begin", "_law_early_here", "_law_k"] ["_law_bag_here", "_law_shape"] (defScope s__law_longer) := ⟨rfl, rfl, rfl, by decide +kernel, rfl, by decide +kernel, by decide +kernel⟩
theorem bt__law_longer : BindTxt "_law_longer" s__law_longer ["_law_bag_here", "_law_shape"] := fun _ _ _ _ _ _ us hl => match us, hl with | [_, _], _ => rfl
def t__law_longer_s1 (K : PySem.W.Frag) (B : CA) : TS := (tAsg (tTup (tCons (tCall (sp__law_flagged K B) [] E0 (tCons (tVar 1) tNil)) (tCons (tOp qMul (tOp qIxT (tVar 1) (tC (.int 3))) (tOp qAdd (tC (.int 1)) (tCall (spDraw) [] E0 (tCons (tVar 0) (tCons (tC (.int 3)) tNil))))) tNil))) (gTup K 2 (gCons (gName 2) (gCons (gName 3) gNil))))
def t__law_longer_s2 (K : PySem.W.Frag) (B : CA) : TS := (tAsg (tOp qAdd (tOp qIxT (tVar 1) (tC (.int 1))) (tCall (spDraw) [] E0 (tCons (tVar 0) (tCons (tC (.int 5)) tNil)))) (gName 4))
def t__law_longer_c3 (K : PySem.W.Frag) (B : CA) : TT := (tB (tOp qIxL (tVar 2) (tVar 6)))
def t__law_longer_e4 (K : PySem.W.Frag) (B : CA) : TE := (tVar 6)
def t__law_longer_s5 (K : PySem.W.Frag) (B : CA) : TS := (tAsg (tCB (qTuple K) (tCons (tLc (iRng2 (tCons (tC (.int 1)) (tCons (tVar 4) tNil))) (gName 6) (t__law_longer_c3 K B) (t__law_longer_e4 K B) [6]) tNil)) (gName 5))
def t__law_longer_c6 (K : PySem.W.Frag) (B : CA) : TT := (tTest (tOp (rIn K false) (tOp qMod (tCB qInt (tCons (tVar 6) tNil)) (tOp qIxT (tVar 1) (tC (.int 3)))) (tOp qIxT (tVar 1) (tC (.int 2)))))
def t__law_longer_e7 (K : PySem.W.Frag) (B : CA) : TE := (tVar 6)
def t__law_longer_s8 (K : PySem.W.Frag) (B : CA) : TS := (tRet (tTup (tCons (tVar 5) (tCons (tVar 4) (tCons (tCB (qTuple K) (tCons (tLc (iRng1 (tCons (tVar 3) tNil)) (gName 6) (t__law_longer_c6 K B) (t__law_longer_e7 K B) [6]) tNil)) (tCons (tVar 3) tNil))))))
def t__law_longer (K : PySem.W.Frag) (B : CA) : TS := (tSeq (t__law_longer_s1 K B) (tSeq (t__law_longer_s2 K B) (tSeq (t__law_longer_s5 K B) (t__law_longer_s8 K B))))

abbrev s__law_is_least : Stmt := top 19
def N__law_is_least : List Str := ["_law_flags", "_law_begin", "_law_turn", "_law_sizes", "_law_off", "_law_k", "_law_at"]
theorem sc__law_is_least : FnScope ["_law_flags", "_law_begin", "_law_turn", "_law_sizes", "_law_off", "_law_k", "_law_at"] ["_law_flags", "_law_begin", "_law_turn"] (defScope s__law_is_least) := ⟨rfl, rfl, rfl, by decide +kernel, rfl, by decide +kernel, by decide +kernel⟩
theorem bt__law_is_least : BindTxt "_law_is_least" s__law_is_least ["_law_flags", "_law_begin", "_law_turn"] := fun _ _ _ _ _ _ us hl => match us, hl with | [_, _, _], _ => rfl
def t__law_is_least_c1 (K : PySem.W.Frag) (B : CA) : TT := (tTest (tOp rNe (tOp qIxL (tVar 0) (tVar 6)) (tOp qIxL (tVar 0) (tOp qAdd (tVar 6) (tVar 5)))))
def t__law_is_least_e2 (K : PySem.W.Frag) (B : CA) : TE := (tVar 6)
def t__law_is_least_c3 (K : PySem.W.Frag) (B : CA) : TT := (tTest (tOp (rEqD K) (tLc (iRng2 (tCons (tVar 1) (tCons (tOp qSub (tC (.int 61)) (tVar 5)) tNil))) (gName 6) (t__law_is_least_c1 K B) (t__law_is_least_e2 K B) [6]) (tLst tNil)))
def t__law_is_least_e4 (K : PySem.W.Frag) (B : CA) : TE := (tVar 5)
def t__law_is_least_s5 (K : PySem.W.Frag) (B : CA) : TS := (tAsg (tLc (iRng2 (tCons (tC (.int 1)) (tCons (tVar 2) tNil))) (gName 5) (t__law_is_least_c3 K B) (t__law_is_least_e4 K B) [5]) (gName 3))
def t__law_is_least_c6 (K : PySem.W.Frag) (B : CA) : TT := (tTest (tOp rNe (tOp qIxL (tVar 0) (tVar 6)) (tOp qIxL (tVar 0) (tOp qAdd (tVar 6) (tVar 2)))))
def t__law_is_least_e7 (K : PySem.W.Frag) (B : CA) : TE := (tVar 6)
def t__law_is_least_s8 (K : PySem.W.Frag) (B : CA) : TS := (tAsg (tLc (iRng2 (tCons (tVar 1) (tCons (tOp qSub (tC (.int 61)) (tVar 2)) tNil))) (gName 6) (t__law_is_least_c6 K B) (t__law_is_least_e7 K B) [6]) (gName 4))
def t__law_is_least_s9 (K : PySem.W.Frag) (B : CA) : TS := (tRet (tC (.bl false)))
def t__law_is_least_b10 (K : PySem.W.Frag) (B : CA) : TS := (t__law_is_least_s9 K B)
def t__law_is_least_s11 (K : PySem.W.Frag) (B : CA) : TS := (tIfS (tOr (tTest (tOp (rNeD K) (tVar 3) (tLst tNil))) (tTest (tOp (rNeD K) (tVar 4) (tLst tNil)))) (t__law_is_least_b10 K B) tNext)
def t__law_is_least_s12 (K : PySem.W.Frag) (B : CA) : TS := (tRet (tOrV (tOp rEq (tVar 1) (tC (.int 1))) (tOp rNe (tOp qIxL (tVar 0) (tOp qSub (tVar 1) (tC (.int 1)))) (tOp qIxL (tVar 0) (tOp qAdd (tOp qSub (tVar 1) (tC (.int 1))) (tVar 2))))))
def t__law_is_least (K : PySem.W.Frag) (B : CA) : TS := (tSeq (t__law_is_least_s5 K B) (tSeq (t__law_is_least_s8 K B) (tSeq (t__law_is_least_s11 K B) (t__law_is_least_s12 K B))))

abbrev s__law_right : Stmt := top 20
def N__law_right : List Str := ["_law_bag_here", "_law_made", "_law_turn", "_law_shape", "_law_near", "_law_mine", "_law_mate", "_law_shown", "_law_flags", "_law_asked", "_law_due", "_law_some", "_law_k", "_law_each"]
theorem sc__law_right : FnScope ["_law_bag_here", "_law_made", "_law_turn", "_law_shape", "_law_near", "_law_mine", "_law_mate", "_law_shown", "_law_flags", "_law_asked", "_law_due", "_law_some", "_law_k", "_law_each"] ["_law_bag_here"] (defScope s__law_right) := ⟨rfl, rfl, rfl, by decide +kernel, rfl, by decide +kernel, by decide +kernel⟩
theorem bt__law_right : BindTxt "_law_right" s__law_right ["_law_bag_here"] := fun _ _ _ _ _ _ us hl => match us, hl with | [_], _ => rfl
def kw__law_right_0_g {α : Type} : List α → List α → List α := fun us ws => match us, ws with | [u0], [w0, w1, w2, w3] => [u0, w3, w2, w1, w0] | us, ws => us ++ ws
theorem kw__law_right_0_b : KwTxtQ "__init__" "Lengths.__init__" s_Lengths____init__ ["self", "early", "start", "again", "period"] ["period", "again", "start", "early"] 1 kw__law_right_0_g := fun _ _ _ _ _ _ us ws h1 h2 => match us, ws, h1, h2 with | [_], [_, _, _, _], _, _ => rfl
theorem kw__law_right_0_r : KwRel 1 4 kw__law_right_0_g kw__law_right_0_g := by
  intro vs zs us ws h1 h2 r1 r2
  match vs, zs, us, ws, h1, h2, r1, r2 with
  | [_], [_, _, _, _], _, _, _, _, .cons a0 .nil, .cons b0 (.cons b1 (.cons b2 (.cons b3 .nil))) => exact .cons a0 (.cons b3 (.cons b2 (.cons b1 (.cons b0 .nil))))
def t__law_right_s1 (K : PySem.W.Frag) (B : CA) : TS := (tAsg (tLst tNil) (gName 1))
def t__law_right_s2 (K : PySem.W.Frag) (B : CA) : TS := (tAsg (tCall (sp__law_drawn_set K B) [] E0 (tCons (tVar 0) tNil)) (gName 3))
def t__law_right_s3 (K : PySem.W.Frag) (B : CA) : TS := (tAsg (tCall (sp__law_longer K B) [] E0 (tCons (tVar 0) (tCons (tVar 3) tNil))) (gName 4))
def t__law_right_s4 (K : PySem.W.Frag) (B : CA) : TS := (tAsg (tMake B.c_Lengths (sp_Lengths____init__ K B) [] E0 (tCons (tOp qIxT (tVar 4) (tC (.int 0))) (tCons (tOp qIxT (tVar 4) (tC (.int 1))) (tCons (tOp qIxT (tVar 4) (tC (.int 2))) (tCons (tOp qIxT (tVar 4) (tC (.int 3))) tNil))))) (gName 5))
def t__law_right_s5 (K : PySem.W.Frag) (B : CA) : TS := (tAsg (tMakeKw B.c_Lengths 0 4 (sp_Lengths____init__ K B) kw__law_right_0_g tNil (tCons (tOp qIxT (tVar 3) (tC (.int 3))) (tCons (tOp qIxT (tVar 3) (tC (.int 2))) (tCons (tOp qIxT (tVar 3) (tC (.int 1))) (tCons (tOp qIxT (tVar 3) (tC (.int 0))) tNil))))) (gName 6))
def t__law_right_s6 (K : PySem.W.Frag) (B : CA) : TS := (tAsg (tTup (tCons (tTup (tCons (tProp B.c_Lengths (sp_Lengths__early K B) [] E0 (tVar 5)) (tCons (tProp B.c_Lengths (sp_Lengths__start K B) [] E0 (tVar 5)) (tCons (tProp B.c_Lengths (sp_Lengths__again K B) [] E0 (tVar 5)) (tCons (tProp B.c_Lengths (sp_Lengths__period K B) [] E0 (tVar 5)) tNil))))) (tCons (tCall (sp__law_flagged K B) [] E0 (tCons (tVar 3) tNil)) tNil))) (gTup K 2 (gCons (gName 7) (gCons (gName 8) gNil))))
def t__law_right_s7 (K : PySem.W.Frag) (B : CA) : TS := (tRet (tC (.bl false)))
def t__law_right_b8 (K : PySem.W.Frag) (B : CA) : TS := (t__law_right_s7 K B)
def t__law_right_s9 (K : PySem.W.Frag) (B : CA) : TS := (tIfS (tOr (tTest (tOp rNe (tCB (rRepr K) (tCons (tVar 7) tNil)) (tCB (rRepr K) (tCons (tTup (tCons (tProp B.c_Lengths (sp_Lengths__early K B) [] E0 (tVar 6)) (tCons (tProp B.c_Lengths (sp_Lengths__start K B) [] E0 (tVar 6)) (tCons (tProp B.c_Lengths (sp_Lengths__again K B) [] E0 (tVar 6)) (tCons (tProp B.c_Lengths (sp_Lengths__period K B) [] E0 (tVar 6)) tNil))))) tNil)))) (tOr (tTest (tOp (rEqOwn K B.c_Lengths (sp_Lengths____eq__ K B) fun b => !b) (tVar 5) (tVar 6))) (tNot (tTruR (rTru B.c_Lengths) (tVar 5))))) (t__law_right_b8 K B) tNext)
def t__law_right_s10 (K : PySem.W.Frag) (B : CA) : TS := (tRet (tC (.bl false)))
def t__law_right_b11 (K : PySem.W.Frag) (B : CA) : TS := (t__law_right_s10 K B)
def t__law_right_s12 (K : PySem.W.Frag) (B : CA) : TS := (tIfS (tOr (tTest (tOp (rNeD K) (tSl (rSlL K) (tCall (sp__law_flagged K B) [] E0 (tCons (tVar 7) tNil)) (tPart (tC (.int 1))) tNoPart) (tSl (rSlL K) (tVar 8) (tPart (tC (.int 1))) tNoPart))) (tNot (tB (tCall (sp__law_is_least K B) [] E0 (tCons (tVar 8) (tCons (tOp qIxT (tVar 7) (tC (.int 1))) (tCons (tOp qIxT (tVar 7) (tC (.int 3))) tNil))))))) (t__law_right_b11 K B) tNext)
def t__law_right_s13 (K : PySem.W.Frag) (B : CA) : TS := (tAsg (tOp rCat (tLstRg (tRg2 (tC (.int 1)) (tC (.int 61)))) (tLst (tCons (tC (.int 0)) (tCons (tUn (rU fun i => .int (-i)) (tC (.int 1))) (tCons (tC .non) (tCons (tC (.bl true)) (tCons (tC (.str ("3" : Str))) (tCons (tTup (tCons (tC (.int 3)) tNil)) (tCons (tLst tNil) (tCons (tOp qAdd (tOp qPow (tC (.int 10)) (tC (.int 50))) (tC (.int 7))) tNil)))))))))) (gName 9))
def t__law_right_s14 (K : PySem.W.Frag) (B : CA) : TS := (tAsg (tOp rCat (tOp rCat (tSl (rSlL K) (tVar 8) (tPart (tC (.int 1))) tNoPart) (tOp rRep (tLst (tCons (tC (.bl false)) tNil)) (tC (.int 7)))) (tLst (tCons (tOp (rIn K false) (tOp qMod (tCB qInt (tCons (tOp qAdd (tOp qPow (tC (.int 10)) (tC (.int 50))) (tC (.int 7))) tNil)) (tOp qIxT (tVar 3) (tC (.int 3)))) (tOp qIxT (tVar 3) (tC (.int 2)))) tNil))) (gName 10))
def t__law_right_e15 (K : PySem.W.Frag) (B : CA) : TE := (tOp (rInOwn B.c_Lengths (sp_Lengths____contains__ K B) fun b => b) (tVar 12) (tVar 5))
def t__law_right_s16 (K : PySem.W.Frag) (B : CA) : TS := (tRet (tC (.bl false)))
def t__law_right_b17 (K : PySem.W.Frag) (B : CA) : TS := (t__law_right_s16 K B)
def t__law_right_s18 (K : PySem.W.Frag) (B : CA) : TS := (tIfS (tTest (tOp rNe (tCB (rRepr K) (tCons (tLc (iList K (tVar 9)) (gName 12) tYes (t__law_right_e15 K B) [12]) tNil)) (tCB (rRepr K) (tCons (tVar 10) tNil)))) (t__law_right_b17 K B) tNext)
def t__law_right_c19 (K : PySem.W.Frag) (B : CA) : TT := (tB (tOp qIxL (tVar 8) (tVar 12)))
def t__law_right_e20 (K : PySem.W.Frag) (B : CA) : TE := (tVar 12)
def t__law_right_s21 (K : PySem.W.Frag) (B : CA) : TS := (tAsg (tLc (iRng2 (tCons (tC (.int 1)) (tCons (tC (.int 61)) tNil))) (gName 12) (t__law_right_c19 K B) (t__law_right_e20 K B) [12]) (gName 11))
def t__law_right_s22 (K : PySem.W.Frag) (B : CA) : TS := (tRet (tC (.bl false)))
def t__law_right_b23 (K : PySem.W.Frag) (B : CA) : TS := (t__law_right_s22 K B)
def t__law_right_s24 (K : PySem.W.Frag) (B : CA) : TS := (tIfS (tOr (tTest (tOp (rNeD K) (tMeth B.c_Lengths "first" (sp_Lengths__first K B) [] E0 (tVar 5) tNil) (tIf (tTest (tOp (rNeD K) (tVar 11) (tLst tNil))) (tOp qIxL (tVar 11) (tC (.int 0))) (tC .non)))) (tOr (tTest (tOp rNe (tMeth B.c_Lengths "endless" (sp_Lengths__endless K B) [] E0 (tVar 5) tNil) (tOp (rNeD K) (tOp qIxT (tVar 3) (tC (.int 2))) (tTup tNil)))) (tTest (tOp (rEqOwn K B.c_Lengths (sp_Lengths____eq__ K B) fun b => b) (tVar 5) (tVar 7))))) (t__law_right_b23 K B) tNext)
def t__law_right_s25 (K : PySem.W.Frag) (B : CA) : TS := (tDrop (tBM K "list" rAppend (tVar 1) (tCons (tTup (tCons (tVar 5) (tCons (tSl (rSlL K) (tVar 8) (tPart (tC (.int 1))) tNoPart) tNil))) tNil)))
def t__law_right_b26 (K : PySem.W.Frag) (B : CA) : TS := (tSeq (t__law_right_s2 K B) (tSeq (t__law_right_s3 K B) (tSeq (t__law_right_s4 K B) (tSeq (t__law_right_s5 K B) (tSeq (t__law_right_s6 K B) (tSeq (t__law_right_s9 K B) (tSeq (t__law_right_s12 K B) (tSeq (t__law_right_s13 K B) (tSeq (t__law_right_s14 K B) (tSeq (t__law_right_s18 K B) (tSeq (t__law_right_s21 K B) (tSeq (t__law_right_s24 K B) (t__law_right_s25 K B)))))))))))))
def t__law_right_s27 (K : PySem.W.Frag) (B : CA) : TS := (tFor (iRng1 (tCons (tC (.int 5)) tNil)) (gName 2) (t__law_right_b26 K B))
def t__law_right_c28 (K : PySem.W.Frag) (B : CA) : TT := (tTest (tOp rNe (tOp (rEqOwn K B.c_Lengths (sp_Lengths____eq__ K B) fun b => b) (tOp qIxT (tVar 13) (tC (.int 0))) (tOp qIxT (tOp qIxL (tVar 1) (tC (.int 0))) (tC (.int 0)))) (tOp (rEqD K) (tOp qIxT (tVar 13) (tC (.int 1))) (tOp qIxT (tOp qIxL (tVar 1) (tC (.int 0))) (tC (.int 1))))))
def t__law_right_e29 (K : PySem.W.Frag) (B : CA) : TE := (tVar 13)
def t__law_right_s30 (K : PySem.W.Frag) (B : CA) : TS := (tRet (tOp (rEqD K) (tLc (iList K (tVar 1)) (gName 13) (t__law_right_c28 K B) (t__law_right_e29 K B) [13]) (tLst tNil)))
def t__law_right (K : PySem.W.Frag) (B : CA) : TS := (tSeq (t__law_right_s1 K B) (tSeq (t__law_right_s27 K B) (t__law_right_s30 K B)))

abbrev s_law : Stmt := top 21
def N_law : List Str := ["_law_script", "_law_mine", "_law_k"]
theorem sc_law : FnScope ["_law_script", "_law_mine", "_law_k"] ["_law_script"] (defScope s_law) := ⟨rfl, rfl, rfl, by decide +kernel, rfl, by decide +kernel, by decide +kernel⟩
theorem bt_law : BindTxt "law" s_law ["_law_script"] := fun _ _ _ _ _ _ us hl => match us, hl with | [_], _ => rfl
def t_law_s1 (K : PySem.W.Frag) (B : CA) : TS := (tAsg (tMake B.c_Lengths (sp_Lengths____init__ K B) [] E0 (tCons (tTup (tCons (tC (.int 1)) (tCons (tC (.int 3)) (tCons (tC (.int 5)) tNil)))) (tCons (tC (.int 7)) (tCons (tTup (tCons (tC (.int 1)) (tCons (tC (.int 3)) tNil))) (tCons (tC (.int 4)) tNil))))) (gName 1))
def t_law_s2 (K : PySem.W.Frag) (B : CA) : TS := (tRet (tC (.bl false)))
def t_law_b3 (K : PySem.W.Frag) (B : CA) : TS := (t_law_s2 K B)
def t_law_s4 (K : PySem.W.Frag) (B : CA) : TS := (tIfS (tTest (tOp (rNeD K) (tLst (tCons (tProp B.c_Lengths (sp_Lengths__early K B) [] E0 (tVar 1)) (tCons (tProp B.c_Lengths (sp_Lengths__start K B) [] E0 (tVar 1)) (tCons (tProp B.c_Lengths (sp_Lengths__again K B) [] E0 (tVar 1)) (tCons (tProp B.c_Lengths (sp_Lengths__period K B) [] E0 (tVar 1)) (tCons (tMeth B.c_Lengths "first" (sp_Lengths__first K B) [] E0 (tVar 1) tNil) (tCons (tMeth B.c_Lengths "endless" (sp_Lengths__endless K B) [] E0 (tVar 1) tNil) tNil))))))) (tLst (tCons (tTup tNil) (tCons (tC (.int 1)) (tCons (tTup (tCons (tC (.int 1)) tNil)) (tCons (tC (.int 2)) (tCons (tC (.int 1)) (tCons (tC (.bl true)) tNil))))))))) (t_law_b3 K B) tNext)
def t_law_e5 (K : PySem.W.Frag) (B : CA) : TE := (tCall (sp__law_right K B) [] E0 (tCons (tCall (spFresh K) [] E0 (tCons (tVar 0) (tCons (tVar 2) tNil))) tNil))
def t_law_s6 (K : PySem.W.Frag) (B : CA) : TS := (tRet (tCB (rAll K) (tCons (tLc (iRng1 (tCons (tCB qMax2 (tCons (tC (.int 2)) (tCons (tCB qMin2 (tCons (tCB (qLen K) (tCons (tVar 0) tNil)) (tCons (tC (.int 6)) tNil))) tNil))) tNil)) (gName 2) tYes (t_law_e5 K B) [2]) tNil)))
def t_law (K : PySem.W.Frag) (B : CA) : TS := (tSeq (t_law_s1 K B) (tSeq (t_law_s4 K B) (t_law_s6 K B)))

theorem ok_is_integer {P : Program} {w : World} {K : PySem.W.Frag} {B : CA} {mg : Str → Option Value} {base : Heap} (T : Txt K mg B) (R : Raw K mg "is_integer" s_is_integer)
    (len : ∀ vs H Q E, (sp_is_integer K B) vs H Q E → vs.length = 1)
    (pure : ∀ vs H Q E, (sp_is_integer K B) vs H Q E → t_is_integer K B { nx := fun _ H' => Q .non H', rt := Q } (start ["value"] vs) H) :
    Has P w K mg base "is_integer" s_is_integer 1 ["value"] (sp_is_integer K B) := by
  refine has_mk R sc_is_integer bt_is_integer len (fun f cdv A outer s H vs Q E hr h => ⟨t_is_integer K B, ?_, pure vs H Q E h⟩)
  exact (pss_one (ps_ret (pe_and (pe_callB call_isi (by rfl) T.b_isinstance (by decide +kernel) (pa_cons (pv 0) (pa_cons (pe_ty T.b_int (by decide +kernel)) pa_nil))) (pe_one (pe_not (pe_callB call_isi (by rfl) T.b_isinstance (by decide +kernel) (pa_cons (pv 0) (pa_cons (pe_ty T.b_bool (by decide +kernel)) pa_nil))))))))

theorem ok_is_between {P : Program} {w : World} {K : PySem.W.Frag} {B : CA} {mg : Str → Option Value} {base : Heap} (T : Txt K mg B) (R : Raw K mg "is_between" s_is_between)
    (h_is_integer : Has P w K mg base "is_integer" s_is_integer 1 ["value"] (sp_is_integer K B))
    (len : ∀ vs H Q E, (sp_is_between K B) vs H Q E → vs.length = 3)
    (pure : ∀ vs H Q E, (sp_is_between K B) vs H Q E → t_is_between K B { nx := fun _ H' => Q .non H', rt := Q } (start ["value", "least", "most"] vs) H) :
    Has P w K mg base "is_between" s_is_between 2 ["value", "least", "most"] (sp_is_between K B) := by
  refine has_mk R sc_is_between bt_is_between len (fun f cdv A outer s H vs Q E hr h => ⟨t_is_between K B, ?_, pure vs H Q E h⟩)
  exact (pss_one (ps_ret (pe_and (pe_f h_is_integer (hr.mono (by decide)) (pa_cons (pv 0) pa_nil)) (pe_and (pe_cmpR op_le (pv 1) (pv 0) (nomark _)) (pe_one (pe_or (pe_cmpR op_isN (pv 2) pe_non (nomark _)) (pe_one (pe_cmpR op_le (pv 0) (pv 2) (nomark _)))))))))

theorem ok_are_ascending {P : Program} {w : World} {K : PySem.W.Frag} {B : CA} {mg : Str → Option Value} {base : Heap} (T : Txt K mg B) (R : Raw K mg "are_ascending" s_are_ascending)
    (h_is_between : Has P w K mg base "is_between" s_is_between 2 ["value", "least", "most"] (sp_is_between K B))
    (len : ∀ vs H Q E, (sp_are_ascending K B) vs H Q E → vs.length = 3)
    (pure : ∀ vs H Q E, (sp_are_ascending K B) vs H Q E → t_are_ascending K B { nx := fun _ H' => Q .non H', rt := Q } (start ["value", "least", "most", "each", "k"] vs) H) :
    Has P w K mg base "are_ascending" s_are_ascending 3 ["value", "least", "most"] (sp_are_ascending K B) := by
  refine has_mk R sc_are_ascending bt_are_ascending len (fun f cdv A outer s H vs Q E hr h => ⟨t_are_ascending K B, ?_, pure vs H Q E h⟩)
  exact (pss_cons (ps_if (PW.pt (pw_or (pt_not (pt_val (pe_callB call_isi (by rfl) T.b_isinstance (by decide +kernel) (pa_cons (pv 0) (pa_cons (pe_ty T.b_tuple (by decide +kernel)) pa_nil))))) (pw_or1 (pt_not (pt_val (pe_callB (cr_all rfl) (by rfl) T.b_all (by decide +kernel) (pa_cons (pe_lc (own := [("each", 3)]) (g := (gName 3)) (tt := tYes) rfl sc_are_ascending.nd (pi_tup (pv 0)) (blkOk_by (own := [("each", 3)]) (N := N_are_ascending) (sc := defScope s_are_ascending) (by decide +kernel)) (fun _ _ _ _ _ => (pg_name (i := 3) sc_are_ascending.nd rfl (by first | exact Or.inl rfl | exact Or.inr rfl))) (fun _ _ _ _ _ => pts_nil) (fun _ _ _ _ _ => (pe_f h_is_between (hr.mono (by decide)) (pa_cons (pv 3) (pa_cons (pv 1) (pa_cons (pv 2) pa_nil)))))) pa_nil)))))))
    (pss_one (ps_ret pe_bl))
    pss_nil)
    (pss_one (ps_ret (pe_callB (cr_all rfl) (by rfl) T.b_all (by decide +kernel) (pa_cons (pe_lc (own := [("k", 4)]) (g := (gName 4)) (tt := tYes) rfl sc_are_ascending.nd (pi_range1 (by rfl) T.b_range (pa_cons (pe_op op_sub (pe_callB cl_len (by rfl) T.b_len (by decide +kernel) (pa_cons (pv 0) pa_nil)) pe_int) pa_nil)) (blkOk_by (own := [("k", 4)]) (N := N_are_ascending) (sc := defScope s_are_ascending) (by decide +kernel)) (fun _ _ _ _ _ => (pg_name (i := 4) sc_are_ascending.nd rfl (by first | exact Or.inl rfl | exact Or.inr rfl))) (fun _ _ _ _ _ => pts_nil) (fun _ _ _ _ _ => (pe_cmpR op_lt (pe_ix ix_t (pv 0) (pv 4) (fun _ _ => rfl)) (pe_ix ix_t (pv 0) (pe_op op_add (pv 4) pe_int) (fun _ _ => rfl)) (nomark _)))) pa_nil)))))

theorem ok_least_form {P : Program} {w : World} {K : PySem.W.Frag} {B : CA} {mg : Str → Option Value} {base : Heap} (T : Txt K mg B) (R : Raw K mg "least_form" s_least_form)
    (len : ∀ vs H Q E, (sp_least_form K B) vs H Q E → vs.length = 3)
    (pure : ∀ vs H Q E, (sp_least_form K B) vs H Q E → t_least_form K B { nx := fun _ H' => Q .non H', rt := Q } (start ["flags", "start", "period", "tail", "sizes", "least", "longer", "early", "again", "size", "k", "length"] vs) H) :
    Has P w K mg base "least_form" s_least_form 1 ["flags", "start", "period"] (sp_least_form K B) := by
  refine has_mk R sc_least_form bt_least_form len (fun f cdv A outer s H vs Q E hr h => ⟨t_least_form K B, ?_, pure vs H Q E h⟩)
  exact (pss_cons (ps_set (i := 3) sc_least_form.nd rfl (by first | exact Or.inl rfl | exact Or.inr rfl) (pe_slice sl_list (pv 0) (po_some (pe_op op_sub (pv 1) pe_int)) po_none))
    (pss_cons (ps_setLc (i := 4) (own := [("size", 9)]) (g := (gName 9)) (tt := (t_least_form_c2 K B)) rfl sc_least_form.nd rfl rfl (sw_true rfl rfl rfl (by decide +kernel)) (pi_range2 (by rfl) T.b_range (pa_cons pe_int (pa_cons (pe_op op_add (pv 2) pe_int) pa_nil))) (blkOk_by (own := [("size", 9)]) (N := N_least_form) (sc := defScope s_least_form) (by decide +kernel)) (fun _ _ _ _ _ => (pg_name (i := 9) sc_least_form.nd rfl (by first | exact Or.inl rfl | exact Or.inr rfl))) (fun _ _ _ _ _ => (pts_one (pt_cmpR op_eq (pe_op op_mod (pv 2) (pv 9)) pe_int (nomark _)))) (fun _ _ _ _ _ => (pv 9)))
    (pss_cons (ps_set (i := 5) sc_least_form.nd rfl (by first | exact Or.inl rfl | exact Or.inr rfl) (pe_ix ix_l (pe_lc (own := [("size", 9)]) (g := (gName 9)) (tt := (t_least_form_c6 K B)) rfl sc_least_form.nd (pi_list (pv 4)) (blkOk_by (own := [("size", 9)]) (N := N_least_form) (sc := defScope s_least_form) (by decide +kernel)) (fun _ _ _ _ _ => (pg_name (i := 9) sc_least_form.nd rfl (by first | exact Or.inl rfl | exact Or.inr rfl))) (fun _ _ _ _ _ => (pts_one (pt_val (pe_callB (cr_all rfl) (by rfl) T.b_all (by decide +kernel) (pa_cons (pe_lc (own := [("k", 10)]) (g := (gName 10)) (tt := tYes) rfl sc_least_form.nd (pi_range1 (by rfl) T.b_range (pa_cons (pv 2) pa_nil)) (blkOk_by (own := [("k", 10)]) (N := N_least_form) (sc := { kind := .function, names := [(".0", .local), ("size", .cell), ("all", .globalImplicit), ("range", .globalImplicit), ("period", .cell), ("tail", .cell)], isGenerator := false, isCoroutine := false, more := [] : Scope }) (by decide +kernel)) (fun _ _ _ _ _ => (pg_name (i := 10) sc_least_form.nd rfl (by first | exact Or.inl rfl | exact Or.inr rfl))) (fun _ _ _ _ _ => pts_nil) (fun _ _ _ _ _ => (pe_cmpR op_eq (pe_ix ix_l (pv 3) (pv 10) (fun _ _ => rfl)) (pe_ix ix_l (pv 3) (pe_op op_mod (pv 10) (pv 9)) (fun _ _ => rfl)) (nomark _)))) pa_nil))))) (fun _ _ _ _ _ => (pv 9))) pe_int (fun _ _ => rfl)))
    (pss_cons (ps_set (i := 6) sc_least_form.nd rfl (by first | exact Or.inl rfl | exact Or.inr rfl) (pe_op op_cat (pv 0) (pv 3)))
    (pss_cons (ps_while PassesOwn.never (PW.pt (pw_and (pt_cmpR op_gt (pv 1) pe_int (nomark _)) (pw_and1 (pt_cmpR op_eq (pe_ix ix_l (pv 6) (pe_op op_sub (pv 1) pe_int) (fun _ _ => rfl)) (pe_ix ix_l (pv 6) (pe_op op_add (pe_op op_sub (pv 1) pe_int) (pv 5)) (fun _ _ => rfl)) (nomark _)))))
    (pss_one (ps_aug (i := 1) sc_least_form.nd rfl (by first | exact Or.inl rfl | exact Or.inr rfl) pe_int ip_sub)))
    (pss_cons (ps_set (i := 7) sc_least_form.nd rfl (by first | exact Or.inl rfl | exact Or.inr rfl) (pe_callTy call_tuple_of (by rfl) T.b_tuple (by decide +kernel) (pa_cons (pe_lc (own := [("length", 11)]) (g := (gName 11)) (tt := (t_least_form_c14 K B)) rfl sc_least_form.nd (pi_range2 (by rfl) T.b_range (pa_cons pe_int (pa_cons (pv 1) pa_nil))) (blkOk_by (own := [("length", 11)]) (N := N_least_form) (sc := defScope s_least_form) (by decide +kernel)) (fun _ _ _ _ _ => (pg_name (i := 11) sc_least_form.nd rfl (by first | exact Or.inl rfl | exact Or.inr rfl))) (fun _ _ _ _ _ => (pts_one (pt_val (pe_ix ix_l (pv 0) (pe_op op_sub (pv 11) pe_int) (fun _ _ => rfl))))) (fun _ _ _ _ _ => (pv 11))) pa_nil)))
    (pss_cons (ps_setLc (i := 8) (own := [("length", 11)]) (g := (gName 11)) (tt := (t_least_form_c17 K B)) rfl sc_least_form.nd rfl rfl (sw_true rfl rfl rfl (by decide +kernel)) (pi_range2 (by rfl) T.b_range (pa_cons (pv 1) (pa_cons (pe_op op_add (pv 1) (pv 5)) pa_nil))) (blkOk_by (own := [("length", 11)]) (N := N_least_form) (sc := defScope s_least_form) (by decide +kernel)) (fun _ _ _ _ _ => (pg_name (i := 11) sc_least_form.nd rfl (by first | exact Or.inl rfl | exact Or.inr rfl))) (fun _ _ _ _ _ => (pts_one (pt_val (pe_ix ix_l (pv 6) (pe_op op_sub (pv 11) pe_int) (fun _ _ => rfl))))) (fun _ _ _ _ _ => (pe_op op_mod (pv 11) (pv 5))))
    (pss_one (ps_ret (pe_tup (pa_cons (pv 7) (pa_cons (pv 1) (pa_cons (pe_callTy call_tuple_of (by rfl) T.b_tuple (by decide +kernel) (pa_cons (pe_callB cr_sorted (by rfl) T.b_sorted (by decide +kernel) (pa_cons (pv 8) pa_nil)) pa_nil)) (pa_cons (pv 5) pa_nil))))))))))))))

theorem ok_Lengths____init__ {P : Program} {w : World} {K : PySem.W.Frag} {B : CA} {mg : Str → Option Value} {base : Heap} (T : Txt K mg B) (R : IRaw K mg B.c_Lengths "Lengths" "Lengths.__init__" s_Lengths____init__)
    (h_is_between : Has P w K mg base "is_between" s_is_between 2 ["value", "least", "most"] (sp_is_between K B))
    (h_are_ascending : Has P w K mg base "are_ascending" s_are_ascending 3 ["value", "least", "most"] (sp_are_ascending K B))
    (h_least_form : Has P w K mg base "least_form" s_least_form 1 ["flags", "start", "period"] (sp_least_form K B))
    (len : ∀ vs H Q E, (sp_Lengths____init__ K B) vs H Q E → vs.length = 5)
    (pure : ∀ vs H Q E, (sp_Lengths____init__ K B) vs H Q E → t_Lengths____init__ K B { nx := fun _ H' => Q .non H', rt := Q } (start ["self", "early", "start", "again", "period", "flags", "length"] vs) H) :
    HasI P w K mg base B.c_Lengths "Lengths" "Lengths.__init__" s_Lengths____init__ 4 ["self", "early", "start", "again", "period"] (sp_Lengths____init__ K B) := by
  refine hasI_mk R sc_Lengths____init__ bt_Lengths____init__ len (fun f cdv A outer s H vs Q E hr h => ⟨t_Lengths____init__ K B, ?_, pure vs H Q E h⟩)
  exact (pss_cons (ps_if (pt_not (pt_val (pe_f h_is_between (hr.mono (by decide)) (pa_cons (pv 2) (pa_cons pe_int (pa_cons (pe_gI T.c_MOST_START) pa_nil))))))
    pss_never
    pss_nil)
    (pss_cons (ps_if (pt_not (pt_val (pe_f h_are_ascending (hr.mono (by decide)) (pa_cons (pv 1) (pa_cons pe_int (pa_cons (pe_op op_sub (pv 2) pe_int) pa_nil))))))
    pss_never
    pss_nil)
    (pss_cons (ps_if (pt_not (pt_val (pe_f h_is_between (hr.mono (by decide)) (pa_cons (pv 4) (pa_cons pe_int (pa_cons (pe_gI T.c_MOST_START) pa_nil))))))
    pss_never
    pss_nil)
    (pss_cons (ps_if (pt_not (pt_val (pe_f h_are_ascending (hr.mono (by decide)) (pa_cons (pv 3) (pa_cons pe_int (pa_cons (pe_op op_sub (pv 4) pe_int) pa_nil))))))
    pss_never
    pss_nil)
    (pss_cons (ps_setLc (i := 5) (own := [("length", 6)]) (g := (gName 6)) (tt := tYes) rfl sc_Lengths____init__.nd rfl rfl (sw_true rfl rfl rfl (by decide +kernel)) (pi_range2 (by rfl) T.b_range (pa_cons pe_int (pa_cons (pv 2) pa_nil))) (blkOk_by (own := [("length", 6)]) (N := N_Lengths____init__) (sc := defScope s_Lengths____init__) (by decide +kernel)) (fun _ _ _ _ _ => (pg_name (i := 6) sc_Lengths____init__.nd rfl (by first | exact Or.inl rfl | exact Or.inr rfl))) (fun _ _ _ _ _ => pts_nil) (fun _ _ _ _ _ => (pe_cmpR op_in_seq (pv 6) (pv 1) (by rfl))))
    (pss_cons (ps_set (i := 5) sc_Lengths____init__.nd rfl (by first | exact Or.inl rfl | exact Or.inr rfl) (pe_op op_cat (pv 5) (pe_lc (own := [("length", 6)]) (g := (gName 6)) (tt := tYes) rfl sc_Lengths____init__.nd (pi_range2 (by rfl) T.b_range (pa_cons (pv 2) (pa_cons (pe_op op_add (pv 2) (pv 4)) pa_nil))) (blkOk_by (own := [("length", 6)]) (N := N_Lengths____init__) (sc := defScope s_Lengths____init__) (by decide +kernel)) (fun _ _ _ _ _ => (pg_name (i := 6) sc_Lengths____init__.nd rfl (by first | exact Or.inl rfl | exact Or.inr rfl))) (fun _ _ _ _ _ => pts_nil) (fun _ _ _ _ _ => (pe_cmpR op_in_seq (pe_op op_mod (pv 6) (pv 4)) (pv 3) (by rfl))))))
    (pss_one (ps_fldC T.i_Lengths.cl T.n_Lengths_held (pv 0) (pe_f h_least_form (hr.mono (by decide)) (pa_cons (pv 5) (pa_cons (pv 2) (pa_cons (pv 4) pa_nil))))))))))))

theorem ok_Lengths__early {P : Program} {w : World} {K : PySem.W.Frag} {B : CA} {mg : Str → Option Value} {base : Heap} (T : Txt K mg B) (R : PRaw K B.c_Lengths "early" "Lengths.early" s_Lengths__early)
    (len : ∀ vs H Q E, (sp_Lengths__early K B) vs H Q E → vs.length = 1)
    (pure : ∀ vs H Q E, (sp_Lengths__early K B) vs H Q E → t_Lengths__early K B { nx := fun _ H' => Q .non H', rt := Q } (start ["self"] vs) H) :
    HasP P w K mg base B.c_Lengths "early" "Lengths.early" s_Lengths__early 1 ["self"] (sp_Lengths__early K B) := by
  refine hasP_mk R sc_Lengths__early bt_Lengths__early len (fun f cdv A outer s H vs Q E hr h => ⟨t_Lengths__early K B, ?_, pure vs H Q E h⟩)
  exact (pss_one (ps_ret (pe_ix ix_t (pe_fldC T.i_Lengths.cl T.n_Lengths_held (pv 0)) pe_int (fun _ _ => rfl))))

theorem ok_Lengths__start {P : Program} {w : World} {K : PySem.W.Frag} {B : CA} {mg : Str → Option Value} {base : Heap} (T : Txt K mg B) (R : PRaw K B.c_Lengths "start" "Lengths.start" s_Lengths__start)
    (len : ∀ vs H Q E, (sp_Lengths__start K B) vs H Q E → vs.length = 1)
    (pure : ∀ vs H Q E, (sp_Lengths__start K B) vs H Q E → t_Lengths__start K B { nx := fun _ H' => Q .non H', rt := Q } (start ["self"] vs) H) :
    HasP P w K mg base B.c_Lengths "start" "Lengths.start" s_Lengths__start 1 ["self"] (sp_Lengths__start K B) := by
  refine hasP_mk R sc_Lengths__start bt_Lengths__start len (fun f cdv A outer s H vs Q E hr h => ⟨t_Lengths__start K B, ?_, pure vs H Q E h⟩)
  exact (pss_one (ps_ret (pe_ix ix_t (pe_fldC T.i_Lengths.cl T.n_Lengths_held (pv 0)) pe_int (fun _ _ => rfl))))

theorem ok_Lengths__again {P : Program} {w : World} {K : PySem.W.Frag} {B : CA} {mg : Str → Option Value} {base : Heap} (T : Txt K mg B) (R : PRaw K B.c_Lengths "again" "Lengths.again" s_Lengths__again)
    (len : ∀ vs H Q E, (sp_Lengths__again K B) vs H Q E → vs.length = 1)
    (pure : ∀ vs H Q E, (sp_Lengths__again K B) vs H Q E → t_Lengths__again K B { nx := fun _ H' => Q .non H', rt := Q } (start ["self"] vs) H) :
    HasP P w K mg base B.c_Lengths "again" "Lengths.again" s_Lengths__again 1 ["self"] (sp_Lengths__again K B) := by
  refine hasP_mk R sc_Lengths__again bt_Lengths__again len (fun f cdv A outer s H vs Q E hr h => ⟨t_Lengths__again K B, ?_, pure vs H Q E h⟩)
  exact (pss_one (ps_ret (pe_ix ix_t (pe_fldC T.i_Lengths.cl T.n_Lengths_held (pv 0)) pe_int (fun _ _ => rfl))))

theorem ok_Lengths__period {P : Program} {w : World} {K : PySem.W.Frag} {B : CA} {mg : Str → Option Value} {base : Heap} (T : Txt K mg B) (R : PRaw K B.c_Lengths "period" "Lengths.period" s_Lengths__period)
    (len : ∀ vs H Q E, (sp_Lengths__period K B) vs H Q E → vs.length = 1)
    (pure : ∀ vs H Q E, (sp_Lengths__period K B) vs H Q E → t_Lengths__period K B { nx := fun _ H' => Q .non H', rt := Q } (start ["self"] vs) H) :
    HasP P w K mg base B.c_Lengths "period" "Lengths.period" s_Lengths__period 1 ["self"] (sp_Lengths__period K B) := by
  refine hasP_mk R sc_Lengths__period bt_Lengths__period len (fun f cdv A outer s H vs Q E hr h => ⟨t_Lengths__period K B, ?_, pure vs H Q E h⟩)
  exact (pss_one (ps_ret (pe_ix ix_t (pe_fldC T.i_Lengths.cl T.n_Lengths_held (pv 0)) pe_int (fun _ _ => rfl))))

theorem ok_Lengths____contains__ {P : Program} {w : World} {K : PySem.W.Frag} {B : CA} {mg : Str → Option Value} {base : Heap} (T : Txt K mg B) (R : MRaw K B.c_Lengths "__contains__" "Lengths.__contains__" s_Lengths____contains__)
    (h_is_integer : Has P w K mg base "is_integer" s_is_integer 1 ["value"] (sp_is_integer K B))
    (h_Lengths__start : HasP P w K mg base B.c_Lengths "start" "Lengths.start" s_Lengths__start 1 ["self"] (sp_Lengths__start K B))
    (h_Lengths__early : HasP P w K mg base B.c_Lengths "early" "Lengths.early" s_Lengths__early 1 ["self"] (sp_Lengths__early K B))
    (h_Lengths__period : HasP P w K mg base B.c_Lengths "period" "Lengths.period" s_Lengths__period 1 ["self"] (sp_Lengths__period K B))
    (h_Lengths__again : HasP P w K mg base B.c_Lengths "again" "Lengths.again" s_Lengths__again 1 ["self"] (sp_Lengths__again K B))
    (len : ∀ vs H Q E, (sp_Lengths____contains__ K B) vs H Q E → vs.length = 2)
    (pure : ∀ vs H Q E, (sp_Lengths____contains__ K B) vs H Q E → t_Lengths____contains__ K B { nx := fun _ H' => Q .non H', rt := Q } (start ["self", "value"] vs) H) :
    HasM P w K mg base B.c_Lengths "__contains__" "Lengths.__contains__" s_Lengths____contains__ 3 ["self", "value"] (sp_Lengths____contains__ K B) := by
  refine hasM_mk R sc_Lengths____contains__ bt_Lengths____contains__ len (fun f cdv A outer s H vs Q E hr h => ⟨t_Lengths____contains__ K B, ?_, pure vs H Q E h⟩)
  exact (pss_cons (ps_if (PW.pt (pw_or (pt_not (pt_val (pe_f h_is_integer (hr.mono (by decide)) (pa_cons (pv 1) pa_nil)))) (pw_or1 (pt_cmpR op_lt (pv 1) pe_int (nomark _)))))
    (pss_one (ps_ret pe_bl))
    pss_nil)
    (pss_cons (ps_if (pt_cmpR op_lt (pv 1) (pe_mP h_Lengths__start (hr.mono (by decide)) T.i_Lengths.cl (pv 0)) (nomark _))
    (pss_one (ps_ret (pe_cmpR op_in_seq (pv 1) (pe_mP h_Lengths__early (hr.mono (by decide)) T.i_Lengths.cl (pv 0)) (by rfl))))
    pss_nil)
    (pss_one (ps_ret (pe_cmpR op_in_seq (pe_op op_mod (pv 1) (pe_mP h_Lengths__period (hr.mono (by decide)) T.i_Lengths.cl (pv 0))) (pe_mP h_Lengths__again (hr.mono (by decide)) T.i_Lengths.cl (pv 0)) (by rfl))))))

theorem ok_Lengths__first {P : Program} {w : World} {K : PySem.W.Frag} {B : CA} {mg : Str → Option Value} {base : Heap} (T : Txt K mg B) (R : MRaw K B.c_Lengths "first" "Lengths.first" s_Lengths__first)
    (h_Lengths__early : HasP P w K mg base B.c_Lengths "early" "Lengths.early" s_Lengths__early 1 ["self"] (sp_Lengths__early K B))
    (h_Lengths__start : HasP P w K mg base B.c_Lengths "start" "Lengths.start" s_Lengths__start 1 ["self"] (sp_Lengths__start K B))
    (h_Lengths__period : HasP P w K mg base B.c_Lengths "period" "Lengths.period" s_Lengths__period 1 ["self"] (sp_Lengths__period K B))
    (h_Lengths__again : HasP P w K mg base B.c_Lengths "again" "Lengths.again" s_Lengths__again 1 ["self"] (sp_Lengths__again K B))
    (len : ∀ vs H Q E, (sp_Lengths__first K B) vs H Q E → vs.length = 1)
    (pure : ∀ vs H Q E, (sp_Lengths__first K B) vs H Q E → t_Lengths__first K B { nx := fun _ H' => Q .non H', rt := Q } (start ["self", "some", "length"] vs) H) :
    HasM P w K mg base B.c_Lengths "first" "Lengths.first" s_Lengths__first 3 ["self"] (sp_Lengths__first K B) := by
  refine hasM_mk R sc_Lengths__first bt_Lengths__first len (fun f cdv A outer s H vs Q E hr h => ⟨t_Lengths__first K B, ?_, pure vs H Q E h⟩)
  exact (pss_cons (ps_if (pt_cmpR (op_neD (u64 hr)) (pe_mP h_Lengths__early (hr.mono (by decide)) T.i_Lengths.cl (pv 0)) (pe_tup pa_nil) (nomark _))
    (pss_one (ps_ret (pe_ix ix_t (pe_mP h_Lengths__early (hr.mono (by decide)) T.i_Lengths.cl (pv 0)) pe_int (fun _ _ => rfl))))
    pss_nil)
    (pss_cons (ps_setLc (i := 1) (own := [("length", 2)]) (g := (gName 2)) (tt := (t_Lengths__first_c4 K B)) rfl sc_Lengths__first.nd rfl rfl (sw_true rfl rfl rfl (by decide +kernel)) (pi_range2 (by rfl) T.b_range (pa_cons (pe_mP h_Lengths__start (hr.mono (by decide)) T.i_Lengths.cl (pv 0)) (pa_cons (pe_op op_add (pe_mP h_Lengths__start (hr.mono (by decide)) T.i_Lengths.cl (pv 0)) (pe_mP h_Lengths__period (hr.mono (by decide)) T.i_Lengths.cl (pv 0))) pa_nil))) (blkOk_by (own := [("length", 2)]) (N := N_Lengths__first) (sc := defScope s_Lengths__first) (by decide +kernel)) (fun _ _ _ _ _ => (pg_name (i := 2) sc_Lengths__first.nd rfl (by first | exact Or.inl rfl | exact Or.inr rfl))) (fun _ _ _ _ _ => (pts_one (pt_cmpR op_in_seq (pe_op op_mod (pv 2) (pe_mP h_Lengths__period (hr.mono (by decide)) T.i_Lengths.cl (pv 0))) (pe_mP h_Lengths__again (hr.mono (by decide)) T.i_Lengths.cl (pv 0)) (by rfl)))) (fun _ _ _ _ _ => (pv 2)))
    (pss_one (ps_ret (pe_ifExp (pt_cmpR (op_neD (u64 hr)) (pv 1) (pe_lst pa_nil) (nomark _)) (pe_ix ix_l (pv 1) pe_int (fun _ _ => rfl)) pe_non)))))

theorem ok_Lengths__endless {P : Program} {w : World} {K : PySem.W.Frag} {B : CA} {mg : Str → Option Value} {base : Heap} (T : Txt K mg B) (R : MRaw K B.c_Lengths "endless" "Lengths.endless" s_Lengths__endless)
    (h_Lengths__again : HasP P w K mg base B.c_Lengths "again" "Lengths.again" s_Lengths__again 1 ["self"] (sp_Lengths__again K B))
    (len : ∀ vs H Q E, (sp_Lengths__endless K B) vs H Q E → vs.length = 1)
    (pure : ∀ vs H Q E, (sp_Lengths__endless K B) vs H Q E → t_Lengths__endless K B { nx := fun _ H' => Q .non H', rt := Q } (start ["self"] vs) H) :
    HasM P w K mg base B.c_Lengths "endless" "Lengths.endless" s_Lengths__endless 3 ["self"] (sp_Lengths__endless K B) := by
  refine hasM_mk R sc_Lengths__endless bt_Lengths__endless len (fun f cdv A outer s H vs Q E hr h => ⟨t_Lengths__endless K B, ?_, pure vs H Q E h⟩)
  exact (pss_one (ps_ret (pe_cmpR (op_neD (u64 hr)) (pe_mP h_Lengths__again (hr.mono (by decide)) T.i_Lengths.cl (pv 0)) (pe_tup pa_nil) (nomark _))))

theorem ok_Lengths____eq__ {P : Program} {w : World} {K : PySem.W.Frag} {B : CA} {mg : Str → Option Value} {base : Heap} (T : Txt K mg B) (R : MRaw K B.c_Lengths "__eq__" "Lengths.__eq__" s_Lengths____eq__)
    (len : ∀ vs H Q E, (sp_Lengths____eq__ K B) vs H Q E → vs.length = 2)
    (pure : ∀ vs H Q E, (sp_Lengths____eq__ K B) vs H Q E → t_Lengths____eq__ K B { nx := fun _ H' => Q .non H', rt := Q } (start ["self", "other"] vs) H) :
    HasM P w K mg base B.c_Lengths "__eq__" "Lengths.__eq__" s_Lengths____eq__ 1 ["self", "other"] (sp_Lengths____eq__ K B) := by
  refine hasM_mk R sc_Lengths____eq__ bt_Lengths____eq__ len (fun f cdv A outer s H vs Q E hr h => ⟨t_Lengths____eq__ K B, ?_, pure vs H Q E h⟩)
  exact (pss_one (ps_ret (pe_and (pe_callB call_isi (by rfl) T.b_isinstance (by decide +kernel) (pa_cons (pv 1) (pa_cons (pe_gR T.g_Lengths) pa_nil))) (pe_one (pe_cmpR (op_eqD (u64 hr)) (pe_fldC T.i_Lengths.cl T.n_Lengths_held (pv 0)) (pe_fldC T.i_Lengths.cl T.n_Lengths_held (pv 1)) (nomark _))))))

theorem ok__law_bag {P : Program} {w : World} {K : PySem.W.Frag} {B : CA} {mg : Str → Option Value} {base : Heap} (T : Txt K mg B) (R : Raw K mg "_law_bag" s__law_bag)
    (len : ∀ vs H Q E, (spFresh K) vs H Q E → vs.length = 2)
    (pure : ∀ vs H Q E, (spFresh K) vs H Q E → t__law_bag K B { nx := fun _ H' => Q .non H', rt := Q } (start ["_law_script", "_law_k", "_law_held_cell", "_law_seed", "_law_this", "_law_held_signs"] vs) H) :
    Has P w K mg base "_law_bag" s__law_bag 1 ["_law_script", "_law_k"] (spFresh K) := by
  refine has_mk R sc__law_bag bt__law_bag len (fun f cdv A outer s H vs Q E hr h => ⟨t__law_bag K B, ?_, pure vs H Q E h⟩)
  exact (pss_cons (ps_par (i := 2) (j := 3) rfl sc__law_bag.nd rfl rfl (by decide) rfl rfl (pa_cons (pe_ifExp (pt_cmpR op_lt (pv 1) (pe_callB call_len_seq (by rfl) T.b_len (by decide +kernel) (pa_cons (pv 0) pa_nil)) (nomark _)) (pe_callTy call_int1 (by rfl) T.b_int (by decide +kernel) (pa_cons (pe_ix ix_list (pv 0) (pv 1) (fun _ _ => rfl)) pa_nil)) pe_int) (pa_cons (pe_op op_mul pe_int (pe_op op_add (pv 1) pe_int)) pa_nil)) (by rfl))
    (pss_cons (ps_for PassesOwn.never rfl (pi_list (pe_slice sl_list (pv 0) po_none (po_some pe_int))) (pg_name (i := 4) sc__law_bag.nd rfl (by first | exact Or.inl rfl | exact Or.inr rfl))
    (pss_one (ps_set (i := 3) sc__law_bag.nd rfl (by first | exact Or.inl rfl | exact Or.inr rfl) (pe_op op_mod (pe_callTy call_int1 (by rfl) T.b_int (by decide +kernel) (pa_cons (pe_op op_add (pe_op op_add (pe_op op_mul (pv 3) pe_int) (pe_op op_mod (pe_callTy call_int1 (by rfl) T.b_int (by decide +kernel) (pa_cons (pv 4) pa_nil)) pe_int)) (pe_op op_mul pe_int (pv 1))) pa_nil)) pe_int))))
    (pss_cons (ps_set (i := 5) sc__law_bag.nd rfl (by first | exact Or.inl rfl | exact Or.inr rfl) (pe_ifExp (PW.pt (pw_or (pt_cmpR op_lt (pv 2) pe_int (nomark _)) (pw_or1 (pt_cmpR op_ge (pv 2) (pe_op op_pow pe_int pe_int) (nomark _))))) (pe_callB call_abs (by rfl) T.b_abs (by decide +kernel) (pa_cons (pv 2) pa_nil)) pe_int))
    (pss_one (ps_ret (pe_lst (pa_cons (pv 5) (pa_cons (pe_op op_mod (pe_callTy call_int1 (by rfl) T.b_int (by decide +kernel) (pa_cons (pe_op op_add (pv 3) (pe_op op_mul pe_int (pe_op op_mod (pe_callTy call_int1 (by rfl) T.b_int (by decide +kernel) (pa_cons (pv 2) pa_nil)) pe_int))) pa_nil)) pe_int) (pa_cons pe_int pa_nil)))))))))

theorem ok__law_draw {P : Program} {w : World} {K : PySem.W.Frag} {B : CA} {mg : Str → Option Value} {base : Heap} (T : Txt K mg B) (R : Raw K mg "_law_draw" s__law_draw)
    (len : ∀ vs H Q E, (spDraw) vs H Q E → vs.length = 2)
    (pure : ∀ vs H Q E, (spDraw) vs H Q E → t__law_draw K B { nx := fun _ H' => Q .non H', rt := Q } (start ["_law_bag_here", "_law_wide", "_law_figure", "_law_held", "_law_times"] vs) H) :
    Has P w K mg base "_law_draw" s__law_draw 1 ["_law_bag_here", "_law_wide"] (spDraw) := by
  refine has_mk R sc__law_draw bt__law_draw len (fun f cdv A outer s H vs Q E hr h => ⟨t__law_draw K B, ?_, pure vs H Q E h⟩)
  exact (pss_cons (ps_asg (pe_op op_add (pe_ix ix_l (pv 0) pe_int (fun _ _ => rfl)) pe_int) (pg_sub (pv 0) pe_int set_l))
    (pss_cons (ps_if (pt_cmpR op_gt (pe_ix ix_l (pv 0) pe_int (fun _ _ => rfl)) pe_int (nomark _))
    (pss_cons (ps_set (i := 2) sc__law_draw.nd rfl (by first | exact Or.inl rfl | exact Or.inr rfl) (pe_op op_mod (pe_callTy call_int1 (by rfl) T.b_int (by decide +kernel) (pa_cons (pe_ix ix_l (pv 0) pe_int (fun _ _ => rfl)) pa_nil)) (pv 1)))
    (pss_cons (ps_asg (pe_op op_fdiv (pe_ix ix_l (pv 0) pe_int (fun _ _ => rfl)) (pv 1)) (pg_sub (pv 0) pe_int set_l))
    (pss_one (ps_ret (pv 2)))))
    pss_nil)
    (pss_cons (ps_set (i := 3) sc__law_draw.nd rfl (by first | exact Or.inl rfl | exact Or.inr rfl) (pe_op op_add (pe_callTy call_int1 (by rfl) T.b_int (by decide +kernel) (pa_cons (pe_ix ix_l (pv 0) pe_int (fun _ _ => rfl)) pa_nil)) (pe_op op_mul pe_int (pe_ix ix_l (pv 0) pe_int (fun _ _ => rfl)))))
    (pss_cons (ps_set (i := 4) sc__law_draw.nd rfl (by first | exact Or.inl rfl | exact Or.inr rfl) (pe_op op_add (pe_op op_mod (pe_callTy call_int1 (by rfl) T.b_int (by decide +kernel) (pa_cons (pv 3) pa_nil)) pe_int) pe_int))
    (pss_cons (ps_asg (pe_op op_mod (pe_callTy call_int1 (by rfl) T.b_int (by decide +kernel) (pa_cons (pe_op op_add (pe_op op_add (pe_op op_mul (pv 3) (pv 4)) (pe_op op_mul pe_int (pe_ix ix_l (pv 0) pe_int (fun _ _ => rfl)))) pe_int) pa_nil)) pe_int) (pg_sub (pv 0) pe_int set_l))
    (pss_one (ps_ret (pe_op op_mod (pe_op op_fdiv (pe_callTy call_int1 (by rfl) T.b_int (by decide +kernel) (pa_cons (pe_ix ix_l (pv 0) pe_int (fun _ _ => rfl)) pa_nil)) pe_int) (pv 1)))))))))

theorem ok__law_one {P : Program} {w : World} {K : PySem.W.Frag} {B : CA} {mg : Str → Option Value} {base : Heap} (T : Txt K mg B) (R : Raw K mg "_law_one" s__law_one)
    (h__law_draw : Has P w K mg base "_law_draw" s__law_draw 1 ["_law_bag_here", "_law_wide"] (spDraw))
    (len : ∀ vs H Q E, (spOne) vs H Q E → vs.length = 2)
    (pure : ∀ vs H Q E, (spOne) vs H Q E → t__law_one K B { nx := fun _ H' => Q .non H', rt := Q } (start ["_law_bag_here", "_law_some"] vs) H) :
    Has P w K mg base "_law_one" s__law_one 2 ["_law_bag_here", "_law_some"] (spOne) := by
  refine has_mk R sc__law_one bt__law_one len (fun f cdv A outer s H vs Q E hr h => ⟨t__law_one K B, ?_, pure vs H Q E h⟩)
  exact (pss_one (ps_ret (pe_ix ix_l (pv 1) (pe_f h__law_draw (hr.mono (by decide)) (pa_cons (pv 0) (pa_cons (pe_callB cl_len (by rfl) T.b_len (by decide +kernel) (pa_cons (pv 1) pa_nil)) pa_nil))) (fun _ _ => rfl))))

theorem ok__law_flagged {P : Program} {w : World} {K : PySem.W.Frag} {B : CA} {mg : Str → Option Value} {base : Heap} (T : Txt K mg B) (R : Raw K mg "_law_flagged" s__law_flagged)
    (len : ∀ vs H Q E, (sp__law_flagged K B) vs H Q E → vs.length = 1)
    (pure : ∀ vs H Q E, (sp__law_flagged K B) vs H Q E → t__law_flagged K B { nx := fun _ H' => Q .non H', rt := Q } (start ["_law_shape", "_law_early_here", "_law_begin", "_law_again_here", "_law_turn", "_law_k"] vs) H) :
    Has P w K mg base "_law_flagged" s__law_flagged 1 ["_law_shape"] (sp__law_flagged K B) := by
  refine has_mk R sc__law_flagged bt__law_flagged len (fun f cdv A outer s H vs Q E hr h => ⟨t__law_flagged K B, ?_, pure vs H Q E h⟩)
  exact (pss_cons (ps_asg (pv 0) (pg_tup rfl (pgs_cons (pg_name (i := 1) sc__law_flagged.nd rfl (by first | exact Or.inl rfl | exact Or.inr rfl)) (pgs_cons (pg_name (i := 2) sc__law_flagged.nd rfl (by first | exact Or.inl rfl | exact Or.inr rfl)) (pgs_cons (pg_name (i := 3) sc__law_flagged.nd rfl (by first | exact Or.inl rfl | exact Or.inr rfl)) (pgs_cons (pg_name (i := 4) sc__law_flagged.nd rfl (by first | exact Or.inl rfl | exact Or.inr rfl)) pgs_nil))))))
    (pss_one (ps_ret (pe_lc (own := [("_law_k", 5)]) (g := (gName 5)) (tt := tYes) rfl sc__law_flagged.nd (pi_range1 (by rfl) T.b_range (pa_cons pe_int pa_nil)) (blkOk_by (own := [("_law_k", 5)]) (N := N__law_flagged) (sc := defScope s__law_flagged) (by decide +kernel)) (fun _ _ _ _ _ => (pg_name (i := 5) sc__law_flagged.nd rfl (by first | exact Or.inl rfl | exact Or.inr rfl))) (fun _ _ _ _ _ => pts_nil) (fun _ _ _ _ _ => (pe_ifExp (pt_cmpR op_lt (pv 5) (pv 2) (nomark _)) (pe_cmpR op_in_seq (pv 5) (pv 1) (by rfl)) (pe_cmpR op_in_seq (pe_op op_mod (pe_callTy call_int1 (by rfl) T.b_int (by decide +kernel) (pa_cons (pv 5) pa_nil)) (pv 4)) (pv 3) (by rfl))))))))

theorem ok__law_drawn_set {P : Program} {w : World} {K : PySem.W.Frag} {B : CA} {mg : Str → Option Value} {base : Heap} (T : Txt K mg B) (R : Raw K mg "_law_drawn_set" s__law_drawn_set)
    (h__law_draw : Has P w K mg base "_law_draw" s__law_draw 1 ["_law_bag_here", "_law_wide"] (spDraw))
    (h__law_one : Has P w K mg base "_law_one" s__law_one 2 ["_law_bag_here", "_law_some"] (spOne))
    (len : ∀ vs H Q E, (sp__law_drawn_set K B) vs H Q E → vs.length = 1)
    (pure : ∀ vs H Q E, (sp__law_drawn_set K B) vs H Q E → t__law_drawn_set K B { nx := fun _ H' => Q .non H', rt := Q } (start ["_law_bag_here", "_law_begin", "_law_turn", "_law_early_here", "_law_again_here", "_law_k"] vs) H) :
    Has P w K mg base "_law_drawn_set" s__law_drawn_set 3 ["_law_bag_here"] (sp__law_drawn_set K B) := by
  refine has_mk R sc__law_drawn_set bt__law_drawn_set len (fun f cdv A outer s H vs Q E hr h => ⟨t__law_drawn_set K B, ?_, pure vs H Q E h⟩)
  exact (pss_cons (ps_par (i := 1) (j := 2) rfl sc__law_drawn_set.nd rfl rfl (by decide) rfl rfl (pa_cons (pe_op op_add pe_int (pe_f h__law_draw (hr.mono (by decide)) (pa_cons (pv 0) (pa_cons pe_int pa_nil)))) (pa_cons (pe_op op_add pe_int (pe_f h__law_draw (hr.mono (by decide)) (pa_cons (pv 0) (pa_cons pe_int pa_nil)))) pa_nil)) (by rfl))
    (pss_cons (ps_set (i := 3) sc__law_drawn_set.nd rfl (by first | exact Or.inl rfl | exact Or.inr rfl) (pe_callTy call_tuple_of (by rfl) T.b_tuple (by decide +kernel) (pa_cons (pe_lc (own := [("_law_k", 5)]) (g := (gName 5)) (tt := (t__law_drawn_set_c2 K B)) rfl sc__law_drawn_set.nd (pi_range2 (by rfl) T.b_range (pa_cons pe_int (pa_cons (pv 1) pa_nil))) (blkOk_by (own := [("_law_k", 5)]) (N := N__law_drawn_set) (sc := defScope s__law_drawn_set) (by decide +kernel)) (fun _ _ _ _ _ => (pg_name (i := 5) sc__law_drawn_set.nd rfl (by first | exact Or.inl rfl | exact Or.inr rfl))) (fun _ _ _ _ _ => (pts_one (pt_cmpR op_eq (pe_f h__law_draw (hr.mono (by decide)) (pa_cons (pv 0) (pa_cons pe_int pa_nil))) pe_int (nomark _)))) (fun _ _ _ _ _ => (pv 5))) pa_nil)))
    (pss_cons (ps_set (i := 4) sc__law_drawn_set.nd rfl (by first | exact Or.inl rfl | exact Or.inr rfl) (pe_callTy call_tuple_of (by rfl) T.b_tuple (by decide +kernel) (pa_cons (pe_lc (own := [("_law_k", 5)]) (g := (gName 5)) (tt := (t__law_drawn_set_c5 K B)) rfl sc__law_drawn_set.nd (pi_range1 (by rfl) T.b_range (pa_cons (pv 2) pa_nil)) (blkOk_by (own := [("_law_k", 5)]) (N := N__law_drawn_set) (sc := defScope s__law_drawn_set) (by decide +kernel)) (fun _ _ _ _ _ => (pg_name (i := 5) sc__law_drawn_set.nd rfl (by first | exact Or.inl rfl | exact Or.inr rfl))) (fun _ _ _ _ _ => (pts_one (pt_cmpR op_eq (pe_f h__law_draw (hr.mono (by decide)) (pa_cons (pv 0) (pa_cons pe_int pa_nil))) pe_int (nomark _)))) (fun _ _ _ _ _ => (pv 5))) pa_nil)))
    (pss_one (ps_ret (pe_tup (pa_cons (pv 3) (pa_cons (pv 1) (pa_cons (pe_f h__law_one (hr.mono (by decide)) (pa_cons (pv 0) (pa_cons (pe_lst (pa_cons (pv 4) (pa_cons (pv 4) (pa_cons (pe_tup pa_nil) pa_nil)))) pa_nil))) (pa_cons (pv 2) pa_nil))))))))))

theorem ok__law_longer {P : Program} {w : World} {K : PySem.W.Frag} {B : CA} {mg : Str → Option Value} {base : Heap} (T : Txt K mg B) (R : Raw K mg "_law_longer" s__law_longer)
    (h__law_flagged : Has P w K mg base "_law_flagged" s__law_flagged 1 ["_law_shape"] (sp__law_flagged K B))
    (h__law_draw : Has P w K mg base "_law_draw" s__law_draw 1 ["_law_bag_here", "_law_wide"] (spDraw))
    (len : ∀ vs H Q E, (sp__law_longer K B) vs H Q E → vs.length = 2)
    (pure : ∀ vs H Q E, (sp__law_longer K B) vs H Q E → t__law_longer K B { nx := fun _ H' => Q .non H', rt := Q } (start ["_law_bag_here", "_law_shape", "_law_flags", "_law_turn", "_law_begin", "_law_early_here", "_law_k"] vs) H) :
    Has P w K mg base "_law_longer" s__law_longer 2 ["_law_bag_here", "_law_shape"] (sp__law_longer K B) := by
  refine has_mk R sc__law_longer bt__law_longer len (fun f cdv A outer s H vs Q E hr h => ⟨t__law_longer K B, ?_, pure vs H Q E h⟩)
  exact (pss_cons (ps_asg (pe_tup (pa_cons (pe_f h__law_flagged (hr.mono (by decide)) (pa_cons (pv 1) pa_nil)) (pa_cons (pe_op op_mul (pe_ix ix_t (pv 1) pe_int (fun _ _ => rfl)) (pe_op op_add pe_int (pe_f h__law_draw (hr.mono (by decide)) (pa_cons (pv 0) (pa_cons pe_int pa_nil))))) pa_nil))) (pg_tup rfl (pgs_cons (pg_name (i := 2) sc__law_longer.nd rfl (by first | exact Or.inl rfl | exact Or.inr rfl)) (pgs_cons (pg_name (i := 3) sc__law_longer.nd rfl (by first | exact Or.inl rfl | exact Or.inr rfl)) pgs_nil))))
    (pss_cons (ps_set (i := 4) sc__law_longer.nd rfl (by first | exact Or.inl rfl | exact Or.inr rfl) (pe_op op_add (pe_ix ix_t (pv 1) pe_int (fun _ _ => rfl)) (pe_f h__law_draw (hr.mono (by decide)) (pa_cons (pv 0) (pa_cons pe_int pa_nil)))))
    (pss_cons (ps_set (i := 5) sc__law_longer.nd rfl (by first | exact Or.inl rfl | exact Or.inr rfl) (pe_callTy call_tuple_of (by rfl) T.b_tuple (by decide +kernel) (pa_cons (pe_lc (own := [("_law_k", 6)]) (g := (gName 6)) (tt := (t__law_longer_c3 K B)) rfl sc__law_longer.nd (pi_range2 (by rfl) T.b_range (pa_cons pe_int (pa_cons (pv 4) pa_nil))) (blkOk_by (own := [("_law_k", 6)]) (N := N__law_longer) (sc := defScope s__law_longer) (by decide +kernel)) (fun _ _ _ _ _ => (pg_name (i := 6) sc__law_longer.nd rfl (by first | exact Or.inl rfl | exact Or.inr rfl))) (fun _ _ _ _ _ => (pts_one (pt_val (pe_ix ix_l (pv 2) (pv 6) (fun _ _ => rfl))))) (fun _ _ _ _ _ => (pv 6))) pa_nil)))
    (pss_one (ps_ret (pe_tup (pa_cons (pv 5) (pa_cons (pv 4) (pa_cons (pe_callTy call_tuple_of (by rfl) T.b_tuple (by decide +kernel) (pa_cons (pe_lc (own := [("_law_k", 6)]) (g := (gName 6)) (tt := (t__law_longer_c6 K B)) rfl sc__law_longer.nd (pi_range1 (by rfl) T.b_range (pa_cons (pv 3) pa_nil)) (blkOk_by (own := [("_law_k", 6)]) (N := N__law_longer) (sc := defScope s__law_longer) (by decide +kernel)) (fun _ _ _ _ _ => (pg_name (i := 6) sc__law_longer.nd rfl (by first | exact Or.inl rfl | exact Or.inr rfl))) (fun _ _ _ _ _ => (pts_one (pt_cmpR op_in_seq (pe_op op_mod (pe_callTy call_int1 (by rfl) T.b_int (by decide +kernel) (pa_cons (pv 6) pa_nil)) (pe_ix ix_t (pv 1) pe_int (fun _ _ => rfl))) (pe_ix ix_t (pv 1) pe_int (fun _ _ => rfl)) (by rfl)))) (fun _ _ _ _ _ => (pv 6))) pa_nil)) (pa_cons (pv 3) pa_nil))))))))))

theorem ok__law_is_least {P : Program} {w : World} {K : PySem.W.Frag} {B : CA} {mg : Str → Option Value} {base : Heap} (T : Txt K mg B) (R : Raw K mg "_law_is_least" s__law_is_least)
    (len : ∀ vs H Q E, (sp__law_is_least K B) vs H Q E → vs.length = 3)
    (pure : ∀ vs H Q E, (sp__law_is_least K B) vs H Q E → t__law_is_least K B { nx := fun _ H' => Q .non H', rt := Q } (start ["_law_flags", "_law_begin", "_law_turn", "_law_sizes", "_law_off", "_law_k", "_law_at"] vs) H) :
    Has P w K mg base "_law_is_least" s__law_is_least 1 ["_law_flags", "_law_begin", "_law_turn"] (sp__law_is_least K B) := by
  refine has_mk R sc__law_is_least bt__law_is_least len (fun f cdv A outer s H vs Q E hr h => ⟨t__law_is_least K B, ?_, pure vs H Q E h⟩)
  exact (pss_cons (ps_setLc (i := 3) (own := [("_law_k", 5)]) (g := (gName 5)) (tt := (t__law_is_least_c3 K B)) rfl sc__law_is_least.nd rfl rfl (sw_true rfl rfl rfl (by decide +kernel)) (pi_range2 (by rfl) T.b_range (pa_cons pe_int (pa_cons (pv 2) pa_nil))) (blkOk_by (own := [("_law_k", 5)]) (N := N__law_is_least) (sc := defScope s__law_is_least) (by decide +kernel)) (fun _ _ _ _ _ => (pg_name (i := 5) sc__law_is_least.nd rfl (by first | exact Or.inl rfl | exact Or.inr rfl))) (fun _ _ _ _ _ => (pts_one (pt_cmpR (op_eqD (u64 hr)) (pe_lc (own := [("_law_at", 6)]) (g := (gName 6)) (tt := (t__law_is_least_c1 K B)) rfl sc__law_is_least.nd (pi_range2 (by rfl) T.b_range (pa_cons (pv 1) (pa_cons (pe_op op_sub pe_int (pv 5)) pa_nil))) (blkOk_by (own := [("_law_at", 6)]) (N := N__law_is_least) (sc := { kind := .function, names := [(".0", .local), ("_law_k", .cell), ("range", .globalImplicit), ("_law_begin", .cell), ("_law_flags", .cell)], isGenerator := false, isCoroutine := false, more := [] : Scope }) (by decide +kernel)) (fun _ _ _ _ _ => (pg_name (i := 6) sc__law_is_least.nd rfl (by first | exact Or.inl rfl | exact Or.inr rfl))) (fun _ _ _ _ _ => (pts_one (pt_cmpR op_ne (pe_ix ix_l (pv 0) (pv 6) (fun _ _ => rfl)) (pe_ix ix_l (pv 0) (pe_op op_add (pv 6) (pv 5)) (fun _ _ => rfl)) (nomark _)))) (fun _ _ _ _ _ => (pv 6))) (pe_lst pa_nil) (nomark _)))) (fun _ _ _ _ _ => (pv 5)))
    (pss_cons (ps_setLc (i := 4) (own := [("_law_at", 6)]) (g := (gName 6)) (tt := (t__law_is_least_c6 K B)) rfl sc__law_is_least.nd rfl rfl (sw_true rfl rfl rfl (by decide +kernel)) (pi_range2 (by rfl) T.b_range (pa_cons (pv 1) (pa_cons (pe_op op_sub pe_int (pv 2)) pa_nil))) (blkOk_by (own := [("_law_at", 6)]) (N := N__law_is_least) (sc := defScope s__law_is_least) (by decide +kernel)) (fun _ _ _ _ _ => (pg_name (i := 6) sc__law_is_least.nd rfl (by first | exact Or.inl rfl | exact Or.inr rfl))) (fun _ _ _ _ _ => (pts_one (pt_cmpR op_ne (pe_ix ix_l (pv 0) (pv 6) (fun _ _ => rfl)) (pe_ix ix_l (pv 0) (pe_op op_add (pv 6) (pv 2)) (fun _ _ => rfl)) (nomark _)))) (fun _ _ _ _ _ => (pv 6)))
    (pss_cons (ps_if (PW.pt (pw_or (pt_cmpR (op_neD (u64 hr)) (pv 3) (pe_lst pa_nil) (nomark _)) (pw_or1 (pt_cmpR (op_neD (u64 hr)) (pv 4) (pe_lst pa_nil) (nomark _)))))
    (pss_one (ps_ret pe_bl))
    pss_nil)
    (pss_one (ps_ret (pe_or (pe_cmpR op_eq (pv 1) pe_int (nomark _)) (pe_one (pe_cmpR op_ne (pe_ix ix_l (pv 0) (pe_op op_sub (pv 1) pe_int) (fun _ _ => rfl)) (pe_ix ix_l (pv 0) (pe_op op_add (pe_op op_sub (pv 1) pe_int) (pv 2)) (fun _ _ => rfl)) (nomark _)))))))))

theorem ok__law_right {P : Program} {w : World} {K : PySem.W.Frag} {B : CA} {mg : Str → Option Value} {base : Heap} (T : Txt K mg B) (R : Raw K mg "_law_right" s__law_right)
    (h__law_drawn_set : Has P w K mg base "_law_drawn_set" s__law_drawn_set 3 ["_law_bag_here"] (sp__law_drawn_set K B))
    (h__law_longer : Has P w K mg base "_law_longer" s__law_longer 2 ["_law_bag_here", "_law_shape"] (sp__law_longer K B))
    (h_Lengths____init__ : HasI P w K mg base B.c_Lengths "Lengths" "Lengths.__init__" s_Lengths____init__ 4 ["self", "early", "start", "again", "period"] (sp_Lengths____init__ K B))
    (h_Lengths__early : HasP P w K mg base B.c_Lengths "early" "Lengths.early" s_Lengths__early 1 ["self"] (sp_Lengths__early K B))
    (h_Lengths__start : HasP P w K mg base B.c_Lengths "start" "Lengths.start" s_Lengths__start 1 ["self"] (sp_Lengths__start K B))
    (h_Lengths__again : HasP P w K mg base B.c_Lengths "again" "Lengths.again" s_Lengths__again 1 ["self"] (sp_Lengths__again K B))
    (h_Lengths__period : HasP P w K mg base B.c_Lengths "period" "Lengths.period" s_Lengths__period 1 ["self"] (sp_Lengths__period K B))
    (h__law_flagged : Has P w K mg base "_law_flagged" s__law_flagged 1 ["_law_shape"] (sp__law_flagged K B))
    (h_Lengths____eq__ : HasM P w K mg base B.c_Lengths "__eq__" "Lengths.__eq__" s_Lengths____eq__ 1 ["self", "other"] (sp_Lengths____eq__ K B))
    (h__law_is_least : Has P w K mg base "_law_is_least" s__law_is_least 1 ["_law_flags", "_law_begin", "_law_turn"] (sp__law_is_least K B))
    (h_Lengths____contains__ : HasM P w K mg base B.c_Lengths "__contains__" "Lengths.__contains__" s_Lengths____contains__ 3 ["self", "value"] (sp_Lengths____contains__ K B))
    (h_Lengths__first : HasM P w K mg base B.c_Lengths "first" "Lengths.first" s_Lengths__first 3 ["self"] (sp_Lengths__first K B))
    (h_Lengths__endless : HasM P w K mg base B.c_Lengths "endless" "Lengths.endless" s_Lengths__endless 3 ["self"] (sp_Lengths__endless K B))
    (len : ∀ vs H Q E, (sp__law_right K B) vs H Q E → vs.length = 1)
    (pure : ∀ vs H Q E, (sp__law_right K B) vs H Q E → t__law_right K B { nx := fun _ H' => Q .non H', rt := Q } (start ["_law_bag_here", "_law_made", "_law_turn", "_law_shape", "_law_near", "_law_mine", "_law_mate", "_law_shown", "_law_flags", "_law_asked", "_law_due", "_law_some", "_law_k", "_law_each"] vs) H) :
    HasG P w K mg base "_law_right" s__law_right 6 ["_law_bag_here"] (sp__law_right K B) := by
  refine hasG_mk R sc__law_right bt__law_right len (fun f cdv A outer s H vs Q E hr gd h => ⟨t__law_right K B, ?_, pure vs H Q E h⟩)
  exact (pss_cons (ps_set (i := 1) sc__law_right.nd rfl (by first | exact Or.inl rfl | exact Or.inr rfl) (pe_lst pa_nil))
    (pss_cons (ps_for PassesOwn.never rfl (pi_range1 (by rfl) T.b_range (pa_cons pe_int pa_nil)) (pg_name (i := 2) sc__law_right.nd rfl (by first | exact Or.inl rfl | exact Or.inr rfl))
    (pss_cons (ps_set (i := 3) sc__law_right.nd rfl (by first | exact Or.inl rfl | exact Or.inr rfl) (pe_f h__law_drawn_set (hr.mono (by decide)) (pa_cons (pv 0) pa_nil)))
    (pss_cons (ps_set (i := 4) sc__law_right.nd rfl (by first | exact Or.inl rfl | exact Or.inr rfl) (pe_f h__law_longer (hr.mono (by decide)) (pa_cons (pv 0) (pa_cons (pv 3) pa_nil))))
    (pss_cons (ps_set (i := 5) sc__law_right.nd rfl (by first | exact Or.inl rfl | exact Or.inr rfl) (pe_mI h_Lengths____init__ (hr.mono (by decide)) (pa_cons (pe_ix ix_t (pv 4) pe_int (fun _ _ => rfl)) (pa_cons (pe_ix ix_t (pv 4) pe_int (fun _ _ => rfl)) (pa_cons (pe_ix ix_t (pv 4) pe_int (fun _ _ => rfl)) (pa_cons (pe_ix ix_t (pv 4) pe_int (fun _ _ => rfl)) pa_nil))))))
    (pss_cons (ps_set (i := 6) sc__law_right.nd rfl (by first | exact Or.inl rfl | exact Or.inr rfl) (pe_mK0 h_Lengths____init__ (hr.mono (by decide)) kw__law_right_0_b kw__law_right_0_r (pk_cons (pe_ix ix_t (pv 3) pe_int (fun _ _ => rfl)) (pk_cons (pe_ix ix_t (pv 3) pe_int (fun _ _ => rfl)) (pk_cons (pe_ix ix_t (pv 3) pe_int (fun _ _ => rfl)) (pk_cons (pe_ix ix_t (pv 3) pe_int (fun _ _ => rfl)) pk_nil))))))
    (pss_cons (ps_asg (pe_tup (pa_cons (pe_tup (pa_cons (pe_mP h_Lengths__early (hr.mono (by decide)) T.i_Lengths.cl (pv 5)) (pa_cons (pe_mP h_Lengths__start (hr.mono (by decide)) T.i_Lengths.cl (pv 5)) (pa_cons (pe_mP h_Lengths__again (hr.mono (by decide)) T.i_Lengths.cl (pv 5)) (pa_cons (pe_mP h_Lengths__period (hr.mono (by decide)) T.i_Lengths.cl (pv 5)) pa_nil))))) (pa_cons (pe_f h__law_flagged (hr.mono (by decide)) (pa_cons (pv 3) pa_nil)) pa_nil))) (pg_tup rfl (pgs_cons (pg_name (i := 7) sc__law_right.nd rfl (by first | exact Or.inl rfl | exact Or.inr rfl)) (pgs_cons (pg_name (i := 8) sc__law_right.nd rfl (by first | exact Or.inl rfl | exact Or.inr rfl)) pgs_nil))))
    (pss_cons (ps_if (PW.pt (pw_or (pt_cmpR op_ne (pe_callB (call_repr gd (u64 hr)) (by rfl) T.b_repr (by decide +kernel) (pa_cons (pv 7) pa_nil)) (pe_callB (call_repr gd (u64 hr)) (by rfl) T.b_repr (by decide +kernel) (pa_cons (pe_tup (pa_cons (pe_mP h_Lengths__early (hr.mono (by decide)) T.i_Lengths.cl (pv 6)) (pa_cons (pe_mP h_Lengths__start (hr.mono (by decide)) T.i_Lengths.cl (pv 6)) (pa_cons (pe_mP h_Lengths__again (hr.mono (by decide)) T.i_Lengths.cl (pv 6)) (pa_cons (pe_mP h_Lengths__period (hr.mono (by decide)) T.i_Lengths.cl (pv 6)) pa_nil))))) pa_nil)) (nomark _)) (pw_or (pt_cmpR (op_neOwn T.ne_Lengths h_Lengths____eq__ (hr.mono (by decide))) (pv 5) (pv 6) (nomark _)) (pw_or1 (pt_not (pt_truthR (pv 5) (tru_own T.b0_Lengths T.l0_Lengths) (by intro _; rfl)))))))
    (pss_one (ps_ret pe_bl))
    pss_nil)
    (pss_cons (ps_if (PW.pt (pw_or (pt_cmpR (op_neD (u64 hr)) (pe_slice sl_list (pe_f h__law_flagged (hr.mono (by decide)) (pa_cons (pv 7) pa_nil)) (po_some pe_int) po_none) (pe_slice sl_list (pv 8) (po_some pe_int) po_none) (nomark _)) (pw_or1 (pt_not (pt_val (pe_f h__law_is_least (hr.mono (by decide)) (pa_cons (pv 8) (pa_cons (pe_ix ix_t (pv 7) pe_int (fun _ _ => rfl)) (pa_cons (pe_ix ix_t (pv 7) pe_int (fun _ _ => rfl)) pa_nil)))))))))
    (pss_one (ps_ret pe_bl))
    pss_nil)
    (pss_cons (ps_set (i := 9) sc__law_right.nd rfl (by first | exact Or.inl rfl | exact Or.inr rfl) (pe_op op_cat (pe_listRg rfl (by rfl) T.b_list (prg_2 (by rfl) T.b_range pe_int pe_int)) (pe_lst (pa_cons pe_int (pa_cons (pe_un un_neg pe_int) (pa_cons pe_non (pa_cons pe_bl (pa_cons pe_str (pa_cons (pe_tup (pa_cons pe_int pa_nil)) (pa_cons (pe_lst pa_nil) (pa_cons (pe_op op_add (pe_op op_pow pe_int pe_int) pe_int) pa_nil)))))))))))
    (pss_cons (ps_set (i := 10) sc__law_right.nd rfl (by first | exact Or.inl rfl | exact Or.inr rfl) (pe_op op_cat (pe_op op_cat (pe_slice sl_list (pv 8) (po_some pe_int) po_none) (pe_op op_rep (pe_lst (pa_cons pe_bl pa_nil)) pe_int)) (pe_lst (pa_cons (pe_cmpR op_in_seq (pe_op op_mod (pe_callTy call_int1 (by rfl) T.b_int (by decide +kernel) (pa_cons (pe_op op_add (pe_op op_pow pe_int pe_int) pe_int) pa_nil)) (pe_ix ix_t (pv 3) pe_int (fun _ _ => rfl))) (pe_ix ix_t (pv 3) pe_int (fun _ _ => rfl)) (by rfl)) pa_nil))))
    (pss_cons (ps_if (pt_cmpR op_ne (pe_callB (call_repr gd (u64 hr)) (by rfl) T.b_repr (by decide +kernel) (pa_cons (pe_lc (own := [("_law_k", 12)]) (g := (gName 12)) (tt := tYes) rfl sc__law_right.nd (pi_list (pv 9)) (blkOk_by (own := [("_law_k", 12)]) (N := N__law_right) (sc := defScope s__law_right) (by decide +kernel)) (fun _ _ _ _ _ => (pg_name (i := 12) sc__law_right.nd rfl (by first | exact Or.inl rfl | exact Or.inr rfl))) (fun _ _ _ _ _ => pts_nil) (fun _ _ _ _ _ => (pe_cmpR (op_inOwn h_Lengths____contains__ (hr.mono (by decide))) (pv 12) (pv 5) (by rfl)))) pa_nil)) (pe_callB (call_repr gd (u64 hr)) (by rfl) T.b_repr (by decide +kernel) (pa_cons (pv 10) pa_nil)) (nomark _))
    (pss_one (ps_ret pe_bl))
    pss_nil)
    (pss_cons (ps_setLc (i := 11) (own := [("_law_k", 12)]) (g := (gName 12)) (tt := (t__law_right_c19 K B)) rfl sc__law_right.nd rfl rfl (sw_true rfl rfl rfl (by decide +kernel)) (pi_range2 (by rfl) T.b_range (pa_cons pe_int (pa_cons pe_int pa_nil))) (blkOk_by (own := [("_law_k", 12)]) (N := N__law_right) (sc := defScope s__law_right) (by decide +kernel)) (fun _ _ _ _ _ => (pg_name (i := 12) sc__law_right.nd rfl (by first | exact Or.inl rfl | exact Or.inr rfl))) (fun _ _ _ _ _ => (pts_one (pt_val (pe_ix ix_l (pv 8) (pv 12) (fun _ _ => rfl))))) (fun _ _ _ _ _ => (pv 12)))
    (pss_cons (ps_if (PW.pt (pw_or (pt_cmpR (op_neD (u64 hr)) (pe_mM0 h_Lengths__first (hr.mono (by decide)) T.i_Lengths.cl (pv 5)) (pe_ifExp (pt_cmpR (op_neD (u64 hr)) (pv 11) (pe_lst pa_nil) (nomark _)) (pe_ix ix_l (pv 11) pe_int (fun _ _ => rfl)) pe_non) (nomark _)) (pw_or (pt_cmpR op_ne (pe_mM0 h_Lengths__endless (hr.mono (by decide)) T.i_Lengths.cl (pv 5)) (pe_cmpR (op_neD (u64 hr)) (pe_ix ix_t (pv 3) pe_int (fun _ _ => rfl)) (pe_tup pa_nil) (nomark _)) (nomark _)) (pw_or1 (pt_cmpR (op_eqOwn h_Lengths____eq__ (hr.mono (by decide))) (pv 5) (pv 7) (nomark _))))))
    (pss_one (ps_ret pe_bl))
    pss_nil)
    (pss_one (ps_expr (pe_bm PySem.F.plainAttrs_list PySem.F.slot_list_append PySem.F.type_list_append mt_append (pv 1) (pa_cons (pe_tup (pa_cons (pv 5) (pa_cons (pe_slice sl_list (pv 8) (po_some pe_int) po_none) pa_nil))) pa_nil)))))))))))))))))
    (pss_one (ps_ret (pe_cmpR (op_eqD (u64 hr)) (pe_lc (own := [("_law_each", 13)]) (g := (gName 13)) (tt := (t__law_right_c28 K B)) rfl sc__law_right.nd (pi_list (pv 1)) (blkOk_by (own := [("_law_each", 13)]) (N := N__law_right) (sc := defScope s__law_right) (by decide +kernel)) (fun _ _ _ _ _ => (pg_name (i := 13) sc__law_right.nd rfl (by first | exact Or.inl rfl | exact Or.inr rfl))) (fun _ _ _ _ _ => (pts_one (pt_cmpR op_ne (pe_cmpR (op_eqOwn h_Lengths____eq__ (hr.mono (by decide))) (pe_ix ix_t (pv 13) pe_int (fun _ _ => rfl)) (pe_ix ix_t (pe_ix ix_l (pv 1) pe_int (fun _ _ => rfl)) pe_int (fun _ _ => rfl)) (nomark _)) (pe_cmpR (op_eqD (u64 hr)) (pe_ix ix_t (pv 13) pe_int (fun _ _ => rfl)) (pe_ix ix_t (pe_ix ix_l (pv 1) pe_int (fun _ _ => rfl)) pe_int (fun _ _ => rfl)) (nomark _)) (nomark _)))) (fun _ _ _ _ _ => (pv 13))) (pe_lst pa_nil) (nomark _))))))

theorem ok_law {P : Program} {w : World} {K : PySem.W.Frag} {B : CA} {mg : Str → Option Value} {base : Heap} (T : Txt K mg B) (R : Raw K mg "law" s_law)
    (h_Lengths____init__ : HasI P w K mg base B.c_Lengths "Lengths" "Lengths.__init__" s_Lengths____init__ 4 ["self", "early", "start", "again", "period"] (sp_Lengths____init__ K B))
    (h_Lengths__early : HasP P w K mg base B.c_Lengths "early" "Lengths.early" s_Lengths__early 1 ["self"] (sp_Lengths__early K B))
    (h_Lengths__start : HasP P w K mg base B.c_Lengths "start" "Lengths.start" s_Lengths__start 1 ["self"] (sp_Lengths__start K B))
    (h_Lengths__again : HasP P w K mg base B.c_Lengths "again" "Lengths.again" s_Lengths__again 1 ["self"] (sp_Lengths__again K B))
    (h_Lengths__period : HasP P w K mg base B.c_Lengths "period" "Lengths.period" s_Lengths__period 1 ["self"] (sp_Lengths__period K B))
    (h_Lengths__first : HasM P w K mg base B.c_Lengths "first" "Lengths.first" s_Lengths__first 3 ["self"] (sp_Lengths__first K B))
    (h_Lengths__endless : HasM P w K mg base B.c_Lengths "endless" "Lengths.endless" s_Lengths__endless 3 ["self"] (sp_Lengths__endless K B))
    (h__law_right : HasG P w K mg base "_law_right" s__law_right 6 ["_law_bag_here"] (sp__law_right K B))
    (h__law_bag : Has P w K mg base "_law_bag" s__law_bag 1 ["_law_script", "_law_k"] (spFresh K))
    (len : ∀ vs H Q E, (sp_law K B) vs H Q E → vs.length = 1)
    (pure : ∀ vs H Q E, (sp_law K B) vs H Q E → t_law K B { nx := fun _ H' => Q .non H', rt := Q } (start ["_law_script", "_law_mine", "_law_k"] vs) H) :
    HasG P w K mg base "law" s_law 7 ["_law_script"] (sp_law K B) := by
  refine hasG_mk R sc_law bt_law len (fun f cdv A outer s H vs Q E hr gd h => ⟨t_law K B, ?_, pure vs H Q E h⟩)
  exact (pss_cons (ps_set (i := 1) sc_law.nd rfl (by first | exact Or.inl rfl | exact Or.inr rfl) (pe_mI h_Lengths____init__ (hr.mono (by decide)) (pa_cons (pe_tup (pa_cons pe_int (pa_cons pe_int (pa_cons pe_int pa_nil)))) (pa_cons pe_int (pa_cons (pe_tup (pa_cons pe_int (pa_cons pe_int pa_nil))) (pa_cons pe_int pa_nil))))))
    (pss_cons (ps_if (pt_cmpR (op_neD (u64 hr)) (pe_lst (pa_cons (pe_mP h_Lengths__early (hr.mono (by decide)) T.i_Lengths.cl (pv 1)) (pa_cons (pe_mP h_Lengths__start (hr.mono (by decide)) T.i_Lengths.cl (pv 1)) (pa_cons (pe_mP h_Lengths__again (hr.mono (by decide)) T.i_Lengths.cl (pv 1)) (pa_cons (pe_mP h_Lengths__period (hr.mono (by decide)) T.i_Lengths.cl (pv 1)) (pa_cons (pe_mM0 h_Lengths__first (hr.mono (by decide)) T.i_Lengths.cl (pv 1)) (pa_cons (pe_mM0 h_Lengths__endless (hr.mono (by decide)) T.i_Lengths.cl (pv 1)) pa_nil))))))) (pe_lst (pa_cons (pe_tup pa_nil) (pa_cons pe_int (pa_cons (pe_tup (pa_cons pe_int pa_nil)) (pa_cons pe_int (pa_cons pe_int (pa_cons pe_bl pa_nil))))))) (nomark _))
    (pss_one (ps_ret pe_bl))
    pss_nil)
    (pss_one (ps_ret (pe_callB (cr_all rfl) (by rfl) T.b_all (by decide +kernel) (pa_cons (pe_lc (own := [("_law_k", 2)]) (g := (gName 2)) (tt := tYes) rfl sc_law.nd (pi_range1 (by rfl) T.b_range (pa_cons (pe_callB (call_max2 rfl) (by rfl) T.b_max (by decide +kernel) (pa_cons pe_int (pa_cons (pe_callB (call_min2 rfl) (by rfl) T.b_min (by decide +kernel) (pa_cons (pe_callB call_len_seq (by rfl) T.b_len (by decide +kernel) (pa_cons (pv 0) pa_nil)) (pa_cons pe_int pa_nil))) pa_nil))) pa_nil)) (blkOk_by (own := [("_law_k", 2)]) (N := N_law) (sc := defScope s_law) (by decide +kernel)) (fun _ _ _ _ _ => (pg_name (i := 2) sc_law.nd rfl (by first | exact Or.inl rfl | exact Or.inr rfl))) (fun _ _ _ _ _ => pts_nil) (fun _ _ _ _ _ => (pe_fG h__law_right (hr.mono (by decide)) gd (pa_cons (pe_f h__law_bag (hr.mono (by decide)) (pa_cons (pv 0) (pa_cons (pv 2) pa_nil))) pa_nil)))) pa_nil))))))

end RA.K10

namespace RA.K10
open PySem PySem.Spec L2 RA
open PyProof.Rows hiding St
section
variable {K : PySem.W.Frag} {B : CA} {mg : Str → Option Value} (T : Txt K mg B)
include T
theorem pure_is_integer (vs : List V) (H : Hp) (Q : VK) (E : XK) (h : sp_is_integer K B vs H Q E) : t_is_integer K B { nx := fun _ H' => Q .non H', rt := Q } (L2.start ["value"] vs) H := by
  obtain ⟨v, rfl, hk, q⟩ := h
  show t_is_integer K B _ [some v] H
  simp only [tSeq, tAsg_name, tAsg_sub, tAsg_tup, tRet, tRetN, tDrop, tIfS, tNext, tNever, tBreak, tCont, tAndV, tOrV, tNotV, tAnd, tOr, tNot, tB, tTest, tIf, tCall, tCons, tNil, tVar, tC, tOp, tUn, tTup, tLst, tRevL, tPar, tPar3, tAug, ipI, tCB, tFld, sFld, iList, iTup, iRng1, iRng2, iEnum, iEnumT, tChain, tSl, tPart, tNoPart, tBM, tCallKw, tTruth, tYes, qAdd, qSub, qMul, qMulW, qDiv, qDivW, qMod, qPow, qLt, qLe, qGt, qGe, qIsN, qNotN, qInt, qAbs, qMax2, qMin2, rI0, rI, rU, rEq, rNe, scal, qIxL, qIxT, qLenQ, qSetL, lstOf_upd, tupOf_upd, atI_0, atI_1, atI_2, atI_3, upd_same, upd_upd, ixL0, ixL1, ixL2, HO.lst.injEq, HO.tup.injEq, List.getElem?_cons_zero, List.getElem?_cons_succ, List.set_cons_zero, List.set_cons_succ, Option.some.injEq, exists_eq_left', exists_eq_left, exists_and_left, V.int.injEq, V.bl.injEq, V.ref.injEq, V.str.injEq, List.append_nil, List.cons.injEq, and_assoc, and_true, true_and, reduceCtorEq, false_and, and_false, false_or, or_false, exists_false, decide_true, decide_false, Bool.not_true, Bool.not_false, not_true_eq_false, not_false_eq_true, if_true, if_false, Bool.false_eq_true, decide_eq_true_eq, Bool.not_eq_true', decide_eq_false_iff_not, tFldC, sFldC, tProp, tMeth, tMake, tMakeKw, rEqOwn, rInOwn, tNotR, rTru, tTruR, tLstRg, tRg2, t_is_integer, t_is_integer_s1]
  cases hk with
  | int i => exact ⟨_, _, _, _, _, rfl, .ty _, .base (.int _), isInt_kit, true, rfl, iteT ⟨_, _, _, _, _, rfl, .ty _, .base (.int _), isInt_bool, false, rfl, q⟩⟩
  | bl b => exact ⟨_, _, _, _, _, rfl, .ty _, .base (.bl _), bool_int, true, rfl, iteT ⟨_, _, _, _, _, rfl, .ty _, .base (.bl _), bool_bool, true, rfl, q⟩⟩
  | not h h1 h2 =>
    obtain ⟨t, ht, hk⟩ := h
    refine ⟨_, _, _, _, _, rfl, .ty _, ht, hk, false, rfl, iteF ?_⟩
    cases v with
    | int i => exact absurd rfl (h1 i)
    | _ => exact q
theorem pure_is_between (vs : List V) (H : Hp) (Q : VK) (E : XK) (h : sp_is_between K B vs H Q E) : t_is_between K B { nx := fun _ H' => Q .non H', rt := Q } (L2.start ["value", "least", "most"] vs) H := by
  obtain ⟨v, lo, hi, rfl, hk, q⟩ := h
  show t_is_between K B _ [some v, some (.int lo), some (optI hi)] H
  simp only [tSeq, tAsg_name, tAsg_sub, tAsg_tup, tRet, tRetN, tDrop, tIfS, tNext, tNever, tBreak, tCont, tAndV, tOrV, tNotV, tAnd, tOr, tNot, tB, tTest, tIf, tCall, tCons, tNil, tVar, tC, tOp, tUn, tTup, tLst, tRevL, tPar, tPar3, tAug, ipI, tCB, tFld, sFld, iList, iTup, iRng1, iRng2, iEnum, iEnumT, tChain, tSl, tPart, tNoPart, tBM, tCallKw, tTruth, tYes, qAdd, qSub, qMul, qMulW, qDiv, qDivW, qMod, qPow, qLt, qLe, qGt, qGe, qIsN, qNotN, qInt, qAbs, qMax2, qMin2, rI0, rI, rU, rEq, rNe, scal, qIxL, qIxT, qLenQ, qSetL, lstOf_upd, tupOf_upd, atI_0, atI_1, atI_2, atI_3, upd_same, upd_upd, ixL0, ixL1, ixL2, HO.lst.injEq, HO.tup.injEq, List.getElem?_cons_zero, List.getElem?_cons_succ, List.set_cons_zero, List.set_cons_succ, Option.some.injEq, exists_eq_left', exists_eq_left, exists_and_left, V.int.injEq, V.bl.injEq, V.ref.injEq, V.str.injEq, List.append_nil, List.cons.injEq, and_assoc, and_true, true_and, reduceCtorEq, false_and, and_false, false_or, or_false, exists_false, decide_true, decide_false, Bool.not_true, Bool.not_false, not_true_eq_false, not_false_eq_true, if_true, if_false, Bool.false_eq_true, decide_eq_true_eq, Bool.not_eq_true', decide_eq_false_iff_not, tFldC, sFldC, tProp, tMeth, tMake, tMakeKw, rEqOwn, rInOwn, tNotR, rTru, tTruR, tLstRg, tRg2, t_is_between, t_is_between_s1, sp_is_integer, spIsInt, List.append_nil]
  refine ⟨hk, ?_⟩
  cases hk with
  | int i =>
    refine iteT ?_
    simp only [tSeq, tAsg_name, tAsg_sub, tAsg_tup, tRet, tRetN, tDrop, tIfS, tNext, tNever, tBreak, tCont, tAndV, tOrV, tNotV, tAnd, tOr, tNot, tB, tTest, tIf, tCall, tCons, tNil, tVar, tC, tOp, tUn, tTup, tLst, tRevL, tPar, tPar3, tAug, ipI, tCB, tFld, sFld, iList, iTup, iRng1, iRng2, iEnum, iEnumT, tChain, tSl, tPart, tNoPart, tBM, tCallKw, tTruth, tYes, qAdd, qSub, qMul, qMulW, qDiv, qDivW, qMod, qPow, qLt, qLe, qGt, qGe, qIsN, qNotN, qInt, qAbs, qMax2, qMin2, rI0, rI, rU, rEq, rNe, scal, qIxL, qIxT, qLenQ, qSetL, lstOf_upd, tupOf_upd, atI_0, atI_1, atI_2, atI_3, upd_same, upd_upd, ixL0, ixL1, ixL2, HO.lst.injEq, HO.tup.injEq, List.getElem?_cons_zero, List.getElem?_cons_succ, List.set_cons_zero, List.set_cons_succ, Option.some.injEq, exists_eq_left', exists_eq_left, exists_and_left, V.int.injEq, V.bl.injEq, V.ref.injEq, V.str.injEq, List.append_nil, List.cons.injEq, and_assoc, and_true, true_and, reduceCtorEq, false_and, and_false, false_or, or_false, exists_false, decide_true, decide_false, Bool.not_true, Bool.not_false, not_true_eq_false, not_false_eq_true, if_true, if_false, Bool.false_eq_true, decide_eq_true_eq, Bool.not_eq_true', decide_eq_false_iff_not, tFldC, sFldC, tProp, tMeth, tMake, tMakeKw, rEqOwn, rInOwn, tNotR, rTru, tTruR, tLstRg, tRg2]
    by_cases c : lo ≤ i
    · rw [if_pos c]
      cases hi with
      | none =>
        simp only [btw, optI, c, decide_true, Bool.and_true] at q ⊢
        exact q
      | some m =>
        simp only [btw, optI, c, decide_true, Bool.true_and] at q ⊢
        simp only [tSeq, tAsg_name, tAsg_sub, tAsg_tup, tRet, tRetN, tDrop, tIfS, tNext, tNever, tBreak, tCont, tAndV, tOrV, tNotV, tAnd, tOr, tNot, tB, tTest, tIf, tCall, tCons, tNil, tVar, tC, tOp, tUn, tTup, tLst, tRevL, tPar, tPar3, tAug, ipI, tCB, tFld, sFld, iList, iTup, iRng1, iRng2, iEnum, iEnumT, tChain, tSl, tPart, tNoPart, tBM, tCallKw, tTruth, tYes, qAdd, qSub, qMul, qMulW, qDiv, qDivW, qMod, qPow, qLt, qLe, qGt, qGe, qIsN, qNotN, qInt, qAbs, qMax2, qMin2, rI0, rI, rU, rEq, rNe, scal, qIxL, qIxT, qLenQ, qSetL, lstOf_upd, tupOf_upd, atI_0, atI_1, atI_2, atI_3, upd_same, upd_upd, ixL0, ixL1, ixL2, HO.lst.injEq, HO.tup.injEq, List.getElem?_cons_zero, List.getElem?_cons_succ, List.set_cons_zero, List.set_cons_succ, Option.some.injEq, exists_eq_left', exists_eq_left, exists_and_left, V.int.injEq, V.bl.injEq, V.ref.injEq, V.str.injEq, List.append_nil, List.cons.injEq, and_assoc, and_true, true_and, reduceCtorEq, false_and, and_false, false_or, or_false, exists_false, decide_true, decide_false, Bool.not_true, Bool.not_false, not_true_eq_false, not_false_eq_true, if_true, if_false, Bool.false_eq_true, decide_eq_true_eq, Bool.not_eq_true', decide_eq_false_iff_not, tFldC, sFldC, tProp, tMeth, tMake, tMakeKw, rEqOwn, rInOwn, tNotR, rTru, tTruR, tLstRg, tRg2]
        exact q
    · rw [if_neg c]
      have e : btw lo hi (V.int i) = false := by simp [btw, c]
      rw [e] at q
      exact q
  | bl b => exact iteF q
  | not h h1 h2 =>
    cases v with
    | int i => exact absurd rfl (h1 i)
    | _ => exact iteF q
theorem pure__law_draw (vs : List V) (H : Hp) (Q : VK) (E : XK) (h : spDraw vs H Q E) : t__law_draw K B { nx := fun _ H' => Q .non H', rt := Q } (L2.start N__law_draw vs) H := by
  obtain ⟨p, w, rfl, ⟨d, s, n, hp⟩, hw0, hw1, q⟩ := h
  show t__law_draw K B _ [some (.ref p), some (.int w), none, none, none] H
  have hw : (0 : Int) < (w : Int) := by omega
  have hl := lstOf_of hp
  simp only [tSeq, tAsg_name, tAsg_sub, tAsg_tup, tRet, tRetN, tDrop, tIfS, tNext, tNever, tBreak, tCont, tAndV, tOrV, tNotV, tAnd, tOr, tNot, tB, tTest, tIf, tCall, tCons, tNil, tVar, tC, tOp, tUn, tTup, tLst, tRevL, tPar, tPar3, tAug, ipI, tCB, tFld, sFld, iList, iTup, iRng1, iRng2, iEnum, iEnumT, tChain, tSl, tPart, tNoPart, tBM, tCallKw, tTruth, tYes, qAdd, qSub, qMul, qMulW, qDiv, qDivW, qMod, qPow, qLt, qLe, qGt, qGe, qIsN, qNotN, qInt, qAbs, qMax2, qMin2, rI0, rI, rU, rEq, rNe, scal, qIxL, qIxT, qLenQ, qSetL, lstOf_upd, tupOf_upd, atI_0, atI_1, atI_2, atI_3, upd_same, upd_upd, ixL0, ixL1, ixL2, HO.lst.injEq, HO.tup.injEq, List.getElem?_cons_zero, List.getElem?_cons_succ, List.set_cons_zero, List.set_cons_succ, Option.some.injEq, exists_eq_left', exists_eq_left, exists_and_left, V.int.injEq, V.bl.injEq, V.ref.injEq, V.str.injEq, List.append_nil, List.cons.injEq, and_assoc, and_true, true_and, reduceCtorEq, false_and, and_false, false_or, or_false, exists_false, decide_true, decide_false, Bool.not_true, Bool.not_false, not_true_eq_false, not_false_eq_true, if_true, if_false, Bool.false_eq_true, decide_eq_true_eq, Bool.not_eq_true', decide_eq_false_iff_not, tFldC, sFldC, tProp, tMeth, tMake, tMakeKw, rEqOwn, rInOwn, tNotR, rTru, tTruR, tLstRg, tRg2, t__law_draw, t__law_draw_s1, hl, hp]
  simp only [tSeq, tAsg_name, tAsg_sub, tAsg_tup, tRet, tRetN, tDrop, tIfS, tNext, tNever, tBreak, tCont, tAndV, tOrV, tNotV, tAnd, tOr, tNot, tB, tTest, tIf, tCall, tCons, tNil, tVar, tC, tOp, tUn, tTup, tLst, tRevL, tPar, tPar3, tAug, ipI, tCB, tFld, sFld, iList, iTup, iRng1, iRng2, iEnum, iEnumT, tChain, tSl, tPart, tNoPart, tBM, tCallKw, tTruth, tYes, qAdd, qSub, qMul, qMulW, qDiv, qDivW, qMod, qPow, qLt, qLe, qGt, qGe, qIsN, qNotN, qInt, qAbs, qMax2, qMin2, rI0, rI, rU, rEq, rNe, scal, qIxL, qIxT, qLenQ, qSetL, lstOf_upd, tupOf_upd, atI_0, atI_1, atI_2, atI_3, upd_same, upd_upd, ixL0, ixL1, ixL2, HO.lst.injEq, HO.tup.injEq, List.getElem?_cons_zero, List.getElem?_cons_succ, List.set_cons_zero, List.set_cons_succ, Option.some.injEq, exists_eq_left', exists_eq_left, exists_and_left, V.int.injEq, V.bl.injEq, V.ref.injEq, V.str.injEq, List.append_nil, List.cons.injEq, and_assoc, and_true, true_and, reduceCtorEq, false_and, and_false, false_or, or_false, exists_false, decide_true, decide_false, Bool.not_true, Bool.not_false, not_true_eq_false, not_false_eq_true, if_true, if_false, Bool.false_eq_true, decide_eq_true_eq, Bool.not_eq_true', decide_eq_false_iff_not, tFldC, sFldC, tProp, tMeth, tMake, tMakeKw, rEqOwn, rInOwn, tNotR, rTru, tTruR, tLstRg, tRg2, t__law_draw_s6]
  refine ite2 (fun c => ?_) (fun c => ?_)
  · simp only [tSeq, tAsg_name, tAsg_sub, tAsg_tup, tRet, tRetN, tDrop, tIfS, tNext, tNever, tBreak, tCont, tAndV, tOrV, tNotV, tAnd, tOr, tNot, tB, tTest, tIf, tCall, tCons, tNil, tVar, tC, tOp, tUn, tTup, tLst, tRevL, tPar, tPar3, tAug, ipI, tCB, tFld, sFld, iList, iTup, iRng1, iRng2, iEnum, iEnumT, tChain, tSl, tPart, tNoPart, tBM, tCallKw, tTruth, tYes, qAdd, qSub, qMul, qMulW, qDiv, qDivW, qMod, qPow, qLt, qLe, qGt, qGe, qIsN, qNotN, qInt, qAbs, qMax2, qMin2, rI0, rI, rU, rEq, rNe, scal, qIxL, qIxT, qLenQ, qSetL, lstOf_upd, tupOf_upd, atI_0, atI_1, atI_2, atI_3, upd_same, upd_upd, ixL0, ixL1, ixL2, HO.lst.injEq, HO.tup.injEq, List.getElem?_cons_zero, List.getElem?_cons_succ, List.set_cons_zero, List.set_cons_succ, Option.some.injEq, exists_eq_left', exists_eq_left, exists_and_left, V.int.injEq, V.bl.injEq, V.ref.injEq, V.str.injEq, List.append_nil, List.cons.injEq, and_assoc, and_true, true_and, reduceCtorEq, false_and, and_false, false_or, or_false, exists_false, decide_true, decide_false, Bool.not_true, Bool.not_false, not_true_eq_false, not_false_eq_true, if_true, if_false, Bool.false_eq_true, decide_eq_true_eq, Bool.not_eq_true', decide_eq_false_iff_not, tFldC, sFldC, tProp, tMeth, tMake, tMakeKw, rEqOwn, rInOwn, tNotR, rTru, tTruR, tLstRg, tRg2, t__law_draw_b5, t__law_draw_s2, t__law_draw_s3, t__law_draw_s4, hw]
    exact ⟨⟨by omega, by omega⟩, fin_mod hw0 fun r hr => q r _ hr ⟨_, _, _, rfl⟩⟩
  · simp only [tSeq, tAsg_name, tAsg_sub, tAsg_tup, tRet, tRetN, tDrop, tIfS, tNext, tNever, tBreak, tCont, tAndV, tOrV, tNotV, tAnd, tOr, tNot, tB, tTest, tIf, tCall, tCons, tNil, tVar, tC, tOp, tUn, tTup, tLst, tRevL, tPar, tPar3, tAug, ipI, tCB, tFld, sFld, iList, iTup, iRng1, iRng2, iEnum, iEnumT, tChain, tSl, tPart, tNoPart, tBM, tCallKw, tTruth, tYes, qAdd, qSub, qMul, qMulW, qDiv, qDivW, qMod, qPow, qLt, qLe, qGt, qGe, qIsN, qNotN, qInt, qAbs, qMax2, qMin2, rI0, rI, rU, rEq, rNe, scal, qIxL, qIxT, qLenQ, qSetL, lstOf_upd, tupOf_upd, atI_0, atI_1, atI_2, atI_3, upd_same, upd_upd, ixL0, ixL1, ixL2, HO.lst.injEq, HO.tup.injEq, List.getElem?_cons_zero, List.getElem?_cons_succ, List.set_cons_zero, List.set_cons_succ, Option.some.injEq, exists_eq_left', exists_eq_left, exists_and_left, V.int.injEq, V.bl.injEq, V.ref.injEq, V.str.injEq, List.append_nil, List.cons.injEq, and_assoc, and_true, true_and, reduceCtorEq, false_and, and_false, false_or, or_false, exists_false, decide_true, decide_false, Bool.not_true, Bool.not_false, not_true_eq_false, not_false_eq_true, if_true, if_false, Bool.false_eq_true, decide_eq_true_eq, Bool.not_eq_true', decide_eq_false_iff_not, tFldC, sFldC, tProp, tMeth, tMake, tMakeKw, rEqOwn, rInOwn, tNotR, rTru, tTruR, tLstRg, tRg2, t__law_draw_s7, t__law_draw_s8, t__law_draw_s9, t__law_draw_s10, hw]
    refine ⟨.inl ⟨by omega, by omega⟩, by decide, .inr ⟨by omega, by omega⟩, .inl ⟨by omega, by omega⟩, by decide, ⟨by decide, by decide⟩, ?_⟩
    exact fin_mod hw0 fun r hr => q r _ hr ⟨_, _, _, rfl⟩
theorem pure__law_one (vs : List V) (H : Hp) (Q : VK) (E : XK) (h : spOne vs H Q E) : t__law_one K B { nx := fun _ H' => Q .non H', rt := Q } (L2.start N__law_one vs) H := by
  obtain ⟨p, a, xs, rfl, hp, ha, hne, h0, h1, q⟩ := h
  show t__law_one K B _ [some (.ref p), some (.ref a)] H
  simp only [tSeq, tAsg_name, tAsg_sub, tAsg_tup, tRet, tRetN, tDrop, tIfS, tNext, tNever, tBreak, tCont, tAndV, tOrV, tNotV, tAnd, tOr, tNot, tB, tTest, tIf, tCall, tCons, tNil, tVar, tC, tOp, tUn, tTup, tLst, tRevL, tPar, tPar3, tAug, ipI, tCB, tFld, sFld, iList, iTup, iRng1, iRng2, iEnum, iEnumT, tChain, tSl, tPart, tNoPart, tBM, tCallKw, tTruth, tYes, qAdd, qSub, qMul, qMulW, qDiv, qDivW, qMod, qPow, qLt, qLe, qGt, qGe, qIsN, qNotN, qInt, qAbs, qMax2, qMin2, rI0, rI, rU, rEq, rNe, scal, qIxL, qIxT, qLenQ, qSetL, lstOf_upd, tupOf_upd, atI_0, atI_1, atI_2, atI_3, upd_same, upd_upd, ixL0, ixL1, ixL2, HO.lst.injEq, HO.tup.injEq, List.getElem?_cons_zero, List.getElem?_cons_succ, List.set_cons_zero, List.set_cons_succ, Option.some.injEq, exists_eq_left', exists_eq_left, exists_and_left, V.int.injEq, V.bl.injEq, V.ref.injEq, V.str.injEq, List.append_nil, List.cons.injEq, and_assoc, and_true, true_and, reduceCtorEq, false_and, and_false, false_or, or_false, exists_false, decide_true, decide_false, Bool.not_true, Bool.not_false, not_true_eq_false, not_false_eq_true, if_true, if_false, Bool.false_eq_true, decide_eq_true_eq, Bool.not_eq_true', decide_eq_false_iff_not, tFldC, sFldC, tProp, tMeth, tMake, tMakeKw, rEqOwn, rInOwn, tNotR, rTru, tTruR, tLstRg, tRg2, t__law_one, t__law_one_s1, spDraw, sqOf_lst ha, List.append_nil]
  refine ⟨xs.length, rfl, hp, h0, h1, ?_⟩
  rintro r H' hr ⟨d, s, n, rfl⟩
  obtain ⟨v, hv⟩ : ∃ v, xs[r]? = some v := ⟨xs[r], List.getElem?_eq_getElem hr⟩
  have hl : lstOf (upd H p (.lst [.int d, .int s, .int n])) a = some xs := lstOf_of (by rw [upd_ne hne]; exact ha)
  simp only [tSeq, tAsg_name, tAsg_sub, tAsg_tup, tRet, tRetN, tDrop, tIfS, tNext, tNever, tBreak, tCont, tAndV, tOrV, tNotV, tAnd, tOr, tNot, tB, tTest, tIf, tCall, tCons, tNil, tVar, tC, tOp, tUn, tTup, tLst, tRevL, tPar, tPar3, tAug, ipI, tCB, tFld, sFld, iList, iTup, iRng1, iRng2, iEnum, iEnumT, tChain, tSl, tPart, tNoPart, tBM, tCallKw, tTruth, tYes, qAdd, qSub, qMul, qMulW, qDiv, qDivW, qMod, qPow, qLt, qLe, qGt, qGe, qIsN, qNotN, qInt, qAbs, qMax2, qMin2, rI0, rI, rU, rEq, rNe, scal, qIxL, qIxT, qLenQ, qSetL, lstOf_upd, tupOf_upd, atI_0, atI_1, atI_2, atI_3, upd_same, upd_upd, ixL0, ixL1, ixL2, HO.lst.injEq, HO.tup.injEq, List.getElem?_cons_zero, List.getElem?_cons_succ, List.set_cons_zero, List.set_cons_succ, Option.some.injEq, exists_eq_left', exists_eq_left, exists_and_left, V.int.injEq, V.bl.injEq, V.ref.injEq, V.str.injEq, List.append_nil, List.cons.injEq, and_assoc, and_true, true_and, reduceCtorEq, false_and, and_false, false_or, or_false, exists_false, decide_true, decide_false, Bool.not_true, Bool.not_false, not_true_eq_false, not_false_eq_true, if_true, if_false, Bool.false_eq_true, decide_eq_true_eq, Bool.not_eq_true', decide_eq_false_iff_not, tFldC, sFldC, tProp, tMeth, tMake, tMakeKw, rEqOwn, rInOwn, tNotR, rTru, tTruR, tLstRg, tRg2, hl, atI_nat hv]
  exact q r v _ hv ⟨d, s, n, rfl⟩
theorem pure__law_bag (vs : List V) (H : Hp) (Q : VK) (E : XK) (h : spFresh K vs H Q E) : t__law_bag K B { nx := fun _ H' => Q .non H', rt := Q } (L2.start N__law_bag vs) H := by
  obtain ⟨a, ns, k, rfl, hs, hlen, hk, q⟩ := h
  show t__law_bag K B _ [some (.ref a), some (.int k), none, none, none, none] H
  have rest : ∀ c s : Int, tSeq (t__law_bag_s4 K B) (tSeq (t__law_bag_s5 K B) (t__law_bag_s6 K B)) { nx := fun _ H' => Q .non H', rt := Q } [some (.ref a), some (.int k), some (.int c), some (.int s), none, none] H := by
    intro c s
    simp only [tSeq, tAsg_name, tAsg_sub, tAsg_tup, tRet, tRetN, tDrop, tIfS, tNext, tNever, tBreak, tCont, tAndV, tOrV, tNotV, tAnd, tOr, tNot, tB, tTest, tIf, tCall, tCons, tNil, tVar, tC, tOp, tUn, tTup, tLst, tRevL, tPar, tPar3, tAug, ipI, tCB, tFld, sFld, iList, iTup, iRng1, iRng2, iEnum, iEnumT, tChain, tSl, tPart, tNoPart, tBM, tCallKw, tTruth, tYes, qAdd, qSub, qMul, qMulW, qDiv, qDivW, qMod, qPow, qLt, qLe, qGt, qGe, qIsN, qNotN, qInt, qAbs, qMax2, qMin2, rI0, rI, rU, rEq, rNe, scal, qIxL, qIxT, qLenQ, qSetL, lstOf_upd, tupOf_upd, atI_0, atI_1, atI_2, atI_3, upd_same, upd_upd, ixL0, ixL1, ixL2, HO.lst.injEq, HO.tup.injEq, List.getElem?_cons_zero, List.getElem?_cons_succ, List.set_cons_zero, List.set_cons_succ, Option.some.injEq, exists_eq_left', exists_eq_left, exists_and_left, V.int.injEq, V.bl.injEq, V.ref.injEq, V.str.injEq, List.append_nil, List.cons.injEq, and_assoc, and_true, true_and, reduceCtorEq, false_and, and_false, false_or, or_false, exists_false, decide_true, decide_false, Bool.not_true, Bool.not_false, not_true_eq_false, not_false_eq_true, if_true, if_false, Bool.false_eq_true, decide_eq_true_eq, Bool.not_eq_true', decide_eq_false_iff_not, tFldC, sFldC, tProp, tMeth, tMake, tMakeKw, rEqOwn, rInOwn, tNotR, rTru, tTruR, tLstRg, tRg2, t__law_bag_s4, tFor, rSlL]
    refine ⟨_, hs, fun p hp => ⟨⟨_, SqL.of upd_same⟩, lp_list (xs := cutV (ns.map V.int) none (some 7)) (fun i σ H' => H' = upd H p (.lst (cutV (ns.map V.int) none (some 7))) ∧ ∃ (z : Int) (v : Option V), σ = [some (.ref a), some (.int k), some (.int c), some (.int z), v, none])
      ⟨rfl, s, none, rfl⟩ (fun i σ H' _ h => by rw [h.1]; exact SqL.of upd_same) ?_ ?_⟩⟩
    · rintro i x σ H' hx ⟨rfl, z, v, rfl⟩
      obtain ⟨y, _, rfl⟩ := List.mem_map.mp (cutV_mem hx)
      simp only [tSeq, tAsg_name, tAsg_sub, tAsg_tup, tRet, tRetN, tDrop, tIfS, tNext, tNever, tBreak, tCont, tAndV, tOrV, tNotV, tAnd, tOr, tNot, tB, tTest, tIf, tCall, tCons, tNil, tVar, tC, tOp, tUn, tTup, tLst, tRevL, tPar, tPar3, tAug, ipI, tCB, tFld, sFld, iList, iTup, iRng1, iRng2, iEnum, iEnumT, tChain, tSl, tPart, tNoPart, tBM, tCallKw, tTruth, tYes, qAdd, qSub, qMul, qMulW, qDiv, qDivW, qMod, qPow, qLt, qLe, qGt, qGe, qIsN, qNotN, qInt, qAbs, qMax2, qMin2, rI0, rI, rU, rEq, rNe, scal, qIxL, qIxT, qLenQ, qSetL, lstOf_upd, tupOf_upd, atI_0, atI_1, atI_2, atI_3, upd_same, upd_upd, ixL0, ixL1, ixL2, HO.lst.injEq, HO.tup.injEq, List.getElem?_cons_zero, List.getElem?_cons_succ, List.set_cons_zero, List.set_cons_succ, Option.some.injEq, exists_eq_left', exists_eq_left, exists_and_left, V.int.injEq, V.bl.injEq, V.ref.injEq, V.str.injEq, List.append_nil, List.cons.injEq, and_assoc, and_true, true_and, reduceCtorEq, false_and, and_false, false_or, or_false, exists_false, decide_true, decide_false, Bool.not_true, Bool.not_false, not_true_eq_false, not_false_eq_true, if_true, if_false, Bool.false_eq_true, decide_eq_true_eq, Bool.not_eq_true', decide_eq_false_iff_not, tFldC, sFldC, tProp, tMeth, tMake, tMakeKw, rEqOwn, rInOwn, tNotR, rTru, tTruR, tLstRg, tRg2, gName_ap, gTup_ap, gCons_ap, gNil_ap, gSub_ap, t__law_bag_b3, t__law_bag_s2]
      exact ⟨.inr ⟨by decide, by decide⟩, by decide, .inl ⟨by decide, by decide⟩, by decide, _, rfl⟩
    · rintro σ H' ⟨rfl, z, v, rfl⟩
      have fin : ∀ d : Int, t__law_bag_s6 K B { nx := fun _ H' => Q .non H', rt := Q } [some (.ref a), some (.int k), some (.int c), some (.int z), v, some (.int d)] (upd H p (.lst (cutV (ns.map V.int) none (some 7)))) := by
        intro d
        simp only [tSeq, tAsg_name, tAsg_sub, tAsg_tup, tRet, tRetN, tDrop, tIfS, tNext, tNever, tBreak, tCont, tAndV, tOrV, tNotV, tAnd, tOr, tNot, tB, tTest, tIf, tCall, tCons, tNil, tVar, tC, tOp, tUn, tTup, tLst, tRevL, tPar, tPar3, tAug, ipI, tCB, tFld, sFld, iList, iTup, iRng1, iRng2, iEnum, iEnumT, tChain, tSl, tPart, tNoPart, tBM, tCallKw, tTruth, tYes, qAdd, qSub, qMul, qMulW, qDiv, qDivW, qMod, qPow, qLt, qLe, qGt, qGe, qIsN, qNotN, qInt, qAbs, qMax2, qMin2, rI0, rI, rU, rEq, rNe, scal, qIxL, qIxT, qLenQ, qSetL, lstOf_upd, tupOf_upd, atI_0, atI_1, atI_2, atI_3, upd_same, upd_upd, ixL0, ixL1, ixL2, HO.lst.injEq, HO.tup.injEq, List.getElem?_cons_zero, List.getElem?_cons_succ, List.set_cons_zero, List.set_cons_succ, Option.some.injEq, exists_eq_left', exists_eq_left, exists_and_left, V.int.injEq, V.bl.injEq, V.ref.injEq, V.str.injEq, List.append_nil, List.cons.injEq, and_assoc, and_true, true_and, reduceCtorEq, false_and, and_false, false_or, or_false, exists_false, decide_true, decide_false, Bool.not_true, Bool.not_false, not_true_eq_false, not_false_eq_true, if_true, if_false, Bool.false_eq_true, decide_eq_true_eq, Bool.not_eq_true', decide_eq_false_iff_not, tFldC, sFldC, tProp, tMeth, tMake, tMakeKw, rEqOwn, rInOwn, tNotR, rTru, tTruR, tLstRg, tRg2, t__law_bag_s6]
        refine ⟨by decide, .inl ⟨by decide, by decide⟩, by decide, by show 3 ≤ sizeLine; decide, fun r hr => q _ r ?_ ?_ ?_⟩
        · exact Same.newp (Same.newp (Same.refl H) hp) hr
        · exact (Same.newp (o := .lst (cutV (ns.map V.int) none (some 7))) (Same.refl H) hp).free hr
        · exact ⟨_, _, _, upd_same⟩
      simp only [tSeq, tAsg_name, tAsg_sub, tAsg_tup, tRet, tRetN, tDrop, tIfS, tNext, tNever, tBreak, tCont, tAndV, tOrV, tNotV, tAnd, tOr, tNot, tB, tTest, tIf, tCall, tCons, tNil, tVar, tC, tOp, tUn, tTup, tLst, tRevL, tPar, tPar3, tAug, ipI, tCB, tFld, sFld, iList, iTup, iRng1, iRng2, iEnum, iEnumT, tChain, tSl, tPart, tNoPart, tBM, tCallKw, tTruth, tYes, qAdd, qSub, qMul, qMulW, qDiv, qDivW, qMod, qPow, qLt, qLe, qGt, qGe, qIsN, qNotN, qInt, qAbs, qMax2, qMin2, rI0, rI, rU, rEq, rNe, scal, qIxL, qIxT, qLenQ, qSetL, lstOf_upd, tupOf_upd, atI_0, atI_1, atI_2, atI_3, upd_same, upd_upd, ixL0, ixL1, ixL2, HO.lst.injEq, HO.tup.injEq, List.getElem?_cons_zero, List.getElem?_cons_succ, List.set_cons_zero, List.set_cons_succ, Option.some.injEq, exists_eq_left', exists_eq_left, exists_and_left, V.int.injEq, V.bl.injEq, V.ref.injEq, V.str.injEq, List.append_nil, List.cons.injEq, and_assoc, and_true, true_and, reduceCtorEq, false_and, and_false, false_or, or_false, exists_false, decide_true, decide_false, Bool.not_true, Bool.not_false, not_true_eq_false, not_false_eq_true, if_true, if_false, Bool.false_eq_true, decide_eq_true_eq, Bool.not_eq_true', decide_eq_false_iff_not, tFldC, sFldC, tProp, tMeth, tMake, tMakeKw, rEqOwn, rInOwn, tNotR, rTru, tTruR, tLstRg, tRg2, t__law_bag_s5]
      refine ite2 (fun _ => fin _) (fun _ => ⟨⟨by decide, by decide, by decide⟩, ite2 (fun _ => fin _) (fun _ => fin _)⟩)
  simp only [tSeq, tAsg_name, tAsg_sub, tAsg_tup, tRet, tRetN, tDrop, tIfS, tNext, tNever, tBreak, tCont, tAndV, tOrV, tNotV, tAnd, tOr, tNot, tB, tTest, tIf, tCall, tCons, tNil, tVar, tC, tOp, tUn, tTup, tLst, tRevL, tPar, tPar3, tAug, ipI, tCB, tFld, sFld, iList, iTup, iRng1, iRng2, iEnum, iEnumT, tChain, tSl, tPart, tNoPart, tBM, tCallKw, tTruth, tYes, qAdd, qSub, qMul, qMulW, qDiv, qDivW, qMod, qPow, qLt, qLe, qGt, qGe, qIsN, qNotN, qInt, qAbs, qMax2, qMin2, rI0, rI, rU, rEq, rNe, scal, qIxL, qIxT, qLenQ, qSetL, lstOf_upd, tupOf_upd, atI_0, atI_1, atI_2, atI_3, upd_same, upd_upd, ixL0, ixL1, ixL2, HO.lst.injEq, HO.tup.injEq, List.getElem?_cons_zero, List.getElem?_cons_succ, List.set_cons_zero, List.set_cons_succ, Option.some.injEq, exists_eq_left', exists_eq_left, exists_and_left, V.int.injEq, V.bl.injEq, V.ref.injEq, V.str.injEq, List.append_nil, List.cons.injEq, and_assoc, and_true, true_and, reduceCtorEq, false_and, and_false, false_or, or_false, exists_false, decide_true, decide_false, Bool.not_true, Bool.not_false, not_true_eq_false, not_false_eq_true, if_true, if_false, Bool.false_eq_true, decide_eq_true_eq, Bool.not_eq_true', decide_eq_false_iff_not, tFldC, sFldC, tProp, tMeth, tMake, tMakeKw, rEqOwn, rInOwn, tNotR, rTru, tTruR, tLstRg, tRg2, t__law_bag, t__law_bag_s1]
  refine ⟨a, _, rfl, .inl hs, _, rfl, ite2 (fun c => ?_) (fun c => ?_)⟩
  · have hk2 : k < ns.length := by rw [List.length_map] at c; omega
    refine ⟨a, _, _, _, rfl, rfl, hs, atI_nat (by rw [List.getElem?_map, List.getElem?_eq_getElem hk2]; rfl), ?_⟩
    simp only [tSeq, tAsg_name, tAsg_sub, tAsg_tup, tRet, tRetN, tDrop, tIfS, tNext, tNever, tBreak, tCont, tAndV, tOrV, tNotV, tAnd, tOr, tNot, tB, tTest, tIf, tCall, tCons, tNil, tVar, tC, tOp, tUn, tTup, tLst, tRevL, tPar, tPar3, tAug, ipI, tCB, tFld, sFld, iList, iTup, iRng1, iRng2, iEnum, iEnumT, tChain, tSl, tPart, tNoPart, tBM, tCallKw, tTruth, tYes, qAdd, qSub, qMul, qMulW, qDiv, qDivW, qMod, qPow, qLt, qLe, qGt, qGe, qIsN, qNotN, qInt, qAbs, qMax2, qMin2, rI0, rI, rU, rEq, rNe, scal, qIxL, qIxT, qLenQ, qSetL, lstOf_upd, tupOf_upd, atI_0, atI_1, atI_2, atI_3, upd_same, upd_upd, ixL0, ixL1, ixL2, HO.lst.injEq, HO.tup.injEq, List.getElem?_cons_zero, List.getElem?_cons_succ, List.set_cons_zero, List.set_cons_succ, Option.some.injEq, exists_eq_left', exists_eq_left, exists_and_left, V.int.injEq, V.bl.injEq, V.ref.injEq, V.str.injEq, List.append_nil, List.cons.injEq, and_assoc, and_true, true_and, reduceCtorEq, false_and, and_false, false_or, or_false, exists_false, decide_true, decide_false, Bool.not_true, Bool.not_false, not_true_eq_false, not_false_eq_true, if_true, if_false, Bool.false_eq_true, decide_eq_true_eq, Bool.not_eq_true', decide_eq_false_iff_not, tFldC, sFldC, tProp, tMeth, tMake, tMakeKw, rEqOwn, rInOwn, tNotR, rTru, tTruR, tLstRg, tRg2]
    exact ⟨.inl ⟨by decide, by decide⟩, rest _ _⟩
  · exact ⟨.inl ⟨by decide, by decide⟩, rest _ _⟩
end
end RA.K10

namespace RA.K10
open PySem PySem.Spec L2 RA
open PyProof.Rows hiding St
section
variable {K : PySem.W.Frag} {B : CA} {mg : Str → Option Value} (T : Txt K mg B)
include T
theorem pure_are_ascending (vs : List V) (H : Hp) (Q : VK) (E : XK) (h : sp_are_ascending K B vs H Q E) : t_are_ascending K B { nx := fun _ H' => Q .non H', rt := Q } (L2.start ["value", "least", "most", "each", "k"] vs) H := by
  obtain ⟨p, ns, lo, hi, hv, rfl, rfl, hp, hl, ha, q⟩ := h
  show t_are_ascending K B _ [some (.ref p), some (.int (lo : Nat)), some (.int (hi : Nat)), none, none] H
  have hz : sizeLine = 16777216 := rfl
  simp only [tSeq, tAsg_name, tAsg_sub, tAsg_tup, tRet, tRetN, tDrop, tIfS, tNext, tNever, tBreak, tCont, tAndV, tOrV, tNotV, tAnd, tOr, tNot, tB, tTest, tIf, tCall, tCons, tNil, tVar, tC, tOp, tUn, tTup, tLst, tRevL, tPar, tPar3, tAug, ipI, tCB, tFld, sFld, iList, iTup, iRng1, iRng2, iEnum, iEnumT, tChain, tSl, tPart, tNoPart, tBM, tCallKw, tTruth, tYes, qAdd, qSub, qMul, qMulW, qDiv, qDivW, qMod, qPow, qLt, qLe, qGt, qGe, qIsN, qNotN, qInt, qAbs, qMax2, qMin2, rI0, rI, rU, rEq, rNe, scal, qIxL, qIxT, qLenQ, qSetL, lstOf_upd, tupOf_upd, atI_0, atI_1, atI_2, atI_3, upd_same, upd_upd, ixL0, ixL1, ixL2, HO.lst.injEq, HO.tup.injEq, List.getElem?_cons_zero, List.getElem?_cons_succ, List.set_cons_zero, List.set_cons_succ, Option.some.injEq, exists_eq_left', exists_eq_left, exists_and_left, V.int.injEq, V.bl.injEq, V.ref.injEq, V.str.injEq, List.append_nil, List.cons.injEq, and_assoc, and_true, true_and, reduceCtorEq, false_and, and_false, false_or, or_false, exists_false, decide_true, decide_false, Bool.not_true, Bool.not_false, not_true_eq_false, not_false_eq_true, if_true, if_false, Bool.false_eq_true, decide_eq_true_eq, Bool.not_eq_true', decide_eq_false_iff_not, tFldC, sFldC, tProp, tMeth, tMake, tMakeKw, rEqOwn, rInOwn, tNotR, rTru, tTruR, tLstRg, tRg2, t_are_ascending, t_are_ascending_s4, tLc_go]
  refine ⟨_, _, _, _, _, rfl, .ty _, .base (.tup hp), isTup_kit, true, rfl, ?_⟩
  simp only [tSeq, tAsg_name, tAsg_sub, tAsg_tup, tRet, tRetN, tDrop, tIfS, tNext, tNever, tBreak, tCont, tAndV, tOrV, tNotV, tAnd, tOr, tNot, tB, tTest, tIf, tCall, tCons, tNil, tVar, tC, tOp, tUn, tTup, tLst, tRevL, tPar, tPar3, tAug, ipI, tCB, tFld, sFld, iList, iTup, iRng1, iRng2, iEnum, iEnumT, tChain, tSl, tPart, tNoPart, tBM, tCallKw, tTruth, tYes, qAdd, qSub, qMul, qMulW, qDiv, qDivW, qMod, qPow, qLt, qLe, qGt, qGe, qIsN, qNotN, qInt, qAbs, qMax2, qMin2, rI0, rI, rU, rEq, rNe, scal, qIxL, qIxT, qLenQ, qSetL, lstOf_upd, tupOf_upd, atI_0, atI_1, atI_2, atI_3, upd_same, upd_upd, ixL0, ixL1, ixL2, HO.lst.injEq, HO.tup.injEq, List.getElem?_cons_zero, List.getElem?_cons_succ, List.set_cons_zero, List.set_cons_succ, Option.some.injEq, exists_eq_left', exists_eq_left, exists_and_left, V.int.injEq, V.bl.injEq, V.ref.injEq, V.str.injEq, List.append_nil, List.cons.injEq, and_assoc, and_true, true_and, reduceCtorEq, false_and, and_false, false_or, or_false, exists_false, decide_true, decide_false, Bool.not_true, Bool.not_false, not_true_eq_false, not_false_eq_true, if_true, if_false, Bool.false_eq_true, decide_eq_true_eq, Bool.not_eq_true', decide_eq_false_iff_not, tFldC, sFldC, tProp, tMeth, tMake, tMakeKw, rEqOwn, rInOwn, tNotR, rTru, tTruR, tLstRg, tRg2]
  refine ⟨⟨_, SqT.of hp⟩, map_tup (SqT.of hp) (fun _ => some (.bl true)) (by rw [ofNats_length]; omega) ?_ fun D H1 s1 hD h1 => ?_⟩
  · intro i x H1 R hx s1 k
    obtain ⟨n, hn, rfl⟩ := ofNats_get hx
    have hb := ha.1 n (List.mem_of_getElem? hn)
    simp only [tSeq, tAsg_name, tAsg_sub, tAsg_tup, tRet, tRetN, tDrop, tIfS, tNext, tNever, tBreak, tCont, tAndV, tOrV, tNotV, tAnd, tOr, tNot, tB, tTest, tIf, tCall, tCons, tNil, tVar, tC, tOp, tUn, tTup, tLst, tRevL, tPar, tPar3, tAug, ipI, tCB, tFld, sFld, iList, iTup, iRng1, iRng2, iEnum, iEnumT, tChain, tSl, tPart, tNoPart, tBM, tCallKw, tTruth, tYes, qAdd, qSub, qMul, qMulW, qDiv, qDivW, qMod, qPow, qLt, qLe, qGt, qGe, qIsN, qNotN, qInt, qAbs, qMax2, qMin2, rI0, rI, rU, rEq, rNe, scal, qIxL, qIxT, qLenQ, qSetL, lstOf_upd, tupOf_upd, atI_0, atI_1, atI_2, atI_3, upd_same, upd_upd, ixL0, ixL1, ixL2, HO.lst.injEq, HO.tup.injEq, List.getElem?_cons_zero, List.getElem?_cons_succ, List.set_cons_zero, List.set_cons_succ, Option.some.injEq, exists_eq_left', exists_eq_left, exists_and_left, V.int.injEq, V.bl.injEq, V.ref.injEq, V.str.injEq, List.append_nil, List.cons.injEq, and_assoc, and_true, true_and, reduceCtorEq, false_and, and_false, false_or, or_false, exists_false, decide_true, decide_false, Bool.not_true, Bool.not_false, not_true_eq_false, not_false_eq_true, if_true, if_false, Bool.false_eq_true, decide_eq_true_eq, Bool.not_eq_true', decide_eq_false_iff_not, tFldC, sFldC, tProp, tMeth, tMake, tMakeKw, rEqOwn, rInOwn, tNotR, rTru, tTruR, tLstRg, tRg2, gName_ap, gTup_ap, gCons_ap, gNil_ap, gSub_ap, LcStep, t_are_ascending_e1, wipe, sp_is_between, spBetween]
    refine ⟨some (hi : Int), rfl, .int _, ?_⟩
    have e : btw (lo : Int) (some (hi : Int)) (V.int (n : Int)) = true := by simp [btw, hb]
    rw [e]
    exact k _ (Same.refl _)
  · refine rAll_bl (bs := (ofNats ns).map fun _ => true) (b := true) (by rw [h1, fm_some, List.map_map]; rfl) (by simp) ?_
    simp only [tSeq, tAsg_name, tAsg_sub, tAsg_tup, tRet, tRetN, tDrop, tIfS, tNext, tNever, tBreak, tCont, tAndV, tOrV, tNotV, tAnd, tOr, tNot, tB, tTest, tIf, tCall, tCons, tNil, tVar, tC, tOp, tUn, tTup, tLst, tRevL, tPar, tPar3, tAug, ipI, tCB, tFld, sFld, iList, iTup, iRng1, iRng2, iEnum, iEnumT, tChain, tSl, tPart, tNoPart, tBM, tCallKw, tTruth, tYes, qAdd, qSub, qMul, qMulW, qDiv, qDivW, qMod, qPow, qLt, qLe, qGt, qGe, qIsN, qNotN, qInt, qAbs, qMax2, qMin2, rI0, rI, rU, rEq, rNe, scal, qIxL, qIxT, qLenQ, qSetL, lstOf_upd, tupOf_upd, atI_0, atI_1, atI_2, atI_3, upd_same, upd_upd, ixL0, ixL1, ixL2, HO.lst.injEq, HO.tup.injEq, List.getElem?_cons_zero, List.getElem?_cons_succ, List.set_cons_zero, List.set_cons_succ, Option.some.injEq, exists_eq_left', exists_eq_left, exists_and_left, V.int.injEq, V.bl.injEq, V.ref.injEq, V.str.injEq, List.append_nil, List.cons.injEq, and_assoc, and_true, true_and, reduceCtorEq, false_and, and_false, false_or, or_false, exists_false, decide_true, decide_false, Bool.not_true, Bool.not_false, not_true_eq_false, not_false_eq_true, if_true, if_false, Bool.false_eq_true, decide_eq_true_eq, Bool.not_eq_true', decide_eq_false_iff_not, tFldC, sFldC, tProp, tMeth, tMake, tMakeKw, rEqOwn, rInOwn, tNotR, rTru, tTruR, tLstRg, tRg2, t_are_ascending_s6, tLc_go, sqOf_tup (s1 _ _ hp), ofNats_length]
    have hn : ((ns.length : Int) - 1).toNat = ns.length - 1 := by omega
    refine ⟨by omega, by omega, ?_⟩
    rw [hn]
    refine map_rng (fun _ => some (.bl true)) (by omega) ?_ fun D2 H2 s2 hD2 h2 => ?_
    · intro i H2 R hi2 s2 k
      have ht := tupOf_of (s2 _ _ (s1 _ _ hp))
      have g1 : atI (ofNats ns) (0 + (i : Int)) = some (.int (ns[i]'(by omega) : Nat)) := by
        rw [Int.zero_add]; exact atI_ofNats (by omega)
      have g2 : atI (ofNats ns) (0 + (i : Int) + 1) = some (.int (ns[i + 1]'(by omega) : Nat)) := by
        rw [show (0 + (i : Int) + 1) = ((i + 1 : Nat) : Int) by omega]; exact atI_ofNats (by omega)
      simp only [tSeq, tAsg_name, tAsg_sub, tAsg_tup, tRet, tRetN, tDrop, tIfS, tNext, tNever, tBreak, tCont, tAndV, tOrV, tNotV, tAnd, tOr, tNot, tB, tTest, tIf, tCall, tCons, tNil, tVar, tC, tOp, tUn, tTup, tLst, tRevL, tPar, tPar3, tAug, ipI, tCB, tFld, sFld, iList, iTup, iRng1, iRng2, iEnum, iEnumT, tChain, tSl, tPart, tNoPart, tBM, tCallKw, tTruth, tYes, qAdd, qSub, qMul, qMulW, qDiv, qDivW, qMod, qPow, qLt, qLe, qGt, qGe, qIsN, qNotN, qInt, qAbs, qMax2, qMin2, rI0, rI, rU, rEq, rNe, scal, qIxL, qIxT, qLenQ, qSetL, lstOf_upd, tupOf_upd, atI_0, atI_1, atI_2, atI_3, upd_same, upd_upd, ixL0, ixL1, ixL2, HO.lst.injEq, HO.tup.injEq, List.getElem?_cons_zero, List.getElem?_cons_succ, List.set_cons_zero, List.set_cons_succ, Option.some.injEq, exists_eq_left', exists_eq_left, exists_and_left, V.int.injEq, V.bl.injEq, V.ref.injEq, V.str.injEq, List.append_nil, List.cons.injEq, and_assoc, and_true, true_and, reduceCtorEq, false_and, and_false, false_or, or_false, exists_false, decide_true, decide_false, Bool.not_true, Bool.not_false, not_true_eq_false, not_false_eq_true, if_true, if_false, Bool.false_eq_true, decide_eq_true_eq, Bool.not_eq_true', decide_eq_false_iff_not, tFldC, sFldC, tProp, tMeth, tMake, tMakeKw, rEqOwn, rInOwn, tNotR, rTru, tTruR, tLstRg, tRg2, gName_ap, gTup_ap, gCons_ap, gNil_ap, gSub_ap, LcStep, t_are_ascending_e5, wipe, ht, g1, g2]
      have hlt : ns[i]'(by omega) < ns[i + 1]'(by omega) := List.pairwise_iff_getElem.mp ha.2 i (i + 1) (by omega) (by omega) (by omega)
      rw [decide_eq_true (by omega)]
      exact k _ (Same.refl _)
    · exact rAll_bl (bs := (List.range (ns.length - 1)).map fun _ => true) (b := true) (by rw [h2, fm_some, List.map_map]; rfl) (by simp) (q _ (s1.trans s2))
end
end RA.K10

namespace RA.K10
open PySem PySem.Spec L2 RA
open PyProof.Rows hiding St
/-! ### periods -/
def Per (S : Nat → Bool) (s p : Nat) : Prop := ∀ n, s ≤ n → S (n + p) = S n
theorem Per.mul {S : Nat → Bool} {s p : Nat} (h : Per S s p) (k : Nat) : Per S s (p * k) := by
  induction k with
  | zero => intro n _; rfl
  | succ k ih => intro n hn; rw [Nat.mul_succ, ← Nat.add_assoc, h _ (by omega), ih n hn]
theorem Per.up {S : Nat → Bool} {s t p : Nat} (h : Per S s p) (le : s ≤ t) : Per S t p := fun n hn => h n (by omega)
theorem Per.dvd {S : Nat → Bool} {s p q : Nat} (h : Per S s p) (d : p ∣ q) : Per S s q := by
  obtain ⟨k, rfl⟩ := d
  exact h.mul k
theorem Per.mod {S : Nat → Bool} {s p : Nat} (h : Per S s p) (m : Nat) : S (s + m) = S (s + m % p) := by
  have e : s + m = (s + m % p) + p * (m / p) := by have := Nat.mod_add_div m p; omega
  rw [e, h.mul (m / p) _ (by omega)]
theorem Per.cong {S : Nat → Bool} {s p a b : Nat} (h : Per S s p) (ha : s ≤ a) (hb : s ≤ b) (e : a % p = b % p) : S a = S b := by
  rcases Nat.le_total a b with l | l
  · have : b = a + p * ((b - a) / p) := by
      have h1 : (b - a) % p = 0 := Nat.sub_mod_eq_zero_of_mod_eq e.symm
      have := Nat.mod_add_div (b - a) p
      omega
    rw [this, h.mul _ _ ha]
  · have : a = b + p * ((a - b) / p) := by
      have h1 : (a - b) % p = 0 := Nat.sub_mod_eq_zero_of_mod_eq e
      have := Nat.mod_add_div (a - b) p
      omega
    rw [this, h.mul _ _ hb]
theorem Per.gcd {S : Nat → Bool} {t : Nat} (a b : Nat) : Per S t a → Per S t b → Per S t (Nat.gcd a b) := by
  induction a, b using Nat.gcd.induction with
  | H0 n => intro _ h; rw [Nat.gcd_zero_left]; exact h
  | H1 m n hm ih =>
    intro h1 h2
    rw [Nat.gcd_rec]
    refine ih (fun n' hn => ?_) h1
    have e := h2 n' hn
    have d := Nat.mod_add_div n m
    rw [show n' + n = (n' + n % m) + m * (n / m) by omega, h1.mul _ _ (by omega)] at e
    exact e
/-- two periods, the one from s: the greatest shared divisor is one from s -/
theorem Per.gcd_from {S : Nat → Bool} {s t p q : Nat} (hp : 1 ≤ p) (h1 : Per S s p) (h2 : Per S t q) : Per S s (Nat.gcd p q) := by
  have h := Per.gcd p q (h1.up (Nat.le_max_left s t)) (h2.up (Nat.le_max_right s t))
  intro n hn
  have e1 := h1.mul (max s t) (n + Nat.gcd p q) (by omega)
  have e2 := h1.mul (max s t) n hn
  have le : max s t ≤ p * max s t := Nat.le_mul_of_pos_left _ hp
  have e3 := h (n + p * max s t) (by omega)
  rw [← e1, ← e2, ← e3]
  congr 1
  omega
theorem mem_sizes {P d : Nat} : d ∈ sizes P ↔ 1 ≤ d ∧ d ≤ P ∧ d ∣ P := by
  unfold sizes
  rw [List.mem_filterMap]
  constructor
  · rintro ⟨i, hi, h⟩
    rw [List.mem_range] at hi
    split at h
    · next z => cases h; exact ⟨by omega, by omega, Nat.dvd_of_mod_eq_zero z⟩
    · cases h
  · rintro ⟨h1, h2, h3⟩
    refine ⟨d - 1, List.mem_range.mpr (by omega), ?_⟩
    rw [show d - 1 + 1 = d by omega, if_pos (Nat.mod_eq_zero_of_dvd h3)]
theorem sizes_asc (P : Nat) : (sizes P).Pairwise (· < ·) := by
  unfold sizes
  rw [List.pairwise_filterMap]
  refine List.Pairwise.imp ?_ List.pairwise_lt_range
  intro a b h x hx y hy
  split at hx
  · split at hy
    · cases hx; cases hy; omega
    · cases hy
  · cases hx
theorem isPer_iff {S : Nat → Bool} {s P d : Nat} (hP : 1 ≤ P) (h : Per S s P) (hd : d ∣ P) : isPer S s P d = true ↔ Per S s d := by
  unfold isPer
  rw [List.all_eq_true]
  constructor
  · intro g n hn
    have key : ∀ m, S (s + m) = S (s + m % d) := by
      intro m
      have e := g (m % P) (List.mem_range.mpr (Nat.mod_lt _ (by omega)))
      rw [beq_iff_eq, Nat.mod_mod_of_dvd m hd] at e
      rw [h.mod m, e]
    have e1 := key (n - s + d)
    have e2 := key (n - s)
    rw [Nat.add_mod_right] at e1
    rw [show n + d = s + (n - s + d) by omega, e1, ← e2]
    congr 1
    omega
  · intro g k _
    rw [beq_iff_eq]
    exact g.mod k
theorem lper_spec {S : Nat → Bool} {s P : Nat} (hP : 1 ≤ P) (h : Per S s P) :
    1 ≤ lper S s P ∧ lper S s P ≤ P ∧ lper S s P ∣ P ∧ Per S s (lper S s P) ∧ lpers S s P ≠ [] ∧ (lpers S s P).head? = some (lper S s P) ∧ ∀ q t, 1 ≤ q → Per S t q → lper S s P ∣ q := by
  have memP : P ∈ lpers S s P := by
    unfold lpers
    rw [List.mem_filter]
    exact ⟨mem_sizes.mpr ⟨hP, Nat.le_refl _, Nat.dvd_refl _⟩, (isPer_iff hP h (Nat.dvd_refl _)).mpr h⟩
  have asc : (lpers S s P).Pairwise (· < ·) := (sizes_asc P).filter _
  have inn : ∀ d ∈ lpers S s P, 1 ≤ d ∧ d ≤ P ∧ d ∣ P ∧ Per S s d := by
    intro d hd
    unfold lpers at hd
    rw [List.mem_filter] at hd
    obtain ⟨h1, h2, h3⟩ := mem_sizes.mp hd.1
    exact ⟨h1, h2, h3, (isPer_iff hP h h3).mp hd.2⟩
  have isin : ∀ d, 1 ≤ d → d ∣ P → Per S s d → d ∈ lpers S s P := by
    intro d h1 h2 h3
    unfold lpers
    rw [List.mem_filter]
    exact ⟨mem_sizes.mpr ⟨h1, Nat.le_of_dvd (by omega) h2, h2⟩, (isPer_iff hP h h2).mpr h3⟩
  unfold lper
  cases e : lpers S s P with
  | nil => rw [e] at memP; cases memP
  | cons a l =>
    rw [e] at asc inn isin
    obtain ⟨a1, a2, a3, a4⟩ := inn a List.mem_cons_self
    refine ⟨a1, a2, a3, a4, by simp, rfl, fun q t hq hper => ?_⟩
    have g := Per.gcd_from a1 a4 hper
    have gd : Nat.gcd a q ∣ P := Nat.dvd_trans (Nat.gcd_dvd_left a q) a3
    have g1 : 1 ≤ Nat.gcd a q := Nat.gcd_pos_of_pos_left _ (by omega)
    have m := isin _ g1 gd g
    have le : Nat.gcd a q ≤ a := Nat.le_of_dvd (by omega) (Nat.gcd_dvd_left a q)
    have : Nat.gcd a q = a := by
      rcases List.mem_cons.mp m with z | z
      · exact z
      · have := List.rel_of_pairwise_cons asc z
        omega
    show a ∣ q
    rw [← this]
    exact Nat.gcd_dvd_right a q
theorem lstart_spec {S : Nat → Bool} {p : Nat} : ∀ {s : Nat}, 1 ≤ s → Per S s p → 1 ≤ lstart S p s ∧ lstart S p s ≤ s ∧ Per S (lstart S p s) p ∧ (lstart S p s = 1 ∨ S (lstart S p s - 1) ≠ S (lstart S p s - 1 + p))
  | 0, h, _ => by omega
  | 1, _, h => ⟨Nat.le_refl _, Nat.le_refl _, h, .inl rfl⟩
  | s + 2, _, h => by
    unfold lstart
    by_cases c : S (s + 1) = S (s + 1 + p)
    · rw [if_pos c]
      have h' : Per S (s + 1) p := fun n hn => by
        rcases Nat.eq_or_lt_of_le hn with z | z
        · rw [← z]; exact c.symm
        · exact h n (by omega)
      obtain ⟨a, b, d, e⟩ := lstart_spec (s := s + 1) (by omega) h'
      exact ⟨a, by omega, d, e⟩
    · rw [if_neg c]
      exact ⟨by omega, Nat.le_refl _, h, .inr c⟩
theorem mem_early {S : Nat → Bool} {st n : Nat} : n ∈ ((List.range (st - 1)).filterMap fun i => if S (i + 1) then some (i + 1) else none) ↔ 1 ≤ n ∧ n < st ∧ S n = true := by
  rw [List.mem_filterMap]
  constructor
  · rintro ⟨i, hi, h⟩
    rw [List.mem_range] at hi
    split at h
    · next z => cases h; exact ⟨by omega, by omega, z⟩
    · cases h
  · rintro ⟨h1, h2, h3⟩
    refine ⟨n - 1, List.mem_range.mpr (by omega), ?_⟩
    rw [show n - 1 + 1 = n by omega, if_pos h3]
/-- the normal form tells the same set -/
theorem norm_same {S : Nat → Bool} {s P : Nat} (hs : 1 ≤ s) (hP : 1 ≤ P) (h : Per S s P) (n : Nat) (hn : 1 ≤ n) : setS (normS S s P) n = S n := by
  obtain ⟨p1, p2, p3, p4, _⟩ := lper_spec hP h
  obtain ⟨s1, s2, s3, s4⟩ := lstart_spec hs p4
  unfold setS normS
  simp only
  generalize hp : lper S s P = p at *
  generalize hst : lstart S p s = st at *
  by_cases c : n < st
  · rw [if_pos c]
    cases e : S n with
    | true => exact decide_eq_true (mem_early.mpr ⟨hn, c, e⟩)
    | false => refine decide_eq_false fun z => ?_; rw [(mem_early.mp z).2.2] at e; cases e
  · rw [if_neg c]
    have lt : n % p < p := Nat.mod_lt _ (by omega)
    have eq : S (p * st + n % p) = S n := by
      refine s3.cong (Nat.le_trans (Nat.le_mul_of_pos_left _ p1) (Nat.le_add_right _ _)) (by omega) ?_
      rw [Nat.mul_add_mod, Nat.mod_mod]
    cases e : S n with
    | true => exact decide_eq_true (List.mem_filter.mpr ⟨List.mem_range.mpr lt, by rw [eq, e]⟩)
    | false =>
      refine decide_eq_false fun z => ?_
      have := (List.mem_filter.mp z).2
      rw [eq, e] at this
      cases this
/-- one set, one normal form -/
theorem norm_unique {S S' : Nat → Bool} {s P s' P' : Nat} (hs : 1 ≤ s) (hP : 1 ≤ P) (h : Per S s P) (hs' : 1 ≤ s') (hP' : 1 ≤ P') (h' : Per S' s' P') (e : ∀ n, 1 ≤ n → S n = S' n) : normS S s P = normS S' s' P' := by
  obtain ⟨p1, p2, p3, p4, _, _, p5⟩ := lper_spec hP h
  obtain ⟨q1, q2, q3, q4, _, _, q5⟩ := lper_spec hP' h'
  have a4 : Per S s' (lper S' s' P') := fun n hn => by rw [e _ (by omega), e _ (by omega)]; exact q4 n hn
  have b4 : Per S' s (lper S s P) := fun n hn => by rw [← e _ (by omega), ← e _ (by omega)]; exact p4 n hn
  have ep : lper S s P = lper S' s' P' := Nat.dvd_antisymm (p5 _ _ q1 a4) (q5 _ _ p1 b4)
  obtain ⟨s1, s2, s3, s4⟩ := lstart_spec hs p4
  obtain ⟨t1, t2, t3, t4⟩ := lstart_spec hs' q4
  have es : lstart S (lper S s P) s = lstart S' (lper S' s' P') s' := by
    rw [← ep] at t1 t2 t3 t4 ⊢
    generalize lper S s P = p at *
    generalize lstart S p s = x at *
    generalize lstart S' p s' = y at *
    rcases Nat.lt_trichotomy x y with l | l | l
    · exfalso
      rcases t4 with z | z
      · omega
      · apply z
        have := s3 (y - 1) (by omega)
        rw [← e _ (by omega), ← e _ (by omega)]
        exact this.symm
    · exact l
    · exfalso
      rcases s4 with z | z
      · omega
      · apply z
        have := t3 (x - 1) (by omega)
        rw [e _ (by omega), e _ (by omega)]
        exact this.symm
  unfold normS
  rw [← ep] at es ⊢
  rw [← es]
  congr 1
  · congr 1
    funext i
    rw [e _ (by omega)]
  · congr 1
    funext r
    exact e _ (by have := Nat.le_mul_of_pos_left (lstart S (lper S s P) s) p1; omega)
theorem setS_per (F : Form) : Per (setS F) F.s F.P := fun n hn => by
  unfold setS
  rw [if_neg (by omega), if_neg (by omega), Nat.add_mod_right]
def again (S : Nat → Bool) (st p : Nat) : List Nat := (List.range p).filterMap fun i => if S (st + i) then some ((st + i) % p) else none
theorem again_perm {S : Nat → Bool} {st p : Nat} (hp : 1 ≤ p) (h : Per S st p) : (again S st p).Perm ((List.range p).filter fun r => S (p * st + r)) := by
  have le : st ≤ p * st := Nat.le_mul_of_pos_left _ hp
  refine (List.perm_ext_iff_of_nodup ?_ (List.nodup_range.filter _)).mpr fun r => ?_
  · unfold again List.Nodup
    rw [List.pairwise_filterMap]
    refine List.Pairwise.imp_of_mem ?_ List.pairwise_lt_range
    intro a b ha hb hab x hx y hy e
    rw [List.mem_range] at ha hb
    split at hx
    · split at hy
      · cases hx; cases hy
        have z := Nat.sub_mod_eq_zero_of_mod_eq e.symm
        rw [show st + b - (st + a) = b - a by omega, Nat.mod_eq_of_lt (by omega)] at z
        omega
      · cases hy
    · cases hx
  · unfold again
    rw [List.mem_filterMap, List.mem_filter, List.mem_range]
    constructor
    · rintro ⟨i, hi, e⟩
      rw [List.mem_range] at hi
      split at e
      · next z =>
        cases e
        refine ⟨Nat.mod_lt _ (by omega), ?_⟩
        rw [← z]
        refine h.cong (by omega) (by omega) ?_
        rw [Nat.mul_add_mod, Nat.mod_mod]
      · cases e
    · rintro ⟨hr, e⟩
      have m : (st + (p * st + r - st) % p) % p = r := by
        rw [Nat.add_mod_mod, show st + (p * st + r - st) = p * st + r by omega, Nat.mul_add_mod, Nat.mod_eq_of_lt hr]
      refine ⟨(p * st + r - st) % p, List.mem_range.mpr (Nat.mod_lt _ (by omega)), ?_⟩
      rw [if_pos (by
        rw [← e]
        refine h.cong (by omega) (by omega) ?_
        rw [m, Nat.mul_add_mod, Nat.mod_eq_of_lt hr]), m]
theorem sorted_eq {ns : List Int} {L A : List Nat} (h1 : ns.Perm (L.map fun n : Nat => (n : Int))) (h2 : ns.Pairwise (· ≤ ·)) (hp : L.Perm A) (ha : A.Pairwise (· < ·)) : ns = A.map fun n : Nat => (n : Int) := by
  refine List.Perm.eq_of_pairwise (le := fun a b : Int => a ≤ b) (fun a b _ _ x y => Int.le_antisymm x y) h2 ?_ (h1.trans (hp.map _))
  rw [List.pairwise_map]
  exact ha.imp fun h => by omega
theorem ofNats_ints (L : List Nat) : ofNats L = (L.map fun n : Nat => (n : Int)).map V.int := by rw [ofNats, List.map_map]; rfl
theorem again_V (S : Nat → Bool) (st p : Nat) : (List.range p).filterMap (fun i => if S (st + i) then some (V.int (((st + i) % p : Nat) : Int)) else none) = ofNats (again S st p) := by
  unfold again ofNats
  rw [List.map_filterMap]
  congr 1
  funext i
  cases S (st + i) <;> simp
section
variable {K : PySem.W.Frag} {B : CA} {mg : Str → Option Value} (T : Txt K mg B)
include T
end
end RA.K10

namespace RA.K10
open PySem PySem.Spec L2 RA
open PyProof.Rows hiding St
theorem cut_from (f : Nat → Bool) {n j : Nat} {z : Int} (e : z = (j : Int)) (h : j ≤ n) : cutV (bitsV f n) (some z) none = bitsV (fun k => f (j + k)) (n - j) := by
  subst e
  unfold cutV
  have e1 : HT.sIx (bitsV f n).length 0 (some (j : Int)) = j := by
    show (if (j : Int) < 0 then ((j : Int) + ((bitsV f n).length : Int)).toNat else min (j : Int).toNat (bitsV f n).length) = _
    rw [if_neg (by omega), bitsV_length]
    simp
    omega
  rw [e1, HT.sIx_none, bitsV_length]
  apply List.ext_getElem?
  intro i
  by_cases c : i < n - j
  · rw [List.getElem?_take, if_pos c, List.getElem?_drop, bitsV_get (by omega), bitsV_get c]
  · rw [List.getElem?_eq_none (by simp [bitsV]; omega), List.getElem?_eq_none (by simp [bitsV]; omega)]
theorem bits_app {f g : Nat → Bool} {n m : Nat} (h : ∀ k, k < m → g k = f (n + k)) : bitsV f n ++ bitsV g m = bitsV f (n + m) := by
  apply List.ext_getElem?
  intro i
  by_cases c : i < n
  · rw [List.getElem?_append_left (by rw [bitsV_length]; exact c), bitsV_get c, bitsV_get (by omega)]
  · rw [List.getElem?_append_right (by rw [bitsV_length]; omega), bitsV_length]
    by_cases d : i < n + m
    · rw [bitsV_get (by omega), bitsV_get d, h _ (by omega)]
      congr 3
      omega
    · rw [List.getElem?_eq_none (by rw [bitsV_length]; omega), List.getElem?_eq_none (by rw [bitsV_length]; omega)]
theorem sizes_V (P : Nat) : (List.range P).filterMap (fun i => if P % (i + 1) = 0 then some (V.int ((i + 1 : Nat) : Int)) else none) = ofNats (sizes P) := by
  unfold sizes ofNats
  rw [List.map_filterMap]
  congr 1
  funext i
  by_cases c : P % (i + 1) = 0 <;> simp [c]
theorem isPer_all (S : Nat → Bool) (s P d : Nat) : ((List.range P).map fun j => decide (S (s + j) = S (s + j % d))).all id = isPer S s P d := by
  unfold isPer
  rw [List.all_map]
  rfl
theorem early_V (S : Nat → Bool) (st : Nat) : (List.range (st - 1)).filterMap (fun i => if S (i + 1) then some (V.int ((i + 1 : Nat) : Int)) else none) = ofNats ((List.range (st - 1)).filterMap fun i => if S (i + 1) then some (i + 1) else none) := by
  unfold ofNats
  rw [List.map_filterMap]
  congr 1
  funext i
  cases S (i + 1) <;> simp
theorem lpers_V (S : Nat → Bool) (s P : Nat) : (ofNats (sizes P)).filterMap (fun v => match v with | .int d => if isPer S s P d.toNat then some (V.int d) else none | _ => none) = ofNats (lpers S s P) := by
  unfold lpers
  induction sizes P with
  | nil => rfl
  | cons d l ih =>
    show List.filterMap _ (V.int (d : Int) :: ofNats l) = _
    rw [List.filterMap_cons, List.filter_cons]
    simp only [Int.toNat_natCast]
    by_cases c : isPer S s P d = true
    · rw [if_pos c, if_pos c]
      show V.int (d : Int) :: _ = V.int (d : Int) :: ofNats _
      rw [ih]
    · rw [if_neg c, if_neg c]
      exact ih
section
variable {K : PySem.W.Frag} {B : CA} {mg : Str → Option Value} (T : Txt K mg B)
include T
theorem pure_least_form (vs : List V) (H : Hp) (Q : VK) (E : XK) (h : sp_least_form K B vs H Q E) : t_least_form K B { nx := fun _ H' => Q .non H', rt := Q } (L2.start ["flags", "start", "period", "tail", "sizes", "least", "longer", "early", "again", "size", "k", "length"] vs) H := by
  obtain ⟨p, S, s, P, rfl, hp, s1, s2, p1, p2, per, few, q⟩ := h
  show t_least_form K B _ [some (.ref p), some (.int (s : Nat)), some (.int (P : Nat)), none, none, none, none, none, none, none, none, none] H
  have hz : sizeLine = 16777216 := rfl
  simp only [tSeq, tAsg_name, tAsg_sub, tAsg_tup, tRet, tRetN, tDrop, tIfS, tNext, tNever, tBreak, tCont, tAndV, tOrV, tNotV, tAnd, tOr, tNot, tB, tTest, tIf, tCall, tCons, tNil, tVar, tC, tOp, tUn, tTup, tLst, tRevL, tPar, tPar3, tAug, ipI, tCB, tFld, sFld, iList, iTup, iRng1, iRng2, iEnum, iEnumT, tChain, tSl, tPart, tNoPart, tBM, tCallKw, tTruth, tYes, qAdd, qSub, qMul, qMulW, qDiv, qDivW, qMod, qPow, qLt, qLe, qGt, qGe, qIsN, qNotN, qInt, qAbs, qMax2, qMin2, rI0, rI, rU, rEq, rNe, scal, qIxL, qIxT, qLenQ, qSetL, lstOf_upd, tupOf_upd, atI_0, atI_1, atI_2, atI_3, upd_same, upd_upd, ixL0, ixL1, ixL2, HO.lst.injEq, HO.tup.injEq, List.getElem?_cons_zero, List.getElem?_cons_succ, List.set_cons_zero, List.set_cons_succ, Option.some.injEq, exists_eq_left', exists_eq_left, exists_and_left, V.int.injEq, V.bl.injEq, V.ref.injEq, V.str.injEq, List.append_nil, List.cons.injEq, and_assoc, and_true, true_and, reduceCtorEq, false_and, and_false, false_or, or_false, exists_false, decide_true, decide_false, Bool.not_true, Bool.not_false, not_true_eq_false, not_false_eq_true, if_true, if_false, Bool.false_eq_true, decide_eq_true_eq, Bool.not_eq_true', decide_eq_false_iff_not, tFldC, sFldC, tProp, tMeth, tMake, tMakeKw, rEqOwn, rInOwn, tNotR, rTru, tTruR, tLstRg, tRg2, t_least_form, t_least_form_s1, rSlL]
  refine ⟨_, SqL.of hp, fun l1 h1 => ?_⟩
  rw [cut_from (j := s - 1) _ (by omega) (by omega), show s - 1 + P - (s - 1) = P by omega]
  have hT : (fun k => S (s - 1 + k + 1)) = fun k => S (s + k) := by funext k; congr 1; omega
  rw [hT]
  simp only [tSeq, tAsg_name, tAsg_sub, tAsg_tup, tRet, tRetN, tDrop, tIfS, tNext, tNever, tBreak, tCont, tAndV, tOrV, tNotV, tAnd, tOr, tNot, tB, tTest, tIf, tCall, tCons, tNil, tVar, tC, tOp, tUn, tTup, tLst, tRevL, tPar, tPar3, tAug, ipI, tCB, tFld, sFld, iList, iTup, iRng1, iRng2, iEnum, iEnumT, tChain, tSl, tPart, tNoPart, tBM, tCallKw, tTruth, tYes, qAdd, qSub, qMul, qMulW, qDiv, qDivW, qMod, qPow, qLt, qLe, qGt, qGe, qIsN, qNotN, qInt, qAbs, qMax2, qMin2, rI0, rI, rU, rEq, rNe, scal, qIxL, qIxT, qLenQ, qSetL, lstOf_upd, tupOf_upd, atI_0, atI_1, atI_2, atI_3, upd_same, upd_upd, ixL0, ixL1, ixL2, HO.lst.injEq, HO.tup.injEq, List.getElem?_cons_zero, List.getElem?_cons_succ, List.set_cons_zero, List.set_cons_succ, Option.some.injEq, exists_eq_left', exists_eq_left, exists_and_left, V.int.injEq, V.bl.injEq, V.ref.injEq, V.str.injEq, List.append_nil, List.cons.injEq, and_assoc, and_true, true_and, reduceCtorEq, false_and, and_false, false_or, or_false, exists_false, decide_true, decide_false, Bool.not_true, Bool.not_false, not_true_eq_false, not_false_eq_true, if_true, if_false, Bool.false_eq_true, decide_eq_true_eq, Bool.not_eq_true', decide_eq_false_iff_not, tFldC, sFldC, tProp, tMeth, tMake, tMakeKw, rEqOwn, rInOwn, tNotR, rTru, tTruR, tLstRg, tRg2, t_least_form_s4, tLc_go]
  have eP : ((P : Int) + 1 - 1).toNat = P := by omega
  rw [eP]
  refine ⟨by omega, by omega, by omega, by omega, map_rng (fun i => if P % (i + 1) = 0 then some (V.int ((i + 1 : Nat) : Int)) else none) (by omega) ?_ fun D2 H2 s2' hD2 h2 => ?_⟩
  · intro i H1 R hi sm k
    have ei : (1 : Int) + (i : Int) = ((i + 1 : Nat) : Int) := by omega
    simp only [tSeq, tAsg_name, tAsg_sub, tAsg_tup, tRet, tRetN, tDrop, tIfS, tNext, tNever, tBreak, tCont, tAndV, tOrV, tNotV, tAnd, tOr, tNot, tB, tTest, tIf, tCall, tCons, tNil, tVar, tC, tOp, tUn, tTup, tLst, tRevL, tPar, tPar3, tAug, ipI, tCB, tFld, sFld, iList, iTup, iRng1, iRng2, iEnum, iEnumT, tChain, tSl, tPart, tNoPart, tBM, tCallKw, tTruth, tYes, qAdd, qSub, qMul, qMulW, qDiv, qDivW, qMod, qPow, qLt, qLe, qGt, qGe, qIsN, qNotN, qInt, qAbs, qMax2, qMin2, rI0, rI, rU, rEq, rNe, scal, qIxL, qIxT, qLenQ, qSetL, lstOf_upd, tupOf_upd, atI_0, atI_1, atI_2, atI_3, upd_same, upd_upd, ixL0, ixL1, ixL2, HO.lst.injEq, HO.tup.injEq, List.getElem?_cons_zero, List.getElem?_cons_succ, List.set_cons_zero, List.set_cons_succ, Option.some.injEq, exists_eq_left', exists_eq_left, exists_and_left, V.int.injEq, V.bl.injEq, V.ref.injEq, V.str.injEq, List.append_nil, List.cons.injEq, and_assoc, and_true, true_and, reduceCtorEq, false_and, and_false, false_or, or_false, exists_false, decide_true, decide_false, Bool.not_true, Bool.not_false, not_true_eq_false, not_false_eq_true, if_true, if_false, Bool.false_eq_true, decide_eq_true_eq, Bool.not_eq_true', decide_eq_false_iff_not, tFldC, sFldC, tProp, tMeth, tMake, tMakeKw, rEqOwn, rInOwn, tNotR, rTru, tTruR, tLstRg, tRg2, gName_ap, gTup_ap, gCons_ap, gNil_ap, gSub_ap, LcStep, t_least_form_c2, t_least_form_e3, wipe, ei, ← Int.natCast_emod]
    refine ⟨by omega, ?_⟩
    by_cases c : P % (i + 1) = 0
    · rw [if_pos c] at k
      rw [if_pos (by omega)]
      exact k _ (Same.refl _)
    · rw [if_neg c] at k
      rw [if_neg (by omega)]
      exact k _ (Same.refl _)
  · rw [sizes_V] at h2
    obtain ⟨q1, q2, q3, q4, q5, q6, q7⟩ := lper_spec p1 per
    have sz : (sizes P).length ≤ P := fm_len _ _
    simp only [tSeq, tAsg_name, tAsg_sub, tAsg_tup, tRet, tRetN, tDrop, tIfS, tNext, tNever, tBreak, tCont, tAndV, tOrV, tNotV, tAnd, tOr, tNot, tB, tTest, tIf, tCall, tCons, tNil, tVar, tC, tOp, tUn, tTup, tLst, tRevL, tPar, tPar3, tAug, ipI, tCB, tFld, sFld, iList, iTup, iRng1, iRng2, iEnum, iEnumT, tChain, tSl, tPart, tNoPart, tBM, tCallKw, tTruth, tYes, qAdd, qSub, qMul, qMulW, qDiv, qDivW, qMod, qPow, qLt, qLe, qGt, qGe, qIsN, qNotN, qInt, qAbs, qMax2, qMin2, rI0, rI, rU, rEq, rNe, scal, qIxL, qIxT, qLenQ, qSetL, lstOf_upd, tupOf_upd, atI_0, atI_1, atI_2, atI_3, upd_same, upd_upd, ixL0, ixL1, ixL2, HO.lst.injEq, HO.tup.injEq, List.getElem?_cons_zero, List.getElem?_cons_succ, List.set_cons_zero, List.set_cons_succ, Option.some.injEq, exists_eq_left', exists_eq_left, exists_and_left, V.int.injEq, V.bl.injEq, V.ref.injEq, V.str.injEq, List.append_nil, List.cons.injEq, and_assoc, and_true, true_and, reduceCtorEq, false_and, and_false, false_or, or_false, exists_false, decide_true, decide_false, Bool.not_true, Bool.not_false, not_true_eq_false, not_false_eq_true, if_true, if_false, Bool.false_eq_true, decide_eq_true_eq, Bool.not_eq_true', decide_eq_false_iff_not, tFldC, sFldC, tProp, tMeth, tMake, tMakeKw, rEqOwn, rInOwn, tNotR, rTru, tTruR, tLstRg, tRg2, t_least_form_s8, tLc_go]
    have S2 : Same H H2 := (Same.newp (Same.refl H) h1).trans s2'
    have hl1 := s2' _ _ (upd_same (H := H) (a := l1) (o := .lst (bitsV (fun k => S (s + k)) P)))
    refine ⟨⟨_, SqL.of h2⟩, map_list (SqL.of h2) (fun v => match v with | .int d => if isPer S s P d.toNat then some (.int d) else none | _ => none) (by rw [ofNats_length]; omega) ?_ fun D3 H3 s3 hD3 h3 => ?_⟩
    · intro i x H3 R hx sm k
      obtain ⟨d, hd, rfl⟩ := ofNats_get hx
      have hd1 := (mem_sizes.mp (List.mem_of_getElem? hd)).1
      simp only [tSeq, tAsg_name, tAsg_sub, tAsg_tup, tRet, tRetN, tDrop, tIfS, tNext, tNever, tBreak, tCont, tAndV, tOrV, tNotV, tAnd, tOr, tNot, tB, tTest, tIf, tCall, tCons, tNil, tVar, tC, tOp, tUn, tTup, tLst, tRevL, tPar, tPar3, tAug, ipI, tCB, tFld, sFld, iList, iTup, iRng1, iRng2, iEnum, iEnumT, tChain, tSl, tPart, tNoPart, tBM, tCallKw, tTruth, tYes, qAdd, qSub, qMul, qMulW, qDiv, qDivW, qMod, qPow, qLt, qLe, qGt, qGe, qIsN, qNotN, qInt, qAbs, qMax2, qMin2, rI0, rI, rU, rEq, rNe, scal, qIxL, qIxT, qLenQ, qSetL, lstOf_upd, tupOf_upd, atI_0, atI_1, atI_2, atI_3, upd_same, upd_upd, ixL0, ixL1, ixL2, HO.lst.injEq, HO.tup.injEq, List.getElem?_cons_zero, List.getElem?_cons_succ, List.set_cons_zero, List.set_cons_succ, Option.some.injEq, exists_eq_left', exists_eq_left, exists_and_left, V.int.injEq, V.bl.injEq, V.ref.injEq, V.str.injEq, List.append_nil, List.cons.injEq, and_assoc, and_true, true_and, reduceCtorEq, false_and, and_false, false_or, or_false, exists_false, decide_true, decide_false, Bool.not_true, Bool.not_false, not_true_eq_false, not_false_eq_true, if_true, if_false, Bool.false_eq_true, decide_eq_true_eq, Bool.not_eq_true', decide_eq_false_iff_not, tFldC, sFldC, tProp, tMeth, tMake, tMakeKw, rEqOwn, rInOwn, tNotR, rTru, tTruR, tLstRg, tRg2, gName_ap, gTup_ap, gCons_ap, gNil_ap, gSub_ap, LcStep, t_least_form_c6, t_least_form_e7, wipe, tLc_go]
      refine ⟨by omega, by omega, ?_⟩
      rw [Int.toNat_natCast]
      refine map_rng (fun j => some (.bl (decide (S (s + j) = S (s + j % d))))) (by omega) ?_ fun D4 H4 s4 hD4 h4 => ?_
      · intro j H4 R4 hj sm4 k4
        have hl := lstOf_of (sm4 _ _ (sm _ _ hl1))
        have hlt : j % d < P := Nat.lt_of_le_of_lt (Nat.mod_le _ _) hj
        simp only [tSeq, tAsg_name, tAsg_sub, tAsg_tup, tRet, tRetN, tDrop, tIfS, tNext, tNever, tBreak, tCont, tAndV, tOrV, tNotV, tAnd, tOr, tNot, tB, tTest, tIf, tCall, tCons, tNil, tVar, tC, tOp, tUn, tTup, tLst, tRevL, tPar, tPar3, tAug, ipI, tCB, tFld, sFld, iList, iTup, iRng1, iRng2, iEnum, iEnumT, tChain, tSl, tPart, tNoPart, tBM, tCallKw, tTruth, tYes, qAdd, qSub, qMul, qMulW, qDiv, qDivW, qMod, qPow, qLt, qLe, qGt, qGe, qIsN, qNotN, qInt, qAbs, qMax2, qMin2, rI0, rI, rU, rEq, rNe, scal, qIxL, qIxT, qLenQ, qSetL, lstOf_upd, tupOf_upd, atI_0, atI_1, atI_2, atI_3, upd_same, upd_upd, ixL0, ixL1, ixL2, HO.lst.injEq, HO.tup.injEq, List.getElem?_cons_zero, List.getElem?_cons_succ, List.set_cons_zero, List.set_cons_succ, Option.some.injEq, exists_eq_left', exists_eq_left, exists_and_left, V.int.injEq, V.bl.injEq, V.ref.injEq, V.str.injEq, List.append_nil, List.cons.injEq, and_assoc, and_true, true_and, reduceCtorEq, false_and, and_false, false_or, or_false, exists_false, decide_true, decide_false, Bool.not_true, Bool.not_false, not_true_eq_false, not_false_eq_true, if_true, if_false, Bool.false_eq_true, decide_eq_true_eq, Bool.not_eq_true', decide_eq_false_iff_not, tFldC, sFldC, tProp, tMeth, tMake, tMakeKw, rEqOwn, rInOwn, tNotR, rTru, tTruR, tLstRg, tRg2, gName_ap, gTup_ap, gCons_ap, gNil_ap, gSub_ap, LcStep, t_least_form_e5, wipe, hl, Int.zero_add, ← Int.natCast_emod, atI_bits (f := fun k => S (s + k)) (i := j) rfl hj, atI_bits (f := fun k => S (s + k)) (i := j % d) rfl hlt]
        exact ⟨by omega, k4 _ (Same.refl _)⟩
      · refine rAll_bl (bs := (List.range P).map fun j => decide (S (s + j) = S (s + j % d))) (b := isPer S s P d) (by rw [h4, fm_some, List.map_map]; rfl) (isPer_all S s P d) ⟨_, rfl, ?_⟩
        simp only [Int.toNat_natCast] at k
        by_cases c : isPer S s P d = true
        · rw [if_pos c] at k
          rw [if_pos c]
          exact k _ s4
        · rw [if_neg c] at k
          rw [if_neg c]
          exact k _ s4
    · rw [lpers_V] at h3
      generalize hpp : lper S s P = d at *
      have g0 : atI (ofNats (lpers S s P)) 0 = some (.int (d : Nat)) := by
        cases e : lpers S s P with
        | nil => exact absurd e q5
        | cons a l =>
          rw [e] at q6
          cases q6
          exact atI_0
      have S3 := S2.trans s3
      simp only [tSeq, tAsg_name, tAsg_sub, tAsg_tup, tRet, tRetN, tDrop, tIfS, tNext, tNever, tBreak, tCont, tAndV, tOrV, tNotV, tAnd, tOr, tNot, tB, tTest, tIf, tCall, tCons, tNil, tVar, tC, tOp, tUn, tTup, tLst, tRevL, tPar, tPar3, tAug, ipI, tCB, tFld, sFld, iList, iTup, iRng1, iRng2, iEnum, iEnumT, tChain, tSl, tPart, tNoPart, tBM, tCallKw, tTruth, tYes, qAdd, qSub, qMul, qMulW, qDiv, qDivW, qMod, qPow, qLt, qLe, qGt, qGe, qIsN, qNotN, qInt, qAbs, qMax2, qMin2, rI0, rI, rU, rEq, rNe, scal, qIxL, qIxT, qLenQ, qSetL, lstOf_upd, tupOf_upd, atI_0, atI_1, atI_2, atI_3, upd_same, upd_upd, ixL0, ixL1, ixL2, HO.lst.injEq, HO.tup.injEq, List.getElem?_cons_zero, List.getElem?_cons_succ, List.set_cons_zero, List.set_cons_succ, Option.some.injEq, exists_eq_left', exists_eq_left, exists_and_left, V.int.injEq, V.bl.injEq, V.ref.injEq, V.str.injEq, List.append_nil, List.cons.injEq, and_assoc, and_true, true_and, reduceCtorEq, false_and, and_false, false_or, or_false, exists_false, decide_true, decide_false, Bool.not_true, Bool.not_false, not_true_eq_false, not_false_eq_true, if_true, if_false, Bool.false_eq_true, decide_eq_true_eq, Bool.not_eq_true', decide_eq_false_iff_not, tFldC, sFldC, tProp, tMeth, tMake, tMakeKw, rEqOwn, rInOwn, tNotR, rTru, tTruR, tLstRg, tRg2, lstOf_of h3, g0]
      simp only [tSeq, tAsg_name, tAsg_sub, tAsg_tup, tRet, tRetN, tDrop, tIfS, tNext, tNever, tBreak, tCont, tAndV, tOrV, tNotV, tAnd, tOr, tNot, tB, tTest, tIf, tCall, tCons, tNil, tVar, tC, tOp, tUn, tTup, tLst, tRevL, tPar, tPar3, tAug, ipI, tCB, tFld, sFld, iList, iTup, iRng1, iRng2, iEnum, iEnumT, tChain, tSl, tPart, tNoPart, tBM, tCallKw, tTruth, tYes, qAdd, qSub, qMul, qMulW, qDiv, qDivW, qMod, qPow, qLt, qLe, qGt, qGe, qIsN, qNotN, qInt, qAbs, qMax2, qMin2, rI0, rI, rU, rEq, rNe, scal, qIxL, qIxT, qLenQ, qSetL, lstOf_upd, tupOf_upd, atI_0, atI_1, atI_2, atI_3, upd_same, upd_upd, ixL0, ixL1, ixL2, HO.lst.injEq, HO.tup.injEq, List.getElem?_cons_zero, List.getElem?_cons_succ, List.set_cons_zero, List.set_cons_succ, Option.some.injEq, exists_eq_left', exists_eq_left, exists_and_left, V.int.injEq, V.bl.injEq, V.ref.injEq, V.str.injEq, List.append_nil, List.cons.injEq, and_assoc, and_true, true_and, reduceCtorEq, false_and, and_false, false_or, or_false, exists_false, decide_true, decide_false, Bool.not_true, Bool.not_false, not_true_eq_false, not_false_eq_true, if_true, if_false, Bool.false_eq_true, decide_eq_true_eq, Bool.not_eq_true', decide_eq_false_iff_not, tFldC, sFldC, tProp, tMeth, tMake, tMakeKw, rEqOwn, rInOwn, tNotR, rTru, tTruR, tLstRg, tRg2, t_least_form_s9, rCat]
      have hp3 := S3 _ _ hp
      have hl3 := s3 _ _ hl1
      refine ⟨_, hp3, _, hl3, by rw [bitsV_length, bitsV_length]; omega, fun l4 hl4 => ?_⟩
      rw [bits_app (n := s - 1 + P) (m := P) (fun k _ => by rw [show s - 1 + P + k + 1 = s + k + P by omega, per (s + k) (by omega)])]
      generalize hN : s - 1 + P + P = N
      generalize hH4 : upd H3 l4 (.lst (bitsV (fun i => S (i + 1)) N)) = H4
      have S4 : Same H H4 := by rw [← hH4]; exact Same.newp S3 hl4
      have hl44 : H4 l4 = some (.lst (bitsV (fun i => S (i + 1)) N)) := by rw [← hH4]; exact upd_same
      have hp4 := S4 _ _ hp
      obtain ⟨t1, t2, t3, t4⟩ := lstart_spec s1 q4
      have get4 : ∀ z : Int, ∀ i : Nat, z = (i : Int) → i < N → atI (bitsV (fun i => S (i + 1)) N) z = some (.bl (S (i + 1))) := fun z i e h => atI_bits (f := fun i => S (i + 1)) e h
      have get0 : ∀ z : Int, ∀ i : Nat, z = (i : Int) → i < s - 1 + P → atI (bitsV (fun i => S (i + 1)) (s - 1 + P)) z = some (.bl (S (i + 1))) := fun z i e h => atI_bits (f := fun i => S (i + 1)) e h
      refine lp_while (fun σ H' => H' = H4 ∧ ∃ x : Nat, 1 ≤ x ∧ x ≤ s ∧ lstart S d x = lstart S d s ∧ Per S x d ∧ σ = [some (.ref p), some (.int x), some (.int (P : Nat)), some (.ref l1), some (.ref D2), some (.int d), some (.ref l4), none, none, none, none, none])
        (fun σ _ => match σ with | _ :: some (.int m) :: _ => m.toNat | _ => 0) ⟨rfl, s, s1, Nat.le_refl _, rfl, q4, rfl⟩ ?_
      rintro σ H' ⟨rfl, x, x1, x2, x3, x4, rfl⟩ R kt kf
      simp only [tSeq, tAsg_name, tAsg_sub, tAsg_tup, tRet, tRetN, tDrop, tIfS, tNext, tNever, tBreak, tCont, tAndV, tOrV, tNotV, tAnd, tOr, tNot, tB, tTest, tIf, tCall, tCons, tNil, tVar, tC, tOp, tUn, tTup, tLst, tRevL, tPar, tPar3, tAug, ipI, tCB, tFld, sFld, iList, iTup, iRng1, iRng2, iEnum, iEnumT, tChain, tSl, tPart, tNoPart, tBM, tCallKw, tTruth, tYes, qAdd, qSub, qMul, qMulW, qDiv, qDivW, qMod, qPow, qLt, qLe, qGt, qGe, qIsN, qNotN, qInt, qAbs, qMax2, qMin2, rI0, rI, rU, rEq, rNe, scal, qIxL, qIxT, qLenQ, qSetL, lstOf_upd, tupOf_upd, atI_0, atI_1, atI_2, atI_3, upd_same, upd_upd, ixL0, ixL1, ixL2, HO.lst.injEq, HO.tup.injEq, List.getElem?_cons_zero, List.getElem?_cons_succ, List.set_cons_zero, List.set_cons_succ, Option.some.injEq, exists_eq_left', exists_eq_left, exists_and_left, V.int.injEq, V.bl.injEq, V.ref.injEq, V.str.injEq, List.append_nil, List.cons.injEq, and_assoc, and_true, true_and, reduceCtorEq, false_and, and_false, false_or, or_false, exists_false, decide_true, decide_false, Bool.not_true, Bool.not_false, not_true_eq_false, not_false_eq_true, if_true, if_false, Bool.false_eq_true, decide_eq_true_eq, Bool.not_eq_true', decide_eq_false_iff_not, tFldC, sFldC, tProp, tMeth, tMake, tMakeKw, rEqOwn, rInOwn, tNotR, rTru, tTruR, tLstRg, tRg2, t_least_form_w10]
      have tail : lstart S d s = x → tSeq (t_least_form_s16 K B) (tSeq (t_least_form_s19 K B) (t_least_form_s20 K B)) { nx := fun _ H' => Q .non H', rt := Q } [some (.ref p), some (.int x), some (.int (P : Nat)), some (.ref l1), some (.ref D2), some (.int d), some (.ref l4), none, none, none, none, none] H' := by
        intro hx
        have hN0 : s - 1 + P ≤ N := by omega
        simp only [tSeq, tAsg_name, tAsg_sub, tAsg_tup, tRet, tRetN, tDrop, tIfS, tNext, tNever, tBreak, tCont, tAndV, tOrV, tNotV, tAnd, tOr, tNot, tB, tTest, tIf, tCall, tCons, tNil, tVar, tC, tOp, tUn, tTup, tLst, tRevL, tPar, tPar3, tAug, ipI, tCB, tFld, sFld, iList, iTup, iRng1, iRng2, iEnum, iEnumT, tChain, tSl, tPart, tNoPart, tBM, tCallKw, tTruth, tYes, qAdd, qSub, qMul, qMulW, qDiv, qDivW, qMod, qPow, qLt, qLe, qGt, qGe, qIsN, qNotN, qInt, qAbs, qMax2, qMin2, rI0, rI, rU, rEq, rNe, scal, qIxL, qIxT, qLenQ, qSetL, lstOf_upd, tupOf_upd, atI_0, atI_1, atI_2, atI_3, upd_same, upd_upd, ixL0, ixL1, ixL2, HO.lst.injEq, HO.tup.injEq, List.getElem?_cons_zero, List.getElem?_cons_succ, List.set_cons_zero, List.set_cons_succ, Option.some.injEq, exists_eq_left', exists_eq_left, exists_and_left, V.int.injEq, V.bl.injEq, V.ref.injEq, V.str.injEq, List.append_nil, List.cons.injEq, and_assoc, and_true, true_and, reduceCtorEq, false_and, and_false, false_or, or_false, exists_false, decide_true, decide_false, Bool.not_true, Bool.not_false, not_true_eq_false, not_false_eq_true, if_true, if_false, Bool.false_eq_true, decide_eq_true_eq, Bool.not_eq_true', decide_eq_false_iff_not, tFldC, sFldC, tProp, tMeth, tMake, tMakeKw, rEqOwn, rInOwn, tNotR, rTru, tTruR, tLstRg, tRg2, t_least_form_s16, tLc_go]
        have ex : ((x : Int) - 1).toNat = x - 1 := by omega
        rw [ex]
        refine ⟨by omega, by omega, by omega, by omega, map_rng (fun i => if S (i + 1) then some (V.int ((i + 1 : Nat) : Int)) else none) (by omega) ?_ fun D5 H5 s5 hD5 h5 => ?_⟩
        · intro i H5 R hi s5 k
          have g := get0 (1 + (i : Int) - 1) i (by omega) (by omega)
          have ei : (1 : Int) + (i : Int) = ((i + 1 : Nat) : Int) := by omega
          rw [ei] at g
          simp only [tSeq, tAsg_name, tAsg_sub, tAsg_tup, tRet, tRetN, tDrop, tIfS, tNext, tNever, tBreak, tCont, tAndV, tOrV, tNotV, tAnd, tOr, tNot, tB, tTest, tIf, tCall, tCons, tNil, tVar, tC, tOp, tUn, tTup, tLst, tRevL, tPar, tPar3, tAug, ipI, tCB, tFld, sFld, iList, iTup, iRng1, iRng2, iEnum, iEnumT, tChain, tSl, tPart, tNoPart, tBM, tCallKw, tTruth, tYes, qAdd, qSub, qMul, qMulW, qDiv, qDivW, qMod, qPow, qLt, qLe, qGt, qGe, qIsN, qNotN, qInt, qAbs, qMax2, qMin2, rI0, rI, rU, rEq, rNe, scal, qIxL, qIxT, qLenQ, qSetL, lstOf_upd, tupOf_upd, atI_0, atI_1, atI_2, atI_3, upd_same, upd_upd, ixL0, ixL1, ixL2, HO.lst.injEq, HO.tup.injEq, List.getElem?_cons_zero, List.getElem?_cons_succ, List.set_cons_zero, List.set_cons_succ, Option.some.injEq, exists_eq_left', exists_eq_left, exists_and_left, V.int.injEq, V.bl.injEq, V.ref.injEq, V.str.injEq, List.append_nil, List.cons.injEq, and_assoc, and_true, true_and, reduceCtorEq, false_and, and_false, false_or, or_false, exists_false, decide_true, decide_false, Bool.not_true, Bool.not_false, not_true_eq_false, not_false_eq_true, if_true, if_false, Bool.false_eq_true, decide_eq_true_eq, Bool.not_eq_true', decide_eq_false_iff_not, tFldC, sFldC, tProp, tMeth, tMake, tMakeKw, rEqOwn, rInOwn, tNotR, rTru, tTruR, tLstRg, tRg2, gName_ap, gTup_ap, gCons_ap, gNil_ap, gSub_ap, LcStep, t_least_form_c14, t_least_form_e15, wipe, lstOf_of (s5 _ _ hp4), ei, g]
          cases e : S (i + 1) with
          | true => rw [e] at k; exact k _ (Same.refl _)
          | false => rw [e] at k; exact k _ (Same.refl _)
        · rw [early_V] at h5
          simp only [tSeq, tAsg_name, tAsg_sub, tAsg_tup, tRet, tRetN, tDrop, tIfS, tNext, tNever, tBreak, tCont, tAndV, tOrV, tNotV, tAnd, tOr, tNot, tB, tTest, tIf, tCall, tCons, tNil, tVar, tC, tOp, tUn, tTup, tLst, tRevL, tPar, tPar3, tAug, ipI, tCB, tFld, sFld, iList, iTup, iRng1, iRng2, iEnum, iEnumT, tChain, tSl, tPart, tNoPart, tBM, tCallKw, tTruth, tYes, qAdd, qSub, qMul, qMulW, qDiv, qDivW, qMod, qPow, qLt, qLe, qGt, qGe, qIsN, qNotN, qInt, qAbs, qMax2, qMin2, rI0, rI, rU, rEq, rNe, scal, qIxL, qIxT, qLenQ, qSetL, lstOf_upd, tupOf_upd, atI_0, atI_1, atI_2, atI_3, upd_same, upd_upd, ixL0, ixL1, ixL2, HO.lst.injEq, HO.tup.injEq, List.getElem?_cons_zero, List.getElem?_cons_succ, List.set_cons_zero, List.set_cons_succ, Option.some.injEq, exists_eq_left', exists_eq_left, exists_and_left, V.int.injEq, V.bl.injEq, V.ref.injEq, V.str.injEq, List.append_nil, List.cons.injEq, and_assoc, and_true, true_and, reduceCtorEq, false_and, and_false, false_or, or_false, exists_false, decide_true, decide_false, Bool.not_true, Bool.not_false, not_true_eq_false, not_false_eq_true, if_true, if_false, Bool.false_eq_true, decide_eq_true_eq, Bool.not_eq_true', decide_eq_false_iff_not, tFldC, sFldC, tProp, tMeth, tMake, tMakeKw, rEqOwn, rInOwn, tNotR, rTru, tTruR, tLstRg, tRg2, qTuple]
          refine ⟨_, .inl ⟨SqL.of h5, fun e hE => ?_⟩⟩
          have S5 := Same.newp (o := .tup (ofNats ((List.range (x - 1)).filterMap fun i => if S (i + 1) then some (i + 1) else none))) s5 hE
          generalize hE' : (ofNats ((List.range (x - 1)).filterMap fun i => if S (i + 1) then some (i + 1) else none)) = EV at *
          have hev : (upd H5 e (.tup EV)) e = some (.tup EV) := upd_same
          revert hev S5
          generalize upd H5 e (.tup EV) = H6
          intro S5 hev
          simp only [tSeq, tAsg_name, tAsg_sub, tAsg_tup, tRet, tRetN, tDrop, tIfS, tNext, tNever, tBreak, tCont, tAndV, tOrV, tNotV, tAnd, tOr, tNot, tB, tTest, tIf, tCall, tCons, tNil, tVar, tC, tOp, tUn, tTup, tLst, tRevL, tPar, tPar3, tAug, ipI, tCB, tFld, sFld, iList, iTup, iRng1, iRng2, iEnum, iEnumT, tChain, tSl, tPart, tNoPart, tBM, tCallKw, tTruth, tYes, qAdd, qSub, qMul, qMulW, qDiv, qDivW, qMod, qPow, qLt, qLe, qGt, qGe, qIsN, qNotN, qInt, qAbs, qMax2, qMin2, rI0, rI, rU, rEq, rNe, scal, qIxL, qIxT, qLenQ, qSetL, lstOf_upd, tupOf_upd, atI_0, atI_1, atI_2, atI_3, upd_same, upd_upd, ixL0, ixL1, ixL2, HO.lst.injEq, HO.tup.injEq, List.getElem?_cons_zero, List.getElem?_cons_succ, List.set_cons_zero, List.set_cons_succ, Option.some.injEq, exists_eq_left', exists_eq_left, exists_and_left, V.int.injEq, V.bl.injEq, V.ref.injEq, V.str.injEq, List.append_nil, List.cons.injEq, and_assoc, and_true, true_and, reduceCtorEq, false_and, and_false, false_or, or_false, exists_false, decide_true, decide_false, Bool.not_true, Bool.not_false, not_true_eq_false, not_false_eq_true, if_true, if_false, Bool.false_eq_true, decide_eq_true_eq, Bool.not_eq_true', decide_eq_false_iff_not, tFldC, sFldC, tProp, tMeth, tMake, tMakeKw, rEqOwn, rInOwn, tNotR, rTru, tTruR, tLstRg, tRg2, t_least_form_s19, tLc_go]
          have ed : ((x : Int) + (d : Int) - (x : Int)).toNat = d := by omega
          rw [ed]
          refine ⟨by omega, by omega, by omega, by omega, map_rng (fun i => if S (x + i) then some (V.int (((x + i) % d : Nat) : Int)) else none) (by omega) ?_ fun D7 H7 s7 hD7 h7 => ?_⟩
          · intro i H7 R hi s7 k
            have g := get4 ((x : Int) + (i : Int) - 1) (x + i - 1) (by omega) (by omega)
            rw [show x + i - 1 + 1 = x + i by omega] at g
            have ei : (x : Int) + (i : Int) = ((x + i : Nat) : Int) := by omega
            rw [ei] at g
            simp only [tSeq, tAsg_name, tAsg_sub, tAsg_tup, tRet, tRetN, tDrop, tIfS, tNext, tNever, tBreak, tCont, tAndV, tOrV, tNotV, tAnd, tOr, tNot, tB, tTest, tIf, tCall, tCons, tNil, tVar, tC, tOp, tUn, tTup, tLst, tRevL, tPar, tPar3, tAug, ipI, tCB, tFld, sFld, iList, iTup, iRng1, iRng2, iEnum, iEnumT, tChain, tSl, tPart, tNoPart, tBM, tCallKw, tTruth, tYes, qAdd, qSub, qMul, qMulW, qDiv, qDivW, qMod, qPow, qLt, qLe, qGt, qGe, qIsN, qNotN, qInt, qAbs, qMax2, qMin2, rI0, rI, rU, rEq, rNe, scal, qIxL, qIxT, qLenQ, qSetL, lstOf_upd, tupOf_upd, atI_0, atI_1, atI_2, atI_3, upd_same, upd_upd, ixL0, ixL1, ixL2, HO.lst.injEq, HO.tup.injEq, List.getElem?_cons_zero, List.getElem?_cons_succ, List.set_cons_zero, List.set_cons_succ, Option.some.injEq, exists_eq_left', exists_eq_left, exists_and_left, V.int.injEq, V.bl.injEq, V.ref.injEq, V.str.injEq, List.append_nil, List.cons.injEq, and_assoc, and_true, true_and, reduceCtorEq, false_and, and_false, false_or, or_false, exists_false, decide_true, decide_false, Bool.not_true, Bool.not_false, not_true_eq_false, not_false_eq_true, if_true, if_false, Bool.false_eq_true, decide_eq_true_eq, Bool.not_eq_true', decide_eq_false_iff_not, tFldC, sFldC, tProp, tMeth, tMake, tMakeKw, rEqOwn, rInOwn, tNotR, rTru, tTruR, tLstRg, tRg2, gName_ap, gTup_ap, gCons_ap, gNil_ap, gSub_ap, LcStep, t_least_form_c17, t_least_form_e18, wipe, lstOf_of (s7 _ _ (S5 _ _ hl44)), ei, g, ← Int.natCast_emod]
            cases e : S (x + i) with
            | true => rw [e] at k; exact ⟨by omega, k _ (Same.refl _)⟩
            | false => rw [e] at k; exact k _ (Same.refl _)
          · rw [again_V] at h7
            have pm := again_perm q1 x4
            have hA : (normS S s P).A = (List.range d).filter fun r => S (d * x + r) := by unfold normS; rw [hpp, hx]
            have hE2 : ofNats (normS S s P).E = EV := by rw [← hE']; unfold normS; rw [hpp, hx]
            have hs2 : (normS S s P).s = x := by unfold normS; rw [hpp, hx]
            have hP2 : (normS S s P).P = d := by unfold normS; rw [hpp]
            have hAs : ((List.range d).filter fun r => S (d * x + r)).Pairwise (· < ·) := List.pairwise_lt_range.filter _
            rw [hA] at few
            simp only [tSeq, tAsg_name, tAsg_sub, tAsg_tup, tRet, tRetN, tDrop, tIfS, tNext, tNever, tBreak, tCont, tAndV, tOrV, tNotV, tAnd, tOr, tNot, tB, tTest, tIf, tCall, tCons, tNil, tVar, tC, tOp, tUn, tTup, tLst, tRevL, tPar, tPar3, tAug, ipI, tCB, tFld, sFld, iList, iTup, iRng1, iRng2, iEnum, iEnumT, tChain, tSl, tPart, tNoPart, tBM, tCallKw, tTruth, tYes, qAdd, qSub, qMul, qMulW, qDiv, qDivW, qMod, qPow, qLt, qLe, qGt, qGe, qIsN, qNotN, qInt, qAbs, qMax2, qMin2, rI0, rI, rU, rEq, rNe, scal, qIxL, qIxT, qLenQ, qSetL, lstOf_upd, tupOf_upd, atI_0, atI_1, atI_2, atI_3, upd_same, upd_upd, ixL0, ixL1, ixL2, HO.lst.injEq, HO.tup.injEq, List.getElem?_cons_zero, List.getElem?_cons_succ, List.set_cons_zero, List.set_cons_succ, Option.some.injEq, exists_eq_left', exists_eq_left, exists_and_left, V.int.injEq, V.bl.injEq, V.ref.injEq, V.str.injEq, List.append_nil, List.cons.injEq, and_assoc, and_true, true_and, reduceCtorEq, false_and, and_false, false_or, or_false, exists_false, decide_true, decide_false, Bool.not_true, Bool.not_false, not_true_eq_false, not_false_eq_true, if_true, if_false, Bool.false_eq_true, decide_eq_true_eq, Bool.not_eq_true', decide_eq_false_iff_not, tFldC, sFldC, tProp, tMeth, tMake, tMakeKw, rEqOwn, rInOwn, tNotR, rTru, tTruR, tLstRg, tRg2, t_least_form_s20, rSorted]
            refine ⟨_, SqL.of (by rw [h7, ofNats_ints]), by rw [List.length_map, pm.length_eq]; exact few, fun ns' r hpm hso hr => ?_⟩
            rw [sorted_eq hpm hso pm hAs, ← ofNats_ints, ← hA]
            simp only [tSeq, tAsg_name, tAsg_sub, tAsg_tup, tRet, tRetN, tDrop, tIfS, tNext, tNever, tBreak, tCont, tAndV, tOrV, tNotV, tAnd, tOr, tNot, tB, tTest, tIf, tCall, tCons, tNil, tVar, tC, tOp, tUn, tTup, tLst, tRevL, tPar, tPar3, tAug, ipI, tCB, tFld, sFld, iList, iTup, iRng1, iRng2, iEnum, iEnumT, tChain, tSl, tPart, tNoPart, tBM, tCallKw, tTruth, tYes, qAdd, qSub, qMul, qMulW, qDiv, qDivW, qMod, qPow, qLt, qLe, qGt, qGe, qIsN, qNotN, qInt, qAbs, qMax2, qMin2, rI0, rI, rU, rEq, rNe, scal, qIxL, qIxT, qLenQ, qSetL, lstOf_upd, tupOf_upd, atI_0, atI_1, atI_2, atI_3, upd_same, upd_upd, ixL0, ixL1, ixL2, HO.lst.injEq, HO.tup.injEq, List.getElem?_cons_zero, List.getElem?_cons_succ, List.set_cons_zero, List.set_cons_succ, Option.some.injEq, exists_eq_left', exists_eq_left, exists_and_left, V.int.injEq, V.bl.injEq, V.ref.injEq, V.str.injEq, List.append_nil, List.cons.injEq, and_assoc, and_true, true_and, reduceCtorEq, false_and, and_false, false_or, or_false, exists_false, decide_true, decide_false, Bool.not_true, Bool.not_false, not_true_eq_false, not_false_eq_true, if_true, if_false, Bool.false_eq_true, decide_eq_true_eq, Bool.not_eq_true', decide_eq_false_iff_not, tFldC, sFldC, tProp, tMeth, tMake, tMakeKw, rEqOwn, rInOwn, tNotR, rTru, tTruR, tLstRg, tRg2, qTuple]
            refine ⟨_, .inl ⟨SqL.of upd_same, fun g hg => ⟨by show 4 ≤ sizeLine; decide, fun t ht => ?_⟩⟩⟩
            have S8 := Same.newp (o := .lst (ofNats (normS S s P).A)) s7 hr
            have S9 := Same.newp (o := .tup (ofNats (normS S s P).A)) S8 hg
            have S10 := Same.newp (o := .tup [V.ref e, V.int (x : Nat), V.ref g, V.int (d : Nat)]) S9 ht
            have S11 := Same.newp (o := .tup [V.ref e, V.int (x : Nat), V.ref g, V.int (d : Nat)]) (Same.refl (upd (upd H7 r (.lst (ofNats (normS S s P).A))) g (.tup (ofNats (normS S s P).A)))) ht
            refine q _ t (S4.trans (S5.trans S10)) ⟨e, g, ?_, ?_, ?_⟩
            · rw [hs2, hP2]; exact upd_same
            · rw [hE2]; exact S10 _ _ hev
            · exact S11 _ _ upd_same
      by_cases c : (1 : Int) < (x : Int)
      · have g1 : atI (bitsV (fun i => S (i + 1)) N) ((x : Int) - 2) = some (.bl (S (x - 1))) := by rw [get4 _ (x - 2) (by omega) (by omega), show x - 2 + 1 = x - 1 by omega]
        have g2 : atI (bitsV (fun i => S (i + 1)) N) ((x : Int) - 2 + (d : Int)) = some (.bl (S (x - 1 + d))) := by rw [get4 _ (x - 2 + d) (by omega) (by omega), show x - 2 + d + 1 = x - 1 + d by omega]
        rw [if_pos c]
        simp only [tSeq, tAsg_name, tAsg_sub, tAsg_tup, tRet, tRetN, tDrop, tIfS, tNext, tNever, tBreak, tCont, tAndV, tOrV, tNotV, tAnd, tOr, tNot, tB, tTest, tIf, tCall, tCons, tNil, tVar, tC, tOp, tUn, tTup, tLst, tRevL, tPar, tPar3, tAug, ipI, tCB, tFld, sFld, iList, iTup, iRng1, iRng2, iEnum, iEnumT, tChain, tSl, tPart, tNoPart, tBM, tCallKw, tTruth, tYes, qAdd, qSub, qMul, qMulW, qDiv, qDivW, qMod, qPow, qLt, qLe, qGt, qGe, qIsN, qNotN, qInt, qAbs, qMax2, qMin2, rI0, rI, rU, rEq, rNe, scal, qIxL, qIxT, qLenQ, qSetL, lstOf_upd, tupOf_upd, atI_0, atI_1, atI_2, atI_3, upd_same, upd_upd, ixL0, ixL1, ixL2, HO.lst.injEq, HO.tup.injEq, List.getElem?_cons_zero, List.getElem?_cons_succ, List.set_cons_zero, List.set_cons_succ, Option.some.injEq, exists_eq_left', exists_eq_left, exists_and_left, V.int.injEq, V.bl.injEq, V.ref.injEq, V.str.injEq, List.append_nil, List.cons.injEq, and_assoc, and_true, true_and, reduceCtorEq, false_and, and_false, false_or, or_false, exists_false, decide_true, decide_false, Bool.not_true, Bool.not_false, not_true_eq_false, not_false_eq_true, if_true, if_false, Bool.false_eq_true, decide_eq_true_eq, Bool.not_eq_true', decide_eq_false_iff_not, tFldC, sFldC, tProp, tMeth, tMake, tMakeKw, rEqOwn, rInOwn, tNotR, rTru, tTruR, tLstRg, tRg2, lstOf_of hl44, g1, g2]
        by_cases e : S (x - 1) = S (x - 1 + d)
        · rw [decide_eq_true e]
          refine kt _ ?_
          simp only [tSeq, tAsg_name, tAsg_sub, tAsg_tup, tRet, tRetN, tDrop, tIfS, tNext, tNever, tBreak, tCont, tAndV, tOrV, tNotV, tAnd, tOr, tNot, tB, tTest, tIf, tCall, tCons, tNil, tVar, tC, tOp, tUn, tTup, tLst, tRevL, tPar, tPar3, tAug, ipI, tCB, tFld, sFld, iList, iTup, iRng1, iRng2, iEnum, iEnumT, tChain, tSl, tPart, tNoPart, tBM, tCallKw, tTruth, tYes, qAdd, qSub, qMul, qMulW, qDiv, qDivW, qMod, qPow, qLt, qLe, qGt, qGe, qIsN, qNotN, qInt, qAbs, qMax2, qMin2, rI0, rI, rU, rEq, rNe, scal, qIxL, qIxT, qLenQ, qSetL, lstOf_upd, tupOf_upd, atI_0, atI_1, atI_2, atI_3, upd_same, upd_upd, ixL0, ixL1, ixL2, HO.lst.injEq, HO.tup.injEq, List.getElem?_cons_zero, List.getElem?_cons_succ, List.set_cons_zero, List.set_cons_succ, Option.some.injEq, exists_eq_left', exists_eq_left, exists_and_left, V.int.injEq, V.bl.injEq, V.ref.injEq, V.str.injEq, List.append_nil, List.cons.injEq, and_assoc, and_true, true_and, reduceCtorEq, false_and, and_false, false_or, or_false, exists_false, decide_true, decide_false, Bool.not_true, Bool.not_false, not_true_eq_false, not_false_eq_true, if_true, if_false, Bool.false_eq_true, decide_eq_true_eq, Bool.not_eq_true', decide_eq_false_iff_not, tFldC, sFldC, tProp, tMeth, tMake, tMakeKw, rEqOwn, rInOwn, tNotR, rTru, tTruR, tLstRg, tRg2, t_least_form_b12, t_least_form_s11]
          obtain ⟨y, rfl⟩ : ∃ y, x = y + 2 := ⟨x - 2, by omega⟩
          have e' : S (y + 1) = S (y + 1 + d) := e
          refine ⟨⟨y + 1, by omega, by omega, ?_, ?_, by congr 3; omega⟩, by omega⟩
          · rw [← x3, lstart, if_pos e']
          · intro n hn
            rcases Nat.eq_or_lt_of_le hn with z | z
            · rw [← z]; exact e'.symm
            · exact x4 n (by omega)
        · rw [decide_eq_false e]
          refine kf _ (tail ?_)
          obtain ⟨y, rfl⟩ : ∃ y, x = y + 2 := ⟨x - 2, by omega⟩
          have e' : ¬ S (y + 1) = S (y + 1 + d) := e
          rw [← x3, lstart, if_neg e']
      · rw [if_neg c]
        refine kf _ (tail ?_)
        have : x = 1 := by omega
        rw [← x3, this, lstart]
end
end RA.K10

namespace RA.K10
open PySem PySem.Spec L2 RA
open PyProof.Rows hiding St
theorem inV_nats (n : Nat) (L : List Nat) : inV (.int (n : Int)) (ofNats L) = decide (n ∈ L) := by
  unfold inV
  rw [Bool.eq_iff_iff]
  simp only [List.any_eq_true, decide_eq_true_eq]
  constructor
  · rintro ⟨x, hx, e⟩
    obtain ⟨m, hm, rfl⟩ := List.mem_map.mp hx
    have : (m : Int) = (n : Int) := by simpa [eqV] using e
    have : m = n := by omega
    rw [← this]; exact hm
  · intro h
    exact ⟨.int (n : Int), List.mem_map_of_mem (f := fun d : Nat => V.int (d : Int)) h, by simp [eqV]⟩
theorem flat_nats (L : List Nat) : (ofNats L).all flatV = true := by
  rw [List.all_eq_true]
  intro x hx
  obtain ⟨m, _, rfl⟩ := List.mem_map.mp hx
  rfl
theorem rIn_nats {K : PySem.W.Frag} {p : Addr} {n : Nat} {z : Int} {L : List Nat} {H : Hp} {Q : VK} (e : z = (n : Int)) (h : H p = some (.tup (ofNats L))) (q : Q (.bl (decide (n ∈ L))) H) : rIn K false (.int z) (.ref p) H Q := by
  subst e
  exact ⟨p, _, rfl, .inr (SqT.of h), rfl, flat_nats L, by rw [if_neg (by decide), inV_nats]; exact q⟩
theorem LenAt.grow {B : CA} {H H' : Hp} {a : Addr} {F : Form} (h : LenAt B H a F) (s : Same H H') : LenAt B H' a F := by
  obtain ⟨dx, r, h1, e, g, h2, h3, h4⟩ := h
  exact ⟨dx, r, s _ _ h1, e, g, s _ _ h2, s _ _ h3, s _ _ h4⟩
theorem HeldAt.grow {H H' : Hp} {a : Addr} {F : Form} (h : HeldAt H a F) (s : Same H H') : HeldAt H' a F := by
  obtain ⟨e, g, h2, h3, h4⟩ := h
  exact ⟨e, g, s _ _ h2, s _ _ h3, s _ _ h4⟩
theorem lk_held (v : V) (l : List (Str × V)) : List.lookup ("held" : Str) (("held", v) :: l) = some v := by simp [List.lookup]
theorem bits_ext {f g : Nat → Bool} {n : Nat} (h : ∀ k, k < n → f k = g k) : bitsV f n = bitsV g n := by
  unfold bitsV
  exact List.map_congr_left fun k hk => by rw [h k (List.mem_range.mp hk)]
theorem asc_len {hi : Nat} : ∀ {l : List Nat} {lo : Nat}, Asc lo hi l → l.length ≤ hi + 1 - lo
  | [], _, _ => Nat.zero_le _
  | a :: t, lo, ⟨h1, h2⟩ => by
    have ha := h1 a List.mem_cons_self
    have ih := asc_len (l := t) (lo := a + 1) (hi := hi) ⟨fun n hn => ⟨List.rel_of_pairwise_cons h2 hn, (h1 n (List.mem_cons_of_mem _ hn)).2⟩, h2.of_cons⟩
    rw [List.length_cons]
    omega
def dNats (L : List Nat) : List PyData := L.map fun n => PyData.int (n : Nat)
theorem dpall_nats {K : PySem.W.Frag} {H : Hp} : ∀ L : List Nat, DpAll K H (ofNats L) (dNats L)
  | [] => .nil
  | n :: L => .cons (.int (n : Int)) (dpall_nats L)
theorem lay_nats : ∀ L : List Nat, PyData.canLayAll0 (dNats L) = true
  | [] => rfl
  | n :: L => by
    show ((PyData.int (n : Int)).canLay0 && PyData.canLayAll0 (dNats L)) = true
    rw [lay_nats L]
    rfl
theorem dep_nats : ∀ L : List Nat, PyData.depthAll (dNats L) = 0
  | [] => rfl
  | n :: L => by
    show max 0 (PyData.depthAll (dNats L)) = 0
    rw [dep_nats L]
    rfl
theorem shaped_tup {ds : List PyData} {k : Nat} (h : PyData.canLayAll0 ds = true) (hd : PyData.depthAll ds ≤ k) (hk : k ≤ 63) : SeqAt.shaped (.tuple ds) = true := by
  show (PyData.canLayAll0 ds && decide (PyData.depthAll ds + 1 ≤ 64)) = true
  rw [h, decide_eq_true (by omega)]
  rfl
theorem shaped_lst {ds : List PyData} {k : Nat} (h : PyData.canLayAll0 ds = true) (hd : PyData.depthAll ds ≤ k) (hk : k ≤ 63) : SeqAt.shaped (.list ds) = true := by
  show (PyData.canLayAll0 ds && decide (PyData.depthAll ds + 1 ≤ 64)) = true
  rw [h, decide_eq_true (by omega)]
  rfl
theorem shaped_nats (L : List Nat) : SeqAt.shaped (.tuple (dNats L)) = true := shaped_tup (lay_nats L) (Nat.le_of_eq (dep_nats L)) (by decide)
theorem eqv_nil (L : List Nat) : PyData.eqv (.tuple (dNats L)) (.tuple []) = L.isEmpty := by cases L <;> rfl
theorem ne_nil {K : PySem.W.Frag} {H : Hp} {e p : Addr} {L : List Nat} {Q : VK} (h1 : H e = some (.tup (ofNats L))) (h2 : H p = some (.tup [])) (q : Q (.bl (!L.isEmpty)) H) : rNeD K (.ref e) (.ref p) H Q :=
  ⟨_, _, .tup (SqT.of h1) (dpall_nats L), .tup (SqT.of h2) .nil, shaped_nats L, rfl, by rw [eqv_nil]; exact q⟩
/-- a list of ints beside [] -/
theorem eqv_nilL (L : List Nat) : PyData.eqv (.list (dNats L)) (.list []) = L.isEmpty := by cases L <;> rfl
theorem ne_nilL {K : PySem.W.Frag} {H : Hp} {e p : Addr} {L : List Nat} {Q : VK} (h1 : H e = some (.lst (ofNats L))) (h2 : H p = some (.lst [])) (q : Q (.bl (!L.isEmpty)) H) : rNeD K (.ref e) (.ref p) H Q :=
  ⟨_, _, .lst (SqL.of h1) (dpall_nats L), .lst (SqL.of h2) .nil, shaped_lst (lay_nats L) (Nat.le_of_eq (dep_nats L)) (by decide), rfl, by rw [eqv_nilL]; exact q⟩
theorem eqv_nats : ∀ L M : List Nat, PyData.eqvAll (dNats L) (dNats M) = decide (L = M)
  | [], [] => rfl
  | [], m :: M => by simp [dNats, PyData.eqvAll]
  | n :: L, [] => by simp [dNats, PyData.eqvAll]
  | n :: L, m :: M => by
    show (PyData.eqv (.int (n : Int)) (.int (m : Int)) && PyData.eqvAll (dNats L) (dNats M)) = _
    rw [eqv_nats L M, Bool.eq_iff_iff]
    simp only [PyData.eqv, Bool.and_eq_true, beq_iff_eq, decide_eq_true_eq, List.cons.injEq, Int.natCast_inj]
def dForm (F : Form) : PyData := .tuple [.tuple (dNats F.E), .int (F.s : Nat), .tuple (dNats F.A), .int (F.P : Nat)]
theorem dp_form {K : PySem.W.Frag} {H : Hp} {r : Addr} {F : Form} (h : HeldAt H r F) : Dp K H (.ref r) (dForm F) := by
  obtain ⟨e, g, h1, h2, h3⟩ := h
  exact .tup (SqT.of h1) (.cons (.tup (SqT.of h2) (dpall_nats _)) (.cons (.int _) (.cons (.tup (SqT.of h3) (dpall_nats _)) (.cons (.int _) .nil))))
theorem shaped_form (F : Form) : SeqAt.shaped (dForm F) = true := by
  refine shaped_tup (k := 1) ?_ ?_ (by decide)
  · show (PyData.canLayAll0 (dNats F.E) && (true && (PyData.canLayAll0 (dNats F.A) && (true && true)))) = true
    rw [lay_nats, lay_nats]
    rfl
  · show max (PyData.depthAll (dNats F.E) + 1) (max 0 (max (PyData.depthAll (dNats F.A) + 1) (max 0 0))) ≤ 1
    rw [dep_nats, dep_nats]
    decide
theorem eqv_form (F G : Form) : PyData.eqv (dForm F) (dForm G) = decide (F = G) := by
  show (PyData.eqvAll (dNats F.E) (dNats G.E) && (PyData.eqv (.int (F.s : Int)) (.int (G.s : Int)) && (PyData.eqvAll (dNats F.A) (dNats G.A) && (PyData.eqv (.int (F.P : Int)) (.int (G.P : Int)) && true)))) = _
  rw [eqv_nats, eqv_nats, Bool.eq_iff_iff]
  cases F; cases G
  simp only [PyData.eqv, Bool.and_eq_true, beq_iff_eq, decide_eq_true_eq, Form.mk.injEq, Bool.and_true, Int.natCast_inj]
theorem later_V (F : Form) : (List.range F.P).filterMap (fun i => if setS F (F.s + i) then some (V.int ((F.s + i : Nat) : Int)) else none) = ofNats (later F) := by
  unfold later ofNats
  rw [List.map_filterMap]
  congr 1
  funext i
  cases setS F (F.s + i) <;> simp
section
variable {K : PySem.W.Frag} {B : CA} {mg : Str → Option Value} (T : Txt K mg B)
include T
theorem pure_Lengths____init__ (vs : List V) (H : Hp) (Q : VK) (E : XK) (h : sp_Lengths____init__ K B vs H Q E) : t_Lengths____init__ K B { nx := fun _ H' => Q .non H', rt := Q } (L2.start ["self", "early", "start", "again", "period", "flags", "length"] vs) H := by
  obtain ⟨x, dx, pe, pg, F, rfl, hx, hpe, hpg, ok, few, q⟩ := h
  show t_Lengths____init__ K B _ [some (.ref x), some (.ref pe), some (.int (F.s : Nat)), some (.ref pg), some (.int (F.P : Nat)), none, none] H
  have hz : sizeLine = 16777216 := rfl
  obtain ⟨s1, s2, p1, p2, ae, aa⟩ := ok
  have b1 : btw 1 (some 10000) (V.int (F.s : Nat)) = true := by simp [btw]; omega
  have b2 : btw 1 (some 10000) (V.int (F.P : Nat)) = true := by simp [btw]; omega
  simp only [tSeq, tAsg_name, tAsg_sub, tAsg_tup, tRet, tRetN, tDrop, tIfS, tNext, tNever, tBreak, tCont, tAndV, tOrV, tNotV, tAnd, tOr, tNot, tB, tTest, tIf, tCall, tCons, tNil, tVar, tC, tOp, tUn, tTup, tLst, tRevL, tPar, tPar3, tAug, ipI, tCB, tFld, sFld, iList, iTup, iRng1, iRng2, iEnum, iEnumT, tChain, tSl, tPart, tNoPart, tBM, tCallKw, tTruth, tYes, qAdd, qSub, qMul, qMulW, qDiv, qDivW, qMod, qPow, qLt, qLe, qGt, qGe, qIsN, qNotN, qInt, qAbs, qMax2, qMin2, rI0, rI, rU, rEq, rNe, scal, qIxL, qIxT, qLenQ, qSetL, lstOf_upd, tupOf_upd, atI_0, atI_1, atI_2, atI_3, upd_same, upd_upd, ixL0, ixL1, ixL2, HO.lst.injEq, HO.tup.injEq, List.getElem?_cons_zero, List.getElem?_cons_succ, List.set_cons_zero, List.set_cons_succ, Option.some.injEq, exists_eq_left', exists_eq_left, exists_and_left, V.int.injEq, V.bl.injEq, V.ref.injEq, V.str.injEq, List.append_nil, List.cons.injEq, and_assoc, and_true, true_and, reduceCtorEq, false_and, and_false, false_or, or_false, exists_false, decide_true, decide_false, Bool.not_true, Bool.not_false, not_true_eq_false, not_false_eq_true, if_true, if_false, Bool.false_eq_true, decide_eq_true_eq, Bool.not_eq_true', decide_eq_false_iff_not, tFldC, sFldC, tProp, tMeth, tMake, tMakeKw, rEqOwn, rInOwn, tNotR, rTru, tTruR, tLstRg, tRg2, t_Lengths____init__, t_Lengths____init___s1, sp_is_between, spBetween]
  refine ⟨some 10000, rfl, .int _, ?_⟩
  rw [b1]
  simp only [tSeq, tAsg_name, tAsg_sub, tAsg_tup, tRet, tRetN, tDrop, tIfS, tNext, tNever, tBreak, tCont, tAndV, tOrV, tNotV, tAnd, tOr, tNot, tB, tTest, tIf, tCall, tCons, tNil, tVar, tC, tOp, tUn, tTup, tLst, tRevL, tPar, tPar3, tAug, ipI, tCB, tFld, sFld, iList, iTup, iRng1, iRng2, iEnum, iEnumT, tChain, tSl, tPart, tNoPart, tBM, tCallKw, tTruth, tYes, qAdd, qSub, qMul, qMulW, qDiv, qDivW, qMod, qPow, qLt, qLe, qGt, qGe, qIsN, qNotN, qInt, qAbs, qMax2, qMin2, rI0, rI, rU, rEq, rNe, scal, qIxL, qIxT, qLenQ, qSetL, lstOf_upd, tupOf_upd, atI_0, atI_1, atI_2, atI_3, upd_same, upd_upd, ixL0, ixL1, ixL2, HO.lst.injEq, HO.tup.injEq, List.getElem?_cons_zero, List.getElem?_cons_succ, List.set_cons_zero, List.set_cons_succ, Option.some.injEq, exists_eq_left', exists_eq_left, exists_and_left, V.int.injEq, V.bl.injEq, V.ref.injEq, V.str.injEq, List.append_nil, List.cons.injEq, and_assoc, and_true, true_and, reduceCtorEq, false_and, and_false, false_or, or_false, exists_false, decide_true, decide_false, Bool.not_true, Bool.not_false, not_true_eq_false, not_false_eq_true, if_true, if_false, Bool.false_eq_true, decide_eq_true_eq, Bool.not_eq_true', decide_eq_false_iff_not, tFldC, sFldC, tProp, tMeth, tMake, tMakeKw, rEqOwn, rInOwn, tNotR, rTru, tTruR, tLstRg, tRg2, t_Lengths____init___s2, sp_are_ascending]
  refine ⟨F.E, 1, rfl, F.s - 1, by omega, hpe, ?_, ae, fun H1 S1 => ?_⟩
  · have := asc_len ae; omega
  simp only [tSeq, tAsg_name, tAsg_sub, tAsg_tup, tRet, tRetN, tDrop, tIfS, tNext, tNever, tBreak, tCont, tAndV, tOrV, tNotV, tAnd, tOr, tNot, tB, tTest, tIf, tCall, tCons, tNil, tVar, tC, tOp, tUn, tTup, tLst, tRevL, tPar, tPar3, tAug, ipI, tCB, tFld, sFld, iList, iTup, iRng1, iRng2, iEnum, iEnumT, tChain, tSl, tPart, tNoPart, tBM, tCallKw, tTruth, tYes, qAdd, qSub, qMul, qMulW, qDiv, qDivW, qMod, qPow, qLt, qLe, qGt, qGe, qIsN, qNotN, qInt, qAbs, qMax2, qMin2, rI0, rI, rU, rEq, rNe, scal, qIxL, qIxT, qLenQ, qSetL, lstOf_upd, tupOf_upd, atI_0, atI_1, atI_2, atI_3, upd_same, upd_upd, ixL0, ixL1, ixL2, HO.lst.injEq, HO.tup.injEq, List.getElem?_cons_zero, List.getElem?_cons_succ, List.set_cons_zero, List.set_cons_succ, Option.some.injEq, exists_eq_left', exists_eq_left, exists_and_left, V.int.injEq, V.bl.injEq, V.ref.injEq, V.str.injEq, List.append_nil, List.cons.injEq, and_assoc, and_true, true_and, reduceCtorEq, false_and, and_false, false_or, or_false, exists_false, decide_true, decide_false, Bool.not_true, Bool.not_false, not_true_eq_false, not_false_eq_true, if_true, if_false, Bool.false_eq_true, decide_eq_true_eq, Bool.not_eq_true', decide_eq_false_iff_not, tFldC, sFldC, tProp, tMeth, tMake, tMakeKw, rEqOwn, rInOwn, tNotR, rTru, tTruR, tLstRg, tRg2, t_Lengths____init___s3, sp_is_between, spBetween]
  refine ⟨some 10000, rfl, .int _, ?_⟩
  rw [b2]
  simp only [tSeq, tAsg_name, tAsg_sub, tAsg_tup, tRet, tRetN, tDrop, tIfS, tNext, tNever, tBreak, tCont, tAndV, tOrV, tNotV, tAnd, tOr, tNot, tB, tTest, tIf, tCall, tCons, tNil, tVar, tC, tOp, tUn, tTup, tLst, tRevL, tPar, tPar3, tAug, ipI, tCB, tFld, sFld, iList, iTup, iRng1, iRng2, iEnum, iEnumT, tChain, tSl, tPart, tNoPart, tBM, tCallKw, tTruth, tYes, qAdd, qSub, qMul, qMulW, qDiv, qDivW, qMod, qPow, qLt, qLe, qGt, qGe, qIsN, qNotN, qInt, qAbs, qMax2, qMin2, rI0, rI, rU, rEq, rNe, scal, qIxL, qIxT, qLenQ, qSetL, lstOf_upd, tupOf_upd, atI_0, atI_1, atI_2, atI_3, upd_same, upd_upd, ixL0, ixL1, ixL2, HO.lst.injEq, HO.tup.injEq, List.getElem?_cons_zero, List.getElem?_cons_succ, List.set_cons_zero, List.set_cons_succ, Option.some.injEq, exists_eq_left', exists_eq_left, exists_and_left, V.int.injEq, V.bl.injEq, V.ref.injEq, V.str.injEq, List.append_nil, List.cons.injEq, and_assoc, and_true, true_and, reduceCtorEq, false_and, and_false, false_or, or_false, exists_false, decide_true, decide_false, Bool.not_true, Bool.not_false, not_true_eq_false, not_false_eq_true, if_true, if_false, Bool.false_eq_true, decide_eq_true_eq, Bool.not_eq_true', decide_eq_false_iff_not, tFldC, sFldC, tProp, tMeth, tMake, tMakeKw, rEqOwn, rInOwn, tNotR, rTru, tTruR, tLstRg, tRg2, t_Lengths____init___s4, sp_are_ascending]
  refine ⟨F.A, 0, rfl, F.P - 1, by omega, S1 _ _ hpg, ?_, aa, fun H2 S2 => ?_⟩
  · have := asc_len aa; omega
  simp only [tSeq, tAsg_name, tAsg_sub, tAsg_tup, tRet, tRetN, tDrop, tIfS, tNext, tNever, tBreak, tCont, tAndV, tOrV, tNotV, tAnd, tOr, tNot, tB, tTest, tIf, tCall, tCons, tNil, tVar, tC, tOp, tUn, tTup, tLst, tRevL, tPar, tPar3, tAug, ipI, tCB, tFld, sFld, iList, iTup, iRng1, iRng2, iEnum, iEnumT, tChain, tSl, tPart, tNoPart, tBM, tCallKw, tTruth, tYes, qAdd, qSub, qMul, qMulW, qDiv, qDivW, qMod, qPow, qLt, qLe, qGt, qGe, qIsN, qNotN, qInt, qAbs, qMax2, qMin2, rI0, rI, rU, rEq, rNe, scal, qIxL, qIxT, qLenQ, qSetL, lstOf_upd, tupOf_upd, atI_0, atI_1, atI_2, atI_3, upd_same, upd_upd, ixL0, ixL1, ixL2, HO.lst.injEq, HO.tup.injEq, List.getElem?_cons_zero, List.getElem?_cons_succ, List.set_cons_zero, List.set_cons_succ, Option.some.injEq, exists_eq_left', exists_eq_left, exists_and_left, V.int.injEq, V.bl.injEq, V.ref.injEq, V.str.injEq, List.append_nil, List.cons.injEq, and_assoc, and_true, true_and, reduceCtorEq, false_and, and_false, false_or, or_false, exists_false, decide_true, decide_false, Bool.not_true, Bool.not_false, not_true_eq_false, not_false_eq_true, if_true, if_false, Bool.false_eq_true, decide_eq_true_eq, Bool.not_eq_true', decide_eq_false_iff_not, tFldC, sFldC, tProp, tMeth, tMake, tMakeKw, rEqOwn, rInOwn, tNotR, rTru, tTruR, tLstRg, tRg2, t_Lengths____init___s6, tLc_go]
  have es : ((F.s : Int) - 1).toNat = F.s - 1 := by omega
  have S12 := S1.trans S2
  rw [es]
  refine ⟨by omega, by omega, by omega, by omega, map_rng (fun i => some (V.bl (setS F (i + 1)))) (by omega) ?_ fun D3 H3 S3 hD3 h3 => ?_⟩
  · intro i H3 R hi S3 k
    simp only [tSeq, tAsg_name, tAsg_sub, tAsg_tup, tRet, tRetN, tDrop, tIfS, tNext, tNever, tBreak, tCont, tAndV, tOrV, tNotV, tAnd, tOr, tNot, tB, tTest, tIf, tCall, tCons, tNil, tVar, tC, tOp, tUn, tTup, tLst, tRevL, tPar, tPar3, tAug, ipI, tCB, tFld, sFld, iList, iTup, iRng1, iRng2, iEnum, iEnumT, tChain, tSl, tPart, tNoPart, tBM, tCallKw, tTruth, tYes, qAdd, qSub, qMul, qMulW, qDiv, qDivW, qMod, qPow, qLt, qLe, qGt, qGe, qIsN, qNotN, qInt, qAbs, qMax2, qMin2, rI0, rI, rU, rEq, rNe, scal, qIxL, qIxT, qLenQ, qSetL, lstOf_upd, tupOf_upd, atI_0, atI_1, atI_2, atI_3, upd_same, upd_upd, ixL0, ixL1, ixL2, HO.lst.injEq, HO.tup.injEq, List.getElem?_cons_zero, List.getElem?_cons_succ, List.set_cons_zero, List.set_cons_succ, Option.some.injEq, exists_eq_left', exists_eq_left, exists_and_left, V.int.injEq, V.bl.injEq, V.ref.injEq, V.str.injEq, List.append_nil, List.cons.injEq, and_assoc, and_true, true_and, reduceCtorEq, false_and, and_false, false_or, or_false, exists_false, decide_true, decide_false, Bool.not_true, Bool.not_false, not_true_eq_false, not_false_eq_true, if_true, if_false, Bool.false_eq_true, decide_eq_true_eq, Bool.not_eq_true', decide_eq_false_iff_not, tFldC, sFldC, tProp, tMeth, tMake, tMakeKw, rEqOwn, rInOwn, tNotR, rTru, tTruR, tLstRg, tRg2, gName_ap, gTup_ap, gCons_ap, gNil_ap, gSub_ap, LcStep, t_Lengths____init___e5, wipe]
    refine rIn_nats (n := i + 1) (by omega) (S3 _ _ (S12 _ _ hpe)) ?_
    have e : setS F (i + 1) = decide (i + 1 ∈ F.E) := by unfold setS; rw [if_pos (by omega)]
    rw [← e]
    exact k _ (Same.refl _)
  · rw [fm_some] at h3
    simp only [tSeq, tAsg_name, tAsg_sub, tAsg_tup, tRet, tRetN, tDrop, tIfS, tNext, tNever, tBreak, tCont, tAndV, tOrV, tNotV, tAnd, tOr, tNot, tB, tTest, tIf, tCall, tCons, tNil, tVar, tC, tOp, tUn, tTup, tLst, tRevL, tPar, tPar3, tAug, ipI, tCB, tFld, sFld, iList, iTup, iRng1, iRng2, iEnum, iEnumT, tChain, tSl, tPart, tNoPart, tBM, tCallKw, tTruth, tYes, qAdd, qSub, qMul, qMulW, qDiv, qDivW, qMod, qPow, qLt, qLe, qGt, qGe, qIsN, qNotN, qInt, qAbs, qMax2, qMin2, rI0, rI, rU, rEq, rNe, scal, qIxL, qIxT, qLenQ, qSetL, lstOf_upd, tupOf_upd, atI_0, atI_1, atI_2, atI_3, upd_same, upd_upd, ixL0, ixL1, ixL2, HO.lst.injEq, HO.tup.injEq, List.getElem?_cons_zero, List.getElem?_cons_succ, List.set_cons_zero, List.set_cons_succ, Option.some.injEq, exists_eq_left', exists_eq_left, exists_and_left, V.int.injEq, V.bl.injEq, V.ref.injEq, V.str.injEq, List.append_nil, List.cons.injEq, and_assoc, and_true, true_and, reduceCtorEq, false_and, and_false, false_or, or_false, exists_false, decide_true, decide_false, Bool.not_true, Bool.not_false, not_true_eq_false, not_false_eq_true, if_true, if_false, Bool.false_eq_true, decide_eq_true_eq, Bool.not_eq_true', decide_eq_false_iff_not, tFldC, sFldC, tProp, tMeth, tMake, tMakeKw, rEqOwn, rInOwn, tNotR, rTru, tTruR, tLstRg, tRg2, t_Lengths____init___s8, tLc_go]
    have ep : ((F.s : Int) + (F.P : Int) - (F.s : Int)).toNat = F.P := by omega
    rw [ep]
    refine ⟨by omega, by omega, by omega, by omega, map_rng (fun i => some (V.bl (setS F (F.s + i)))) (by omega) ?_ fun D4 H4 S4 hD4 h4 => ?_⟩
    · intro i H4 R hi S4 k
      have ei : (F.s : Int) + (i : Int) = ((F.s + i : Nat) : Int) := by omega
      simp only [tSeq, tAsg_name, tAsg_sub, tAsg_tup, tRet, tRetN, tDrop, tIfS, tNext, tNever, tBreak, tCont, tAndV, tOrV, tNotV, tAnd, tOr, tNot, tB, tTest, tIf, tCall, tCons, tNil, tVar, tC, tOp, tUn, tTup, tLst, tRevL, tPar, tPar3, tAug, ipI, tCB, tFld, sFld, iList, iTup, iRng1, iRng2, iEnum, iEnumT, tChain, tSl, tPart, tNoPart, tBM, tCallKw, tTruth, tYes, qAdd, qSub, qMul, qMulW, qDiv, qDivW, qMod, qPow, qLt, qLe, qGt, qGe, qIsN, qNotN, qInt, qAbs, qMax2, qMin2, rI0, rI, rU, rEq, rNe, scal, qIxL, qIxT, qLenQ, qSetL, lstOf_upd, tupOf_upd, atI_0, atI_1, atI_2, atI_3, upd_same, upd_upd, ixL0, ixL1, ixL2, HO.lst.injEq, HO.tup.injEq, List.getElem?_cons_zero, List.getElem?_cons_succ, List.set_cons_zero, List.set_cons_succ, Option.some.injEq, exists_eq_left', exists_eq_left, exists_and_left, V.int.injEq, V.bl.injEq, V.ref.injEq, V.str.injEq, List.append_nil, List.cons.injEq, and_assoc, and_true, true_and, reduceCtorEq, false_and, and_false, false_or, or_false, exists_false, decide_true, decide_false, Bool.not_true, Bool.not_false, not_true_eq_false, not_false_eq_true, if_true, if_false, Bool.false_eq_true, decide_eq_true_eq, Bool.not_eq_true', decide_eq_false_iff_not, tFldC, sFldC, tProp, tMeth, tMake, tMakeKw, rEqOwn, rInOwn, tNotR, rTru, tTruR, tLstRg, tRg2, gName_ap, gTup_ap, gCons_ap, gNil_ap, gSub_ap, LcStep, t_Lengths____init___e7, wipe, ei, ← Int.natCast_emod]
      refine ⟨by omega, rIn_nats (n := (F.s + i) % F.P) rfl (S4 _ _ (S3 _ _ (S12 _ _ hpg))) ?_⟩
      have e : setS F (F.s + i) = decide ((F.s + i) % F.P ∈ F.A) := by unfold setS; rw [if_neg (by omega)]
      rw [← e]
      exact k _ (Same.refl _)
    · rw [fm_some] at h4
      simp only [tSeq, tAsg_name, tAsg_sub, tAsg_tup, tRet, tRetN, tDrop, tIfS, tNext, tNever, tBreak, tCont, tAndV, tOrV, tNotV, tAnd, tOr, tNot, tB, tTest, tIf, tCall, tCons, tNil, tVar, tC, tOp, tUn, tTup, tLst, tRevL, tPar, tPar3, tAug, ipI, tCB, tFld, sFld, iList, iTup, iRng1, iRng2, iEnum, iEnumT, tChain, tSl, tPart, tNoPart, tBM, tCallKw, tTruth, tYes, qAdd, qSub, qMul, qMulW, qDiv, qDivW, qMod, qPow, qLt, qLe, qGt, qGe, qIsN, qNotN, qInt, qAbs, qMax2, qMin2, rI0, rI, rU, rEq, rNe, scal, qIxL, qIxT, qLenQ, qSetL, lstOf_upd, tupOf_upd, atI_0, atI_1, atI_2, atI_3, upd_same, upd_upd, ixL0, ixL1, ixL2, HO.lst.injEq, HO.tup.injEq, List.getElem?_cons_zero, List.getElem?_cons_succ, List.set_cons_zero, List.set_cons_succ, Option.some.injEq, exists_eq_left', exists_eq_left, exists_and_left, V.int.injEq, V.bl.injEq, V.ref.injEq, V.str.injEq, List.append_nil, List.cons.injEq, and_assoc, and_true, true_and, reduceCtorEq, false_and, and_false, false_or, or_false, exists_false, decide_true, decide_false, Bool.not_true, Bool.not_false, not_true_eq_false, not_false_eq_true, if_true, if_false, Bool.false_eq_true, decide_eq_true_eq, Bool.not_eq_true', decide_eq_false_iff_not, tFldC, sFldC, tProp, tMeth, tMake, tMakeKw, rEqOwn, rInOwn, tNotR, rTru, tTruR, tLstRg, tRg2, rCat]
      refine ⟨_, S4 _ _ h3, _, h4, by rw [List.length_map, List.length_map, List.length_range, List.length_range]; omega, fun l hl => ?_⟩
      have S04 := (S12.trans S3).trans S4
      have S05 := Same.newp (o := .lst ((List.range (F.s - 1)).map (fun i => V.bl (setS F (i + 1))) ++ (List.range F.P).map fun i => V.bl (setS F (F.s + i)))) S04 hl
      have e := bits_app (f := fun i => setS F (i + 1)) (g := fun i => setS F (F.s + i)) (n := F.s - 1) (m := F.P) (fun k _ => by rw [show F.s - 1 + k + 1 = F.s + k by omega])
      unfold bitsV at e
      rw [e] at S05 ⊢
      simp only [tSeq, tAsg_name, tAsg_sub, tAsg_tup, tRet, tRetN, tDrop, tIfS, tNext, tNever, tBreak, tCont, tAndV, tOrV, tNotV, tAnd, tOr, tNot, tB, tTest, tIf, tCall, tCons, tNil, tVar, tC, tOp, tUn, tTup, tLst, tRevL, tPar, tPar3, tAug, ipI, tCB, tFld, sFld, iList, iTup, iRng1, iRng2, iEnum, iEnumT, tChain, tSl, tPart, tNoPart, tBM, tCallKw, tTruth, tYes, qAdd, qSub, qMul, qMulW, qDiv, qDivW, qMod, qPow, qLt, qLe, qGt, qGe, qIsN, qNotN, qInt, qAbs, qMax2, qMin2, rI0, rI, rU, rEq, rNe, scal, qIxL, qIxT, qLenQ, qSetL, lstOf_upd, tupOf_upd, atI_0, atI_1, atI_2, atI_3, upd_same, upd_upd, ixL0, ixL1, ixL2, HO.lst.injEq, HO.tup.injEq, List.getElem?_cons_zero, List.getElem?_cons_succ, List.set_cons_zero, List.set_cons_succ, Option.some.injEq, exists_eq_left', exists_eq_left, exists_and_left, V.int.injEq, V.bl.injEq, V.ref.injEq, V.str.injEq, List.append_nil, List.cons.injEq, and_assoc, and_true, true_and, reduceCtorEq, false_and, and_false, false_or, or_false, exists_false, decide_true, decide_false, Bool.not_true, Bool.not_false, not_true_eq_false, not_false_eq_true, if_true, if_false, Bool.false_eq_true, decide_eq_true_eq, Bool.not_eq_true', decide_eq_false_iff_not, tFldC, sFldC, tProp, tMeth, tMake, tMakeKw, rEqOwn, rInOwn, tNotR, rTru, tTruR, tLstRg, tRg2, t_Lengths____init___s9, sp_least_form]
      refine ⟨setS F, F.s, rfl, F.P, rfl, rfl, s1, s2, p1, p2, setS_per F, few, fun H6 r S6 hr => ?_⟩
      have S06 := S05.trans S6
      have hx6 := S06 _ _ hx
      refine ⟨dx, [], hx6, by decide, q _ ?_ ⟨dx, r, upd_same, ?_⟩⟩
      · intro b o hb h
        rw [upd_ne hb]
        exact S06 _ _ h
      · obtain ⟨e, g, r1, r2, r3⟩ := hr
        refine ⟨e, g, ?_, ?_, ?_⟩
        · rw [upd_ne (ne_of r1 hx6 (by intro z; cases z))]; exact r1
        · rw [upd_ne (ne_of r2 hx6 (by intro z; cases z))]; exact r2
        · rw [upd_ne (ne_of r3 hx6 (by intro z; cases z))]; exact r3
theorem pure_Lengths__early (vs : List V) (H : Hp) (Q : VK) (E : XK) (h : sp_Lengths__early K B vs H Q E) : t_Lengths__early K B { nx := fun _ H' => Q .non H', rt := Q } (L2.start ["self"] vs) H := by
  obtain ⟨a, F, rfl, ⟨dx, r, h1, e, g, h2, h3, h4⟩, q⟩ := h
  show t_Lengths__early K B _ [some (.ref a)] H
  simp only [tSeq, tAsg_name, tAsg_sub, tAsg_tup, tRet, tRetN, tDrop, tIfS, tNext, tNever, tBreak, tCont, tAndV, tOrV, tNotV, tAnd, tOr, tNot, tB, tTest, tIf, tCall, tCons, tNil, tVar, tC, tOp, tUn, tTup, tLst, tRevL, tPar, tPar3, tAug, ipI, tCB, tFld, sFld, iList, iTup, iRng1, iRng2, iEnum, iEnumT, tChain, tSl, tPart, tNoPart, tBM, tCallKw, tTruth, tYes, qAdd, qSub, qMul, qMulW, qDiv, qDivW, qMod, qPow, qLt, qLe, qGt, qGe, qIsN, qNotN, qInt, qAbs, qMax2, qMin2, rI0, rI, rU, rEq, rNe, scal, qIxL, qIxT, qLenQ, qSetL, lstOf_upd, tupOf_upd, atI_0, atI_1, atI_2, atI_3, upd_same, upd_upd, ixL0, ixL1, ixL2, HO.lst.injEq, HO.tup.injEq, List.getElem?_cons_zero, List.getElem?_cons_succ, List.set_cons_zero, List.set_cons_succ, Option.some.injEq, exists_eq_left', exists_eq_left, exists_and_left, V.int.injEq, V.bl.injEq, V.ref.injEq, V.str.injEq, List.append_nil, List.cons.injEq, and_assoc, and_true, true_and, reduceCtorEq, false_and, and_false, false_or, or_false, exists_false, decide_true, decide_false, Bool.not_true, Bool.not_false, not_true_eq_false, not_false_eq_true, if_true, if_false, Bool.false_eq_true, decide_eq_true_eq, Bool.not_eq_true', decide_eq_false_iff_not, tFldC, sFldC, tProp, tMeth, tMake, tMakeKw, rEqOwn, rInOwn, tNotR, rTru, tTruR, tLstRg, tRg2, t_Lengths__early, t_Lengths__early_s1, h1, HO.ins.injEq, tupOf_of h2, lk_held]
  exact q _ h3
theorem pure_Lengths__start (vs : List V) (H : Hp) (Q : VK) (E : XK) (h : sp_Lengths__start K B vs H Q E) : t_Lengths__start K B { nx := fun _ H' => Q .non H', rt := Q } (L2.start ["self"] vs) H := by
  obtain ⟨a, F, rfl, ⟨dx, r, h1, e, g, h2, h3, h4⟩, q⟩ := h
  show t_Lengths__start K B _ [some (.ref a)] H
  simp only [tSeq, tAsg_name, tAsg_sub, tAsg_tup, tRet, tRetN, tDrop, tIfS, tNext, tNever, tBreak, tCont, tAndV, tOrV, tNotV, tAnd, tOr, tNot, tB, tTest, tIf, tCall, tCons, tNil, tVar, tC, tOp, tUn, tTup, tLst, tRevL, tPar, tPar3, tAug, ipI, tCB, tFld, sFld, iList, iTup, iRng1, iRng2, iEnum, iEnumT, tChain, tSl, tPart, tNoPart, tBM, tCallKw, tTruth, tYes, qAdd, qSub, qMul, qMulW, qDiv, qDivW, qMod, qPow, qLt, qLe, qGt, qGe, qIsN, qNotN, qInt, qAbs, qMax2, qMin2, rI0, rI, rU, rEq, rNe, scal, qIxL, qIxT, qLenQ, qSetL, lstOf_upd, tupOf_upd, atI_0, atI_1, atI_2, atI_3, upd_same, upd_upd, ixL0, ixL1, ixL2, HO.lst.injEq, HO.tup.injEq, List.getElem?_cons_zero, List.getElem?_cons_succ, List.set_cons_zero, List.set_cons_succ, Option.some.injEq, exists_eq_left', exists_eq_left, exists_and_left, V.int.injEq, V.bl.injEq, V.ref.injEq, V.str.injEq, List.append_nil, List.cons.injEq, and_assoc, and_true, true_and, reduceCtorEq, false_and, and_false, false_or, or_false, exists_false, decide_true, decide_false, Bool.not_true, Bool.not_false, not_true_eq_false, not_false_eq_true, if_true, if_false, Bool.false_eq_true, decide_eq_true_eq, Bool.not_eq_true', decide_eq_false_iff_not, tFldC, sFldC, tProp, tMeth, tMake, tMakeKw, rEqOwn, rInOwn, tNotR, rTru, tTruR, tLstRg, tRg2, t_Lengths__start, t_Lengths__start_s1, h1, HO.ins.injEq, tupOf_of h2, lk_held]
  exact q
theorem pure_Lengths__again (vs : List V) (H : Hp) (Q : VK) (E : XK) (h : sp_Lengths__again K B vs H Q E) : t_Lengths__again K B { nx := fun _ H' => Q .non H', rt := Q } (L2.start ["self"] vs) H := by
  obtain ⟨a, F, rfl, ⟨dx, r, h1, e, g, h2, h3, h4⟩, q⟩ := h
  show t_Lengths__again K B _ [some (.ref a)] H
  simp only [tSeq, tAsg_name, tAsg_sub, tAsg_tup, tRet, tRetN, tDrop, tIfS, tNext, tNever, tBreak, tCont, tAndV, tOrV, tNotV, tAnd, tOr, tNot, tB, tTest, tIf, tCall, tCons, tNil, tVar, tC, tOp, tUn, tTup, tLst, tRevL, tPar, tPar3, tAug, ipI, tCB, tFld, sFld, iList, iTup, iRng1, iRng2, iEnum, iEnumT, tChain, tSl, tPart, tNoPart, tBM, tCallKw, tTruth, tYes, qAdd, qSub, qMul, qMulW, qDiv, qDivW, qMod, qPow, qLt, qLe, qGt, qGe, qIsN, qNotN, qInt, qAbs, qMax2, qMin2, rI0, rI, rU, rEq, rNe, scal, qIxL, qIxT, qLenQ, qSetL, lstOf_upd, tupOf_upd, atI_0, atI_1, atI_2, atI_3, upd_same, upd_upd, ixL0, ixL1, ixL2, HO.lst.injEq, HO.tup.injEq, List.getElem?_cons_zero, List.getElem?_cons_succ, List.set_cons_zero, List.set_cons_succ, Option.some.injEq, exists_eq_left', exists_eq_left, exists_and_left, V.int.injEq, V.bl.injEq, V.ref.injEq, V.str.injEq, List.append_nil, List.cons.injEq, and_assoc, and_true, true_and, reduceCtorEq, false_and, and_false, false_or, or_false, exists_false, decide_true, decide_false, Bool.not_true, Bool.not_false, not_true_eq_false, not_false_eq_true, if_true, if_false, Bool.false_eq_true, decide_eq_true_eq, Bool.not_eq_true', decide_eq_false_iff_not, tFldC, sFldC, tProp, tMeth, tMake, tMakeKw, rEqOwn, rInOwn, tNotR, rTru, tTruR, tLstRg, tRg2, t_Lengths__again, t_Lengths__again_s1, h1, HO.ins.injEq, tupOf_of h2, lk_held]
  exact q _ h4
theorem pure_Lengths__period (vs : List V) (H : Hp) (Q : VK) (E : XK) (h : sp_Lengths__period K B vs H Q E) : t_Lengths__period K B { nx := fun _ H' => Q .non H', rt := Q } (L2.start ["self"] vs) H := by
  obtain ⟨a, F, rfl, ⟨dx, r, h1, e, g, h2, h3, h4⟩, q⟩ := h
  show t_Lengths__period K B _ [some (.ref a)] H
  simp only [tSeq, tAsg_name, tAsg_sub, tAsg_tup, tRet, tRetN, tDrop, tIfS, tNext, tNever, tBreak, tCont, tAndV, tOrV, tNotV, tAnd, tOr, tNot, tB, tTest, tIf, tCall, tCons, tNil, tVar, tC, tOp, tUn, tTup, tLst, tRevL, tPar, tPar3, tAug, ipI, tCB, tFld, sFld, iList, iTup, iRng1, iRng2, iEnum, iEnumT, tChain, tSl, tPart, tNoPart, tBM, tCallKw, tTruth, tYes, qAdd, qSub, qMul, qMulW, qDiv, qDivW, qMod, qPow, qLt, qLe, qGt, qGe, qIsN, qNotN, qInt, qAbs, qMax2, qMin2, rI0, rI, rU, rEq, rNe, scal, qIxL, qIxT, qLenQ, qSetL, lstOf_upd, tupOf_upd, atI_0, atI_1, atI_2, atI_3, upd_same, upd_upd, ixL0, ixL1, ixL2, HO.lst.injEq, HO.tup.injEq, List.getElem?_cons_zero, List.getElem?_cons_succ, List.set_cons_zero, List.set_cons_succ, Option.some.injEq, exists_eq_left', exists_eq_left, exists_and_left, V.int.injEq, V.bl.injEq, V.ref.injEq, V.str.injEq, List.append_nil, List.cons.injEq, and_assoc, and_true, true_and, reduceCtorEq, false_and, and_false, false_or, or_false, exists_false, decide_true, decide_false, Bool.not_true, Bool.not_false, not_true_eq_false, not_false_eq_true, if_true, if_false, Bool.false_eq_true, decide_eq_true_eq, Bool.not_eq_true', decide_eq_false_iff_not, tFldC, sFldC, tProp, tMeth, tMake, tMakeKw, rEqOwn, rInOwn, tNotR, rTru, tTruR, tLstRg, tRg2, t_Lengths__period, t_Lengths__period_s1, h1, HO.ins.injEq, tupOf_of h2, lk_held]
  exact q
theorem pure_Lengths____contains__ (vs : List V) (H : Hp) (Q : VK) (E : XK) (h : sp_Lengths____contains__ K B vs H Q E) : t_Lengths____contains__ K B { nx := fun _ H' => Q .non H', rt := Q } (L2.start ["self", "value"] vs) H := by
  obtain ⟨a, F, v, rfl, la, p1, hk, q⟩ := h
  obtain ⟨dx, r, h1, rest⟩ := id la
  show t_Lengths____contains__ K B _ [some (.ref a), some v] H
  simp only [tSeq, tAsg_name, tAsg_sub, tAsg_tup, tRet, tRetN, tDrop, tIfS, tNext, tNever, tBreak, tCont, tAndV, tOrV, tNotV, tAnd, tOr, tNot, tB, tTest, tIf, tCall, tCons, tNil, tVar, tC, tOp, tUn, tTup, tLst, tRevL, tPar, tPar3, tAug, ipI, tCB, tFld, sFld, iList, iTup, iRng1, iRng2, iEnum, iEnumT, tChain, tSl, tPart, tNoPart, tBM, tCallKw, tTruth, tYes, qAdd, qSub, qMul, qMulW, qDiv, qDivW, qMod, qPow, qLt, qLe, qGt, qGe, qIsN, qNotN, qInt, qAbs, qMax2, qMin2, rI0, rI, rU, rEq, rNe, scal, qIxL, qIxT, qLenQ, qSetL, lstOf_upd, tupOf_upd, atI_0, atI_1, atI_2, atI_3, upd_same, upd_upd, ixL0, ixL1, ixL2, HO.lst.injEq, HO.tup.injEq, List.getElem?_cons_zero, List.getElem?_cons_succ, List.set_cons_zero, List.set_cons_succ, Option.some.injEq, exists_eq_left', exists_eq_left, exists_and_left, V.int.injEq, V.bl.injEq, V.ref.injEq, V.str.injEq, List.append_nil, List.cons.injEq, and_assoc, and_true, true_and, reduceCtorEq, false_and, and_false, false_or, or_false, exists_false, decide_true, decide_false, Bool.not_true, Bool.not_false, not_true_eq_false, not_false_eq_true, if_true, if_false, Bool.false_eq_true, decide_eq_true_eq, Bool.not_eq_true', decide_eq_false_iff_not, tFldC, sFldC, tProp, tMeth, tMake, tMakeKw, rEqOwn, rInOwn, tNotR, rTru, tTruR, tLstRg, tRg2, t_Lengths____contains__, t_Lengths____contains___s3, sp_is_integer, spIsInt]
  refine ⟨hk, ?_⟩
  cases hk with
  | bl b =>
    simp only [isI, if_true]
    exact q
  | not _ g1 g2 =>
    cases v with
    | int i => exact absurd rfl (g1 i)
    | _ =>
      simp only [isI, if_true]
      exact q
  | int i =>
    simp only [tSeq, tAsg_name, tAsg_sub, tAsg_tup, tRet, tRetN, tDrop, tIfS, tNext, tNever, tBreak, tCont, tAndV, tOrV, tNotV, tAnd, tOr, tNot, tB, tTest, tIf, tCall, tCons, tNil, tVar, tC, tOp, tUn, tTup, tLst, tRevL, tPar, tPar3, tAug, ipI, tCB, tFld, sFld, iList, iTup, iRng1, iRng2, iEnum, iEnumT, tChain, tSl, tPart, tNoPart, tBM, tCallKw, tTruth, tYes, qAdd, qSub, qMul, qMulW, qDiv, qDivW, qMod, qPow, qLt, qLe, qGt, qGe, qIsN, qNotN, qInt, qAbs, qMax2, qMin2, rI0, rI, rU, rEq, rNe, scal, qIxL, qIxT, qLenQ, qSetL, lstOf_upd, tupOf_upd, atI_0, atI_1, atI_2, atI_3, upd_same, upd_upd, ixL0, ixL1, ixL2, HO.lst.injEq, HO.tup.injEq, List.getElem?_cons_zero, List.getElem?_cons_succ, List.set_cons_zero, List.set_cons_succ, Option.some.injEq, exists_eq_left', exists_eq_left, exists_and_left, V.int.injEq, V.bl.injEq, V.ref.injEq, V.str.injEq, List.append_nil, List.cons.injEq, and_assoc, and_true, true_and, reduceCtorEq, false_and, and_false, false_or, or_false, exists_false, decide_true, decide_false, Bool.not_true, Bool.not_false, not_true_eq_false, not_false_eq_true, if_true, if_false, Bool.false_eq_true, decide_eq_true_eq, Bool.not_eq_true', decide_eq_false_iff_not, tFldC, sFldC, tProp, tMeth, tMake, tMakeKw, rEqOwn, rInOwn, tNotR, rTru, tTruR, tLstRg, tRg2, isI]
    by_cases c : i < 1
    · rw [if_pos c]
      have e : inB F (.int i) = false := by show (decide (1 ≤ i) && _) = false; rw [decide_eq_false (by omega)]; rfl
      rw [e] at q
      exact q
    · rw [if_neg c]
      obtain ⟨n, rfl⟩ : ∃ n : Nat, i = (n : Int) := ⟨i.toNat, by omega⟩
      have e : inB F (.int (n : Int)) = setS F n := by show (decide (1 ≤ (n : Int)) && setS F ((n : Int)).toNat) = _; rw [decide_eq_true (by omega)]; rfl
      rw [e] at q
      unfold setS at q
      simp only [tSeq, tAsg_name, tAsg_sub, tAsg_tup, tRet, tRetN, tDrop, tIfS, tNext, tNever, tBreak, tCont, tAndV, tOrV, tNotV, tAnd, tOr, tNot, tB, tTest, tIf, tCall, tCons, tNil, tVar, tC, tOp, tUn, tTup, tLst, tRevL, tPar, tPar3, tAug, ipI, tCB, tFld, sFld, iList, iTup, iRng1, iRng2, iEnum, iEnumT, tChain, tSl, tPart, tNoPart, tBM, tCallKw, tTruth, tYes, qAdd, qSub, qMul, qMulW, qDiv, qDivW, qMod, qPow, qLt, qLe, qGt, qGe, qIsN, qNotN, qInt, qAbs, qMax2, qMin2, rI0, rI, rU, rEq, rNe, scal, qIxL, qIxT, qLenQ, qSetL, lstOf_upd, tupOf_upd, atI_0, atI_1, atI_2, atI_3, upd_same, upd_upd, ixL0, ixL1, ixL2, HO.lst.injEq, HO.tup.injEq, List.getElem?_cons_zero, List.getElem?_cons_succ, List.set_cons_zero, List.set_cons_succ, Option.some.injEq, exists_eq_left', exists_eq_left, exists_and_left, V.int.injEq, V.bl.injEq, V.ref.injEq, V.str.injEq, List.append_nil, List.cons.injEq, and_assoc, and_true, true_and, reduceCtorEq, false_and, and_false, false_or, or_false, exists_false, decide_true, decide_false, Bool.not_true, Bool.not_false, not_true_eq_false, not_false_eq_true, if_true, if_false, Bool.false_eq_true, decide_eq_true_eq, Bool.not_eq_true', decide_eq_false_iff_not, tFldC, sFldC, tProp, tMeth, tMake, tMakeKw, rEqOwn, rInOwn, tNotR, rTru, tTruR, tLstRg, tRg2, t_Lengths____contains___s6, sp_Lengths__start]
      refine ⟨dx, _, h1, F, la, ?_⟩
      by_cases d : n < F.s
      · rw [if_pos d] at q
        rw [if_pos (by omega)]
        simp only [tSeq, tAsg_name, tAsg_sub, tAsg_tup, tRet, tRetN, tDrop, tIfS, tNext, tNever, tBreak, tCont, tAndV, tOrV, tNotV, tAnd, tOr, tNot, tB, tTest, tIf, tCall, tCons, tNil, tVar, tC, tOp, tUn, tTup, tLst, tRevL, tPar, tPar3, tAug, ipI, tCB, tFld, sFld, iList, iTup, iRng1, iRng2, iEnum, iEnumT, tChain, tSl, tPart, tNoPart, tBM, tCallKw, tTruth, tYes, qAdd, qSub, qMul, qMulW, qDiv, qDivW, qMod, qPow, qLt, qLe, qGt, qGe, qIsN, qNotN, qInt, qAbs, qMax2, qMin2, rI0, rI, rU, rEq, rNe, scal, qIxL, qIxT, qLenQ, qSetL, lstOf_upd, tupOf_upd, atI_0, atI_1, atI_2, atI_3, upd_same, upd_upd, ixL0, ixL1, ixL2, HO.lst.injEq, HO.tup.injEq, List.getElem?_cons_zero, List.getElem?_cons_succ, List.set_cons_zero, List.set_cons_succ, Option.some.injEq, exists_eq_left', exists_eq_left, exists_and_left, V.int.injEq, V.bl.injEq, V.ref.injEq, V.str.injEq, List.append_nil, List.cons.injEq, and_assoc, and_true, true_and, reduceCtorEq, false_and, and_false, false_or, or_false, exists_false, decide_true, decide_false, Bool.not_true, Bool.not_false, not_true_eq_false, not_false_eq_true, if_true, if_false, Bool.false_eq_true, decide_eq_true_eq, Bool.not_eq_true', decide_eq_false_iff_not, tFldC, sFldC, tProp, tMeth, tMake, tMakeKw, rEqOwn, rInOwn, tNotR, rTru, tTruR, tLstRg, tRg2, t_Lengths____contains___b5, t_Lengths____contains___s4, sp_Lengths__early]
        exact ⟨dx, _, h1, F, la, fun e he => rIn_nats rfl he q⟩
      · rw [if_neg d] at q
        rw [if_neg (by omega)]
        simp only [tSeq, tAsg_name, tAsg_sub, tAsg_tup, tRet, tRetN, tDrop, tIfS, tNext, tNever, tBreak, tCont, tAndV, tOrV, tNotV, tAnd, tOr, tNot, tB, tTest, tIf, tCall, tCons, tNil, tVar, tC, tOp, tUn, tTup, tLst, tRevL, tPar, tPar3, tAug, ipI, tCB, tFld, sFld, iList, iTup, iRng1, iRng2, iEnum, iEnumT, tChain, tSl, tPart, tNoPart, tBM, tCallKw, tTruth, tYes, qAdd, qSub, qMul, qMulW, qDiv, qDivW, qMod, qPow, qLt, qLe, qGt, qGe, qIsN, qNotN, qInt, qAbs, qMax2, qMin2, rI0, rI, rU, rEq, rNe, scal, qIxL, qIxT, qLenQ, qSetL, lstOf_upd, tupOf_upd, atI_0, atI_1, atI_2, atI_3, upd_same, upd_upd, ixL0, ixL1, ixL2, HO.lst.injEq, HO.tup.injEq, List.getElem?_cons_zero, List.getElem?_cons_succ, List.set_cons_zero, List.set_cons_succ, Option.some.injEq, exists_eq_left', exists_eq_left, exists_and_left, V.int.injEq, V.bl.injEq, V.ref.injEq, V.str.injEq, List.append_nil, List.cons.injEq, and_assoc, and_true, true_and, reduceCtorEq, false_and, and_false, false_or, or_false, exists_false, decide_true, decide_false, Bool.not_true, Bool.not_false, not_true_eq_false, not_false_eq_true, if_true, if_false, Bool.false_eq_true, decide_eq_true_eq, Bool.not_eq_true', decide_eq_false_iff_not, tFldC, sFldC, tProp, tMeth, tMake, tMakeKw, rEqOwn, rInOwn, tNotR, rTru, tTruR, tLstRg, tRg2, t_Lengths____contains___s7, sp_Lengths__period, sp_Lengths__again]
        refine ⟨dx, _, h1, F, la, by omega, dx, _, h1, F, la, fun e he => rIn_nats (n := n % F.P) (Int.natCast_emod _ _).symm he q⟩
theorem pure_Lengths__first (vs : List V) (H : Hp) (Q : VK) (E : XK) (h : sp_Lengths__first K B vs H Q E) : t_Lengths__first K B { nx := fun _ H' => Q .non H', rt := Q } (L2.start ["self", "some", "length"] vs) H := by
  obtain ⟨a, F, rfl, la, ok, q⟩ := h
  obtain ⟨dx, r, h1, rest⟩ := id la
  show t_Lengths__first K B _ [some (.ref a), none, none] H
  simp only [tSeq, tAsg_name, tAsg_sub, tAsg_tup, tRet, tRetN, tDrop, tIfS, tNext, tNever, tBreak, tCont, tAndV, tOrV, tNotV, tAnd, tOr, tNot, tB, tTest, tIf, tCall, tCons, tNil, tVar, tC, tOp, tUn, tTup, tLst, tRevL, tPar, tPar3, tAug, ipI, tCB, tFld, sFld, iList, iTup, iRng1, iRng2, iEnum, iEnumT, tChain, tSl, tPart, tNoPart, tBM, tCallKw, tTruth, tYes, qAdd, qSub, qMul, qMulW, qDiv, qDivW, qMod, qPow, qLt, qLe, qGt, qGe, qIsN, qNotN, qInt, qAbs, qMax2, qMin2, rI0, rI, rU, rEq, rNe, scal, qIxL, qIxT, qLenQ, qSetL, lstOf_upd, tupOf_upd, atI_0, atI_1, atI_2, atI_3, upd_same, upd_upd, ixL0, ixL1, ixL2, HO.lst.injEq, HO.tup.injEq, List.getElem?_cons_zero, List.getElem?_cons_succ, List.set_cons_zero, List.set_cons_succ, Option.some.injEq, exists_eq_left', exists_eq_left, exists_and_left, V.int.injEq, V.bl.injEq, V.ref.injEq, V.str.injEq, List.append_nil, List.cons.injEq, and_assoc, and_true, true_and, reduceCtorEq, false_and, and_false, false_or, or_false, exists_false, decide_true, decide_false, Bool.not_true, Bool.not_false, not_true_eq_false, not_false_eq_true, if_true, if_false, Bool.false_eq_true, decide_eq_true_eq, Bool.not_eq_true', decide_eq_false_iff_not, tFldC, sFldC, tProp, tMeth, tMake, tMakeKw, rEqOwn, rInOwn, tNotR, rTru, tTruR, tLstRg, tRg2, t_Lengths__first, t_Lengths__first_s3, sp_Lengths__early]
  refine ⟨dx, _, h1, F, la, fun e he => ⟨by decide, fun p hp => ?_⟩⟩
  have S1 := Same.newp (o := .tup []) (Same.refl H) hp
  refine ne_nil (S1 _ _ he) upd_same ⟨_, rfl, ?_⟩
  generalize upd H p (.tup []) = H1 at *
  have la1 := la.grow S1
  have h11 := S1 _ _ h1
  have he1 := S1 _ _ he
  cases hE : F.E with
  | cons n l =>
    rw [if_pos (by simp)]
    simp only [tSeq, tAsg_name, tAsg_sub, tAsg_tup, tRet, tRetN, tDrop, tIfS, tNext, tNever, tBreak, tCont, tAndV, tOrV, tNotV, tAnd, tOr, tNot, tB, tTest, tIf, tCall, tCons, tNil, tVar, tC, tOp, tUn, tTup, tLst, tRevL, tPar, tPar3, tAug, ipI, tCB, tFld, sFld, iList, iTup, iRng1, iRng2, iEnum, iEnumT, tChain, tSl, tPart, tNoPart, tBM, tCallKw, tTruth, tYes, qAdd, qSub, qMul, qMulW, qDiv, qDivW, qMod, qPow, qLt, qLe, qGt, qGe, qIsN, qNotN, qInt, qAbs, qMax2, qMin2, rI0, rI, rU, rEq, rNe, scal, qIxL, qIxT, qLenQ, qSetL, lstOf_upd, tupOf_upd, atI_0, atI_1, atI_2, atI_3, upd_same, upd_upd, ixL0, ixL1, ixL2, HO.lst.injEq, HO.tup.injEq, List.getElem?_cons_zero, List.getElem?_cons_succ, List.set_cons_zero, List.set_cons_succ, Option.some.injEq, exists_eq_left', exists_eq_left, exists_and_left, V.int.injEq, V.bl.injEq, V.ref.injEq, V.str.injEq, List.append_nil, List.cons.injEq, and_assoc, and_true, true_and, reduceCtorEq, false_and, and_false, false_or, or_false, exists_false, decide_true, decide_false, Bool.not_true, Bool.not_false, not_true_eq_false, not_false_eq_true, if_true, if_false, Bool.false_eq_true, decide_eq_true_eq, Bool.not_eq_true', decide_eq_false_iff_not, tFldC, sFldC, tProp, tMeth, tMake, tMakeKw, rEqOwn, rInOwn, tNotR, rTru, tTruR, tLstRg, tRg2, t_Lengths__first_b2, t_Lengths__first_s1, sp_Lengths__early]
    refine ⟨dx, _, h11, F, la1, fun e2 he2 => ⟨_, tupOf_of he2, ?_⟩⟩
    rw [hE]
    refine ⟨.int (n : Nat), atI_0, ?_⟩
    have e : firstV F = .int (n : Nat) := by unfold firstV; rw [hE]; rfl
    rw [← e]
    exact q _ S1
  | nil =>
    have e : firstV F = match later F with | n :: _ => .int (n : Nat) | [] => .non := by unfold firstV; rw [hE]; rfl
    rw [if_neg (by simp)]
    simp only [tSeq, tAsg_name, tAsg_sub, tAsg_tup, tRet, tRetN, tDrop, tIfS, tNext, tNever, tBreak, tCont, tAndV, tOrV, tNotV, tAnd, tOr, tNot, tB, tTest, tIf, tCall, tCons, tNil, tVar, tC, tOp, tUn, tTup, tLst, tRevL, tPar, tPar3, tAug, ipI, tCB, tFld, sFld, iList, iTup, iRng1, iRng2, iEnum, iEnumT, tChain, tSl, tPart, tNoPart, tBM, tCallKw, tTruth, tYes, qAdd, qSub, qMul, qMulW, qDiv, qDivW, qMod, qPow, qLt, qLe, qGt, qGe, qIsN, qNotN, qInt, qAbs, qMax2, qMin2, rI0, rI, rU, rEq, rNe, scal, qIxL, qIxT, qLenQ, qSetL, lstOf_upd, tupOf_upd, atI_0, atI_1, atI_2, atI_3, upd_same, upd_upd, ixL0, ixL1, ixL2, HO.lst.injEq, HO.tup.injEq, List.getElem?_cons_zero, List.getElem?_cons_succ, List.set_cons_zero, List.set_cons_succ, Option.some.injEq, exists_eq_left', exists_eq_left, exists_and_left, V.int.injEq, V.bl.injEq, V.ref.injEq, V.str.injEq, List.append_nil, List.cons.injEq, and_assoc, and_true, true_and, reduceCtorEq, false_and, and_false, false_or, or_false, exists_false, decide_true, decide_false, Bool.not_true, Bool.not_false, not_true_eq_false, not_false_eq_true, if_true, if_false, Bool.false_eq_true, decide_eq_true_eq, Bool.not_eq_true', decide_eq_false_iff_not, tFldC, sFldC, tProp, tMeth, tMake, tMakeKw, rEqOwn, rInOwn, tNotR, rTru, tTruR, tLstRg, tRg2, t_Lengths__first_s6, tLc_go, sp_Lengths__start, sp_Lengths__period]
    have ep : ((F.s : Int) + (F.P : Int) - (F.s : Int)).toNat = F.P := by omega
    have o := ok.s2
    have o2 := ok.p2
    have o3 := ok.p1
    refine ⟨dx, _, h11, F, la1, dx, _, h11, F, la1, dx, _, h11, F, la1, by omega, by omega, by omega, by omega, ?_⟩
    rw [ep]
    refine map_rng (fun i => if setS F (F.s + i) then some (V.int ((F.s + i : Nat) : Int)) else none) (by omega) ?_ fun D2 H2 S2 hD2 h2 => ?_
    · intro i H2 R hi S2 k
      have ei : (F.s : Int) + (i : Int) = ((F.s + i : Nat) : Int) := by omega
      simp only [tSeq, tAsg_name, tAsg_sub, tAsg_tup, tRet, tRetN, tDrop, tIfS, tNext, tNever, tBreak, tCont, tAndV, tOrV, tNotV, tAnd, tOr, tNot, tB, tTest, tIf, tCall, tCons, tNil, tVar, tC, tOp, tUn, tTup, tLst, tRevL, tPar, tPar3, tAug, ipI, tCB, tFld, sFld, iList, iTup, iRng1, iRng2, iEnum, iEnumT, tChain, tSl, tPart, tNoPart, tBM, tCallKw, tTruth, tYes, qAdd, qSub, qMul, qMulW, qDiv, qDivW, qMod, qPow, qLt, qLe, qGt, qGe, qIsN, qNotN, qInt, qAbs, qMax2, qMin2, rI0, rI, rU, rEq, rNe, scal, qIxL, qIxT, qLenQ, qSetL, lstOf_upd, tupOf_upd, atI_0, atI_1, atI_2, atI_3, upd_same, upd_upd, ixL0, ixL1, ixL2, HO.lst.injEq, HO.tup.injEq, List.getElem?_cons_zero, List.getElem?_cons_succ, List.set_cons_zero, List.set_cons_succ, Option.some.injEq, exists_eq_left', exists_eq_left, exists_and_left, V.int.injEq, V.bl.injEq, V.ref.injEq, V.str.injEq, List.append_nil, List.cons.injEq, and_assoc, and_true, true_and, reduceCtorEq, false_and, and_false, false_or, or_false, exists_false, decide_true, decide_false, Bool.not_true, Bool.not_false, not_true_eq_false, not_false_eq_true, if_true, if_false, Bool.false_eq_true, decide_eq_true_eq, Bool.not_eq_true', decide_eq_false_iff_not, tFldC, sFldC, tProp, tMeth, tMake, tMakeKw, rEqOwn, rInOwn, tNotR, rTru, tTruR, tLstRg, tRg2, gName_ap, gTup_ap, gCons_ap, gNil_ap, gSub_ap, LcStep, t_Lengths__first_c4, t_Lengths__first_e5, wipe, sp_Lengths__period, sp_Lengths__again, ei]
      refine ⟨dx, _, S2 _ _ h11, F, la1.grow S2, by omega, dx, _, S2 _ _ h11, F, la1.grow S2, fun g hg => rIn_nats (n := (F.s + i) % F.P) (Int.natCast_emod _ _).symm hg ⟨_, rfl, ?_⟩⟩
      have e2 : setS F (F.s + i) = decide ((F.s + i) % F.P ∈ F.A) := by unfold setS; rw [if_neg (by omega)]
      rw [← e2]
      cases c : setS F (F.s + i) with
      | true => rw [c] at k; exact k _ (Same.refl _)
      | false => rw [c] at k; exact k _ (Same.refl _)
    · rw [later_V] at h2
      simp only [tSeq, tAsg_name, tAsg_sub, tAsg_tup, tRet, tRetN, tDrop, tIfS, tNext, tNever, tBreak, tCont, tAndV, tOrV, tNotV, tAnd, tOr, tNot, tB, tTest, tIf, tCall, tCons, tNil, tVar, tC, tOp, tUn, tTup, tLst, tRevL, tPar, tPar3, tAug, ipI, tCB, tFld, sFld, iList, iTup, iRng1, iRng2, iEnum, iEnumT, tChain, tSl, tPart, tNoPart, tBM, tCallKw, tTruth, tYes, qAdd, qSub, qMul, qMulW, qDiv, qDivW, qMod, qPow, qLt, qLe, qGt, qGe, qIsN, qNotN, qInt, qAbs, qMax2, qMin2, rI0, rI, rU, rEq, rNe, scal, qIxL, qIxT, qLenQ, qSetL, lstOf_upd, tupOf_upd, atI_0, atI_1, atI_2, atI_3, upd_same, upd_upd, ixL0, ixL1, ixL2, HO.lst.injEq, HO.tup.injEq, List.getElem?_cons_zero, List.getElem?_cons_succ, List.set_cons_zero, List.set_cons_succ, Option.some.injEq, exists_eq_left', exists_eq_left, exists_and_left, V.int.injEq, V.bl.injEq, V.ref.injEq, V.str.injEq, List.append_nil, List.cons.injEq, and_assoc, and_true, true_and, reduceCtorEq, false_and, and_false, false_or, or_false, exists_false, decide_true, decide_false, Bool.not_true, Bool.not_false, not_true_eq_false, not_false_eq_true, if_true, if_false, Bool.false_eq_true, decide_eq_true_eq, Bool.not_eq_true', decide_eq_false_iff_not, tFldC, sFldC, tProp, tMeth, tMake, tMakeKw, rEqOwn, rInOwn, tNotR, rTru, tTruR, tLstRg, tRg2, t_Lengths__first_s7]
      refine ⟨by decide, fun p2 hp2 => ?_⟩
      have S3 := Same.newp (o := .lst []) (Same.refl H2) hp2
      refine ne_nilL (S3 _ _ h2) upd_same ⟨_, rfl, ?_⟩
      have S4 := S3 _ _ h2
      have qq := q _ ((S1.trans S2).trans S3)
      rw [e] at qq
      cases hL : later F with
      | nil =>
        rw [hL] at qq
        exact qq
      | cons n l =>
        rw [hL] at qq S4
        simp only [tSeq, tAsg_name, tAsg_sub, tAsg_tup, tRet, tRetN, tDrop, tIfS, tNext, tNever, tBreak, tCont, tAndV, tOrV, tNotV, tAnd, tOr, tNot, tB, tTest, tIf, tCall, tCons, tNil, tVar, tC, tOp, tUn, tTup, tLst, tRevL, tPar, tPar3, tAug, ipI, tCB, tFld, sFld, iList, iTup, iRng1, iRng2, iEnum, iEnumT, tChain, tSl, tPart, tNoPart, tBM, tCallKw, tTruth, tYes, qAdd, qSub, qMul, qMulW, qDiv, qDivW, qMod, qPow, qLt, qLe, qGt, qGe, qIsN, qNotN, qInt, qAbs, qMax2, qMin2, rI0, rI, rU, rEq, rNe, scal, qIxL, qIxT, qLenQ, qSetL, lstOf_upd, tupOf_upd, atI_0, atI_1, atI_2, atI_3, upd_same, upd_upd, ixL0, ixL1, ixL2, HO.lst.injEq, HO.tup.injEq, List.getElem?_cons_zero, List.getElem?_cons_succ, List.set_cons_zero, List.set_cons_succ, Option.some.injEq, exists_eq_left', exists_eq_left, exists_and_left, V.int.injEq, V.bl.injEq, V.ref.injEq, V.str.injEq, List.append_nil, List.cons.injEq, and_assoc, and_true, true_and, reduceCtorEq, false_and, and_false, false_or, or_false, exists_false, decide_true, decide_false, Bool.not_true, Bool.not_false, not_true_eq_false, not_false_eq_true, if_true, if_false, Bool.false_eq_true, decide_eq_true_eq, Bool.not_eq_true', decide_eq_false_iff_not, tFldC, sFldC, tProp, tMeth, tMake, tMakeKw, rEqOwn, rInOwn, tNotR, rTru, tTruR, tLstRg, tRg2, lstOf_of S4]
        exact ⟨_, atI_0, qq⟩
theorem pure_Lengths__endless (vs : List V) (H : Hp) (Q : VK) (E : XK) (h : sp_Lengths__endless K B vs H Q E) : t_Lengths__endless K B { nx := fun _ H' => Q .non H', rt := Q } (L2.start ["self"] vs) H := by
  obtain ⟨a, F, rfl, la, q⟩ := h
  obtain ⟨dx, r, h1, rest⟩ := id la
  show t_Lengths__endless K B _ [some (.ref a)] H
  simp only [tSeq, tAsg_name, tAsg_sub, tAsg_tup, tRet, tRetN, tDrop, tIfS, tNext, tNever, tBreak, tCont, tAndV, tOrV, tNotV, tAnd, tOr, tNot, tB, tTest, tIf, tCall, tCons, tNil, tVar, tC, tOp, tUn, tTup, tLst, tRevL, tPar, tPar3, tAug, ipI, tCB, tFld, sFld, iList, iTup, iRng1, iRng2, iEnum, iEnumT, tChain, tSl, tPart, tNoPart, tBM, tCallKw, tTruth, tYes, qAdd, qSub, qMul, qMulW, qDiv, qDivW, qMod, qPow, qLt, qLe, qGt, qGe, qIsN, qNotN, qInt, qAbs, qMax2, qMin2, rI0, rI, rU, rEq, rNe, scal, qIxL, qIxT, qLenQ, qSetL, lstOf_upd, tupOf_upd, atI_0, atI_1, atI_2, atI_3, upd_same, upd_upd, ixL0, ixL1, ixL2, HO.lst.injEq, HO.tup.injEq, List.getElem?_cons_zero, List.getElem?_cons_succ, List.set_cons_zero, List.set_cons_succ, Option.some.injEq, exists_eq_left', exists_eq_left, exists_and_left, V.int.injEq, V.bl.injEq, V.ref.injEq, V.str.injEq, List.append_nil, List.cons.injEq, and_assoc, and_true, true_and, reduceCtorEq, false_and, and_false, false_or, or_false, exists_false, decide_true, decide_false, Bool.not_true, Bool.not_false, not_true_eq_false, not_false_eq_true, if_true, if_false, Bool.false_eq_true, decide_eq_true_eq, Bool.not_eq_true', decide_eq_false_iff_not, tFldC, sFldC, tProp, tMeth, tMake, tMakeKw, rEqOwn, rInOwn, tNotR, rTru, tTruR, tLstRg, tRg2, t_Lengths__endless, t_Lengths__endless_s1, sp_Lengths__again]
  refine ⟨dx, _, h1, F, la, fun e he => ⟨by decide, fun p hp => ?_⟩⟩
  have S1 := Same.newp (o := .tup []) (Same.refl H) hp
  exact ne_nil (S1 _ _ he) upd_same (q _ S1)
theorem pure_Lengths____eq__ (vs : List V) (H : Hp) (Q : VK) (E : XK) (h : sp_Lengths____eq__ K B vs H Q E) : t_Lengths____eq__ K B { nx := fun _ H' => Q .non H', rt := Q } (L2.start ["self", "other"] vs) H := by
  obtain ⟨a, F, v, rfl, la, q⟩ := h
  obtain ⟨dx, r, h1, rest⟩ := id la
  show t_Lengths____eq__ K B _ [some (.ref a), some v] H
  simp only [tSeq, tAsg_name, tAsg_sub, tAsg_tup, tRet, tRetN, tDrop, tIfS, tNext, tNever, tBreak, tCont, tAndV, tOrV, tNotV, tAnd, tOr, tNot, tB, tTest, tIf, tCall, tCons, tNil, tVar, tC, tOp, tUn, tTup, tLst, tRevL, tPar, tPar3, tAug, ipI, tCB, tFld, sFld, iList, iTup, iRng1, iRng2, iEnum, iEnumT, tChain, tSl, tPart, tNoPart, tBM, tCallKw, tTruth, tYes, qAdd, qSub, qMul, qMulW, qDiv, qDivW, qMod, qPow, qLt, qLe, qGt, qGe, qIsN, qNotN, qInt, qAbs, qMax2, qMin2, rI0, rI, rU, rEq, rNe, scal, qIxL, qIxT, qLenQ, qSetL, lstOf_upd, tupOf_upd, atI_0, atI_1, atI_2, atI_3, upd_same, upd_upd, ixL0, ixL1, ixL2, HO.lst.injEq, HO.tup.injEq, List.getElem?_cons_zero, List.getElem?_cons_succ, List.set_cons_zero, List.set_cons_succ, Option.some.injEq, exists_eq_left', exists_eq_left, exists_and_left, V.int.injEq, V.bl.injEq, V.ref.injEq, V.str.injEq, List.append_nil, List.cons.injEq, and_assoc, and_true, true_and, reduceCtorEq, false_and, and_false, false_or, or_false, exists_false, decide_true, decide_false, Bool.not_true, Bool.not_false, not_true_eq_false, not_false_eq_true, if_true, if_false, Bool.false_eq_true, decide_eq_true_eq, Bool.not_eq_true', decide_eq_false_iff_not, tFldC, sFldC, tProp, tMeth, tMake, tMakeKw, rEqOwn, rInOwn, tNotR, rTru, tTruR, tLstRg, tRg2, t_Lengths____eq__, t_Lengths____eq___s1]
  rcases q with ⟨b, G, rfl, lb, q⟩ | ⟨p, xs, rfl, hp, q⟩
  · obtain ⟨dy, r2, h2, rest2⟩ := id lb
    refine ⟨_, _, _, _, _, rfl, .own _, T.i_Lengths.ty h2, T.ki_own, true, rfl, ?_⟩
    refine iteT ⟨dx, _, h1, _, lk_held _ _, b, rfl, dy, _, h2, _, lk_held _ _, _, _, dp_form rest, dp_form rest2, shaped_form _, shaped_form _, ?_⟩
    rw [eqv_form]
    exact q
  · exact ⟨_, _, _, _, _, rfl, .own _, tyx_tup hp, T.ki_tup, false, rfl, iteF q⟩
end
end RA.K10

namespace RA.K10
open PySem PySem.Spec L2 RA
open PyProof.Rows hiding St
/-- an ascending row below lo + i -/
def AscTo (lo i : Nat) (acc : List V) : Prop := ∃ L : List Nat, acc = ofNats L ∧ (∀ n ∈ L, lo ≤ n ∧ n < lo + i) ∧ L.Pairwise (· < ·) ∧ L.length ≤ i
theorem AscTo.zero {lo : Nat} : AscTo lo 0 [] := ⟨[], rfl, fun n h => by simp at h, .nil, Nat.le_refl _⟩
theorem AscTo.skip {lo i : Nat} {acc : List V} (h : AscTo lo i acc) : AscTo lo (i + 1) (acc ++ (none : Option V).toList) := by
  obtain ⟨L, e, h1, h2, h3⟩ := h
  exact ⟨L, by simpa using e, fun n hn => ⟨(h1 n hn).1, by have := (h1 n hn).2; omega⟩, h2, by omega⟩
theorem AscTo.snoc {lo i : Nat} {acc : List V} {z : Int} (h : AscTo lo i acc) (e : z = ((lo + i : Nat) : Int)) : AscTo lo (i + 1) (acc ++ (some (V.int z)).toList) := by
  obtain ⟨L, e1, h1, h2, h3⟩ := h
  refine ⟨L ++ [lo + i], by rw [e1, e, ofNats_append]; rfl, ?_, ?_, by simp; omega⟩
  · intro n hn
    rcases List.mem_append.mp hn with z | z
    · exact ⟨(h1 n z).1, by have := (h1 n z).2; omega⟩
    · rw [List.mem_singleton] at z
      omega
  · rw [List.pairwise_append]
    exact ⟨h2, List.pairwise_singleton _ _, fun a ha b hb => by rw [List.mem_singleton] at hb; have := (h1 a ha).2; omega⟩
theorem AscTo.len {lo i : Nat} {acc : List V} (h : AscTo lo i acc) : acc.length ≤ i := by
  obtain ⟨L, e, _, _, h3⟩ := h
  rw [e, ofNats_length]
  exact h3
def pick (f : Nat → Bool) (n : Nat) : List Nat := (List.range n).filterMap fun i => if f i then some i else none
theorem mem_pick {f : Nat → Bool} {n x : Nat} : x ∈ pick f n ↔ x < n ∧ f x = true := by
  unfold pick
  rw [List.mem_filterMap]
  constructor
  · rintro ⟨i, hi, h⟩
    rw [List.mem_range] at hi
    split at h
    · next z => cases h; exact ⟨hi, z⟩
    · cases h
  · rintro ⟨h1, h2⟩
    exact ⟨x, List.mem_range.mpr h1, by rw [if_pos h2]⟩
theorem pick_asc (f : Nat → Bool) (n : Nat) : (pick f n).Pairwise (· < ·) := by
  unfold pick
  rw [List.pairwise_filterMap]
  refine List.Pairwise.imp ?_ List.pairwise_lt_range
  intro a b h x hx y hy
  split at hx
  · split at hy
    · cases hx; cases hy; exact h
    · cases hy
  · cases hx
theorem early_asc (S : Nat → Bool) (n : Nat) : ((List.range n).filterMap fun i => if S (i + 1) then some (i + 1) else none).Pairwise (· < ·) := by
  rw [List.pairwise_filterMap]
  refine List.Pairwise.imp ?_ List.pairwise_lt_range
  intro a b h x hx y hy
  split at hx
  · split at hy
    · cases hx; cases hy; omega
    · cases hy
  · cases hx
/-- where f is not the same k further on -/
def diffs (f : Nat → Bool) (s k : Nat) : List Nat := (List.range (61 - k - s)).filterMap fun i => if f (s + i) = f (s + i + k) then none else some (s + i)
theorem diffs_V (f : Nat → Bool) (s k : Nat) : (List.range (61 - k - s)).filterMap (fun i => if f (s + i) = f (s + i + k) then none else some (V.int ((s + i : Nat) : Int))) = ofNats (diffs f s k) := by
  unfold diffs ofNats
  rw [List.map_filterMap]
  congr 1
  funext i
  by_cases c : f (s + i) = f (s + i + k) <;> simp [c]
theorem diffs_nil {f : Nat → Bool} {s k : Nat} : diffs f s k = [] ↔ ∀ i, s ≤ i → i + k < 61 → f i = f (i + k) := by
  unfold diffs
  rw [List.filterMap_eq_nil_iff]
  constructor
  · intro h i hi hk
    have := h (i - s) (List.mem_range.mpr (by omega))
    rw [show s + (i - s) = i by omega] at this
    by_cases c : f i = f (i + k)
    · exact c
    · rw [if_neg c] at this; cases this
  · intro h i hi
    rw [List.mem_range] at hi
    rw [if_pos (h (s + i) (by omega) (by omega))]
theorem eq_nilL {K : PySem.W.Frag} {H : Hp} {e p : Addr} {L : List Nat} {Q : VK} (h1 : H e = some (.lst (ofNats L))) (h2 : H p = some (.lst [])) (q : Q (.bl L.isEmpty) H) : rEqD K (.ref e) (.ref p) H Q :=
  ⟨_, _, .lst (SqL.of h1) (dpall_nats L), .lst (SqL.of h2) .nil, shaped_lst (lay_nats L) (Nat.le_of_eq (dep_nats L)) (by decide), rfl, by rw [eqv_nilL]; exact q⟩
section
variable {K : PySem.W.Frag} {B : CA} {mg : Str → Option Value} (T : Txt K mg B)
include T
theorem pure__law_flagged (vs : List V) (H : Hp) (Q : VK) (E : XK) (h : sp__law_flagged K B vs H Q E) : t__law_flagged K B { nx := fun _ H' => Q .non H', rt := Q } (L2.start ["_law_shape", "_law_early_here", "_law_begin", "_law_again_here", "_law_turn", "_law_k"] vs) H := by
  obtain ⟨r, F, rfl, ⟨e, g, h1, h2, h3⟩, p1, q⟩ := h
  show t__law_flagged K B _ [some (.ref r), none, none, none, none, none] H
  have hz : sizeLine = 16777216 := rfl
  simp only [tSeq, tAsg_name, tAsg_sub, tAsg_tup, tRet, tRetN, tDrop, tIfS, tNext, tNever, tBreak, tCont, tAndV, tOrV, tNotV, tAnd, tOr, tNot, tB, tTest, tIf, tCall, tCons, tNil, tVar, tC, tOp, tUn, tTup, tLst, tRevL, tPar, tPar3, tAug, ipI, tCB, tFld, sFld, iList, iTup, iRng1, iRng2, iEnum, iEnumT, tChain, tSl, tPart, tNoPart, tBM, tCallKw, tTruth, tYes, qAdd, qSub, qMul, qMulW, qDiv, qDivW, qMod, qPow, qLt, qLe, qGt, qGe, qIsN, qNotN, qInt, qAbs, qMax2, qMin2, rI0, rI, rU, rEq, rNe, scal, qIxL, qIxT, qLenQ, qSetL, lstOf_upd, tupOf_upd, atI_0, atI_1, atI_2, atI_3, upd_same, upd_upd, ixL0, ixL1, ixL2, HO.lst.injEq, HO.tup.injEq, List.getElem?_cons_zero, List.getElem?_cons_succ, List.set_cons_zero, List.set_cons_succ, Option.some.injEq, exists_eq_left', exists_eq_left, exists_and_left, V.int.injEq, V.bl.injEq, V.ref.injEq, V.str.injEq, List.append_nil, List.cons.injEq, and_assoc, and_true, true_and, reduceCtorEq, false_and, and_false, false_or, or_false, exists_false, decide_true, decide_false, Bool.not_true, Bool.not_false, not_true_eq_false, not_false_eq_true, if_true, if_false, Bool.false_eq_true, decide_eq_true_eq, Bool.not_eq_true', decide_eq_false_iff_not, tFldC, sFldC, tProp, tMeth, tMake, tMakeKw, rEqOwn, rInOwn, tNotR, rTru, tTruR, tLstRg, tRg2, t__law_flagged, t__law_flagged_s1, gTup_ap, gCons_ap, gName_ap, gNil_ap]
  refine ⟨_, SqT.of h1, rfl, ?_⟩
  simp only [tSeq, tAsg_name, tAsg_sub, tAsg_tup, tRet, tRetN, tDrop, tIfS, tNext, tNever, tBreak, tCont, tAndV, tOrV, tNotV, tAnd, tOr, tNot, tB, tTest, tIf, tCall, tCons, tNil, tVar, tC, tOp, tUn, tTup, tLst, tRevL, tPar, tPar3, tAug, ipI, tCB, tFld, sFld, iList, iTup, iRng1, iRng2, iEnum, iEnumT, tChain, tSl, tPart, tNoPart, tBM, tCallKw, tTruth, tYes, qAdd, qSub, qMul, qMulW, qDiv, qDivW, qMod, qPow, qLt, qLe, qGt, qGe, qIsN, qNotN, qInt, qAbs, qMax2, qMin2, rI0, rI, rU, rEq, rNe, scal, qIxL, qIxT, qLenQ, qSetL, lstOf_upd, tupOf_upd, atI_0, atI_1, atI_2, atI_3, upd_same, upd_upd, ixL0, ixL1, ixL2, HO.lst.injEq, HO.tup.injEq, List.getElem?_cons_zero, List.getElem?_cons_succ, List.set_cons_zero, List.set_cons_succ, Option.some.injEq, exists_eq_left', exists_eq_left, exists_and_left, V.int.injEq, V.bl.injEq, V.ref.injEq, V.str.injEq, List.append_nil, List.cons.injEq, and_assoc, and_true, true_and, reduceCtorEq, false_and, and_false, false_or, or_false, exists_false, decide_true, decide_false, Bool.not_true, Bool.not_false, not_true_eq_false, not_false_eq_true, if_true, if_false, Bool.false_eq_true, decide_eq_true_eq, Bool.not_eq_true', decide_eq_false_iff_not, tFldC, sFldC, tProp, tMeth, tMake, tMakeKw, rEqOwn, rInOwn, tNotR, rTru, tTruR, tLstRg, tRg2, t__law_flagged_s3, tLc_go]
  refine ⟨by decide, by decide, map_rng (n := 61) (fun i => some (V.bl (setS F i))) (by omega) ?_ fun D H1 S1 hD hd => q H1 D S1 hD ?_⟩
  · intro i H1 R hi S1 k
    simp only [tSeq, tAsg_name, tAsg_sub, tAsg_tup, tRet, tRetN, tDrop, tIfS, tNext, tNever, tBreak, tCont, tAndV, tOrV, tNotV, tAnd, tOr, tNot, tB, tTest, tIf, tCall, tCons, tNil, tVar, tC, tOp, tUn, tTup, tLst, tRevL, tPar, tPar3, tAug, ipI, tCB, tFld, sFld, iList, iTup, iRng1, iRng2, iEnum, iEnumT, tChain, tSl, tPart, tNoPart, tBM, tCallKw, tTruth, tYes, qAdd, qSub, qMul, qMulW, qDiv, qDivW, qMod, qPow, qLt, qLe, qGt, qGe, qIsN, qNotN, qInt, qAbs, qMax2, qMin2, rI0, rI, rU, rEq, rNe, scal, qIxL, qIxT, qLenQ, qSetL, lstOf_upd, tupOf_upd, atI_0, atI_1, atI_2, atI_3, upd_same, upd_upd, ixL0, ixL1, ixL2, HO.lst.injEq, HO.tup.injEq, List.getElem?_cons_zero, List.getElem?_cons_succ, List.set_cons_zero, List.set_cons_succ, Option.some.injEq, exists_eq_left', exists_eq_left, exists_and_left, V.int.injEq, V.bl.injEq, V.ref.injEq, V.str.injEq, List.append_nil, List.cons.injEq, and_assoc, and_true, true_and, reduceCtorEq, false_and, and_false, false_or, or_false, exists_false, decide_true, decide_false, Bool.not_true, Bool.not_false, not_true_eq_false, not_false_eq_true, if_true, if_false, Bool.false_eq_true, decide_eq_true_eq, Bool.not_eq_true', decide_eq_false_iff_not, tFldC, sFldC, tProp, tMeth, tMake, tMakeKw, rEqOwn, rInOwn, tNotR, rTru, tTruR, tLstRg, tRg2, gName_ap, gTup_ap, gCons_ap, gNil_ap, gSub_ap, LcStep, t__law_flagged_e2, wipe]
    unfold setS at k
    by_cases c : i < F.s
    · rw [if_pos c] at k
      rw [if_pos (by omega)]
      exact rIn_nats (n := i) (by omega) (S1 _ _ h2) (k _ (Same.refl _))
    · rw [if_neg c] at k
      rw [if_neg (by omega)]
      have ei : (0 : Int) + (i : Int) = ((i : Nat) : Int) := by omega
      simp only [tSeq, tAsg_name, tAsg_sub, tAsg_tup, tRet, tRetN, tDrop, tIfS, tNext, tNever, tBreak, tCont, tAndV, tOrV, tNotV, tAnd, tOr, tNot, tB, tTest, tIf, tCall, tCons, tNil, tVar, tC, tOp, tUn, tTup, tLst, tRevL, tPar, tPar3, tAug, ipI, tCB, tFld, sFld, iList, iTup, iRng1, iRng2, iEnum, iEnumT, tChain, tSl, tPart, tNoPart, tBM, tCallKw, tTruth, tYes, qAdd, qSub, qMul, qMulW, qDiv, qDivW, qMod, qPow, qLt, qLe, qGt, qGe, qIsN, qNotN, qInt, qAbs, qMax2, qMin2, rI0, rI, rU, rEq, rNe, scal, qIxL, qIxT, qLenQ, qSetL, lstOf_upd, tupOf_upd, atI_0, atI_1, atI_2, atI_3, upd_same, upd_upd, ixL0, ixL1, ixL2, HO.lst.injEq, HO.tup.injEq, List.getElem?_cons_zero, List.getElem?_cons_succ, List.set_cons_zero, List.set_cons_succ, Option.some.injEq, exists_eq_left', exists_eq_left, exists_and_left, V.int.injEq, V.bl.injEq, V.ref.injEq, V.str.injEq, List.append_nil, List.cons.injEq, and_assoc, and_true, true_and, reduceCtorEq, false_and, and_false, false_or, or_false, exists_false, decide_true, decide_false, Bool.not_true, Bool.not_false, not_true_eq_false, not_false_eq_true, if_true, if_false, Bool.false_eq_true, decide_eq_true_eq, Bool.not_eq_true', decide_eq_false_iff_not, tFldC, sFldC, tProp, tMeth, tMake, tMakeKw, rEqOwn, rInOwn, tNotR, rTru, tTruR, tLstRg, tRg2, ei]
      exact ⟨by omega, rIn_nats (n := i % F.P) (Int.natCast_emod _ _).symm (S1 _ _ h3) (k _ (Same.refl _))⟩
  · rw [hd, fm_some]
    rfl
theorem pure__law_drawn_set (vs : List V) (H : Hp) (Q : VK) (E : XK) (h : sp__law_drawn_set K B vs H Q E) : t__law_drawn_set K B { nx := fun _ H' => Q .non H', rt := Q } (L2.start ["_law_bag_here", "_law_begin", "_law_turn", "_law_early_here", "_law_again_here", "_law_k"] vs) H := by
  obtain ⟨p, rfl, hp, q⟩ := h
  show t__law_drawn_set K B _ [some (.ref p), none, none, none, none, none] H
  have hz : sizeLine = 16777216 := rfl
  simp only [tSeq, tAsg_name, tAsg_sub, tAsg_tup, tRet, tRetN, tDrop, tIfS, tNext, tNever, tBreak, tCont, tAndV, tOrV, tNotV, tAnd, tOr, tNot, tB, tTest, tIf, tCall, tCons, tNil, tVar, tC, tOp, tUn, tTup, tLst, tRevL, tPar, tPar3, tAug, ipI, tCB, tFld, sFld, iList, iTup, iRng1, iRng2, iEnum, iEnumT, tChain, tSl, tPart, tNoPart, tBM, tCallKw, tTruth, tYes, qAdd, qSub, qMul, qMulW, qDiv, qDivW, qMod, qPow, qLt, qLe, qGt, qGe, qIsN, qNotN, qInt, qAbs, qMax2, qMin2, rI0, rI, rU, rEq, rNe, scal, qIxL, qIxT, qLenQ, qSetL, lstOf_upd, tupOf_upd, atI_0, atI_1, atI_2, atI_3, upd_same, upd_upd, ixL0, ixL1, ixL2, HO.lst.injEq, HO.tup.injEq, List.getElem?_cons_zero, List.getElem?_cons_succ, List.set_cons_zero, List.set_cons_succ, Option.some.injEq, exists_eq_left', exists_eq_left, exists_and_left, V.int.injEq, V.bl.injEq, V.ref.injEq, V.str.injEq, List.append_nil, List.cons.injEq, and_assoc, and_true, true_and, reduceCtorEq, false_and, and_false, false_or, or_false, exists_false, decide_true, decide_false, Bool.not_true, Bool.not_false, not_true_eq_false, not_false_eq_true, if_true, if_false, Bool.false_eq_true, decide_eq_true_eq, Bool.not_eq_true', decide_eq_false_iff_not, tFldC, sFldC, tProp, tMeth, tMake, tMakeKw, rEqOwn, rInOwn, tNotR, rTru, tTruR, tLstRg, tRg2, t__law_drawn_set, t__law_drawn_set_s1]
  refine draw_c hp rfl (w := 8) (by decide) (by decide) fun s0 H1 hs0 d1 => ?_
  simp only [tSeq, tAsg_name, tAsg_sub, tAsg_tup, tRet, tRetN, tDrop, tIfS, tNext, tNever, tBreak, tCont, tAndV, tOrV, tNotV, tAnd, tOr, tNot, tB, tTest, tIf, tCall, tCons, tNil, tVar, tC, tOp, tUn, tTup, tLst, tRevL, tPar, tPar3, tAug, ipI, tCB, tFld, sFld, iList, iTup, iRng1, iRng2, iEnum, iEnumT, tChain, tSl, tPart, tNoPart, tBM, tCallKw, tTruth, tYes, qAdd, qSub, qMul, qMulW, qDiv, qDivW, qMod, qPow, qLt, qLe, qGt, qGe, qIsN, qNotN, qInt, qAbs, qMax2, qMin2, rI0, rI, rU, rEq, rNe, scal, qIxL, qIxT, qLenQ, qSetL, lstOf_upd, tupOf_upd, atI_0, atI_1, atI_2, atI_3, upd_same, upd_upd, ixL0, ixL1, ixL2, HO.lst.injEq, HO.tup.injEq, List.getElem?_cons_zero, List.getElem?_cons_succ, List.set_cons_zero, List.set_cons_succ, Option.some.injEq, exists_eq_left', exists_eq_left, exists_and_left, V.int.injEq, V.bl.injEq, V.ref.injEq, V.str.injEq, List.append_nil, List.cons.injEq, and_assoc, and_true, true_and, reduceCtorEq, false_and, and_false, false_or, or_false, exists_false, decide_true, decide_false, Bool.not_true, Bool.not_false, not_true_eq_false, not_false_eq_true, if_true, if_false, Bool.false_eq_true, decide_eq_true_eq, Bool.not_eq_true', decide_eq_false_iff_not, tFldC, sFldC, tProp, tMeth, tMake, tMakeKw, rEqOwn, rInOwn, tNotR, rTru, tTruR, tLstRg, tRg2]
  refine draw_c d1.2 rfl (w := 6) (by decide) (by decide) fun p0 H2 hp0 d2 => ?_
  have D2 := d1.trans d2
  simp only [tSeq, tAsg_name, tAsg_sub, tAsg_tup, tRet, tRetN, tDrop, tIfS, tNext, tNever, tBreak, tCont, tAndV, tOrV, tNotV, tAnd, tOr, tNot, tB, tTest, tIf, tCall, tCons, tNil, tVar, tC, tOp, tUn, tTup, tLst, tRevL, tPar, tPar3, tAug, ipI, tCB, tFld, sFld, iList, iTup, iRng1, iRng2, iEnum, iEnumT, tChain, tSl, tPart, tNoPart, tBM, tCallKw, tTruth, tYes, qAdd, qSub, qMul, qMulW, qDiv, qDivW, qMod, qPow, qLt, qLe, qGt, qGe, qIsN, qNotN, qInt, qAbs, qMax2, qMin2, rI0, rI, rU, rEq, rNe, scal, qIxL, qIxT, qLenQ, qSetL, lstOf_upd, tupOf_upd, atI_0, atI_1, atI_2, atI_3, upd_same, upd_upd, ixL0, ixL1, ixL2, HO.lst.injEq, HO.tup.injEq, List.getElem?_cons_zero, List.getElem?_cons_succ, List.set_cons_zero, List.set_cons_succ, Option.some.injEq, exists_eq_left', exists_eq_left, exists_and_left, V.int.injEq, V.bl.injEq, V.ref.injEq, V.str.injEq, List.append_nil, List.cons.injEq, and_assoc, and_true, true_and, reduceCtorEq, false_and, and_false, false_or, or_false, exists_false, decide_true, decide_false, Bool.not_true, Bool.not_false, not_true_eq_false, not_false_eq_true, if_true, if_false, Bool.false_eq_true, decide_eq_true_eq, Bool.not_eq_true', decide_eq_false_iff_not, tFldC, sFldC, tProp, tMeth, tMake, tMakeKw, rEqOwn, rInOwn, tNotR, rTru, tTruR, tLstRg, tRg2, t__law_drawn_set_s4, tLc_go]
  have e1 : ((1 : Int) + (s0 : Int) - 1).toNat = s0 := by omega
  have e2 : ((1 : Int) + (p0 : Int)).toNat = p0 + 1 := by omega
  rw [e1]
  refine ⟨by omega, by omega, by omega, by omega, draw_rng D2.2 (AscTo 1) (by omega) AscTo.zero (fun i acc _ h => h.len) ?_ fun D acc H3 d3 hD hDp hd hacc => ?_⟩
  · intro i acc H3 R hi hacc d3 k
    simp only [tSeq, tAsg_name, tAsg_sub, tAsg_tup, tRet, tRetN, tDrop, tIfS, tNext, tNever, tBreak, tCont, tAndV, tOrV, tNotV, tAnd, tOr, tNot, tB, tTest, tIf, tCall, tCons, tNil, tVar, tC, tOp, tUn, tTup, tLst, tRevL, tPar, tPar3, tAug, ipI, tCB, tFld, sFld, iList, iTup, iRng1, iRng2, iEnum, iEnumT, tChain, tSl, tPart, tNoPart, tBM, tCallKw, tTruth, tYes, qAdd, qSub, qMul, qMulW, qDiv, qDivW, qMod, qPow, qLt, qLe, qGt, qGe, qIsN, qNotN, qInt, qAbs, qMax2, qMin2, rI0, rI, rU, rEq, rNe, scal, qIxL, qIxT, qLenQ, qSetL, lstOf_upd, tupOf_upd, atI_0, atI_1, atI_2, atI_3, upd_same, upd_upd, ixL0, ixL1, ixL2, HO.lst.injEq, HO.tup.injEq, List.getElem?_cons_zero, List.getElem?_cons_succ, List.set_cons_zero, List.set_cons_succ, Option.some.injEq, exists_eq_left', exists_eq_left, exists_and_left, V.int.injEq, V.bl.injEq, V.ref.injEq, V.str.injEq, List.append_nil, List.cons.injEq, and_assoc, and_true, true_and, reduceCtorEq, false_and, and_false, false_or, or_false, exists_false, decide_true, decide_false, Bool.not_true, Bool.not_false, not_true_eq_false, not_false_eq_true, if_true, if_false, Bool.false_eq_true, decide_eq_true_eq, Bool.not_eq_true', decide_eq_false_iff_not, tFldC, sFldC, tProp, tMeth, tMake, tMakeKw, rEqOwn, rInOwn, tNotR, rTru, tTruR, tLstRg, tRg2, gName_ap, gTup_ap, gCons_ap, gNil_ap, gSub_ap, LcStep, t__law_drawn_set_c2, t__law_drawn_set_e3, wipe]
    refine draw_c d3.2 rfl (w := 2) (by decide) (by decide) fun r H4 hr d4 => ?_
    simp only [tSeq, tAsg_name, tAsg_sub, tAsg_tup, tRet, tRetN, tDrop, tIfS, tNext, tNever, tBreak, tCont, tAndV, tOrV, tNotV, tAnd, tOr, tNot, tB, tTest, tIf, tCall, tCons, tNil, tVar, tC, tOp, tUn, tTup, tLst, tRevL, tPar, tPar3, tAug, ipI, tCB, tFld, sFld, iList, iTup, iRng1, iRng2, iEnum, iEnumT, tChain, tSl, tPart, tNoPart, tBM, tCallKw, tTruth, tYes, qAdd, qSub, qMul, qMulW, qDiv, qDivW, qMod, qPow, qLt, qLe, qGt, qGe, qIsN, qNotN, qInt, qAbs, qMax2, qMin2, rI0, rI, rU, rEq, rNe, scal, qIxL, qIxT, qLenQ, qSetL, lstOf_upd, tupOf_upd, atI_0, atI_1, atI_2, atI_3, upd_same, upd_upd, ixL0, ixL1, ixL2, HO.lst.injEq, HO.tup.injEq, List.getElem?_cons_zero, List.getElem?_cons_succ, List.set_cons_zero, List.set_cons_succ, Option.some.injEq, exists_eq_left', exists_eq_left, exists_and_left, V.int.injEq, V.bl.injEq, V.ref.injEq, V.str.injEq, List.append_nil, List.cons.injEq, and_assoc, and_true, true_and, reduceCtorEq, false_and, and_false, false_or, or_false, exists_false, decide_true, decide_false, Bool.not_true, Bool.not_false, not_true_eq_false, not_false_eq_true, if_true, if_false, Bool.false_eq_true, decide_eq_true_eq, Bool.not_eq_true', decide_eq_false_iff_not, tFldC, sFldC, tProp, tMeth, tMake, tMakeKw, rEqOwn, rInOwn, tNotR, rTru, tTruR, tLstRg, tRg2]
    by_cases c : r = 0
    · rw [if_pos (by omega)]
      exact k _ _ d4 (hacc.snoc (by omega))
    · rw [if_neg (by omega)]
      exact k _ _ d4 hacc.skip
  · obtain ⟨E0', rfl, he1, he2, _⟩ := hacc
    simp only [tSeq, tAsg_name, tAsg_sub, tAsg_tup, tRet, tRetN, tDrop, tIfS, tNext, tNever, tBreak, tCont, tAndV, tOrV, tNotV, tAnd, tOr, tNot, tB, tTest, tIf, tCall, tCons, tNil, tVar, tC, tOp, tUn, tTup, tLst, tRevL, tPar, tPar3, tAug, ipI, tCB, tFld, sFld, iList, iTup, iRng1, iRng2, iEnum, iEnumT, tChain, tSl, tPart, tNoPart, tBM, tCallKw, tTruth, tYes, qAdd, qSub, qMul, qMulW, qDiv, qDivW, qMod, qPow, qLt, qLe, qGt, qGe, qIsN, qNotN, qInt, qAbs, qMax2, qMin2, rI0, rI, rU, rEq, rNe, scal, qIxL, qIxT, qLenQ, qSetL, lstOf_upd, tupOf_upd, atI_0, atI_1, atI_2, atI_3, upd_same, upd_upd, ixL0, ixL1, ixL2, HO.lst.injEq, HO.tup.injEq, List.getElem?_cons_zero, List.getElem?_cons_succ, List.set_cons_zero, List.set_cons_succ, Option.some.injEq, exists_eq_left', exists_eq_left, exists_and_left, V.int.injEq, V.bl.injEq, V.ref.injEq, V.str.injEq, List.append_nil, List.cons.injEq, and_assoc, and_true, true_and, reduceCtorEq, false_and, and_false, false_or, or_false, exists_false, decide_true, decide_false, Bool.not_true, Bool.not_false, not_true_eq_false, not_false_eq_true, if_true, if_false, Bool.false_eq_true, decide_eq_true_eq, Bool.not_eq_true', decide_eq_false_iff_not, tFldC, sFldC, tProp, tMeth, tMake, tMakeKw, rEqOwn, rInOwn, tNotR, rTru, tTruR, tLstRg, tRg2, qTuple]
    refine ⟨_, .inl ⟨SqL.of hd, fun e hE => ?_⟩⟩
    have D3 := D2.trans d3
    have D3' := d3.new (o := .tup (ofNats E0')) hE
    have hev : (upd H3 e (.tup (ofNats E0'))) e = some (.tup (ofNats E0')) := upd_same
    have D4 := D3.new (o := .tup (ofNats E0')) hE
    have hep := D3.2.not hE
    revert D4 hev
    generalize upd H3 e (.tup (ofNats E0')) = H4
    intro hev D4
    simp only [tSeq, tAsg_name, tAsg_sub, tAsg_tup, tRet, tRetN, tDrop, tIfS, tNext, tNever, tBreak, tCont, tAndV, tOrV, tNotV, tAnd, tOr, tNot, tB, tTest, tIf, tCall, tCons, tNil, tVar, tC, tOp, tUn, tTup, tLst, tRevL, tPar, tPar3, tAug, ipI, tCB, tFld, sFld, iList, iTup, iRng1, iRng2, iEnum, iEnumT, tChain, tSl, tPart, tNoPart, tBM, tCallKw, tTruth, tYes, qAdd, qSub, qMul, qMulW, qDiv, qDivW, qMod, qPow, qLt, qLe, qGt, qGe, qIsN, qNotN, qInt, qAbs, qMax2, qMin2, rI0, rI, rU, rEq, rNe, scal, qIxL, qIxT, qLenQ, qSetL, lstOf_upd, tupOf_upd, atI_0, atI_1, atI_2, atI_3, upd_same, upd_upd, ixL0, ixL1, ixL2, HO.lst.injEq, HO.tup.injEq, List.getElem?_cons_zero, List.getElem?_cons_succ, List.set_cons_zero, List.set_cons_succ, Option.some.injEq, exists_eq_left', exists_eq_left, exists_and_left, V.int.injEq, V.bl.injEq, V.ref.injEq, V.str.injEq, List.append_nil, List.cons.injEq, and_assoc, and_true, true_and, reduceCtorEq, false_and, and_false, false_or, or_false, exists_false, decide_true, decide_false, Bool.not_true, Bool.not_false, not_true_eq_false, not_false_eq_true, if_true, if_false, Bool.false_eq_true, decide_eq_true_eq, Bool.not_eq_true', decide_eq_false_iff_not, tFldC, sFldC, tProp, tMeth, tMake, tMakeKw, rEqOwn, rInOwn, tNotR, rTru, tTruR, tLstRg, tRg2, t__law_drawn_set_s7, tLc_go, e2]
    refine ⟨by omega, by omega, draw_rng D4.2 (AscTo 0) (by omega) AscTo.zero (fun i acc _ h => h.len) ?_ fun D5 acc H5 d5 hD5 hD5p hd5 hacc => ?_⟩
    · intro i acc H5 R hi hacc d5 k
      simp only [tSeq, tAsg_name, tAsg_sub, tAsg_tup, tRet, tRetN, tDrop, tIfS, tNext, tNever, tBreak, tCont, tAndV, tOrV, tNotV, tAnd, tOr, tNot, tB, tTest, tIf, tCall, tCons, tNil, tVar, tC, tOp, tUn, tTup, tLst, tRevL, tPar, tPar3, tAug, ipI, tCB, tFld, sFld, iList, iTup, iRng1, iRng2, iEnum, iEnumT, tChain, tSl, tPart, tNoPart, tBM, tCallKw, tTruth, tYes, qAdd, qSub, qMul, qMulW, qDiv, qDivW, qMod, qPow, qLt, qLe, qGt, qGe, qIsN, qNotN, qInt, qAbs, qMax2, qMin2, rI0, rI, rU, rEq, rNe, scal, qIxL, qIxT, qLenQ, qSetL, lstOf_upd, tupOf_upd, atI_0, atI_1, atI_2, atI_3, upd_same, upd_upd, ixL0, ixL1, ixL2, HO.lst.injEq, HO.tup.injEq, List.getElem?_cons_zero, List.getElem?_cons_succ, List.set_cons_zero, List.set_cons_succ, Option.some.injEq, exists_eq_left', exists_eq_left, exists_and_left, V.int.injEq, V.bl.injEq, V.ref.injEq, V.str.injEq, List.append_nil, List.cons.injEq, and_assoc, and_true, true_and, reduceCtorEq, false_and, and_false, false_or, or_false, exists_false, decide_true, decide_false, Bool.not_true, Bool.not_false, not_true_eq_false, not_false_eq_true, if_true, if_false, Bool.false_eq_true, decide_eq_true_eq, Bool.not_eq_true', decide_eq_false_iff_not, tFldC, sFldC, tProp, tMeth, tMake, tMakeKw, rEqOwn, rInOwn, tNotR, rTru, tTruR, tLstRg, tRg2, gName_ap, gTup_ap, gCons_ap, gNil_ap, gSub_ap, LcStep, t__law_drawn_set_c5, t__law_drawn_set_e6, wipe]
      refine draw_c d5.2 rfl (w := 2) (by decide) (by decide) fun r H6 hr d6 => ?_
      simp only [tSeq, tAsg_name, tAsg_sub, tAsg_tup, tRet, tRetN, tDrop, tIfS, tNext, tNever, tBreak, tCont, tAndV, tOrV, tNotV, tAnd, tOr, tNot, tB, tTest, tIf, tCall, tCons, tNil, tVar, tC, tOp, tUn, tTup, tLst, tRevL, tPar, tPar3, tAug, ipI, tCB, tFld, sFld, iList, iTup, iRng1, iRng2, iEnum, iEnumT, tChain, tSl, tPart, tNoPart, tBM, tCallKw, tTruth, tYes, qAdd, qSub, qMul, qMulW, qDiv, qDivW, qMod, qPow, qLt, qLe, qGt, qGe, qIsN, qNotN, qInt, qAbs, qMax2, qMin2, rI0, rI, rU, rEq, rNe, scal, qIxL, qIxT, qLenQ, qSetL, lstOf_upd, tupOf_upd, atI_0, atI_1, atI_2, atI_3, upd_same, upd_upd, ixL0, ixL1, ixL2, HO.lst.injEq, HO.tup.injEq, List.getElem?_cons_zero, List.getElem?_cons_succ, List.set_cons_zero, List.set_cons_succ, Option.some.injEq, exists_eq_left', exists_eq_left, exists_and_left, V.int.injEq, V.bl.injEq, V.ref.injEq, V.str.injEq, List.append_nil, List.cons.injEq, and_assoc, and_true, true_and, reduceCtorEq, false_and, and_false, false_or, or_false, exists_false, decide_true, decide_false, Bool.not_true, Bool.not_false, not_true_eq_false, not_false_eq_true, if_true, if_false, Bool.false_eq_true, decide_eq_true_eq, Bool.not_eq_true', decide_eq_false_iff_not, tFldC, sFldC, tProp, tMeth, tMake, tMakeKw, rEqOwn, rInOwn, tNotR, rTru, tTruR, tLstRg, tRg2]
      by_cases c : r = 0
      · rw [if_pos (by omega)]
        exact k _ _ d6 (hacc.snoc (by omega))
      · rw [if_neg (by omega)]
        exact k _ _ d6 hacc.skip
    · obtain ⟨A0, rfl, ha1, ha2, _⟩ := hacc
      simp only [tSeq, tAsg_name, tAsg_sub, tAsg_tup, tRet, tRetN, tDrop, tIfS, tNext, tNever, tBreak, tCont, tAndV, tOrV, tNotV, tAnd, tOr, tNot, tB, tTest, tIf, tCall, tCons, tNil, tVar, tC, tOp, tUn, tTup, tLst, tRevL, tPar, tPar3, tAug, ipI, tCB, tFld, sFld, iList, iTup, iRng1, iRng2, iEnum, iEnumT, tChain, tSl, tPart, tNoPart, tBM, tCallKw, tTruth, tYes, qAdd, qSub, qMul, qMulW, qDiv, qDivW, qMod, qPow, qLt, qLe, qGt, qGe, qIsN, qNotN, qInt, qAbs, qMax2, qMin2, rI0, rI, rU, rEq, rNe, scal, qIxL, qIxT, qLenQ, qSetL, lstOf_upd, tupOf_upd, atI_0, atI_1, atI_2, atI_3, upd_same, upd_upd, ixL0, ixL1, ixL2, HO.lst.injEq, HO.tup.injEq, List.getElem?_cons_zero, List.getElem?_cons_succ, List.set_cons_zero, List.set_cons_succ, Option.some.injEq, exists_eq_left', exists_eq_left, exists_and_left, V.int.injEq, V.bl.injEq, V.ref.injEq, V.str.injEq, List.append_nil, List.cons.injEq, and_assoc, and_true, true_and, reduceCtorEq, false_and, and_false, false_or, or_false, exists_false, decide_true, decide_false, Bool.not_true, Bool.not_false, not_true_eq_false, not_false_eq_true, if_true, if_false, Bool.false_eq_true, decide_eq_true_eq, Bool.not_eq_true', decide_eq_false_iff_not, tFldC, sFldC, tProp, tMeth, tMake, tMakeKw, rEqOwn, rInOwn, tNotR, rTru, tTruR, tLstRg, tRg2, qTuple]
      refine ⟨_, .inl ⟨SqL.of hd5, fun g hg => ?_⟩⟩
      have D5' := d5.new (o := .tup (ofNats A0)) hg
      have hgv : (upd H5 g (.tup (ofNats A0))) g = some (.tup (ofNats A0)) := upd_same
      have hev5 := D5'.1 _ _ hep hev
      have hgp := d5.2.not hg
      have D6 := D4.trans D5'
      revert D6 hgv hev5
      generalize upd H5 g (.tup (ofNats A0)) = H6
      intro hgv hev5 D6
      simp only [tSeq, tAsg_name, tAsg_sub, tAsg_tup, tRet, tRetN, tDrop, tIfS, tNext, tNever, tBreak, tCont, tAndV, tOrV, tNotV, tAnd, tOr, tNot, tB, tTest, tIf, tCall, tCons, tNil, tVar, tC, tOp, tUn, tTup, tLst, tRevL, tPar, tPar3, tAug, ipI, tCB, tFld, sFld, iList, iTup, iRng1, iRng2, iEnum, iEnumT, tChain, tSl, tPart, tNoPart, tBM, tCallKw, tTruth, tYes, qAdd, qSub, qMul, qMulW, qDiv, qDivW, qMod, qPow, qLt, qLe, qGt, qGe, qIsN, qNotN, qInt, qAbs, qMax2, qMin2, rI0, rI, rU, rEq, rNe, scal, qIxL, qIxT, qLenQ, qSetL, lstOf_upd, tupOf_upd, atI_0, atI_1, atI_2, atI_3, upd_same, upd_upd, ixL0, ixL1, ixL2, HO.lst.injEq, HO.tup.injEq, List.getElem?_cons_zero, List.getElem?_cons_succ, List.set_cons_zero, List.set_cons_succ, Option.some.injEq, exists_eq_left', exists_eq_left, exists_and_left, V.int.injEq, V.bl.injEq, V.ref.injEq, V.str.injEq, List.append_nil, List.cons.injEq, and_assoc, and_true, true_and, reduceCtorEq, false_and, and_false, false_or, or_false, exists_false, decide_true, decide_false, Bool.not_true, Bool.not_false, not_true_eq_false, not_false_eq_true, if_true, if_false, Bool.false_eq_true, decide_eq_true_eq, Bool.not_eq_true', decide_eq_false_iff_not, tFldC, sFldC, tProp, tMeth, tMake, tMakeKw, rEqOwn, rInOwn, tNotR, rTru, tTruR, tLstRg, tRg2, t__law_drawn_set_s8]
      refine ⟨by decide, fun o1 ho1 => ⟨by show 3 ≤ sizeLine; decide, fun o2 ho2 => ?_⟩⟩
      have D7 := D6.new (o := .tup []) ho1
      have n1 := D6.2.not ho1
      have n2 := D7.2.not ho2
      have f1 : upd (upd H6 o1 (.tup [])) o2 (.lst [V.ref g, V.ref g, V.ref o1]) o1 = some (.tup []) := at_new upd_same ho2
      have fe : upd (upd H6 o1 (.tup [])) o2 (.lst [V.ref g, V.ref g, V.ref o1]) e = some (.tup (ofNats E0')) := at_new (at_new hev5 ho1) ho2
      have fg : upd (upd H6 o1 (.tup [])) o2 (.lst [V.ref g, V.ref g, V.ref o1]) g = some (.tup (ofNats A0)) := at_new (at_new hgv ho1) ho2
      have D8 := D7.new (o := .lst [V.ref g, V.ref g, V.ref o1]) ho2
      have fin : ∀ H9 gA L, Drawn p H H9 → H9 e = some (.tup (ofNats E0')) → H9 gA = some (.tup (ofNats L)) → (∀ n ∈ L, n ≤ p0) → L.Pairwise (· < ·) →
          ([V.ref e, V.int (1 + (s0 : Int)), V.ref gA, V.int (1 + (p0 : Int))].length ≤ sizeLine ∧ ∀ t, H9 t = none → Q (.ref t) (upd H9 t (.tup [V.ref e, V.int (1 + (s0 : Int)), V.ref gA, V.int (1 + (p0 : Int))]))) := by
        intro H9 gA L d9 k1 k2 k3 k4
        refine ⟨by show 4 ≤ sizeLine; decide, fun t ht => q _ t ⟨E0', s0 + 1, L, p0 + 1⟩ (d9.new ht) ⟨e, gA, ?_, at_new k1 ht, at_new k2 ht⟩ ⟨⟨?_, ?_, ?_, ?_, ?_, ?_⟩, ?_, ?_⟩⟩
        · rw [upd_same, show ((1 : Int) + (s0 : Int)) = ((s0 + 1 : Nat) : Int) by omega, show ((1 : Int) + (p0 : Int)) = ((p0 + 1 : Nat) : Int) by omega]
        · show 1 ≤ s0 + 1; omega
        · show s0 + 1 ≤ 10000; omega
        · show 1 ≤ p0 + 1; omega
        · show p0 + 1 ≤ 10000; omega
        · exact ⟨fun n hn => ⟨(he1 n hn).1, by show n ≤ s0 + 1 - 1; have := (he1 n hn).2; omega⟩, he2⟩
        · exact ⟨fun n hn => ⟨Nat.zero_le _, by show n ≤ p0 + 1 - 1; have := k3 n hn; omega⟩, k4⟩
        · show s0 + 1 ≤ 8; omega
        · show p0 + 1 ≤ 6; omega
      refine one_c D8.2 upd_same n2 (by show 0 < 3; decide) (by show 3 < 1000000; decide) fun v H9 hv d9 => ?_
      have D9 := D8.trans d9
      have ge := d9.1 _ _ hep fe
      simp only [List.mem_cons, List.mem_nil_iff, or_false] at hv
      rcases hv with rfl | rfl | rfl
      · exact fin H9 g A0 D9 ge (d9.1 _ _ hgp fg) (fun n hn => by have := (ha1 n hn).2; omega) ha2
      · exact fin H9 g A0 D9 ge (d9.1 _ _ hgp fg) (fun n hn => by have := (ha1 n hn).2; omega) ha2
      · exact fin H9 o1 [] D9 ge (d9.1 _ _ n1 f1) (fun n hn => by simp at hn) .nil
theorem pure__law_longer (vs : List V) (H : Hp) (Q : VK) (E : XK) (h : sp__law_longer K B vs H Q E) : t__law_longer K B { nx := fun _ H' => Q .non H', rt := Q } (L2.start ["_law_bag_here", "_law_shape", "_law_flags", "_law_turn", "_law_begin", "_law_early_here", "_law_k"] vs) H := by
  obtain ⟨p, r, F, rfl, hp, ⟨e, g, h1, h2, h3⟩, ⟨ok, fs, fp⟩, q⟩ := h
  show t__law_longer K B _ [some (.ref p), some (.ref r), none, none, none, none, none] H
  have hz : sizeLine = 16777216 := rfl
  obtain ⟨s1, s2, p1, p2, ae, aa⟩ := ok
  simp only [tSeq, tAsg_name, tAsg_sub, tAsg_tup, tRet, tRetN, tDrop, tIfS, tNext, tNever, tBreak, tCont, tAndV, tOrV, tNotV, tAnd, tOr, tNot, tB, tTest, tIf, tCall, tCons, tNil, tVar, tC, tOp, tUn, tTup, tLst, tRevL, tPar, tPar3, tAug, ipI, tCB, tFld, sFld, iList, iTup, iRng1, iRng2, iEnum, iEnumT, tChain, tSl, tPart, tNoPart, tBM, tCallKw, tTruth, tYes, qAdd, qSub, qMul, qMulW, qDiv, qDivW, qMod, qPow, qLt, qLe, qGt, qGe, qIsN, qNotN, qInt, qAbs, qMax2, qMin2, rI0, rI, rU, rEq, rNe, scal, qIxL, qIxT, qLenQ, qSetL, lstOf_upd, tupOf_upd, atI_0, atI_1, atI_2, atI_3, upd_same, upd_upd, ixL0, ixL1, ixL2, HO.lst.injEq, HO.tup.injEq, List.getElem?_cons_zero, List.getElem?_cons_succ, List.set_cons_zero, List.set_cons_succ, Option.some.injEq, exists_eq_left', exists_eq_left, exists_and_left, V.int.injEq, V.bl.injEq, V.ref.injEq, V.str.injEq, List.append_nil, List.cons.injEq, and_assoc, and_true, true_and, reduceCtorEq, false_and, and_false, false_or, or_false, exists_false, decide_true, decide_false, Bool.not_true, Bool.not_false, not_true_eq_false, not_false_eq_true, if_true, if_false, Bool.false_eq_true, decide_eq_true_eq, Bool.not_eq_true', decide_eq_false_iff_not, tFldC, sFldC, tProp, tMeth, tMake, tMakeKw, rEqOwn, rInOwn, tNotR, rTru, tTruR, tLstRg, tRg2, t__law_longer, t__law_longer_s1, sp__law_flagged, gTup_ap, gCons_ap, gName_ap, gNil_ap]
  refine ⟨F, ⟨e, g, h1, h2, h3⟩, p1, fun H1 D S1 hD hd => ⟨_, tupOf_of (S1 _ _ h1), _, atI_3, ?_⟩⟩
  have D1 : Drawn p H H1 := ⟨fun b o _ h => S1 _ _ h, hp.same S1⟩
  have hrp : r ≠ p := by rintro rfl; obtain ⟨_, _, _, z⟩ := hp; rw [h1] at z; cases z
  have hep : e ≠ p := by rintro rfl; obtain ⟨_, _, _, z⟩ := hp; rw [h2] at z; cases z
  have hgp : g ≠ p := by rintro rfl; obtain ⟨_, _, _, z⟩ := hp; rw [h3] at z; cases z
  have hDp : D ≠ p := hp.not hD
  refine draw_c D1.2 rfl (w := 3) (by decide) (by decide) fun m H2 hm d2 => ?_
  have D2 := D1.trans d2
  have hd2 := d2.1 _ _ hDp hd
  simp only [tSeq, tAsg_name, tAsg_sub, tAsg_tup, tRet, tRetN, tDrop, tIfS, tNext, tNever, tBreak, tCont, tAndV, tOrV, tNotV, tAnd, tOr, tNot, tB, tTest, tIf, tCall, tCons, tNil, tVar, tC, tOp, tUn, tTup, tLst, tRevL, tPar, tPar3, tAug, ipI, tCB, tFld, sFld, iList, iTup, iRng1, iRng2, iEnum, iEnumT, tChain, tSl, tPart, tNoPart, tBM, tCallKw, tTruth, tYes, qAdd, qSub, qMul, qMulW, qDiv, qDivW, qMod, qPow, qLt, qLe, qGt, qGe, qIsN, qNotN, qInt, qAbs, qMax2, qMin2, rI0, rI, rU, rEq, rNe, scal, qIxL, qIxT, qLenQ, qSetL, lstOf_upd, tupOf_upd, atI_0, atI_1, atI_2, atI_3, upd_same, upd_upd, ixL0, ixL1, ixL2, HO.lst.injEq, HO.tup.injEq, List.getElem?_cons_zero, List.getElem?_cons_succ, List.set_cons_zero, List.set_cons_succ, Option.some.injEq, exists_eq_left', exists_eq_left, exists_and_left, V.int.injEq, V.bl.injEq, V.ref.injEq, V.str.injEq, List.append_nil, List.cons.injEq, and_assoc, and_true, true_and, reduceCtorEq, false_and, and_false, false_or, or_false, exists_false, decide_true, decide_false, Bool.not_true, Bool.not_false, not_true_eq_false, not_false_eq_true, if_true, if_false, Bool.false_eq_true, decide_eq_true_eq, Bool.not_eq_true', decide_eq_false_iff_not, tFldC, sFldC, tProp, tMeth, tMake, tMakeKw, rEqOwn, rInOwn, tNotR, rTru, tTruR, tLstRg, tRg2]
  refine ⟨.inl ⟨by omega, by omega⟩, by show 2 ≤ sizeLine; decide, fun t ht => ⟨_, SqT.of upd_same, rfl, _, _, rfl, _, _, rfl, rfl, ?_⟩⟩
  have D3 := D2.new (o := .tup [V.ref D, V.int ((F.P : Int) * (1 + (m : Int)))]) ht
  have eP : (F.P : Int) * (1 + (m : Int)) = ((F.P * (m + 1) : Nat) : Int) := by rw [Int.natCast_mul]; congr 1; omega
  rw [eP] at D3 ⊢
  have hd3 := at_new (o' := .tup [V.ref D, V.int ((F.P * (m + 1) : Nat) : Int)]) hd2 ht
  revert hd3 D3
  generalize upd H2 t (.tup [V.ref D, V.int ((F.P * (m + 1) : Nat) : Int)]) = H3
  intro D3 hd3
  have hP1 : F.P ≤ F.P * (m + 1) := Nat.le_mul_of_pos_right _ (by omega)
  have hP2 : F.P * (m + 1) ≤ 6 * 3 := Nat.mul_le_mul fp (by omega)
  have hmod : ∀ n, n % (F.P * (m + 1)) % F.P = n % F.P := fun n => Nat.mod_mod_of_dvd n (Nat.dvd_mul_right _ _)
  generalize hPP : F.P * (m + 1) = P' at *
  simp only [tSeq, tAsg_name, tAsg_sub, tAsg_tup, tRet, tRetN, tDrop, tIfS, tNext, tNever, tBreak, tCont, tAndV, tOrV, tNotV, tAnd, tOr, tNot, tB, tTest, tIf, tCall, tCons, tNil, tVar, tC, tOp, tUn, tTup, tLst, tRevL, tPar, tPar3, tAug, ipI, tCB, tFld, sFld, iList, iTup, iRng1, iRng2, iEnum, iEnumT, tChain, tSl, tPart, tNoPart, tBM, tCallKw, tTruth, tYes, qAdd, qSub, qMul, qMulW, qDiv, qDivW, qMod, qPow, qLt, qLe, qGt, qGe, qIsN, qNotN, qInt, qAbs, qMax2, qMin2, rI0, rI, rU, rEq, rNe, scal, qIxL, qIxT, qLenQ, qSetL, lstOf_upd, tupOf_upd, atI_0, atI_1, atI_2, atI_3, upd_same, upd_upd, ixL0, ixL1, ixL2, HO.lst.injEq, HO.tup.injEq, List.getElem?_cons_zero, List.getElem?_cons_succ, List.set_cons_zero, List.set_cons_succ, Option.some.injEq, exists_eq_left', exists_eq_left, exists_and_left, V.int.injEq, V.bl.injEq, V.ref.injEq, V.str.injEq, List.append_nil, List.cons.injEq, and_assoc, and_true, true_and, reduceCtorEq, false_and, and_false, false_or, or_false, exists_false, decide_true, decide_false, Bool.not_true, Bool.not_false, not_true_eq_false, not_false_eq_true, if_true, if_false, Bool.false_eq_true, decide_eq_true_eq, Bool.not_eq_true', decide_eq_false_iff_not, tFldC, sFldC, tProp, tMeth, tMake, tMakeKw, rEqOwn, rInOwn, tNotR, rTru, tTruR, tLstRg, tRg2, t__law_longer_s2]
  refine ⟨_, tupOf_of (D3.1 _ _ hrp h1), _, atI_1, ?_⟩
  refine draw_c D3.2 rfl (w := 5) (by decide) (by decide) fun j H4 hj d4 => ?_
  have D4 := D3.trans d4
  have hd4 := d4.1 _ _ hDp hd3
  have es : (F.s : Int) + (j : Int) = ((F.s + j : Nat) : Int) := by omega
  simp only [tSeq, tAsg_name, tAsg_sub, tAsg_tup, tRet, tRetN, tDrop, tIfS, tNext, tNever, tBreak, tCont, tAndV, tOrV, tNotV, tAnd, tOr, tNot, tB, tTest, tIf, tCall, tCons, tNil, tVar, tC, tOp, tUn, tTup, tLst, tRevL, tPar, tPar3, tAug, ipI, tCB, tFld, sFld, iList, iTup, iRng1, iRng2, iEnum, iEnumT, tChain, tSl, tPart, tNoPart, tBM, tCallKw, tTruth, tYes, qAdd, qSub, qMul, qMulW, qDiv, qDivW, qMod, qPow, qLt, qLe, qGt, qGe, qIsN, qNotN, qInt, qAbs, qMax2, qMin2, rI0, rI, rU, rEq, rNe, scal, qIxL, qIxT, qLenQ, qSetL, lstOf_upd, tupOf_upd, atI_0, atI_1, atI_2, atI_3, upd_same, upd_upd, ixL0, ixL1, ixL2, HO.lst.injEq, HO.tup.injEq, List.getElem?_cons_zero, List.getElem?_cons_succ, List.set_cons_zero, List.set_cons_succ, Option.some.injEq, exists_eq_left', exists_eq_left, exists_and_left, V.int.injEq, V.bl.injEq, V.ref.injEq, V.str.injEq, List.append_nil, List.cons.injEq, and_assoc, and_true, true_and, reduceCtorEq, false_and, and_false, false_or, or_false, exists_false, decide_true, decide_false, Bool.not_true, Bool.not_false, not_true_eq_false, not_false_eq_true, if_true, if_false, Bool.false_eq_true, decide_eq_true_eq, Bool.not_eq_true', decide_eq_false_iff_not, tFldC, sFldC, tProp, tMeth, tMake, tMakeKw, rEqOwn, rInOwn, tNotR, rTru, tTruR, tLstRg, tRg2, t__law_longer_s5, tLc_go, es]
  have es2 : (((F.s + j : Nat) : Int) - 1).toNat = F.s + j - 1 := by omega
  rw [es2]
  refine ⟨by omega, by omega, by omega, by omega, acc_rng (fun i acc => ∃ L, acc = ofNats L ∧ L = (List.range i).filterMap fun i => if setS F (i + 1) then some (i + 1) else none) (by omega) ⟨[], rfl, rfl⟩ (fun i acc _ h => by obtain ⟨L, e1, e2⟩ := h; rw [e1, ofNats_length, e2]; exact fm_len _ _) ?_ fun D5 acc H5 S5 hD5 hd5 hacc => ?_⟩
  · intro i acc H5 R hi hacc S5 k
    obtain ⟨L, e1, e2⟩ := hacc
    have ei : (1 : Int) + (i : Int) = ((i + 1 : Nat) : Int) := by omega
    simp only [tSeq, tAsg_name, tAsg_sub, tAsg_tup, tRet, tRetN, tDrop, tIfS, tNext, tNever, tBreak, tCont, tAndV, tOrV, tNotV, tAnd, tOr, tNot, tB, tTest, tIf, tCall, tCons, tNil, tVar, tC, tOp, tUn, tTup, tLst, tRevL, tPar, tPar3, tAug, ipI, tCB, tFld, sFld, iList, iTup, iRng1, iRng2, iEnum, iEnumT, tChain, tSl, tPart, tNoPart, tBM, tCallKw, tTruth, tYes, qAdd, qSub, qMul, qMulW, qDiv, qDivW, qMod, qPow, qLt, qLe, qGt, qGe, qIsN, qNotN, qInt, qAbs, qMax2, qMin2, rI0, rI, rU, rEq, rNe, scal, qIxL, qIxT, qLenQ, qSetL, lstOf_upd, tupOf_upd, atI_0, atI_1, atI_2, atI_3, upd_same, upd_upd, ixL0, ixL1, ixL2, HO.lst.injEq, HO.tup.injEq, List.getElem?_cons_zero, List.getElem?_cons_succ, List.set_cons_zero, List.set_cons_succ, Option.some.injEq, exists_eq_left', exists_eq_left, exists_and_left, V.int.injEq, V.bl.injEq, V.ref.injEq, V.str.injEq, List.append_nil, List.cons.injEq, and_assoc, and_true, true_and, reduceCtorEq, false_and, and_false, false_or, or_false, exists_false, decide_true, decide_false, Bool.not_true, Bool.not_false, not_true_eq_false, not_false_eq_true, if_true, if_false, Bool.false_eq_true, decide_eq_true_eq, Bool.not_eq_true', decide_eq_false_iff_not, tFldC, sFldC, tProp, tMeth, tMake, tMakeKw, rEqOwn, rInOwn, tNotR, rTru, tTruR, tLstRg, tRg2, gName_ap, gTup_ap, gCons_ap, gNil_ap, gSub_ap, LcStep, t__law_longer_c3, t__law_longer_e4, wipe, lstOf_of (S5 _ _ hd4), ei, atI_bits (f := setS F) (n := 61) (i := i + 1) rfl (by omega)]
    cases c : setS F (i + 1) with
    | true => exact k _ _ (Same.refl _) ⟨L ++ [i + 1], by rw [e1, ofNats_append]; rfl, by rw [fm_succ, ← e2, c]; rfl⟩
    | false => exact k _ _ (Same.refl _) ⟨L, by rw [e1]; simp, by rw [fm_succ, ← e2, c]; simp⟩
  · obtain ⟨E1, rfl, hE1⟩ := hacc
    simp only [tSeq, tAsg_name, tAsg_sub, tAsg_tup, tRet, tRetN, tDrop, tIfS, tNext, tNever, tBreak, tCont, tAndV, tOrV, tNotV, tAnd, tOr, tNot, tB, tTest, tIf, tCall, tCons, tNil, tVar, tC, tOp, tUn, tTup, tLst, tRevL, tPar, tPar3, tAug, ipI, tCB, tFld, sFld, iList, iTup, iRng1, iRng2, iEnum, iEnumT, tChain, tSl, tPart, tNoPart, tBM, tCallKw, tTruth, tYes, qAdd, qSub, qMul, qMulW, qDiv, qDivW, qMod, qPow, qLt, qLe, qGt, qGe, qIsN, qNotN, qInt, qAbs, qMax2, qMin2, rI0, rI, rU, rEq, rNe, scal, qIxL, qIxT, qLenQ, qSetL, lstOf_upd, tupOf_upd, atI_0, atI_1, atI_2, atI_3, upd_same, upd_upd, ixL0, ixL1, ixL2, HO.lst.injEq, HO.tup.injEq, List.getElem?_cons_zero, List.getElem?_cons_succ, List.set_cons_zero, List.set_cons_succ, Option.some.injEq, exists_eq_left', exists_eq_left, exists_and_left, V.int.injEq, V.bl.injEq, V.ref.injEq, V.str.injEq, List.append_nil, List.cons.injEq, and_assoc, and_true, true_and, reduceCtorEq, false_and, and_false, false_or, or_false, exists_false, decide_true, decide_false, Bool.not_true, Bool.not_false, not_true_eq_false, not_false_eq_true, if_true, if_false, Bool.false_eq_true, decide_eq_true_eq, Bool.not_eq_true', decide_eq_false_iff_not, tFldC, sFldC, tProp, tMeth, tMake, tMakeKw, rEqOwn, rInOwn, tNotR, rTru, tTruR, tLstRg, tRg2, qTuple]
    refine ⟨_, .inl ⟨SqL.of hd5, fun e' he' => ?_⟩⟩
    have S6 := Same.newp (o := .tup (ofNats E1)) S5 he'
    have hev : (upd H5 e' (.tup (ofNats E1))) e' = some (.tup (ofNats E1)) := upd_same
    revert hev S6
    generalize upd H5 e' (.tup (ofNats E1)) = H6
    intro S6 hev
    have r6 := S6 _ _ (D4.1 _ _ hrp h1)
    have g6 := S6 _ _ (D4.1 _ _ hgp h3)
    simp only [tSeq, tAsg_name, tAsg_sub, tAsg_tup, tRet, tRetN, tDrop, tIfS, tNext, tNever, tBreak, tCont, tAndV, tOrV, tNotV, tAnd, tOr, tNot, tB, tTest, tIf, tCall, tCons, tNil, tVar, tC, tOp, tUn, tTup, tLst, tRevL, tPar, tPar3, tAug, ipI, tCB, tFld, sFld, iList, iTup, iRng1, iRng2, iEnum, iEnumT, tChain, tSl, tPart, tNoPart, tBM, tCallKw, tTruth, tYes, qAdd, qSub, qMul, qMulW, qDiv, qDivW, qMod, qPow, qLt, qLe, qGt, qGe, qIsN, qNotN, qInt, qAbs, qMax2, qMin2, rI0, rI, rU, rEq, rNe, scal, qIxL, qIxT, qLenQ, qSetL, lstOf_upd, tupOf_upd, atI_0, atI_1, atI_2, atI_3, upd_same, upd_upd, ixL0, ixL1, ixL2, HO.lst.injEq, HO.tup.injEq, List.getElem?_cons_zero, List.getElem?_cons_succ, List.set_cons_zero, List.set_cons_succ, Option.some.injEq, exists_eq_left', exists_eq_left, exists_and_left, V.int.injEq, V.bl.injEq, V.ref.injEq, V.str.injEq, List.append_nil, List.cons.injEq, and_assoc, and_true, true_and, reduceCtorEq, false_and, and_false, false_or, or_false, exists_false, decide_true, decide_false, Bool.not_true, Bool.not_false, not_true_eq_false, not_false_eq_true, if_true, if_false, Bool.false_eq_true, decide_eq_true_eq, Bool.not_eq_true', decide_eq_false_iff_not, tFldC, sFldC, tProp, tMeth, tMake, tMakeKw, rEqOwn, rInOwn, tNotR, rTru, tTruR, tLstRg, tRg2, t__law_longer_s8, tLc_go]
    refine ⟨by omega, by omega, ?_⟩
    rw [Int.toNat_natCast]
    refine acc_rng (fun i acc => ∃ L, acc = ofNats L ∧ L = pick (fun i => decide (i % F.P ∈ F.A)) i) (by omega) ⟨[], rfl, rfl⟩ (fun i acc _ h => by obtain ⟨L, e1, e2⟩ := h; rw [e1, ofNats_length, e2]; exact fm_len _ _) ?_ fun D7 acc H7 S7 hD7 hd7 hacc => ?_
    · intro i acc H7 R hi hacc S7 k
      obtain ⟨L, e1, e2⟩ := hacc
      simp only [tSeq, tAsg_name, tAsg_sub, tAsg_tup, tRet, tRetN, tDrop, tIfS, tNext, tNever, tBreak, tCont, tAndV, tOrV, tNotV, tAnd, tOr, tNot, tB, tTest, tIf, tCall, tCons, tNil, tVar, tC, tOp, tUn, tTup, tLst, tRevL, tPar, tPar3, tAug, ipI, tCB, tFld, sFld, iList, iTup, iRng1, iRng2, iEnum, iEnumT, tChain, tSl, tPart, tNoPart, tBM, tCallKw, tTruth, tYes, qAdd, qSub, qMul, qMulW, qDiv, qDivW, qMod, qPow, qLt, qLe, qGt, qGe, qIsN, qNotN, qInt, qAbs, qMax2, qMin2, rI0, rI, rU, rEq, rNe, scal, qIxL, qIxT, qLenQ, qSetL, lstOf_upd, tupOf_upd, atI_0, atI_1, atI_2, atI_3, upd_same, upd_upd, ixL0, ixL1, ixL2, HO.lst.injEq, HO.tup.injEq, List.getElem?_cons_zero, List.getElem?_cons_succ, List.set_cons_zero, List.set_cons_succ, Option.some.injEq, exists_eq_left', exists_eq_left, exists_and_left, V.int.injEq, V.bl.injEq, V.ref.injEq, V.str.injEq, List.append_nil, List.cons.injEq, and_assoc, and_true, true_and, reduceCtorEq, false_and, and_false, false_or, or_false, exists_false, decide_true, decide_false, Bool.not_true, Bool.not_false, not_true_eq_false, not_false_eq_true, if_true, if_false, Bool.false_eq_true, decide_eq_true_eq, Bool.not_eq_true', decide_eq_false_iff_not, tFldC, sFldC, tProp, tMeth, tMake, tMakeKw, rEqOwn, rInOwn, tNotR, rTru, tTruR, tLstRg, tRg2, gName_ap, gTup_ap, gCons_ap, gNil_ap, gSub_ap, LcStep, t__law_longer_c6, t__law_longer_e7, wipe, tupOf_of (S7 _ _ r6), atI_3, atI_2, Int.zero_add, ← Int.natCast_emod]
      refine ⟨by omega, rIn_nats rfl (S7 _ _ g6) ⟨_, rfl, ?_⟩⟩
      have e3 : pick (fun i => decide (i % F.P ∈ F.A)) (i + 1) = L ++ (if decide (i % F.P ∈ F.A) = true then some i else none).toList := by rw [e2]; exact fm_succ _ _
      cases c : decide (i % F.P ∈ F.A) with
      | true => exact k _ _ (Same.refl _) ⟨L ++ [i], by rw [e1, ofNats_append]; rfl, by rw [e3, c]; rfl⟩
      | false => exact k _ _ (Same.refl _) ⟨L, by rw [e1]; simp, by rw [e3, c]; simp⟩
    · obtain ⟨A1, rfl, hA1⟩ := hacc
      simp only [tSeq, tAsg_name, tAsg_sub, tAsg_tup, tRet, tRetN, tDrop, tIfS, tNext, tNever, tBreak, tCont, tAndV, tOrV, tNotV, tAnd, tOr, tNot, tB, tTest, tIf, tCall, tCons, tNil, tVar, tC, tOp, tUn, tTup, tLst, tRevL, tPar, tPar3, tAug, ipI, tCB, tFld, sFld, iList, iTup, iRng1, iRng2, iEnum, iEnumT, tChain, tSl, tPart, tNoPart, tBM, tCallKw, tTruth, tYes, qAdd, qSub, qMul, qMulW, qDiv, qDivW, qMod, qPow, qLt, qLe, qGt, qGe, qIsN, qNotN, qInt, qAbs, qMax2, qMin2, rI0, rI, rU, rEq, rNe, scal, qIxL, qIxT, qLenQ, qSetL, lstOf_upd, tupOf_upd, atI_0, atI_1, atI_2, atI_3, upd_same, upd_upd, ixL0, ixL1, ixL2, HO.lst.injEq, HO.tup.injEq, List.getElem?_cons_zero, List.getElem?_cons_succ, List.set_cons_zero, List.set_cons_succ, Option.some.injEq, exists_eq_left', exists_eq_left, exists_and_left, V.int.injEq, V.bl.injEq, V.ref.injEq, V.str.injEq, List.append_nil, List.cons.injEq, and_assoc, and_true, true_and, reduceCtorEq, false_and, and_false, false_or, or_false, exists_false, decide_true, decide_false, Bool.not_true, Bool.not_false, not_true_eq_false, not_false_eq_true, if_true, if_false, Bool.false_eq_true, decide_eq_true_eq, Bool.not_eq_true', decide_eq_false_iff_not, tFldC, sFldC, tProp, tMeth, tMake, tMakeKw, rEqOwn, rInOwn, tNotR, rTru, tTruR, tLstRg, tRg2, qTuple]
      refine ⟨_, .inl ⟨SqL.of hd7, fun g' hg' => ⟨by show 4 ≤ sizeLine; decide, fun t2 ht2 => ?_⟩⟩⟩
      have S8 := Same.newp (o := .tup (ofNats A1)) S7 hg'
      have S9 := Same.newp (o := .tup [V.ref e', V.int ((F.s + j : Nat) : Int), V.ref g', V.int (P' : Int)]) S8 ht2
      have S10 := S6.trans S9
      refine q _ t2 ⟨E1, F.s + j, A1, P'⟩ (m + 1) ⟨fun b o hb h => S10 _ _ (D4.1 b o hb h), D4.2.same S10⟩ ⟨e', g', upd_same, S9 _ _ hev, ?_⟩ ⟨?_, ?_, ?_, ?_, ?_, ?_⟩ ?_ ?_ (by omega) (by omega) hPP.symm ?_
      · exact at_new upd_same ht2
      · show 1 ≤ F.s + j; omega
      · show F.s + j ≤ 10000; omega
      · show 1 ≤ P'; omega
      · show P' ≤ 10000; omega
      · refine ⟨fun n hn => ?_, by rw [hE1]; exact early_asc _ _⟩
        rw [show (⟨E1, F.s + j, A1, P'⟩ : Form).E = E1 from rfl, hE1] at hn
        have := mem_early.mp hn
        exact ⟨this.1, by show n ≤ F.s + j - 1; omega⟩
      · refine ⟨fun n hn => ⟨Nat.zero_le _, ?_⟩, by rw [hA1]; exact pick_asc _ _⟩
        rw [show (⟨E1, F.s + j, A1, P'⟩ : Form).A = A1 from rfl, hA1] at hn
        have := (mem_pick.mp hn).1
        show n ≤ P' - 1
        omega
      · show F.s + j ≤ 12; omega
      · show F.s ≤ F.s + j; omega
      · intro n hn
        show (if n < F.s + j then decide (n ∈ E1) else decide (n % P' ∈ A1)) = setS F n
        by_cases c : n < F.s + j
        · rw [if_pos c, hE1]
          cases e : setS F n with
          | true => exact decide_eq_true (mem_early.mpr ⟨hn, c, e⟩)
          | false => refine decide_eq_false fun z => ?_; rw [(mem_early.mp z).2.2] at e; cases e
        · rw [if_neg c, hA1]
          have e : setS F n = decide (n % F.P ∈ F.A) := by unfold setS; rw [if_neg (by omega)]
          rw [e, Bool.eq_iff_iff]
          simp only [decide_eq_true_eq]
          rw [mem_pick]
          simp only [decide_eq_true_eq, hmod]
          exact ⟨fun z => z.2, fun z => ⟨Nat.mod_lt _ (by omega), z⟩⟩
theorem pure__law_is_least (vs : List V) (H : Hp) (Q : VK) (E : XK) (h : sp__law_is_least K B vs H Q E) : t__law_is_least K B { nx := fun _ H' => Q .non H', rt := Q } (L2.start ["_law_flags", "_law_begin", "_law_turn", "_law_sizes", "_law_off", "_law_k", "_law_at"] vs) H := by
  obtain ⟨D, f, s, P, rfl, hD, s1, p1, sp, c1, c2, c3, q⟩ := h
  show t__law_is_least K B _ [some (.ref D), some (.int (s : Nat)), some (.int (P : Nat)), none, none, none, none] H
  have hz : sizeLine = 16777216 := rfl
  have eP : ((P : Int) - 1).toNat = P - 1 := by omega
  simp only [tSeq, tAsg_name, tAsg_sub, tAsg_tup, tRet, tRetN, tDrop, tIfS, tNext, tNever, tBreak, tCont, tAndV, tOrV, tNotV, tAnd, tOr, tNot, tB, tTest, tIf, tCall, tCons, tNil, tVar, tC, tOp, tUn, tTup, tLst, tRevL, tPar, tPar3, tAug, ipI, tCB, tFld, sFld, iList, iTup, iRng1, iRng2, iEnum, iEnumT, tChain, tSl, tPart, tNoPart, tBM, tCallKw, tTruth, tYes, qAdd, qSub, qMul, qMulW, qDiv, qDivW, qMod, qPow, qLt, qLe, qGt, qGe, qIsN, qNotN, qInt, qAbs, qMax2, qMin2, rI0, rI, rU, rEq, rNe, scal, qIxL, qIxT, qLenQ, qSetL, lstOf_upd, tupOf_upd, atI_0, atI_1, atI_2, atI_3, upd_same, upd_upd, ixL0, ixL1, ixL2, HO.lst.injEq, HO.tup.injEq, List.getElem?_cons_zero, List.getElem?_cons_succ, List.set_cons_zero, List.set_cons_succ, Option.some.injEq, exists_eq_left', exists_eq_left, exists_and_left, V.int.injEq, V.bl.injEq, V.ref.injEq, V.str.injEq, List.append_nil, List.cons.injEq, and_assoc, and_true, true_and, reduceCtorEq, false_and, and_false, false_or, or_false, exists_false, decide_true, decide_false, Bool.not_true, Bool.not_false, not_true_eq_false, not_false_eq_true, if_true, if_false, Bool.false_eq_true, decide_eq_true_eq, Bool.not_eq_true', decide_eq_false_iff_not, tFldC, sFldC, tProp, tMeth, tMake, tMakeKw, rEqOwn, rInOwn, tNotR, rTru, tTruR, tLstRg, tRg2, t__law_is_least, t__law_is_least_s5, tLc_go, eP]
  refine ⟨by omega, by omega, by omega, by omega, map_rng (fun _ => none) (by omega) ?_ fun D2 H2 S2 hD2 h2 => ?_⟩
  · intro i H2 R hi S2 k
    have e1 : (1 : Int) + (i : Int) = ((i + 1 : Nat) : Int) := by omega
    have e2 : ((61 : Int) - ((i + 1 : Nat) : Int) - (s : Int)).toNat = 61 - (i + 1) - s := by omega
    simp only [tSeq, tAsg_name, tAsg_sub, tAsg_tup, tRet, tRetN, tDrop, tIfS, tNext, tNever, tBreak, tCont, tAndV, tOrV, tNotV, tAnd, tOr, tNot, tB, tTest, tIf, tCall, tCons, tNil, tVar, tC, tOp, tUn, tTup, tLst, tRevL, tPar, tPar3, tAug, ipI, tCB, tFld, sFld, iList, iTup, iRng1, iRng2, iEnum, iEnumT, tChain, tSl, tPart, tNoPart, tBM, tCallKw, tTruth, tYes, qAdd, qSub, qMul, qMulW, qDiv, qDivW, qMod, qPow, qLt, qLe, qGt, qGe, qIsN, qNotN, qInt, qAbs, qMax2, qMin2, rI0, rI, rU, rEq, rNe, scal, qIxL, qIxT, qLenQ, qSetL, lstOf_upd, tupOf_upd, atI_0, atI_1, atI_2, atI_3, upd_same, upd_upd, ixL0, ixL1, ixL2, HO.lst.injEq, HO.tup.injEq, List.getElem?_cons_zero, List.getElem?_cons_succ, List.set_cons_zero, List.set_cons_succ, Option.some.injEq, exists_eq_left', exists_eq_left, exists_and_left, V.int.injEq, V.bl.injEq, V.ref.injEq, V.str.injEq, List.append_nil, List.cons.injEq, and_assoc, and_true, true_and, reduceCtorEq, false_and, and_false, false_or, or_false, exists_false, decide_true, decide_false, Bool.not_true, Bool.not_false, not_true_eq_false, not_false_eq_true, if_true, if_false, Bool.false_eq_true, decide_eq_true_eq, Bool.not_eq_true', decide_eq_false_iff_not, tFldC, sFldC, tProp, tMeth, tMake, tMakeKw, rEqOwn, rInOwn, tNotR, rTru, tTruR, tLstRg, tRg2, gName_ap, gTup_ap, gCons_ap, gNil_ap, gSub_ap, LcStep, t__law_is_least_c3, wipe, tLc_go, e1, e2]
    refine ⟨by omega, by omega, by omega, by omega, map_rng (fun j => if f (s + j) = f (s + j + (i + 1)) then none else some (V.int ((s + j : Nat) : Int))) (by omega) ?_ fun D3 H3 S3 hD3 h3 => ?_⟩
    · intro j H3 R3 hj S3 k3
      have ej : (s : Int) + (j : Int) = ((s + j : Nat) : Int) := by omega
      have ek : ((s + j : Nat) : Int) + ((i + 1 : Nat) : Int) = ((s + j + (i + 1) : Nat) : Int) := by omega
      simp only [tSeq, tAsg_name, tAsg_sub, tAsg_tup, tRet, tRetN, tDrop, tIfS, tNext, tNever, tBreak, tCont, tAndV, tOrV, tNotV, tAnd, tOr, tNot, tB, tTest, tIf, tCall, tCons, tNil, tVar, tC, tOp, tUn, tTup, tLst, tRevL, tPar, tPar3, tAug, ipI, tCB, tFld, sFld, iList, iTup, iRng1, iRng2, iEnum, iEnumT, tChain, tSl, tPart, tNoPart, tBM, tCallKw, tTruth, tYes, qAdd, qSub, qMul, qMulW, qDiv, qDivW, qMod, qPow, qLt, qLe, qGt, qGe, qIsN, qNotN, qInt, qAbs, qMax2, qMin2, rI0, rI, rU, rEq, rNe, scal, qIxL, qIxT, qLenQ, qSetL, lstOf_upd, tupOf_upd, atI_0, atI_1, atI_2, atI_3, upd_same, upd_upd, ixL0, ixL1, ixL2, HO.lst.injEq, HO.tup.injEq, List.getElem?_cons_zero, List.getElem?_cons_succ, List.set_cons_zero, List.set_cons_succ, Option.some.injEq, exists_eq_left', exists_eq_left, exists_and_left, V.int.injEq, V.bl.injEq, V.ref.injEq, V.str.injEq, List.append_nil, List.cons.injEq, and_assoc, and_true, true_and, reduceCtorEq, false_and, and_false, false_or, or_false, exists_false, decide_true, decide_false, Bool.not_true, Bool.not_false, not_true_eq_false, not_false_eq_true, if_true, if_false, Bool.false_eq_true, decide_eq_true_eq, Bool.not_eq_true', decide_eq_false_iff_not, tFldC, sFldC, tProp, tMeth, tMake, tMakeKw, rEqOwn, rInOwn, tNotR, rTru, tTruR, tLstRg, tRg2, gName_ap, gTup_ap, gCons_ap, gNil_ap, gSub_ap, LcStep, t__law_is_least_c1, t__law_is_least_e2, wipe, lstOf_of (S3 _ _ (S2 _ _ hD)), ej, ek, atI_bits (f := f) (n := 61) (i := s + j) rfl (by omega), atI_bits (f := f) (n := 61) (i := s + j + (i + 1)) rfl (by omega)]
      by_cases c : f (s + j) = f (s + j + (i + 1))
      · rw [if_pos c] at k3
        rw [if_neg (by simpa using c)]
        exact k3 _ (Same.refl _)
      · rw [if_neg c] at k3
        rw [if_pos (by simpa using c)]
        exact k3 _ (Same.refl _)
    · rw [diffs_V] at h3
      refine ⟨by decide, fun o ho => ?_⟩
      have S4 := Same.newp (o := .lst []) (Same.refl H3) ho
      refine eq_nilL (S4 _ _ h3) upd_same ⟨_, rfl, ?_⟩
      obtain ⟨j, hj1, hj2, hj3⟩ := c1 (i + 1) (by omega) (by omega)
      have ne : ¬ diffs f s (i + 1) = [] := fun z => hj3 (diffs_nil.mp z j hj1 hj2)
      rw [if_neg (by simpa using ne)]
      exact k _ (S3.trans S4)
  · have h2' : H2 D2 = some (.lst (ofNats [])) := by rw [h2]; congr 2; rw [List.filterMap_eq_nil_iff.mpr (fun _ _ => rfl)]; rfl
    have e2 : ((61 : Int) - (P : Int) - (s : Int)).toNat = 61 - P - s := by omega
    simp only [tSeq, tAsg_name, tAsg_sub, tAsg_tup, tRet, tRetN, tDrop, tIfS, tNext, tNever, tBreak, tCont, tAndV, tOrV, tNotV, tAnd, tOr, tNot, tB, tTest, tIf, tCall, tCons, tNil, tVar, tC, tOp, tUn, tTup, tLst, tRevL, tPar, tPar3, tAug, ipI, tCB, tFld, sFld, iList, iTup, iRng1, iRng2, iEnum, iEnumT, tChain, tSl, tPart, tNoPart, tBM, tCallKw, tTruth, tYes, qAdd, qSub, qMul, qMulW, qDiv, qDivW, qMod, qPow, qLt, qLe, qGt, qGe, qIsN, qNotN, qInt, qAbs, qMax2, qMin2, rI0, rI, rU, rEq, rNe, scal, qIxL, qIxT, qLenQ, qSetL, lstOf_upd, tupOf_upd, atI_0, atI_1, atI_2, atI_3, upd_same, upd_upd, ixL0, ixL1, ixL2, HO.lst.injEq, HO.tup.injEq, List.getElem?_cons_zero, List.getElem?_cons_succ, List.set_cons_zero, List.set_cons_succ, Option.some.injEq, exists_eq_left', exists_eq_left, exists_and_left, V.int.injEq, V.bl.injEq, V.ref.injEq, V.str.injEq, List.append_nil, List.cons.injEq, and_assoc, and_true, true_and, reduceCtorEq, false_and, and_false, false_or, or_false, exists_false, decide_true, decide_false, Bool.not_true, Bool.not_false, not_true_eq_false, not_false_eq_true, if_true, if_false, Bool.false_eq_true, decide_eq_true_eq, Bool.not_eq_true', decide_eq_false_iff_not, tFldC, sFldC, tProp, tMeth, tMake, tMakeKw, rEqOwn, rInOwn, tNotR, rTru, tTruR, tLstRg, tRg2, t__law_is_least_s8, tLc_go, e2]
    refine ⟨by omega, by omega, by omega, by omega, map_rng (fun j => if f (s + j) = f (s + j + P) then none else some (V.int ((s + j : Nat) : Int))) (by omega) ?_ fun D3 H3 S3 hD3 h3 => ?_⟩
    · intro j H3 R3 hj S3 k3
      have ej : (s : Int) + (j : Int) = ((s + j : Nat) : Int) := by omega
      have ek : ((s + j : Nat) : Int) + (P : Int) = ((s + j + P : Nat) : Int) := by omega
      simp only [tSeq, tAsg_name, tAsg_sub, tAsg_tup, tRet, tRetN, tDrop, tIfS, tNext, tNever, tBreak, tCont, tAndV, tOrV, tNotV, tAnd, tOr, tNot, tB, tTest, tIf, tCall, tCons, tNil, tVar, tC, tOp, tUn, tTup, tLst, tRevL, tPar, tPar3, tAug, ipI, tCB, tFld, sFld, iList, iTup, iRng1, iRng2, iEnum, iEnumT, tChain, tSl, tPart, tNoPart, tBM, tCallKw, tTruth, tYes, qAdd, qSub, qMul, qMulW, qDiv, qDivW, qMod, qPow, qLt, qLe, qGt, qGe, qIsN, qNotN, qInt, qAbs, qMax2, qMin2, rI0, rI, rU, rEq, rNe, scal, qIxL, qIxT, qLenQ, qSetL, lstOf_upd, tupOf_upd, atI_0, atI_1, atI_2, atI_3, upd_same, upd_upd, ixL0, ixL1, ixL2, HO.lst.injEq, HO.tup.injEq, List.getElem?_cons_zero, List.getElem?_cons_succ, List.set_cons_zero, List.set_cons_succ, Option.some.injEq, exists_eq_left', exists_eq_left, exists_and_left, V.int.injEq, V.bl.injEq, V.ref.injEq, V.str.injEq, List.append_nil, List.cons.injEq, and_assoc, and_true, true_and, reduceCtorEq, false_and, and_false, false_or, or_false, exists_false, decide_true, decide_false, Bool.not_true, Bool.not_false, not_true_eq_false, not_false_eq_true, if_true, if_false, Bool.false_eq_true, decide_eq_true_eq, Bool.not_eq_true', decide_eq_false_iff_not, tFldC, sFldC, tProp, tMeth, tMake, tMakeKw, rEqOwn, rInOwn, tNotR, rTru, tTruR, tLstRg, tRg2, gName_ap, gTup_ap, gCons_ap, gNil_ap, gSub_ap, LcStep, t__law_is_least_c6, t__law_is_least_e7, wipe, lstOf_of (S3 _ _ (S2 _ _ hD)), ej, ek, atI_bits (f := f) (n := 61) (i := s + j) rfl (by omega), atI_bits (f := f) (n := 61) (i := s + j + P) rfl (by omega)]
      by_cases c : f (s + j) = f (s + j + P)
      · rw [if_pos c] at k3
        rw [if_neg (by simpa using c)]
        exact k3 _ (Same.refl _)
      · rw [if_neg c] at k3
        rw [if_pos (by simpa using c)]
        exact k3 _ (Same.refl _)
    · rw [diffs_V, diffs_nil.mpr c2] at h3
      simp only [tSeq, tAsg_name, tAsg_sub, tAsg_tup, tRet, tRetN, tDrop, tIfS, tNext, tNever, tBreak, tCont, tAndV, tOrV, tNotV, tAnd, tOr, tNot, tB, tTest, tIf, tCall, tCons, tNil, tVar, tC, tOp, tUn, tTup, tLst, tRevL, tPar, tPar3, tAug, ipI, tCB, tFld, sFld, iList, iTup, iRng1, iRng2, iEnum, iEnumT, tChain, tSl, tPart, tNoPart, tBM, tCallKw, tTruth, tYes, qAdd, qSub, qMul, qMulW, qDiv, qDivW, qMod, qPow, qLt, qLe, qGt, qGe, qIsN, qNotN, qInt, qAbs, qMax2, qMin2, rI0, rI, rU, rEq, rNe, scal, qIxL, qIxT, qLenQ, qSetL, lstOf_upd, tupOf_upd, atI_0, atI_1, atI_2, atI_3, upd_same, upd_upd, ixL0, ixL1, ixL2, HO.lst.injEq, HO.tup.injEq, List.getElem?_cons_zero, List.getElem?_cons_succ, List.set_cons_zero, List.set_cons_succ, Option.some.injEq, exists_eq_left', exists_eq_left, exists_and_left, V.int.injEq, V.bl.injEq, V.ref.injEq, V.str.injEq, List.append_nil, List.cons.injEq, and_assoc, and_true, true_and, reduceCtorEq, false_and, and_false, false_or, or_false, exists_false, decide_true, decide_false, Bool.not_true, Bool.not_false, not_true_eq_false, not_false_eq_true, if_true, if_false, Bool.false_eq_true, decide_eq_true_eq, Bool.not_eq_true', decide_eq_false_iff_not, tFldC, sFldC, tProp, tMeth, tMake, tMakeKw, rEqOwn, rInOwn, tNotR, rTru, tTruR, tLstRg, tRg2, t__law_is_least_s11]
      refine ⟨by decide, fun o ho => ?_⟩
      have S4 := Same.newp (o := .lst []) (Same.refl H3) ho
      refine ne_nilL (S4 _ _ (S3 _ _ h2')) upd_same ⟨_, rfl, ?_⟩
      rw [if_neg (by simp)]
      have h34 := S4 _ _ h3
      have hD4 := S4 _ _ (S3 _ _ (S2 _ _ hD))
      have S04 := (S2.trans S3).trans S4
      revert h34 hD4 S04
      generalize upd H3 o (.lst []) = H4
      intro h34 hD4 S04
      refine ⟨by decide, fun o2 ho2 => ?_⟩
      have S5 := Same.newp (o := .lst []) (Same.refl H4) ho2
      refine ne_nilL (S5 _ _ h34) upd_same ⟨_, rfl, ?_⟩
      rw [if_neg (by simp)]
      have hD5 := S5 _ _ hD4
      simp only [tSeq, tAsg_name, tAsg_sub, tAsg_tup, tRet, tRetN, tDrop, tIfS, tNext, tNever, tBreak, tCont, tAndV, tOrV, tNotV, tAnd, tOr, tNot, tB, tTest, tIf, tCall, tCons, tNil, tVar, tC, tOp, tUn, tTup, tLst, tRevL, tPar, tPar3, tAug, ipI, tCB, tFld, sFld, iList, iTup, iRng1, iRng2, iEnum, iEnumT, tChain, tSl, tPart, tNoPart, tBM, tCallKw, tTruth, tYes, qAdd, qSub, qMul, qMulW, qDiv, qDivW, qMod, qPow, qLt, qLe, qGt, qGe, qIsN, qNotN, qInt, qAbs, qMax2, qMin2, rI0, rI, rU, rEq, rNe, scal, qIxL, qIxT, qLenQ, qSetL, lstOf_upd, tupOf_upd, atI_0, atI_1, atI_2, atI_3, upd_same, upd_upd, ixL0, ixL1, ixL2, HO.lst.injEq, HO.tup.injEq, List.getElem?_cons_zero, List.getElem?_cons_succ, List.set_cons_zero, List.set_cons_succ, Option.some.injEq, exists_eq_left', exists_eq_left, exists_and_left, V.int.injEq, V.bl.injEq, V.ref.injEq, V.str.injEq, List.append_nil, List.cons.injEq, and_assoc, and_true, true_and, reduceCtorEq, false_and, and_false, false_or, or_false, exists_false, decide_true, decide_false, Bool.not_true, Bool.not_false, not_true_eq_false, not_false_eq_true, if_true, if_false, Bool.false_eq_true, decide_eq_true_eq, Bool.not_eq_true', decide_eq_false_iff_not, tFldC, sFldC, tProp, tMeth, tMake, tMakeKw, rEqOwn, rInOwn, tNotR, rTru, tTruR, tLstRg, tRg2, t__law_is_least_s12]
      have qq := q _ (S04.trans S5)
      by_cases c : s = 1
      · rw [if_pos (by omega)]
        exact qq
      · rw [if_neg (by omega)]
        have c4 : f (s - 1) ≠ f (s - 1 + P) := c3.resolve_left c
        refine ⟨_, lstOf_of hD5, _, atI_bits (f := f) (n := 61) (i := s - 1) (by omega) (by omega), _, lstOf_of hD5, _, atI_bits (f := f) (n := 61) (i := s - 1 + P) (by omega) (by omega), rfl, ?_⟩
        rw [decide_eq_false (by simpa using c4)]
        exact qq
end
end RA.K10

namespace RA.K10
open PySem PySem.Spec L2 RA
open PyProof.Rows hiding St
/-- what stands behind the making of the two sets -/
structure Facts (B : CA) (H : Hp) (r x y sh D : Addr) (F : Form) : Prop where
  sm : SmallF F
  hr : HeldAt H r F
  hx : LenAt B H x (norm F)
  hy : LenAt B H y (norm F)
  hs : HeldAt H sh (norm F)
  hD : H D = some (.lst (bitsV (setS F) 61))
theorem Facts.grow {B : CA} {H H' : Hp} {r x y sh D : Addr} {F : Form} (f : Facts B H r x y sh D F) (s : Same H H') : Facts B H' r x y sh D F :=
  ⟨f.sm, f.hr.grow s, f.hx.grow s, f.hy.grow s, f.hs.grow s, s _ _ f.hD⟩
theorem HeldAt.drawn {p r : Addr} {H H' : Hp} {F : Form} (h : HeldAt H r F) (hp : PoolAt H p) (d : Drawn p H H') : HeldAt H' r F := by
  obtain ⟨e, g, h1, h2, h3⟩ := h
  obtain ⟨_, _, _, z⟩ := hp
  exact ⟨e, g, d.1 _ _ (ne_of h1 z (by intro q; cases q)) h1, d.1 _ _ (ne_of h2 z (by intro q; cases q)) h2, d.1 _ _ (ne_of h3 z (by intro q; cases q)) h3⟩
theorem normA_len {S : Nat → Bool} {s P : Nat} (hP : 1 ≤ P) (h : Per S s P) : (normS S s P).A.length ≤ P := by
  obtain ⟨_, p2, _⟩ := lper_spec hP h
  have : (normS S s P).A.length ≤ (List.range (lper S s P)).length := List.length_filter_le _ _
  rw [List.length_range] at this
  omega
theorem okF_norm {F : Form} (ok : OkF F) : OkF (norm F) ∧ (norm F).s ≤ F.s ∧ (norm F).P ≤ F.P := by
  obtain ⟨s1, s2, p1, p2, ae, aa⟩ := ok
  obtain ⟨q1, q2, q3, q4, _⟩ := lper_spec p1 (setS_per F)
  obtain ⟨t1, t2, t3, t4⟩ := lstart_spec s1 q4
  refine ⟨⟨t1, by show lstart _ _ _ ≤ 10000; omega, q1, by show lper _ _ _ ≤ 10000; omega, ⟨fun n hn => ?_, early_asc _ _⟩, ⟨fun n hn => ⟨Nat.zero_le _, ?_⟩, List.pairwise_lt_range.filter _⟩⟩, t2, q2⟩
  · obtain ⟨h1, h2, _⟩ := mem_early.mp hn
    exact ⟨h1, by show n ≤ lstart _ _ _ - 1; omega⟩
  · have h1 := List.mem_range.mp (List.mem_filter.mp hn).1
    show n ≤ lper (setS F) F.s F.P - 1
    omega
/-- one turn's state -/
def sg (p M : Addr) (v2 : Option V) (r r2 x y sh D : Addr) (v9 v10 v11 : Option V) : St :=
  [some (.ref p), some (.ref M), v2, some (.ref r), some (.ref r2), some (.ref x), some (.ref y), some (.ref sh), some (.ref D), v9, v10, v11, none, none]
theorem pr_nat {n : Nat} (h : n ≤ 30) : Pr 0 5 (.int (n : Int)) := Pr.int (by decide) (by omega) (by decide)
theorem pr_nats {L : List Nat} {k : Nat} (h : ∀ n ∈ L, n ≤ 30) (hl : L.length ≤ k) : Pr 1 (k * 6) (.tuple (dNats L)) := by
  refine (Pr.tuple (PrAll.all (k := 0) (n := 5) (fun d hd => ?_))).mono (Nat.le_refl _) ?_
  · obtain ⟨n, hn, rfl⟩ := List.mem_map.mp hd
    exact pr_nat (h n hn)
  · unfold dNats
    rw [List.length_map]
    exact Nat.mul_le_mul hl (by decide)
theorem pr_form {F : Form} (ok : OkF F) (hs : F.s ≤ 30) (hp : F.P ≤ 30) : Pr 60 20000 (dForm F) := by
  have h1 : Pr 1 (31 * 6) (.tuple (dNats F.E)) := pr_nats (fun n hn => by have := (ok.e.1 n hn).2; omega) (by have := asc_len ok.e; omega)
  have h2 : Pr 1 (31 * 6) (.tuple (dNats F.A)) := pr_nats (fun n hn => by have := (ok.a.1 n hn).2; omega) (by have := asc_len ok.a; omega)
  exact (Pr.tuple (PrAll.cons h1 (PrAll.cons ((pr_nat hs).mono (k' := 1) (by decide) (Nat.le_refl _)) (PrAll.cons h2 (PrAll.cons ((pr_nat hp).mono (k' := 1) (by decide) (Nat.le_refl _)) PrAll.nil))))).mono (by decide) (by decide)
def dB (l : List Bool) : List PyData := l.map PyData.bool
theorem dpall_B {K : PySem.W.Frag} {H : Hp} : ∀ l : List Bool, DpAll K H (l.map V.bl) (dB l)
  | [] => .nil
  | b :: l => .cons (.bl b) (dpall_B l)
theorem lay_B : ∀ l : List Bool, PyData.canLayAll0 (dB l) = true
  | [] => rfl
  | b :: l => by
    show ((PyData.bool b).canLay0 && PyData.canLayAll0 (dB l)) = true
    rw [lay_B l]
    rfl
theorem dep_B : ∀ l : List Bool, PyData.depthAll (dB l) = 0
  | [] => rfl
  | b :: l => by
    show max 0 (PyData.depthAll (dB l)) = 0
    rw [dep_B l]
    rfl
theorem eqv_B : ∀ l m : List Bool, PyData.eqvAll (dB l) (dB m) = decide (l = m)
  | [], [] => rfl
  | [], b :: m => by simp [dB, PyData.eqvAll]
  | b :: l, [] => by simp [dB, PyData.eqvAll]
  | b :: l, c :: m => by
    show (PyData.eqv (.bool b) (.bool c) && PyData.eqvAll (dB l) (dB m)) = _
    rw [eqv_B l m, Bool.eq_iff_iff]
    cases b <;> cases c <;> simp [PyData.eqv]
theorem rNe_B {K : PySem.W.Frag} {H : Hp} {a b : Addr} {l m : List Bool} {Q : VK} (h1 : H a = some (.lst (l.map V.bl))) (h2 : H b = some (.lst (m.map V.bl))) (q : Q (.bl (!decide (l = m))) H) : rNeD K (.ref a) (.ref b) H Q :=
  ⟨_, _, .lst (SqL.of h1) (dpall_B l), .lst (SqL.of h2) (dpall_B m), shaped_lst (lay_B l) (Nat.le_of_eq (dep_B l)) (by decide), shaped_lst (lay_B m) (Nat.le_of_eq (dep_B m)) (by decide), by show Q (.bl (!PyData.eqvAll (dB l) (dB m))) H; rw [eqv_B]; exact q⟩
theorem rEq_B {K : PySem.W.Frag} {H : Hp} {a b : Addr} {l m : List Bool} {Q : VK} (h1 : H a = some (.lst (l.map V.bl))) (h2 : H b = some (.lst (m.map V.bl))) (q : Q (.bl (decide (l = m))) H) : rEqD K (.ref a) (.ref b) H Q :=
  ⟨_, _, .lst (SqL.of h1) (dpall_B l), .lst (SqL.of h2) (dpall_B m), shaped_lst (lay_B l) (Nat.le_of_eq (dep_B l)) (by decide), shaped_lst (lay_B m) (Nat.le_of_eq (dep_B m)) (by decide), by show Q (.bl (PyData.eqvAll (dB l) (dB m))) H; rw [eqv_B]; exact q⟩
theorem cut1 (f : Nat → Bool) : cutV (bitsV f 61) (some 1) none = ((List.range 60).map fun k => f (1 + k)).map V.bl := by
  rw [cut_from f (j := 1) (z := 1) rfl (by decide), bitsV_all]
theorem norm_set {F : Form} (ok : OkF F) (n : Nat) (hn : 1 ≤ n) : setS (norm F) n = setS F n := norm_same ok.s1 ok.p1 (setS_per F) n hn
theorem least_ok {F : Form} (sm : SmallF F) : (∀ k, 1 ≤ k → k < (norm F).P → ∃ i, (norm F).s ≤ i ∧ i + k < 61 ∧ setS F i ≠ setS F (i + k)) ∧ (∀ i, (norm F).s ≤ i → i + (norm F).P < 61 → setS F i = setS F (i + (norm F).P)) ∧
    ((norm F).s = 1 ∨ setS F ((norm F).s - 1) ≠ setS F ((norm F).s - 1 + (norm F).P)) := by
  obtain ⟨ok, fs, fp⟩ := sm
  obtain ⟨q1, q2, q3, q4, _, _, q7⟩ := lper_spec ok.p1 (setS_per F)
  obtain ⟨t1, t2, t3, t4⟩ := lstart_spec ok.s1 q4
  have eP : (norm F).P = lper (setS F) F.s F.P := rfl
  have es : (norm F).s = lstart (setS F) (lper (setS F) F.s F.P) F.s := rfl
  rw [eP, es]
  generalize lper (setS F) F.s F.P = d at *
  generalize lstart (setS F) d F.s = st at *
  refine ⟨fun k k1 k2 => ?_, fun i hi _ => (t3 i hi).symm, t4⟩
  refine Classical.byContradiction fun no => ?_
  have all : ∀ i, st ≤ i → i + k < 61 → setS F i = setS F (i + k) := fun i h1 h2 => Classical.byContradiction fun z => no ⟨i, h1, h2, z⟩
  have per : Per (setS F) st k := by
    intro n hn
    have m := Nat.mod_lt (n - st) (show d > 0 by omega)
    have e0 := Nat.mod_add_div (n - st) d
    have e1 : setS F n = setS F (st + (n - st) % d) := t3.cong hn (by omega) (by rw [show n = st + (n - st) % d + d * ((n - st) / d) by omega, Nat.add_mul_mod_self_left, show st + (n - st) % d + d * ((n - st) / d) - st = (n - st) % d + d * ((n - st) / d) by omega, Nat.add_mul_mod_self_left, Nat.mod_mod])
    have e2 : setS F (n + k) = setS F (st + (n - st) % d + k) := t3.cong (by omega) (by omega) (by
      rw [show n + k = st + (n - st) % d + k + d * ((n - st) / d) by omega, Nat.add_mul_mod_self_left])
    rw [e1, e2]
    exact (all _ (by omega) (by omega)).symm
  have := Nat.le_of_dvd (by omega) (q7 k st k1 per)
  omega
theorem pr_B (l : List Bool) {n : Nat} (h : l.length ≤ n) : Pr 1 n (.list (dB l)) := by
  refine (Pr.list (PrAll.all (k := 0) (n := 0) (fun d hd => ?_))).mono (Nat.le_refl _) ?_
  · obtain ⟨b, _, rfl⟩ := List.mem_map.mp hd
    exact Pr.bool b
  · unfold dB
    rw [List.length_map]
    omega
theorem kd_non {K : PySem.W.Frag} {H : Hp} : Kd K H .non := .not ⟨_, .base .non, kit_ty (by decide +kernel)⟩ (fun i z => by cases z) (fun b z => by cases z)
theorem kd_str {K : PySem.W.Frag} {H : Hp} (s : Str) : Kd K H (.str s) := .not ⟨_, .base (.str s), kit_ty (by decide +kernel)⟩ (fun i z => by cases z) (fun b z => by cases z)
theorem kd_tup {K : PySem.W.Frag} {H : Hp} {p : Addr} {xs : List V} (h : H p = some (.tup xs)) : Kd K H (.ref p) := .not ⟨_, .base (.tup h), kit_ty (by decide +kernel)⟩ (fun i z => by cases z) (fun b z => by cases z)
theorem kd_lst {K : PySem.W.Frag} {H : Hp} {p : Addr} {xs : List V} (h : H p = some (.lst xs)) : Kd K H (.ref p) := .not ⟨_, .base (.lst h), kit_ty (by decide +kernel)⟩ (fun i z => by cases z) (fun b z => by cases z)
/-- the values asked for, and what is due -/
def askedV (p1 p2 : Addr) : List V := rgV 1 61 ++ [V.int 0, V.int (-1), V.non, V.bl true, V.str "3", V.ref p1, V.ref p2, V.int (10 ^ 50 + 7)]
def dueB (F : Form) : List Bool := (List.range 60).map (fun k => setS F (1 + k)) ++ List.replicate 7 false ++ [decide ((10 ^ 50 + 7) % F.P ∈ F.A)]
theorem asked_due {F : Form} (sm : SmallF F) (p1 p2 : Addr) : (askedV p1 p2).map (inB (norm F)) = dueB F := by
  obtain ⟨ok, fs, fp⟩ := sm
  unfold askedV dueB
  rw [List.map_append, List.append_assoc]
  congr 1
  · unfold rgV
    rw [List.map_map]
    refine List.map_congr_left fun k _ => ?_
    show (decide (1 ≤ 1 + (k : Int)) && setS (norm F) (1 + (k : Int)).toNat) = setS F (1 + k)
    rw [decide_eq_true (by omega), show (1 + (k : Int)).toNat = 1 + k by omega, norm_set ok _ (by omega)]
    rfl
  · have e : inB (norm F) (.int (10 ^ 50 + 7)) = decide ((10 ^ 50 + 7) % F.P ∈ F.A) := by
      show (decide ((1 : Int) ≤ 10 ^ 50 + 7) && setS (norm F) ((10 : Int) ^ 50 + 7).toNat) = _
      have h1 : decide ((1 : Int) ≤ 10 ^ 50 + 7) = true := by decide
      have h2 : ((10 : Int) ^ 50 + 7).toNat = (10 : Nat) ^ 50 + 7 := by decide
      rw [h1, h2, norm_set ok (10 ^ 50 + 7) (by decide)]
      show (if 10 ^ 50 + 7 < F.s then decide (10 ^ 50 + 7 ∈ F.E) else decide ((10 ^ 50 + 7) % F.P ∈ F.A)) = _
      rw [if_neg (fun z => absurd (Nat.lt_of_lt_of_le z fs) (by decide))]
    have e0 : inB (norm F) (.int 0) = false := rfl
    have e1 : inB (norm F) (.int (-1)) = false := rfl
    show [inB (norm F) (.int 0), inB (norm F) (.int (-1)), inB (norm F) .non, inB (norm F) (.bl true), inB (norm F) (.str "3"), inB (norm F) (.ref p1), inB (norm F) (.ref p2), inB (norm F) (.int (10 ^ 50 + 7))] = _
    rw [e, e0, e1]
    rfl
theorem asked_kd {K : PySem.W.Frag} {H : Hp} {p1 p2 : Addr} {xs ys : List V} (h1 : H p1 = some (.tup xs)) (h2 : H p2 = some (.lst ys)) : ∀ v ∈ askedV p1 p2, Kd K H v := by
  intro v hv
  unfold askedV at hv
  rcases List.mem_append.mp hv with h | h
  · obtain ⟨i, _, rfl⟩ := List.mem_map.mp h
    exact .int _
  · simp only [List.mem_cons, List.mem_nil_iff, or_false] at h
    rcases h with rfl | rfl | rfl | rfl | rfl | rfl | rfl | rfl
    · exact .int _
    · exact .int _
    · exact kd_non
    · exact .bl _
    · exact kd_str _
    · exact kd_tup h1
    · exact kd_lst h2
    · exact .int _
def members (S : Nat → Bool) (n : Nat) : List Nat := (List.range n).filterMap fun i => if S (i + 1) then some (i + 1) else none
theorem members_add (S : Nat → Bool) (a b : Nat) : members S (a + b) = members S a ++ (List.range b).filterMap fun i => if S (a + i + 1) then some (a + i + 1) else none := by
  unfold members
  rw [List.range_add, List.filterMap_append, List.filterMap_map]
  rfl
theorem members_nil {S : Nat → Bool} {n : Nat} : members S n = [] ↔ ∀ i, 1 ≤ i → i ≤ n → S i = false := by
  unfold members
  rw [List.filterMap_eq_nil_iff]
  constructor
  · intro h i h1 h2
    have := h (i - 1) (List.mem_range.mpr (by omega))
    rw [show i - 1 + 1 = i by omega] at this
    cases c : S i with
    | false => rfl
    | true => rw [c] at this; simp at this
  · intro h i hi
    rw [List.mem_range] at hi
    rw [h (i + 1) (by omega) (by omega)]
    rfl
def headV : List Nat → V
  | n :: _ => .int (n : Nat)
  | [] => .non
theorem first_norm {F : Form} (sm : SmallF F) : firstV (norm F) = headV (members (setS F) 60) := by
  obtain ⟨ok, fs, fp⟩ := sm
  obtain ⟨okN, sN, pN⟩ := okF_norm ok
  have e1 : (norm F).E = members (setS F) ((norm F).s - 1) := rfl
  have e2 : later (norm F) = (List.range (norm F).P).filterMap fun i => if setS F ((norm F).s - 1 + i + 1) then some ((norm F).s - 1 + i + 1) else none := by
    unfold later
    congr 1
    funext i
    have := okN.s1
    rw [norm_set ok _ (by omega), show (norm F).s - 1 + i + 1 = (norm F).s + i by omega]
  have e3 : (norm F).E ++ later (norm F) = members (setS F) ((norm F).s - 1 + (norm F).P) := by rw [e1, e2, ← members_add]
  have per : Per (setS F) (norm F).s (norm F).P := by
    obtain ⟨q1, q2, q3, q4, _⟩ := lper_spec ok.p1 (setS_per F)
    exact (lstart_spec ok.s1 q4).2.2.1
  unfold firstV
  rw [e3]
  have s1 := okN.s1
  have p1 := okN.p1
  obtain ⟨rest, e4⟩ : ∃ rest, members (setS F) 60 = members (setS F) ((norm F).s - 1 + (norm F).P) ++ rest := by
    have := members_add (setS F) ((norm F).s - 1 + (norm F).P) (60 - ((norm F).s - 1 + (norm F).P))
    rw [show (norm F).s - 1 + (norm F).P + (60 - ((norm F).s - 1 + (norm F).P)) = 60 by omega] at this
    exact ⟨_, this⟩
  cases hm : members (setS F) ((norm F).s - 1 + (norm F).P) with
  | cons n l => rw [e4, hm]; rfl
  | nil =>
    have all := members_nil.mp hm
    have : members (setS F) 60 = [] := members_nil.mpr fun i h1 _ => by
      by_cases c : i < (norm F).s
      · exact all i h1 (by omega)
      · have m := Nat.mod_lt (i - (norm F).s) (show (norm F).P > 0 by omega)
        rw [show i = (norm F).s + (i - (norm F).s) by omega, per.mod]
        exact all _ (by omega) (by omega)
    rw [this]
    rfl
theorem endless_norm {F : Form} (ok : OkF F) : (norm F).A.isEmpty = F.A.isEmpty := by
  obtain ⟨okN, sN, pN⟩ := okF_norm ok
  have s1 := okN.s1
  have p1 := okN.p1
  have q1 := ok.s1
  have q2 := ok.p1
  rw [Bool.eq_iff_iff, List.isEmpty_iff, List.isEmpty_iff]
  have key : ∀ n, (norm F).s ≤ n → F.s ≤ n → (n % (norm F).P ∈ (norm F).A ↔ n % F.P ∈ F.A) := by
    intro n h1 h2
    have := norm_set ok n (by omega)
    unfold setS at this
    rw [if_neg (by omega), if_neg (by omega), decide_eq_decide] at this
    exact this
  constructor
  · intro h
    cases hA : F.A with
    | nil => rfl
    | cons r l =>
      exfalso
      have hr : r ∈ F.A := by rw [hA]; exact List.mem_cons_self
      have hlt := (ok.a.1 r hr).2
      have le : F.s ≤ F.P * F.s := Nat.le_mul_of_pos_left _ q2
      have := (key (F.P * F.s + r) (by omega) (by omega)).mpr (by rw [Nat.mul_add_mod, Nat.mod_eq_of_lt (by omega)]; exact hr)
      rw [h] at this
      simp at this
  · intro h
    cases hA : (norm F).A with
    | nil => rfl
    | cons r l =>
      exfalso
      have hr : r ∈ (norm F).A := by rw [hA]; exact List.mem_cons_self
      have hlt := (okN.a.1 r hr).2
      have le : F.s ≤ (norm F).P * F.s := Nat.le_mul_of_pos_left _ p1
      have := (key ((norm F).P * F.s + r) (by omega) (by omega)).mp (by rw [Nat.mul_add_mod, Nat.mod_eq_of_lt (by omega)]; exact hr)
      rw [h] at this
      simp at this
/-- all but the two objects that change -/
def minus (H : Hp) (p M : Addr) : Hp := fun b => if b = p ∨ b = M then none else H b
theorem minus_same {H : Hp} {p M : Addr} : Same (minus H p M) H := fun b o h => by
  unfold minus at h
  split at h
  · cases h
  · exact h
theorem minus_of {H : Hp} {p M b : Addr} {o : HO} (h : H b = some o) (h1 : b ≠ p) (h2 : b ≠ M) : minus H p M b = some o := by
  unfold minus
  rw [if_neg (fun z => z.elim h1 h2)]
  exact h
theorem minus_grow {H H' : Hp} {p M : Addr} (k : ∀ b o, b ≠ p → b ≠ M → H b = some o → H' b = some o) : Same (minus H p M) (minus H' p M) := fun b o h => by
  unfold minus at h
  split at h
  · cases h
  · next c => exact minus_of (k b o (fun z => c (.inl z)) (fun z => c (.inr z)) h) (fun z => c (.inl z)) (fun z => c (.inr z))
def bits60 (F : Form) : List Bool := (List.range 60).map fun k => setS F (1 + k)
def EntryAt (B : CA) (H : Hp) (t : Addr) (F : Form) : Prop := ∃ a f, H t = some (.tup [.ref a, .ref f]) ∧ LenAt B H a (norm F) ∧ H f = some (.lst ((bits60 F).map V.bl))
theorem EntryAt.grow {B : CA} {H H' : Hp} {t : Addr} {F : Form} (h : EntryAt B H t F) (s : Same H H') : EntryAt B H' t F := by
  obtain ⟨a, f, h1, h2, h3⟩ := h
  exact ⟨a, f, s _ _ h1, h2.grow s, s _ _ h3⟩
def MadeAt (B : CA) (H : Hp) (p M : Addr) (Fs : List Form) : Prop := ∃ ts : List Addr, H M = some (.lst (ts.map V.ref)) ∧ ts.length = Fs.length ∧ (∀ (i : Nat) (t : Addr) (F : Form), ts[i]? = some t → Fs[i]? = some F → EntryAt B (minus H p M) t F) ∧ ∀ F ∈ Fs, SmallF F
/-- one set is told by its first sixty lengths -/
theorem agree {F G : Form} (hF : SmallF F) (hG : SmallF G) (h : ∀ n, 1 ≤ n → n ≤ 60 → setS F n = setS G n) : ∀ n, 1 ≤ n → setS F n = setS G n := by
  have q1 := hF.1.p1
  have q2 := hG.1.p1
  have le : F.P * G.P ≤ 6 * 6 := Nat.mul_le_mul hF.2.2 hG.2.2
  have pos : 1 ≤ F.P * G.P := Nat.mul_pos q1 q2
  have pf : Per (setS F) F.s (F.P * G.P) := (setS_per F).mul G.P
  have pg : Per (setS G) G.s (F.P * G.P) := by rw [Nat.mul_comm]; exact (setS_per G).mul F.P
  intro n
  induction n using Nat.strongRecOn with
  | ind n ih =>
    intro hn
    by_cases c : n ≤ 60
    · exact h n hn c
    · have f8 := hF.2.1
      have g8 := hG.2.1
      have e1 := pf (n - F.P * G.P) (by omega)
      have e2 := pg (n - F.P * G.P) (by omega)
      rw [show n - F.P * G.P + F.P * G.P = n by omega] at e1 e2
      rw [e1, e2]
      exact ih _ (by omega) (by omega)
theorem norm_bits {F G : Form} (hF : SmallF F) (hG : SmallF G) : norm F = norm G ↔ bits60 F = bits60 G := by
  have ext : bits60 F = bits60 G ↔ ∀ n, 1 ≤ n → n ≤ 60 → setS F n = setS G n := by
    unfold bits60
    constructor
    · intro h n h1 h2
      have := congrArg (fun l => l[n - 1]?) h
      simp only [List.getElem?_map] at this
      rw [List.getElem?_range (by omega)] at this
      simp only [Option.map_some, Option.some.injEq] at this
      rw [show 1 + (n - 1) = n by omega] at this
      exact this
    · intro h
      exact List.map_congr_left fun k hk => h _ (by omega) (by rw [List.mem_range] at hk; omega)
  rw [ext]
  constructor
  · intro e n h1 _
    rw [← norm_set hF.1 n h1, ← norm_set hG.1 n h1, e]
  · intro h
    exact norm_unique hF.1.s1 hF.1.p1 (setS_per F) hG.1.s1 hG.1.p1 (setS_per G) (agree hF hG h)
theorem LenAt.cut {B : CA} {H H' : Hp} {p M a : Addr} {F : Form} {ms : List V} (h : LenAt B H a F) (hp : PoolAt H p) (hM : H M = some (.lst ms)) (s : ∀ b o, b ≠ M → H b = some o → H' b = some o) : LenAt B (minus H' p M) a F := by
  obtain ⟨dx, r, h1, e, g, h2, h3, h4⟩ := h
  obtain ⟨_, _, _, z⟩ := hp
  have key : ∀ b o, H b = some o → (∀ xs, o ≠ .lst xs) → minus H' p M b = some o := fun b o hb ho => by
    have n1 : b ≠ p := ne_of hb z (ho _)
    have n2 : b ≠ M := ne_of hb hM (ho _)
    exact minus_of (s b o n2 hb) n1 n2
  exact ⟨dx, r, key _ _ h1 (fun _ q => by cases q), e, g, key _ _ h2 (fun _ q => by cases q), key _ _ h3 (fun _ q => by cases q), key _ _ h4 (fun _ q => by cases q)⟩
section
variable {K : PySem.W.Frag} {B : CA} {mg : Str → Option Value} (T : Txt K mg B)
include T
theorem rightA {p M : Addr} {H : Hp} {v2 v3 v4 v5 v6 v7 v8 v9 v10 v11 : Option V} {nx bk ct : St → Hp → Prop} {rt : VK} (hp : PoolAt H p)
    (k : ∀ H' r r2 x y sh D F, Drawn p H H' → Facts B H' r x y sh D F → nx (sg p M v2 r r2 x y sh D v9 v10 v11) H') :
    tSeq (t__law_right_s2 K B) (tSeq (t__law_right_s3 K B) (tSeq (t__law_right_s4 K B) (tSeq (t__law_right_s5 K B) (t__law_right_s6 K B)))) ⟨nx, rt, bk, ct⟩ [some (.ref p), some (.ref M), v2, v3, v4, v5, v6, v7, v8, v9, v10, v11, none, none] H := by
  have hz : sizeLine = 16777216 := rfl
  simp only [tSeq, tAsg_name, tAsg_sub, tAsg_tup, tRet, tRetN, tDrop, tIfS, tNext, tNever, tBreak, tCont, tAndV, tOrV, tNotV, tAnd, tOr, tNot, tB, tTest, tIf, tCall, tCons, tNil, tVar, tC, tOp, tUn, tTup, tLst, tRevL, tPar, tPar3, tAug, ipI, tCB, tFld, sFld, iList, iTup, iRng1, iRng2, iEnum, iEnumT, tChain, tSl, tPart, tNoPart, tBM, tCallKw, tTruth, tYes, qAdd, qSub, qMul, qMulW, qDiv, qDivW, qMod, qPow, qLt, qLe, qGt, qGe, qIsN, qNotN, qInt, qAbs, qMax2, qMin2, rI0, rI, rU, rEq, rNe, scal, qIxL, qIxT, qLenQ, qSetL, lstOf_upd, tupOf_upd, atI_0, atI_1, atI_2, atI_3, upd_same, upd_upd, ixL0, ixL1, ixL2, HO.lst.injEq, HO.tup.injEq, List.getElem?_cons_zero, List.getElem?_cons_succ, List.set_cons_zero, List.set_cons_succ, Option.some.injEq, exists_eq_left', exists_eq_left, exists_and_left, V.int.injEq, V.bl.injEq, V.ref.injEq, V.str.injEq, List.append_nil, List.cons.injEq, and_assoc, and_true, true_and, reduceCtorEq, false_and, and_false, false_or, or_false, exists_false, decide_true, decide_false, Bool.not_true, Bool.not_false, not_true_eq_false, not_false_eq_true, if_true, if_false, Bool.false_eq_true, decide_eq_true_eq, Bool.not_eq_true', decide_eq_false_iff_not, tFldC, sFldC, tProp, tMeth, tMake, tMakeKw, rEqOwn, rInOwn, tNotR, rTru, tTruR, tLstRg, tRg2, t__law_right_s2, sp__law_drawn_set]
  refine ⟨hp, fun H1 r F d1 hF sm => ?_⟩
  simp only [tSeq, tAsg_name, tAsg_sub, tAsg_tup, tRet, tRetN, tDrop, tIfS, tNext, tNever, tBreak, tCont, tAndV, tOrV, tNotV, tAnd, tOr, tNot, tB, tTest, tIf, tCall, tCons, tNil, tVar, tC, tOp, tUn, tTup, tLst, tRevL, tPar, tPar3, tAug, ipI, tCB, tFld, sFld, iList, iTup, iRng1, iRng2, iEnum, iEnumT, tChain, tSl, tPart, tNoPart, tBM, tCallKw, tTruth, tYes, qAdd, qSub, qMul, qMulW, qDiv, qDivW, qMod, qPow, qLt, qLe, qGt, qGe, qIsN, qNotN, qInt, qAbs, qMax2, qMin2, rI0, rI, rU, rEq, rNe, scal, qIxL, qIxT, qLenQ, qSetL, lstOf_upd, tupOf_upd, atI_0, atI_1, atI_2, atI_3, upd_same, upd_upd, ixL0, ixL1, ixL2, HO.lst.injEq, HO.tup.injEq, List.getElem?_cons_zero, List.getElem?_cons_succ, List.set_cons_zero, List.set_cons_succ, Option.some.injEq, exists_eq_left', exists_eq_left, exists_and_left, V.int.injEq, V.bl.injEq, V.ref.injEq, V.str.injEq, List.append_nil, List.cons.injEq, and_assoc, and_true, true_and, reduceCtorEq, false_and, and_false, false_or, or_false, exists_false, decide_true, decide_false, Bool.not_true, Bool.not_false, not_true_eq_false, not_false_eq_true, if_true, if_false, Bool.false_eq_true, decide_eq_true_eq, Bool.not_eq_true', decide_eq_false_iff_not, tFldC, sFldC, tProp, tMeth, tMake, tMakeKw, rEqOwn, rInOwn, tNotR, rTru, tTruR, tLstRg, tRg2, t__law_right_s3, sp__law_longer]
  refine ⟨d1.2, F, hF, sm, fun H2 r2 G m d2 hG okG gs fs m1 m3 gp same => ?_⟩
  have hF2 := hF.drawn d1.2 d2
  obtain ⟨e2, g2, k1, k2, k3⟩ := hG
  simp only [tSeq, tAsg_name, tAsg_sub, tAsg_tup, tRet, tRetN, tDrop, tIfS, tNext, tNever, tBreak, tCont, tAndV, tOrV, tNotV, tAnd, tOr, tNot, tB, tTest, tIf, tCall, tCons, tNil, tVar, tC, tOp, tUn, tTup, tLst, tRevL, tPar, tPar3, tAug, ipI, tCB, tFld, sFld, iList, iTup, iRng1, iRng2, iEnum, iEnumT, tChain, tSl, tPart, tNoPart, tBM, tCallKw, tTruth, tYes, qAdd, qSub, qMul, qMulW, qDiv, qDivW, qMod, qPow, qLt, qLe, qGt, qGe, qIsN, qNotN, qInt, qAbs, qMax2, qMin2, rI0, rI, rU, rEq, rNe, scal, qIxL, qIxT, qLenQ, qSetL, lstOf_upd, tupOf_upd, atI_0, atI_1, atI_2, atI_3, upd_same, upd_upd, ixL0, ixL1, ixL2, HO.lst.injEq, HO.tup.injEq, List.getElem?_cons_zero, List.getElem?_cons_succ, List.set_cons_zero, List.set_cons_succ, Option.some.injEq, exists_eq_left', exists_eq_left, exists_and_left, V.int.injEq, V.bl.injEq, V.ref.injEq, V.str.injEq, List.append_nil, List.cons.injEq, and_assoc, and_true, true_and, reduceCtorEq, false_and, and_false, false_or, or_false, exists_false, decide_true, decide_false, Bool.not_true, Bool.not_false, not_true_eq_false, not_false_eq_true, if_true, if_false, Bool.false_eq_true, decide_eq_true_eq, Bool.not_eq_true', decide_eq_false_iff_not, tFldC, sFldC, tProp, tMeth, tMake, tMakeKw, rEqOwn, rInOwn, tNotR, rTru, tTruR, tLstRg, tRg2, t__law_right_s4, tupOf_of k1, atI_0, atI_1, atI_2, atI_3]
  intro x dx hx hdx hne
  have nF : norm G = norm F := norm_unique okG.s1 okG.p1 (setS_per G) sm.1.s1 sm.1.p1 (setS_per F) same
  have n2 : upd (upd H2 dx (.own x)) x (.ins B.c_Lengths dx []) x = some (.ins B.c_Lengths dx []) := upd_same
  have S2 : Same H2 (upd (upd H2 dx (.own x)) x (.ins B.c_Lengths dx [])) := (Same.newp (Same.refl H2) hdx).trans (Same.newp (Same.refl _) (by rw [upd_ne hne.symm]; exact hx))
  have hm18 : G.P ≤ 18 := by rw [gp]; exact Nat.le_trans (Nat.mul_le_mul sm.2.2 m3) (by decide)
  refine ⟨x, dx, e2, g2, G, rfl, n2, S2 _ _ k2, S2 _ _ k3, okG, Nat.lt_of_le_of_lt (normA_len okG.p1 (setS_per G)) (by omega), fun H3 b3 l3 => ⟨rfl, ?_⟩⟩
  have S3 : Same H2 H3 := fun b o h => b3 b o (fun z => by rw [z, hx] at h; cases h) (S2 _ _ h)
  rw [nF] at l3
  have hF3 := hF2.grow S3
  obtain ⟨e3, g3, k31, k32, k33⟩ := id hF3
  simp only [tSeq, tAsg_name, tAsg_sub, tAsg_tup, tRet, tRetN, tDrop, tIfS, tNext, tNever, tBreak, tCont, tAndV, tOrV, tNotV, tAnd, tOr, tNot, tB, tTest, tIf, tCall, tCons, tNil, tVar, tC, tOp, tUn, tTup, tLst, tRevL, tPar, tPar3, tAug, ipI, tCB, tFld, sFld, iList, iTup, iRng1, iRng2, iEnum, iEnumT, tChain, tSl, tPart, tNoPart, tBM, tCallKw, tTruth, tYes, qAdd, qSub, qMul, qMulW, qDiv, qDivW, qMod, qPow, qLt, qLe, qGt, qGe, qIsN, qNotN, qInt, qAbs, qMax2, qMin2, rI0, rI, rU, rEq, rNe, scal, qIxL, qIxT, qLenQ, qSetL, lstOf_upd, tupOf_upd, atI_0, atI_1, atI_2, atI_3, upd_same, upd_upd, ixL0, ixL1, ixL2, HO.lst.injEq, HO.tup.injEq, List.getElem?_cons_zero, List.getElem?_cons_succ, List.set_cons_zero, List.set_cons_succ, Option.some.injEq, exists_eq_left', exists_eq_left, exists_and_left, V.int.injEq, V.bl.injEq, V.ref.injEq, V.str.injEq, List.append_nil, List.cons.injEq, and_assoc, and_true, true_and, reduceCtorEq, false_and, and_false, false_or, or_false, exists_false, decide_true, decide_false, Bool.not_true, Bool.not_false, not_true_eq_false, not_false_eq_true, if_true, if_false, Bool.false_eq_true, decide_eq_true_eq, Bool.not_eq_true', decide_eq_false_iff_not, tFldC, sFldC, tProp, tMeth, tMake, tMakeKw, rEqOwn, rInOwn, tNotR, rTru, tTruR, tLstRg, tRg2, t__law_right_s5, tupOf_of k31, atI_0, atI_1, atI_2, atI_3]
  refine ⟨rfl, rfl, fun y dy hy hdy hney => ?_⟩
  show sp_Lengths____init__ K B [V.ref y, V.ref e3, V.int (F.s : Nat), V.ref g3, V.int (F.P : Nat)] _ _ _
  have n3 : upd (upd H3 dy (.own y)) y (.ins B.c_Lengths dy []) y = some (.ins B.c_Lengths dy []) := upd_same
  have S3' : Same H3 (upd (upd H3 dy (.own y)) y (.ins B.c_Lengths dy [])) := (Same.newp (Same.refl H3) hdy).trans (Same.newp (Same.refl _) (by rw [upd_ne hney.symm]; exact hy))
  refine ⟨y, dy, e3, g3, F, rfl, n3, S3' _ _ k32, S3' _ _ k33, sm.1, Nat.lt_of_le_of_lt (normA_len sm.1.p1 (setS_per F)) (by have := sm.2.2; omega), fun H4 b4 l4 => ⟨rfl, ?_⟩⟩
  have S4 : Same H3 H4 := fun b o h => b4 b o (fun z => by rw [z, hy] at h; cases h) (S3' _ _ h)
  have hF4 := hF3.grow S4
  have l3' := l3.grow S4
  obtain ⟨dx2, r3, k4, e4, g4, k5, k6, k7⟩ := id l3'
  simp only [tSeq, tAsg_name, tAsg_sub, tAsg_tup, tRet, tRetN, tDrop, tIfS, tNext, tNever, tBreak, tCont, tAndV, tOrV, tNotV, tAnd, tOr, tNot, tB, tTest, tIf, tCall, tCons, tNil, tVar, tC, tOp, tUn, tTup, tLst, tRevL, tPar, tPar3, tAug, ipI, tCB, tFld, sFld, iList, iTup, iRng1, iRng2, iEnum, iEnumT, tChain, tSl, tPart, tNoPart, tBM, tCallKw, tTruth, tYes, qAdd, qSub, qMul, qMulW, qDiv, qDivW, qMod, qPow, qLt, qLe, qGt, qGe, qIsN, qNotN, qInt, qAbs, qMax2, qMin2, rI0, rI, rU, rEq, rNe, scal, qIxL, qIxT, qLenQ, qSetL, lstOf_upd, tupOf_upd, atI_0, atI_1, atI_2, atI_3, upd_same, upd_upd, ixL0, ixL1, ixL2, HO.lst.injEq, HO.tup.injEq, List.getElem?_cons_zero, List.getElem?_cons_succ, List.set_cons_zero, List.set_cons_succ, Option.some.injEq, exists_eq_left', exists_eq_left, exists_and_left, V.int.injEq, V.bl.injEq, V.ref.injEq, V.str.injEq, List.append_nil, List.cons.injEq, and_assoc, and_true, true_and, reduceCtorEq, false_and, and_false, false_or, or_false, exists_false, decide_true, decide_false, Bool.not_true, Bool.not_false, not_true_eq_false, not_false_eq_true, if_true, if_false, Bool.false_eq_true, decide_eq_true_eq, Bool.not_eq_true', decide_eq_false_iff_not, tFldC, sFldC, tProp, tMeth, tMake, tMakeKw, rEqOwn, rInOwn, tNotR, rTru, tTruR, tLstRg, tRg2, t__law_right_s6, sp_Lengths__early, sp_Lengths__start, sp_Lengths__again, sp_Lengths__period, sp__law_flagged]
  refine ⟨dx2, _, k4, norm F, l3', fun e he => ⟨dx2, _, k4, norm F, l3', dx2, _, k4, norm F, l3', fun g hg => ⟨dx2, _, k4, norm F, l3', ?_⟩⟩⟩
  refine ⟨by show 4 ≤ sizeLine; decide, fun sh hsh => ?_⟩
  have S5 := Same.newp (o := .tup [V.ref e, V.int ((norm F).s : Int), V.ref g, V.int ((norm F).P : Int)]) (Same.refl H4) hsh
  have hS5 : HeldAt (upd H4 sh (.tup [V.ref e, V.int ((norm F).s : Int), V.ref g, V.int ((norm F).P : Int)])) sh (norm F) := ⟨e, g, upd_same, S5 _ _ he, S5 _ _ hg⟩
  refine ⟨F, hF4.grow S5, sm.1.p1, fun H6 D S6 hD hd => ⟨by show 2 ≤ sizeLine; decide, fun t ht => ⟨_, SqT.of upd_same, rfl, ?_⟩⟩⟩
  simp only [tSeq, tAsg_name, tAsg_sub, tAsg_tup, tRet, tRetN, tDrop, tIfS, tNext, tNever, tBreak, tCont, tAndV, tOrV, tNotV, tAnd, tOr, tNot, tB, tTest, tIf, tCall, tCons, tNil, tVar, tC, tOp, tUn, tTup, tLst, tRevL, tPar, tPar3, tAug, ipI, tCB, tFld, sFld, iList, iTup, iRng1, iRng2, iEnum, iEnumT, tChain, tSl, tPart, tNoPart, tBM, tCallKw, tTruth, tYes, qAdd, qSub, qMul, qMulW, qDiv, qDivW, qMod, qPow, qLt, qLe, qGt, qGe, qIsN, qNotN, qInt, qAbs, qMax2, qMin2, rI0, rI, rU, rEq, rNe, scal, qIxL, qIxT, qLenQ, qSetL, lstOf_upd, tupOf_upd, atI_0, atI_1, atI_2, atI_3, upd_same, upd_upd, ixL0, ixL1, ixL2, HO.lst.injEq, HO.tup.injEq, List.getElem?_cons_zero, List.getElem?_cons_succ, List.set_cons_zero, List.set_cons_succ, Option.some.injEq, exists_eq_left', exists_eq_left, exists_and_left, V.int.injEq, V.bl.injEq, V.ref.injEq, V.str.injEq, List.append_nil, List.cons.injEq, and_assoc, and_true, true_and, reduceCtorEq, false_and, and_false, false_or, or_false, exists_false, decide_true, decide_false, Bool.not_true, Bool.not_false, not_true_eq_false, not_false_eq_true, if_true, if_false, Bool.false_eq_true, decide_eq_true_eq, Bool.not_eq_true', decide_eq_false_iff_not, tFldC, sFldC, tProp, tMeth, tMake, tMakeKw, rEqOwn, rInOwn, tNotR, rTru, tTruR, tLstRg, tRg2, gName_ap, gTup_ap, gCons_ap, gNil_ap, gSub_ap]
  have S7 := Same.newp (o := .tup [V.ref sh, V.ref D]) (Same.refl H6) ht
  have S27 := ((((S3.trans S4).trans S5).trans S6).trans S7)
  have D2 := d1.trans d2
  exact k _ r r2 x y sh D F ⟨fun b o hb h => S27 _ _ (D2.1 b o hb h), D2.2.same S27⟩ ⟨sm, hF2.grow S27, l3'.grow ((S5.trans S6).trans S7), l4.grow ((S5.trans S6).trans S7), hS5.grow (S6.trans S7), S7 _ _ hd⟩
/-- the data of the form fits to be shown -/
theorem rightB {p M r r2 x y sh D : Addr} {H : Hp} {F : Form} {v2 v9 v10 v11 : Option V} {nx bk ct : St → Hp → Prop} {rt : VK} (f : Facts B H r x y sh D F)
    (k : ∀ H', Same H H' → nx (sg p M v2 r r2 x y sh D v9 v10 v11) H') : t__law_right_s9 K B ⟨nx, rt, bk, ct⟩ (sg p M v2 r r2 x y sh D v9 v10 v11) H := by
  obtain ⟨sm, hr, hx, hy, hs, hD⟩ := id f
  obtain ⟨dx, r3, k1, held1⟩ := id hx
  obtain ⟨dy, r4, k4, held2⟩ := id hy
  unfold sg
  simp only [tSeq, tAsg_name, tAsg_sub, tAsg_tup, tRet, tRetN, tDrop, tIfS, tNext, tNever, tBreak, tCont, tAndV, tOrV, tNotV, tAnd, tOr, tNot, tB, tTest, tIf, tCall, tCons, tNil, tVar, tC, tOp, tUn, tTup, tLst, tRevL, tPar, tPar3, tAug, ipI, tCB, tFld, sFld, iList, iTup, iRng1, iRng2, iEnum, iEnumT, tChain, tSl, tPart, tNoPart, tBM, tCallKw, tTruth, tYes, qAdd, qSub, qMul, qMulW, qDiv, qDivW, qMod, qPow, qLt, qLe, qGt, qGe, qIsN, qNotN, qInt, qAbs, qMax2, qMin2, rI0, rI, rU, rEq, rNe, scal, qIxL, qIxT, qLenQ, qSetL, lstOf_upd, tupOf_upd, atI_0, atI_1, atI_2, atI_3, upd_same, upd_upd, ixL0, ixL1, ixL2, HO.lst.injEq, HO.tup.injEq, List.getElem?_cons_zero, List.getElem?_cons_succ, List.set_cons_zero, List.set_cons_succ, Option.some.injEq, exists_eq_left', exists_eq_left, exists_and_left, V.int.injEq, V.bl.injEq, V.ref.injEq, V.str.injEq, List.append_nil, List.cons.injEq, and_assoc, and_true, true_and, reduceCtorEq, false_and, and_false, false_or, or_false, exists_false, decide_true, decide_false, Bool.not_true, Bool.not_false, not_true_eq_false, not_false_eq_true, if_true, if_false, Bool.false_eq_true, decide_eq_true_eq, Bool.not_eq_true', decide_eq_false_iff_not, tFldC, sFldC, tProp, tMeth, tMake, tMakeKw, rEqOwn, rInOwn, tNotR, rTru, tTruR, tLstRg, tRg2, t__law_right_s9, rRepr, sp_Lengths__early, sp_Lengths__start, sp_Lengths__again, sp_Lengths__period]
  obtain ⟨okN, sN, pN⟩ := okF_norm sm.1
  have pr := pr_form okN (by have := sm.2.1; omega) (by have := sm.2.2; omega)
  refine ⟨_, dp_form hs, pr, dy, _, k4, norm F, hy, fun e he => ⟨dy, _, k4, norm F, hy, dy, _, k4, norm F, hy, fun g hg => ⟨dy, _, k4, norm F, hy, by show 4 ≤ sizeLine; decide, fun t ht => ?_⟩⟩⟩
  have S1 := Same.newp (o := .tup [V.ref e, V.int ((norm F).s : Int), V.ref g, V.int ((norm F).P : Int)]) (Same.refl H) ht
  have hT : HeldAt (upd H t (.tup [V.ref e, V.int ((norm F).s : Int), V.ref g, V.int ((norm F).P : Int)])) t (norm F) := ⟨e, g, upd_same, S1 _ _ he, S1 _ _ hg⟩
  revert S1 hT
  generalize upd H t (.tup [V.ref e, V.int ((norm F).s : Int), V.ref g, V.int ((norm F).P : Int)]) = H1
  intro S1 hT
  refine ⟨_, dp_form hT, pr, ?_⟩
  rw [if_neg (fun z => z rfl)]
  refine ⟨dx, _, S1 _ _ k1, _, T.i_Lengths.ty (S1 _ _ k4), by unfold PySem.W.notFirst; simp, ?_⟩
  refine ⟨x, norm F, .ref y, rfl, hx.grow S1, .inl ⟨y, norm F, rfl, hy.grow S1, true, by rw [decide_eq_true rfl], ?_⟩⟩
  rw [if_neg (by decide)]
  exact ⟨dx, _, S1 _ _ k1, k _ S1⟩
theorem rightC {p M r r2 x y sh D : Addr} {H : Hp} {F : Form} {v2 v9 v10 v11 : Option V} {nx bk ct : St → Hp → Prop} {rt : VK} (f : Facts B H r x y sh D F)
    (k : ∀ H', Same H H' → nx (sg p M v2 r r2 x y sh D v9 v10 v11) H') : t__law_right_s12 K B ⟨nx, rt, bk, ct⟩ (sg p M v2 r r2 x y sh D v9 v10 v11) H := by
  obtain ⟨sm, hr, hx, hy, hs, hD⟩ := id f
  unfold sg
  simp only [tSeq, tAsg_name, tAsg_sub, tAsg_tup, tRet, tRetN, tDrop, tIfS, tNext, tNever, tBreak, tCont, tAndV, tOrV, tNotV, tAnd, tOr, tNot, tB, tTest, tIf, tCall, tCons, tNil, tVar, tC, tOp, tUn, tTup, tLst, tRevL, tPar, tPar3, tAug, ipI, tCB, tFld, sFld, iList, iTup, iRng1, iRng2, iEnum, iEnumT, tChain, tSl, tPart, tNoPart, tBM, tCallKw, tTruth, tYes, qAdd, qSub, qMul, qMulW, qDiv, qDivW, qMod, qPow, qLt, qLe, qGt, qGe, qIsN, qNotN, qInt, qAbs, qMax2, qMin2, rI0, rI, rU, rEq, rNe, scal, qIxL, qIxT, qLenQ, qSetL, lstOf_upd, tupOf_upd, atI_0, atI_1, atI_2, atI_3, upd_same, upd_upd, ixL0, ixL1, ixL2, HO.lst.injEq, HO.tup.injEq, List.getElem?_cons_zero, List.getElem?_cons_succ, List.set_cons_zero, List.set_cons_succ, Option.some.injEq, exists_eq_left', exists_eq_left, exists_and_left, V.int.injEq, V.bl.injEq, V.ref.injEq, V.str.injEq, List.append_nil, List.cons.injEq, and_assoc, and_true, true_and, reduceCtorEq, false_and, and_false, false_or, or_false, exists_false, decide_true, decide_false, Bool.not_true, Bool.not_false, not_true_eq_false, not_false_eq_true, if_true, if_false, Bool.false_eq_true, decide_eq_true_eq, Bool.not_eq_true', decide_eq_false_iff_not, tFldC, sFldC, tProp, tMeth, tMake, tMakeKw, rEqOwn, rInOwn, tNotR, rTru, tTruR, tLstRg, tRg2, t__law_right_s12, sp__law_flagged, rSlL]
  obtain ⟨okN, sN, pN⟩ := okF_norm sm.1
  refine ⟨norm F, hs, okN.p1, fun H1 D1 S1 hD1 hd1 => ⟨_, SqL.of hd1, fun l1 hl1 => ?_⟩⟩
  rw [cut1]
  have e1 : (List.range 60).map (fun k => setS (norm F) (1 + k)) = (List.range 60).map (fun k => setS F (1 + k)) := List.map_congr_left fun k _ => norm_set sm.1 _ (by omega)
  rw [e1]
  have S2 := Same.newp (o := .lst (((List.range 60).map (fun k => setS F (1 + k))).map V.bl)) S1 hl1
  have g1 : upd H1 l1 (.lst (((List.range 60).map (fun k => setS F (1 + k))).map V.bl)) l1 = some (.lst (((List.range 60).map (fun k => setS F (1 + k))).map V.bl)) := upd_same
  revert S2 g1
  generalize upd H1 l1 (.lst (((List.range 60).map (fun k => setS F (1 + k))).map V.bl)) = H2
  intro S2 g1
  refine ⟨_, SqL.of (S2 _ _ hD), fun l2 hl2 => ?_⟩
  rw [cut1]
  have S3' := Same.newp (o := .lst (((List.range 60).map (fun k => setS F (1 + k))).map V.bl)) (Same.refl H2) hl2
  have g2 : upd H2 l2 (.lst (((List.range 60).map (fun k => setS F (1 + k))).map V.bl)) l2 = some (.lst (((List.range 60).map (fun k => setS F (1 + k))).map V.bl)) := upd_same
  have S3 := S2.trans S3'
  refine rNe_B (S3' _ _ g1) g2 ⟨_, rfl, ?_⟩
  rw [if_neg (by simp)]
  obtain ⟨e, g, s1, s2, s3⟩ := hs
  refine ⟨_, tupOf_of (S3 _ _ s1), _, atI_1, _, tupOf_of (S3 _ _ s1), _, atI_3, ?_⟩
  obtain ⟨c1, c2, c3⟩ := least_ok sm
  refine ⟨D, setS F, (norm F).s, (norm F).P, rfl, S3 _ _ hD, okN.s1, okN.p1, by have := sm.2.1; have := sm.2.2; omega, c1, c2, c3, fun H4 S4 => ⟨true, rfl, ?_⟩⟩
  rw [if_neg (by decide)]
  exact k _ (S3.trans S4)
theorem rightD {p M r r2 x y sh D : Addr} {H : Hp} {F : Form} {v2 v9 v10 v11 : Option V} {nx bk ct : St → Hp → Prop} {rt : VK} (f : Facts B H r x y sh D F)
    (k : ∀ H' w9 w10, Same H H' → nx (sg p M v2 r r2 x y sh D w9 w10 v11) H') : tSeq (t__law_right_s13 K B) (tSeq (t__law_right_s14 K B) (t__law_right_s18 K B)) ⟨nx, rt, bk, ct⟩ (sg p M v2 r r2 x y sh D v9 v10 v11) H := by
  obtain ⟨sm, hr, hx, hy, hs, hD⟩ := id f
  have hz : sizeLine = 16777216 := rfl
  unfold sg
  simp only [tSeq, tAsg_name, tAsg_sub, tAsg_tup, tRet, tRetN, tDrop, tIfS, tNext, tNever, tBreak, tCont, tAndV, tOrV, tNotV, tAnd, tOr, tNot, tB, tTest, tIf, tCall, tCons, tNil, tVar, tC, tOp, tUn, tTup, tLst, tRevL, tPar, tPar3, tAug, ipI, tCB, tFld, sFld, iList, iTup, iRng1, iRng2, iEnum, iEnumT, tChain, tSl, tPart, tNoPart, tBM, tCallKw, tTruth, tYes, qAdd, qSub, qMul, qMulW, qDiv, qDivW, qMod, qPow, qLt, qLe, qGt, qGe, qIsN, qNotN, qInt, qAbs, qMax2, qMin2, rI0, rI, rU, rEq, rNe, scal, qIxL, qIxT, qLenQ, qSetL, lstOf_upd, tupOf_upd, atI_0, atI_1, atI_2, atI_3, upd_same, upd_upd, ixL0, ixL1, ixL2, HO.lst.injEq, HO.tup.injEq, List.getElem?_cons_zero, List.getElem?_cons_succ, List.set_cons_zero, List.set_cons_succ, Option.some.injEq, exists_eq_left', exists_eq_left, exists_and_left, V.int.injEq, V.bl.injEq, V.ref.injEq, V.str.injEq, List.append_nil, List.cons.injEq, and_assoc, and_true, true_and, reduceCtorEq, false_and, and_false, false_or, or_false, exists_false, decide_true, decide_false, Bool.not_true, Bool.not_false, not_true_eq_false, not_false_eq_true, if_true, if_false, Bool.false_eq_true, decide_eq_true_eq, Bool.not_eq_true', decide_eq_false_iff_not, tFldC, sFldC, tProp, tMeth, tMake, tMakeKw, rEqOwn, rInOwn, tNotR, rTru, tTruR, tLstRg, tRg2, t__law_right_s13, rCat]
  have e50 : (10 : Int) ^ Int.toNat 50 = 10 ^ 50 := rfl
  refine ⟨RgOk.of_le (by decide) (by decide) (by decide) (by decide), fun q1 hq1 => ⟨by decide, fun p1 hp1 => ⟨by decide, fun p2 hp2 => ⟨⟨by decide, by decide, by decide⟩, by show 8 ≤ sizeLine; decide, fun p3 hp3 => ?_⟩⟩⟩⟩
  refine ⟨_, at_new (at_new (at_new upd_same hp1) hp2) hp3, by rw [rgV_length]; show 60 + 8 ≤ sizeLine; decide, fun p4 hp4 => ?_⟩
  have a1 := at_new (o' := .lst (askedV p1 p2)) (at_new (o' := .lst [V.int 0, V.int (-1), V.non, V.bl true, V.str "3", V.ref p1, V.ref p2, V.int (10 ^ 50 + 7)]) (at_new (o' := .lst []) (upd_same (H := upd H q1 (.lst (rgV 1 61))) (a := p1) (o := .tup [V.int 3])) hp2) hp3) hp4
  have a2 := at_new (o' := .lst (askedV p1 p2)) (at_new (o' := .lst [V.int 0, V.int (-1), V.non, V.bl true, V.str "3", V.ref p1, V.ref p2, V.int (10 ^ 50 + 7)]) (upd_same (H := upd (upd H q1 (.lst (rgV 1 61))) p1 (.tup [V.int 3])) (a := p2) (o := .lst [])) hp3) hp4
  have S1 := Same.newp (o := .lst (askedV p1 p2)) (Same.newp (o := .lst [V.int 0, V.int (-1), V.non, V.bl true, V.str "3", V.ref p1, V.ref p2, V.int (10 ^ 50 + 7)]) (Same.newp (o := .lst []) (Same.newp (o := .tup [V.int 3]) (Same.newp (o := .lst (rgV 1 61)) (Same.refl H) hq1) hp1) hp2) hp3) hp4
  have a4 : (upd (upd (upd (upd (upd H q1 (.lst (rgV 1 61))) p1 (.tup [V.int 3])) p2 (.lst [])) p3 (.lst [V.int 0, V.int (-1), V.non, V.bl true, V.str "3", V.ref p1, V.ref p2, V.int (10 ^ 50 + 7)])) p4 (.lst (askedV p1 p2))) p4 = some (.lst (askedV p1 p2)) := upd_same
  show t__law_right_s14 K B _ _ (upd (upd (upd (upd (upd H q1 (.lst (rgV 1 61))) p1 (.tup [V.int 3])) p2 (.lst [])) p3 (.lst [V.int 0, V.int (-1), V.non, V.bl true, V.str "3", V.ref p1, V.ref p2, V.int (10 ^ 50 + 7)])) p4 (.lst (askedV p1 p2)))
  revert a1 a2 S1 a4
  generalize upd (upd (upd (upd (upd H q1 (.lst (rgV 1 61))) p1 (.tup [V.int 3])) p2 (.lst [])) p3 (.lst [V.int 0, V.int (-1), V.non, V.bl true, V.str "3", V.ref p1, V.ref p2, V.int (10 ^ 50 + 7)])) p4 (.lst (askedV p1 p2)) = H1
  intro a1 a2 S1 a4
  obtain ⟨e, g, r1, r2', r3⟩ := id (hr.grow S1)
  simp only [tSeq, tAsg_name, tAsg_sub, tAsg_tup, tRet, tRetN, tDrop, tIfS, tNext, tNever, tBreak, tCont, tAndV, tOrV, tNotV, tAnd, tOr, tNot, tB, tTest, tIf, tCall, tCons, tNil, tVar, tC, tOp, tUn, tTup, tLst, tRevL, tPar, tPar3, tAug, ipI, tCB, tFld, sFld, iList, iTup, iRng1, iRng2, iEnum, iEnumT, tChain, tSl, tPart, tNoPart, tBM, tCallKw, tTruth, tYes, qAdd, qSub, qMul, qMulW, qDiv, qDivW, qMod, qPow, qLt, qLe, qGt, qGe, qIsN, qNotN, qInt, qAbs, qMax2, qMin2, rI0, rI, rU, rEq, rNe, scal, qIxL, qIxT, qLenQ, qSetL, lstOf_upd, tupOf_upd, atI_0, atI_1, atI_2, atI_3, upd_same, upd_upd, ixL0, ixL1, ixL2, HO.lst.injEq, HO.tup.injEq, List.getElem?_cons_zero, List.getElem?_cons_succ, List.set_cons_zero, List.set_cons_succ, Option.some.injEq, exists_eq_left', exists_eq_left, exists_and_left, V.int.injEq, V.bl.injEq, V.ref.injEq, V.str.injEq, List.append_nil, List.cons.injEq, and_assoc, and_true, true_and, reduceCtorEq, false_and, and_false, false_or, or_false, exists_false, decide_true, decide_false, Bool.not_true, Bool.not_false, not_true_eq_false, not_false_eq_true, if_true, if_false, Bool.false_eq_true, decide_eq_true_eq, Bool.not_eq_true', decide_eq_false_iff_not, tFldC, sFldC, tProp, tMeth, tMake, tMakeKw, rEqOwn, rInOwn, tNotR, rTru, tTruR, tLstRg, tRg2, t__law_right_s14, rCat, rRep, rSlL]
  refine ⟨_, SqL.of (S1 _ _ hD), fun l1 hl1 => ⟨by decide, fun l2 hl2 => ⟨by decide, by decide, by decide, fun l3 hl3 => ?_⟩⟩⟩
  rw [cut1]
  rw [cut1] at hl2 hl3
  have er : (List.replicate (Int.toNat 7) [V.bl false]).flatten = (List.replicate 7 false).map V.bl := rfl
  rw [er]
  generalize hC : ((List.range 60).map fun k => setS F (1 + k)) = C at *
  have hCl : C.length = 60 := by rw [← hC]; simp
  refine ⟨_, at_new (at_new upd_same hl2) hl3, by rw [List.length_map, List.length_map, hCl]; decide, fun l4 hl4 => ?_⟩
  have S2 := Same.newp (o := .lst (C.map V.bl ++ (List.replicate 7 false).map V.bl)) (Same.newp (o := .lst ((List.replicate 7 false).map V.bl)) (Same.newp (o := .lst [V.bl false]) (Same.newp (o := .lst (C.map V.bl)) (Same.refl H1) hl1) hl2) hl3) hl4
  have b4 : (upd (upd (upd (upd H1 l1 (.lst (C.map V.bl))) l2 (.lst [V.bl false])) l3 (.lst ((List.replicate 7 false).map V.bl))) l4 (.lst (C.map V.bl ++ (List.replicate 7 false).map V.bl))) l4 = some (.lst (C.map V.bl ++ (List.replicate 7 false).map V.bl)) := upd_same
  revert S2 b4
  generalize upd (upd (upd (upd H1 l1 (.lst (C.map V.bl))) l2 (.lst [V.bl false])) l3 (.lst ((List.replicate 7 false).map V.bl))) l4 (.lst (C.map V.bl ++ (List.replicate 7 false).map V.bl)) = H2
  intro S2 b4
  refine ⟨⟨by decide, by decide, by decide⟩, _, tupOf_of (S2 _ _ r1), _, atI_3, ?_⟩
  have p1' := sm.1.p1
  refine ⟨_, rfl, by omega, _, tupOf_of (S2 _ _ r1), _, atI_2, ?_⟩
  refine rIn_nats (n := (10 ^ 50 + 7) % F.P) (by rw [Int.natCast_emod]; rfl) (S2 _ _ r3) ⟨by show 1 ≤ sizeLine; decide, fun l5 hl5 => ?_⟩
  refine ⟨_, at_new b4 hl5, by rw [List.length_append, List.length_map, List.length_map, hCl]; show 60 + 7 + 1 ≤ sizeLine; decide, fun l6 hl6 => ?_⟩
  have S3 := Same.newp (o := .lst ((dueB F).map V.bl)) (Same.newp (o := .lst [V.bl (decide ((10 ^ 50 + 7) % F.P ∈ F.A))]) (Same.refl H2) hl5) hl6
  have eD : C.map V.bl ++ (List.replicate 7 false).map V.bl ++ [V.bl (decide ((10 ^ 50 + 7) % F.P ∈ F.A))] = (dueB F).map V.bl := by rw [dueB, hC]; simp
  rw [eD]
  have b6 : (upd (upd H2 l5 (.lst [V.bl (decide ((10 ^ 50 + 7) % F.P ∈ F.A))])) l6 (.lst ((dueB F).map V.bl))) l6 = some (.lst ((dueB F).map V.bl)) := upd_same
  revert S3 b6
  generalize upd (upd H2 l5 (.lst [V.bl (decide ((10 ^ 50 + 7) % F.P ∈ F.A))])) l6 (.lst ((dueB F).map V.bl)) = H3
  intro S3 b6
  have S13 := S2.trans S3
  have S03 := S1.trans S13
  have dl : (dueB F).length = 68 := by unfold dueB; simp
  simp only [tSeq, tAsg_name, tAsg_sub, tAsg_tup, tRet, tRetN, tDrop, tIfS, tNext, tNever, tBreak, tCont, tAndV, tOrV, tNotV, tAnd, tOr, tNot, tB, tTest, tIf, tCall, tCons, tNil, tVar, tC, tOp, tUn, tTup, tLst, tRevL, tPar, tPar3, tAug, ipI, tCB, tFld, sFld, iList, iTup, iRng1, iRng2, iEnum, iEnumT, tChain, tSl, tPart, tNoPart, tBM, tCallKw, tTruth, tYes, qAdd, qSub, qMul, qMulW, qDiv, qDivW, qMod, qPow, qLt, qLe, qGt, qGe, qIsN, qNotN, qInt, qAbs, qMax2, qMin2, rI0, rI, rU, rEq, rNe, scal, qIxL, qIxT, qLenQ, qSetL, lstOf_upd, tupOf_upd, atI_0, atI_1, atI_2, atI_3, upd_same, upd_upd, ixL0, ixL1, ixL2, HO.lst.injEq, HO.tup.injEq, List.getElem?_cons_zero, List.getElem?_cons_succ, List.set_cons_zero, List.set_cons_succ, Option.some.injEq, exists_eq_left', exists_eq_left, exists_and_left, V.int.injEq, V.bl.injEq, V.ref.injEq, V.str.injEq, List.append_nil, List.cons.injEq, and_assoc, and_true, true_and, reduceCtorEq, false_and, and_false, false_or, or_false, exists_false, decide_true, decide_false, Bool.not_true, Bool.not_false, not_true_eq_false, not_false_eq_true, if_true, if_false, Bool.false_eq_true, decide_eq_true_eq, Bool.not_eq_true', decide_eq_false_iff_not, tFldC, sFldC, tProp, tMeth, tMake, tMakeKw, rEqOwn, rInOwn, tNotR, rTru, tTruR, tLstRg, tRg2, t__law_right_s18, tLc_go, rRepr]
  refine ⟨⟨_, SqL.of (S13 _ _ a4)⟩, map_list (SqL.of (S13 _ _ a4)) (fun v => some (.bl (inB (norm F) v))) (by unfold askedV; rw [List.length_append, rgV_length]; show 60 + 8 ≤ 16777215; decide) ?_ fun D5 H5 S5 hD5 h5 => ?_⟩
  · intro i v H5 R hv S5 k5
    have kd := asked_kd (K := K) (S5 _ _ (S13 _ _ a1)) (S5 _ _ (S13 _ _ a2)) v (List.mem_of_getElem? hv)
    have hx5 := hx.grow (S03.trans S5)
    obtain ⟨dx, r6, k6, _⟩ := id hx5
    simp only [tSeq, tAsg_name, tAsg_sub, tAsg_tup, tRet, tRetN, tDrop, tIfS, tNext, tNever, tBreak, tCont, tAndV, tOrV, tNotV, tAnd, tOr, tNot, tB, tTest, tIf, tCall, tCons, tNil, tVar, tC, tOp, tUn, tTup, tLst, tRevL, tPar, tPar3, tAug, ipI, tCB, tFld, sFld, iList, iTup, iRng1, iRng2, iEnum, iEnumT, tChain, tSl, tPart, tNoPart, tBM, tCallKw, tTruth, tYes, qAdd, qSub, qMul, qMulW, qDiv, qDivW, qMod, qPow, qLt, qLe, qGt, qGe, qIsN, qNotN, qInt, qAbs, qMax2, qMin2, rI0, rI, rU, rEq, rNe, scal, qIxL, qIxT, qLenQ, qSetL, lstOf_upd, tupOf_upd, atI_0, atI_1, atI_2, atI_3, upd_same, upd_upd, ixL0, ixL1, ixL2, HO.lst.injEq, HO.tup.injEq, List.getElem?_cons_zero, List.getElem?_cons_succ, List.set_cons_zero, List.set_cons_succ, Option.some.injEq, exists_eq_left', exists_eq_left, exists_and_left, V.int.injEq, V.bl.injEq, V.ref.injEq, V.str.injEq, List.append_nil, List.cons.injEq, and_assoc, and_true, true_and, reduceCtorEq, false_and, and_false, false_or, or_false, exists_false, decide_true, decide_false, Bool.not_true, Bool.not_false, not_true_eq_false, not_false_eq_true, if_true, if_false, Bool.false_eq_true, decide_eq_true_eq, Bool.not_eq_true', decide_eq_false_iff_not, tFldC, sFldC, tProp, tMeth, tMake, tMakeKw, rEqOwn, rInOwn, tNotR, rTru, tTruR, tLstRg, tRg2, gName_ap, gTup_ap, gCons_ap, gNil_ap, gSub_ap, LcStep, t__law_right_e15, wipe, sp_Lengths____contains__]
    exact ⟨dx, _, k6, norm F, hx5, (okF_norm sm.1).1.p1, kd, k5 _ (Same.refl _)⟩
  · have em : (askedV p1 p2).map (fun v => V.bl (inB (norm F) v)) = (dueB F).map V.bl := by rw [← asked_due sm p1 p2, List.map_map]; rfl
    rw [fm_some, em] at h5
    have pr : Pr 60 20000 (.list (dB (dueB F))) := (pr_B (dueB F) (n := 68) (by omega)).mono (by decide) (by decide)
    refine ⟨_, .lst (SqL.of h5) (dpall_B _), pr, _, .lst (SqL.of (S5 _ _ b6)) (dpall_B _), pr, ?_⟩
    rw [if_neg (fun z => z rfl)]
    exact k _ _ _ (S03.trans S5)
theorem rightE {p M r r2 x y sh D : Addr} {H : Hp} {F : Form} {v2 v9 v10 v11 : Option V} {nx bk ct : St → Hp → Prop} {rt : VK} (f : Facts B H r x y sh D F)
    (k : ∀ H' w11, Same H H' → nx (sg p M v2 r r2 x y sh D v9 v10 w11) H') : tSeq (t__law_right_s21 K B) (t__law_right_s24 K B) ⟨nx, rt, bk, ct⟩ (sg p M v2 r r2 x y sh D v9 v10 v11) H := by
  obtain ⟨sm, hr, hx, hy, hs, hD⟩ := id f
  have hz : sizeLine = 16777216 := rfl
  unfold sg
  simp only [tSeq, tAsg_name, tAsg_sub, tAsg_tup, tRet, tRetN, tDrop, tIfS, tNext, tNever, tBreak, tCont, tAndV, tOrV, tNotV, tAnd, tOr, tNot, tB, tTest, tIf, tCall, tCons, tNil, tVar, tC, tOp, tUn, tTup, tLst, tRevL, tPar, tPar3, tAug, ipI, tCB, tFld, sFld, iList, iTup, iRng1, iRng2, iEnum, iEnumT, tChain, tSl, tPart, tNoPart, tBM, tCallKw, tTruth, tYes, qAdd, qSub, qMul, qMulW, qDiv, qDivW, qMod, qPow, qLt, qLe, qGt, qGe, qIsN, qNotN, qInt, qAbs, qMax2, qMin2, rI0, rI, rU, rEq, rNe, scal, qIxL, qIxT, qLenQ, qSetL, lstOf_upd, tupOf_upd, atI_0, atI_1, atI_2, atI_3, upd_same, upd_upd, ixL0, ixL1, ixL2, HO.lst.injEq, HO.tup.injEq, List.getElem?_cons_zero, List.getElem?_cons_succ, List.set_cons_zero, List.set_cons_succ, Option.some.injEq, exists_eq_left', exists_eq_left, exists_and_left, V.int.injEq, V.bl.injEq, V.ref.injEq, V.str.injEq, List.append_nil, List.cons.injEq, and_assoc, and_true, true_and, reduceCtorEq, false_and, and_false, false_or, or_false, exists_false, decide_true, decide_false, Bool.not_true, Bool.not_false, not_true_eq_false, not_false_eq_true, if_true, if_false, Bool.false_eq_true, decide_eq_true_eq, Bool.not_eq_true', decide_eq_false_iff_not, tFldC, sFldC, tProp, tMeth, tMake, tMakeKw, rEqOwn, rInOwn, tNotR, rTru, tTruR, tLstRg, tRg2, t__law_right_s21, tLc_go]
  refine ⟨by decide, by decide, by decide, by decide, ?_⟩
  have e60 : ((61 : Int) - 1).toNat = 60 := rfl
  rw [e60]
  refine map_rng (n := 60) (fun i => if setS F (i + 1) then some (V.int ((i + 1 : Nat) : Int)) else none) (by decide) ?_ fun D1 H1 S1 hD1 h1 => ?_
  · intro i H1 R hi S1 k1
    have ei : (1 : Int) + (i : Int) = ((i + 1 : Nat) : Int) := by omega
    simp only [tSeq, tAsg_name, tAsg_sub, tAsg_tup, tRet, tRetN, tDrop, tIfS, tNext, tNever, tBreak, tCont, tAndV, tOrV, tNotV, tAnd, tOr, tNot, tB, tTest, tIf, tCall, tCons, tNil, tVar, tC, tOp, tUn, tTup, tLst, tRevL, tPar, tPar3, tAug, ipI, tCB, tFld, sFld, iList, iTup, iRng1, iRng2, iEnum, iEnumT, tChain, tSl, tPart, tNoPart, tBM, tCallKw, tTruth, tYes, qAdd, qSub, qMul, qMulW, qDiv, qDivW, qMod, qPow, qLt, qLe, qGt, qGe, qIsN, qNotN, qInt, qAbs, qMax2, qMin2, rI0, rI, rU, rEq, rNe, scal, qIxL, qIxT, qLenQ, qSetL, lstOf_upd, tupOf_upd, atI_0, atI_1, atI_2, atI_3, upd_same, upd_upd, ixL0, ixL1, ixL2, HO.lst.injEq, HO.tup.injEq, List.getElem?_cons_zero, List.getElem?_cons_succ, List.set_cons_zero, List.set_cons_succ, Option.some.injEq, exists_eq_left', exists_eq_left, exists_and_left, V.int.injEq, V.bl.injEq, V.ref.injEq, V.str.injEq, List.append_nil, List.cons.injEq, and_assoc, and_true, true_and, reduceCtorEq, false_and, and_false, false_or, or_false, exists_false, decide_true, decide_false, Bool.not_true, Bool.not_false, not_true_eq_false, not_false_eq_true, if_true, if_false, Bool.false_eq_true, decide_eq_true_eq, Bool.not_eq_true', decide_eq_false_iff_not, tFldC, sFldC, tProp, tMeth, tMake, tMakeKw, rEqOwn, rInOwn, tNotR, rTru, tTruR, tLstRg, tRg2, gName_ap, gTup_ap, gCons_ap, gNil_ap, gSub_ap, LcStep, t__law_right_c19, t__law_right_e20, wipe, lstOf_of (S1 _ _ hD), ei, atI_bits (f := setS F) (n := 61) (i := i + 1) rfl (by omega)]
    cases c : setS F (i + 1) with
    | true => rw [c] at k1; exact k1 _ (Same.refl _)
    | false => rw [c] at k1; exact k1 _ (Same.refl _)
  · rw [early_V (setS F) 61] at h1
    change H1 D1 = some (.lst (ofNats (members (setS F) 60))) at h1
    obtain ⟨okN, sN, pN⟩ := okF_norm sm.1
    have hx1 := hx.grow S1
    have hs1 := hs.grow S1
    obtain ⟨e, g, r1, r2', r3'⟩ := id (hr.grow S1)
    obtain ⟨dx, r3, k1, held⟩ := id hx1
    have lk : ∀ (s : Str), s ≠ "held" → List.lookup s ([("held", V.ref r3)] : List (Str × V)) = none := fun s hs => by
      have : (s == ("held" : Str)) = false := beq_eq_false_iff_ne.mpr hs
      simp [List.lookup, this]
    unfold t__law_right_s24
    refine ifOr3 ?_ ?_ ?_ fun H2 S2 => k _ _ (S1.trans S2)
    · intro R kR
      simp only [tSeq, tAsg_name, tAsg_sub, tAsg_tup, tRet, tRetN, tDrop, tIfS, tNext, tNever, tBreak, tCont, tAndV, tOrV, tNotV, tAnd, tOr, tNot, tB, tTest, tIf, tCall, tCons, tNil, tVar, tC, tOp, tUn, tTup, tLst, tRevL, tPar, tPar3, tAug, ipI, tCB, tFld, sFld, iList, iTup, iRng1, iRng2, iEnum, iEnumT, tChain, tSl, tPart, tNoPart, tBM, tCallKw, tTruth, tYes, qAdd, qSub, qMul, qMulW, qDiv, qDivW, qMod, qPow, qLt, qLe, qGt, qGe, qIsN, qNotN, qInt, qAbs, qMax2, qMin2, rI0, rI, rU, rEq, rNe, scal, qIxL, qIxT, qLenQ, qSetL, lstOf_upd, tupOf_upd, atI_0, atI_1, atI_2, atI_3, upd_same, upd_upd, ixL0, ixL1, ixL2, HO.lst.injEq, HO.tup.injEq, List.getElem?_cons_zero, List.getElem?_cons_succ, List.set_cons_zero, List.set_cons_succ, Option.some.injEq, exists_eq_left', exists_eq_left, exists_and_left, V.int.injEq, V.bl.injEq, V.ref.injEq, V.str.injEq, List.append_nil, List.cons.injEq, and_assoc, and_true, true_and, reduceCtorEq, false_and, and_false, false_or, or_false, exists_false, decide_true, decide_false, Bool.not_true, Bool.not_false, not_true_eq_false, not_false_eq_true, if_true, if_false, Bool.false_eq_true, decide_eq_true_eq, Bool.not_eq_true', decide_eq_false_iff_not, tFldC, sFldC, tProp, tMeth, tMake, tMakeKw, rEqOwn, rInOwn, tNotR, rTru, tTruR, tLstRg, tRg2, sp_Lengths__first]
      refine ⟨dx, _, k1, lk _ (by decide +kernel), norm F, hx1, okN, fun H2 S2 => ⟨by decide, fun o ho => ?_⟩⟩
      have S3' := Same.newp (o := .lst []) (Same.refl H2) ho
      have S3 := S2.trans S3'
      refine ne_nilL (L := members (setS F) 60) (S3 _ _ h1) upd_same ⟨_, rfl, ?_⟩
      rw [first_norm sm]
      have h3 := S3 _ _ h1
      cases hm : members (setS F) 60 with
      | nil =>
        refine ⟨_, _, .non, .non, rfl, rfl, false, rfl, kR _ S3⟩
      | cons n l =>
        rw [hm] at h3
        rw [if_pos (by simp)]
        exact ⟨_, lstOf_of h3, _, atI_0, _, _, .int _, .int _, rfl, rfl, false, by simp [PyData.eqv], kR _ S3⟩
    · intro H2 S2 R kR
      simp only [tSeq, tAsg_name, tAsg_sub, tAsg_tup, tRet, tRetN, tDrop, tIfS, tNext, tNever, tBreak, tCont, tAndV, tOrV, tNotV, tAnd, tOr, tNot, tB, tTest, tIf, tCall, tCons, tNil, tVar, tC, tOp, tUn, tTup, tLst, tRevL, tPar, tPar3, tAug, ipI, tCB, tFld, sFld, iList, iTup, iRng1, iRng2, iEnum, iEnumT, tChain, tSl, tPart, tNoPart, tBM, tCallKw, tTruth, tYes, qAdd, qSub, qMul, qMulW, qDiv, qDivW, qMod, qPow, qLt, qLe, qGt, qGe, qIsN, qNotN, qInt, qAbs, qMax2, qMin2, rI0, rI, rU, rEq, rNe, scal, qIxL, qIxT, qLenQ, qSetL, lstOf_upd, tupOf_upd, atI_0, atI_1, atI_2, atI_3, upd_same, upd_upd, ixL0, ixL1, ixL2, HO.lst.injEq, HO.tup.injEq, List.getElem?_cons_zero, List.getElem?_cons_succ, List.set_cons_zero, List.set_cons_succ, Option.some.injEq, exists_eq_left', exists_eq_left, exists_and_left, V.int.injEq, V.bl.injEq, V.ref.injEq, V.str.injEq, List.append_nil, List.cons.injEq, and_assoc, and_true, true_and, reduceCtorEq, false_and, and_false, false_or, or_false, exists_false, decide_true, decide_false, Bool.not_true, Bool.not_false, not_true_eq_false, not_false_eq_true, if_true, if_false, Bool.false_eq_true, decide_eq_true_eq, Bool.not_eq_true', decide_eq_false_iff_not, tFldC, sFldC, tProp, tMeth, tMake, tMakeKw, rEqOwn, rInOwn, tNotR, rTru, tTruR, tLstRg, tRg2, sp_Lengths__endless]
      refine ⟨dx, _, S2 _ _ k1, lk _ (by decide +kernel), norm F, hx1.grow S2, fun H3 S3 => ⟨_, tupOf_of (S3 _ _ (S2 _ _ r1)), _, atI_2, by decide, fun o ho => ?_⟩⟩
      have S4 := Same.newp (o := .tup []) (Same.refl H3) ho
      refine ne_nil (L := F.A) (S4 _ _ (S3 _ _ (S2 _ _ r3'))) upd_same ?_
      rw [endless_norm sm.1]
      simp only [tSeq, tAsg_name, tAsg_sub, tAsg_tup, tRet, tRetN, tDrop, tIfS, tNext, tNever, tBreak, tCont, tAndV, tOrV, tNotV, tAnd, tOr, tNot, tB, tTest, tIf, tCall, tCons, tNil, tVar, tC, tOp, tUn, tTup, tLst, tRevL, tPar, tPar3, tAug, ipI, tCB, tFld, sFld, iList, iTup, iRng1, iRng2, iEnum, iEnumT, tChain, tSl, tPart, tNoPart, tBM, tCallKw, tTruth, tYes, qAdd, qSub, qMul, qMulW, qDiv, qDivW, qMod, qPow, qLt, qLe, qGt, qGe, qIsN, qNotN, qInt, qAbs, qMax2, qMin2, rI0, rI, rU, rEq, rNe, scal, qIxL, qIxT, qLenQ, qSetL, lstOf_upd, tupOf_upd, atI_0, atI_1, atI_2, atI_3, upd_same, upd_upd, ixL0, ixL1, ixL2, HO.lst.injEq, HO.tup.injEq, List.getElem?_cons_zero, List.getElem?_cons_succ, List.set_cons_zero, List.set_cons_succ, Option.some.injEq, exists_eq_left', exists_eq_left, exists_and_left, V.int.injEq, V.bl.injEq, V.ref.injEq, V.str.injEq, List.append_nil, List.cons.injEq, and_assoc, and_true, true_and, reduceCtorEq, false_and, and_false, false_or, or_false, exists_false, decide_true, decide_false, Bool.not_true, Bool.not_false, not_true_eq_false, not_false_eq_true, if_true, if_false, Bool.false_eq_true, decide_eq_true_eq, Bool.not_eq_true', decide_eq_false_iff_not, tFldC, sFldC, tProp, tMeth, tMake, tMakeKw, rEqOwn, rInOwn, tNotR, rTru, tTruR, tLstRg, tRg2]
      exact kR _ (S2.trans (S3.trans S4))
    · intro H2 S2 R kR
      obtain ⟨e', g', t1, t2, t3⟩ := id (hs1.grow S2)
      simp only [tSeq, tAsg_name, tAsg_sub, tAsg_tup, tRet, tRetN, tDrop, tIfS, tNext, tNever, tBreak, tCont, tAndV, tOrV, tNotV, tAnd, tOr, tNot, tB, tTest, tIf, tCall, tCons, tNil, tVar, tC, tOp, tUn, tTup, tLst, tRevL, tPar, tPar3, tAug, ipI, tCB, tFld, sFld, iList, iTup, iRng1, iRng2, iEnum, iEnumT, tChain, tSl, tPart, tNoPart, tBM, tCallKw, tTruth, tYes, qAdd, qSub, qMul, qMulW, qDiv, qDivW, qMod, qPow, qLt, qLe, qGt, qGe, qIsN, qNotN, qInt, qAbs, qMax2, qMin2, rI0, rI, rU, rEq, rNe, scal, qIxL, qIxT, qLenQ, qSetL, lstOf_upd, tupOf_upd, atI_0, atI_1, atI_2, atI_3, upd_same, upd_upd, ixL0, ixL1, ixL2, HO.lst.injEq, HO.tup.injEq, List.getElem?_cons_zero, List.getElem?_cons_succ, List.set_cons_zero, List.set_cons_succ, Option.some.injEq, exists_eq_left', exists_eq_left, exists_and_left, V.int.injEq, V.bl.injEq, V.ref.injEq, V.str.injEq, List.append_nil, List.cons.injEq, and_assoc, and_true, true_and, reduceCtorEq, false_and, and_false, false_or, or_false, exists_false, decide_true, decide_false, Bool.not_true, Bool.not_false, not_true_eq_false, not_false_eq_true, if_true, if_false, Bool.false_eq_true, decide_eq_true_eq, Bool.not_eq_true', decide_eq_false_iff_not, tFldC, sFldC, tProp, tMeth, tMake, tMakeKw, rEqOwn, rInOwn, tNotR, rTru, tTruR, tLstRg, tRg2]
      exact ⟨dx, _, S2 _ _ k1, .type "tuple", tyx_tup (SqT.of t1), T.nf_tup, x, norm F, .ref sh, rfl, hx1.grow S2, .inr ⟨sh, _, rfl, SqT.of t1, false, rfl, kR _ S2⟩⟩
theorem rightF {p M r r2 x y sh D : Addr} {H : Hp} {F : Form} {Fs : List Form} {v2 v9 v10 v11 : Option V} {nx bk ct : St → Hp → Prop} {rt : VK} (f : Facts B H r x y sh D F) (hp : PoolAt H p) (hM : M ≠ p) (hl : Fs.length ≤ 10) (m : MadeAt B H p M Fs)
    (k : ∀ H', (∀ b o, b ≠ M → H b = some o → H' b = some o) → MadeAt B H' p M (Fs ++ [F]) → nx (sg p M v2 r r2 x y sh D v9 v10 v11) H') : t__law_right_s25 K B ⟨nx, rt, bk, ct⟩ (sg p M v2 r r2 x y sh D v9 v10 v11) H := by
  obtain ⟨sm, hr, hx, hy, hs, hD⟩ := id f
  obtain ⟨ts, mM, ml, me, msm⟩ := m
  have hz : sizeLine = 16777216 := rfl
  unfold sg
  simp only [tSeq, tAsg_name, tAsg_sub, tAsg_tup, tRet, tRetN, tDrop, tIfS, tNext, tNever, tBreak, tCont, tAndV, tOrV, tNotV, tAnd, tOr, tNot, tB, tTest, tIf, tCall, tCons, tNil, tVar, tC, tOp, tUn, tTup, tLst, tRevL, tPar, tPar3, tAug, ipI, tCB, tFld, sFld, iList, iTup, iRng1, iRng2, iEnum, iEnumT, tChain, tSl, tPart, tNoPart, tBM, tCallKw, tTruth, tYes, qAdd, qSub, qMul, qMulW, qDiv, qDivW, qMod, qPow, qLt, qLe, qGt, qGe, qIsN, qNotN, qInt, qAbs, qMax2, qMin2, rI0, rI, rU, rEq, rNe, scal, qIxL, qIxT, qLenQ, qSetL, lstOf_upd, tupOf_upd, atI_0, atI_1, atI_2, atI_3, upd_same, upd_upd, ixL0, ixL1, ixL2, HO.lst.injEq, HO.tup.injEq, List.getElem?_cons_zero, List.getElem?_cons_succ, List.set_cons_zero, List.set_cons_succ, Option.some.injEq, exists_eq_left', exists_eq_left, exists_and_left, V.int.injEq, V.bl.injEq, V.ref.injEq, V.str.injEq, List.append_nil, List.cons.injEq, and_assoc, and_true, true_and, reduceCtorEq, false_and, and_false, false_or, or_false, exists_false, decide_true, decide_false, Bool.not_true, Bool.not_false, not_true_eq_false, not_false_eq_true, if_true, if_false, Bool.false_eq_true, decide_eq_true_eq, Bool.not_eq_true', decide_eq_false_iff_not, tFldC, sFldC, tProp, tMeth, tMake, tMakeKw, rEqOwn, rInOwn, tNotR, rTru, tTruR, tLstRg, tRg2, t__law_right_s25, rSlL]
  have tl : ts.length ≤ 10 := by omega
  refine ⟨.inl ⟨rfl, _, SqL.of mM⟩, _, SqL.of hD, fun l hl1 => ⟨by show 2 ≤ sizeLine; decide, fun t ht => ?_⟩⟩
  rw [cut1]
  rw [cut1] at ht
  have S2 : Same H (upd (upd H l (.lst ((bits60 F).map V.bl))) t (.tup [V.ref x, V.ref l])) := Same.newp (Same.newp (Same.refl H) hl1) ht
  have g1 : upd (upd H l (.lst ((bits60 F).map V.bl))) t (.tup [V.ref x, V.ref l]) l = some (.lst ((bits60 F).map V.bl)) := at_new upd_same ht
  have g2 : upd (upd H l (.lst ((bits60 F).map V.bl))) t (.tup [V.ref x, V.ref l]) t = some (.tup [V.ref x, V.ref l]) := upd_same
  have ht0 : H t = none := (Same.newp (o := .lst ((bits60 F).map V.bl)) (Same.refl H) hl1).free ht
  show rAppend (V.ref M) [V.ref t] (upd (upd H l (.lst ((bits60 F).map V.bl))) t (.tup [V.ref x, V.ref l])) _
  revert S2 g1 g2
  generalize upd (upd H l (.lst ((bits60 F).map V.bl))) t (.tup [V.ref x, V.ref l]) = H2
  intro S2 g1 g2
  have nlp := hp.not hl1
  have ntp := hp.not ht0
  have nlM : l ≠ M := (ne_of_none mM hl1).symm
  have ntM : t ≠ M := (ne_of_none mM ht0).symm
  refine ⟨M, _, _, rfl, rfl, S2 _ _ mM, by rw [List.length_map]; omega, ?_⟩
  have keep : ∀ b o, b ≠ M → H b = some o → upd H2 M (.lst (ts.map V.ref ++ [V.ref t])) b = some o := fun b o hb h => by rw [upd_ne hb]; exact S2 _ _ h
  refine k _ keep ⟨ts ++ [t], by rw [upd_same]; simp, by simp [ml], fun i u G h1 h2 => ?_, fun G hG => ?_⟩
  · by_cases c : i < ts.length
    · rw [List.getElem?_append_left c] at h1
      rw [List.getElem?_append_left (by omega)] at h2
      exact (me i u G h1 h2).grow (minus_grow fun b o _ hb h => keep b o hb h)
    · have ei : i = ts.length := by
        have := (List.getElem?_eq_some_iff.mp h1).1
        simp at this
        omega
      rw [ei, List.getElem?_concat_length] at h1
      rw [ei, ml, List.getElem?_concat_length] at h2
      cases h1; cases h2
      exact ⟨x, l, minus_of (by rw [upd_ne ntM]; exact g2) ntp ntM, hx.cut hp mM keep, minus_of (by rw [upd_ne nlM]; exact g1) nlp nlM⟩
  · rcases List.mem_append.mp hG with h | h
    · exact msm G h
    · rw [List.mem_singleton] at h
      rw [h]
      exact sm
end
end RA.K10

namespace RA.K10
open PySem PySem.Spec L2 RA
open PyProof.Rows hiding St
theorem seq_assoc {a b c : TS} : tSeq (tSeq a b) c = tSeq a (tSeq b c) := rfl
theorem seq_ap {a b : TS} {D : Ends} {σ : St} {H : Hp} : tSeq a b D σ H = a ⟨b D, D.rt, D.bk, D.ct⟩ σ H := rfl
def form1 : Form := ⟨[1, 3, 5], 7, [1, 3], 4⟩
def form1n : Form := ⟨[], 1, [1], 2⟩
theorem form1_norm : norm form1 = form1n := by decide +kernel
theorem form1_ok : OkF form1 := ⟨by decide, by decide, by decide, by decide, ⟨by decide, by decide⟩, ⟨by decide, by decide⟩⟩
section
variable {K : PySem.W.Frag} {B : CA} {mg : Str → Option Value} (T : Txt K mg B)
include T
theorem turn_eq : t__law_right_b26 K B = tSeq (tSeq (t__law_right_s2 K B) (tSeq (t__law_right_s3 K B) (tSeq (t__law_right_s4 K B) (tSeq (t__law_right_s5 K B) (t__law_right_s6 K B)))))
    (tSeq (t__law_right_s9 K B) (tSeq (t__law_right_s12 K B) (tSeq (tSeq (t__law_right_s13 K B) (tSeq (t__law_right_s14 K B) (t__law_right_s18 K B))) (tSeq (tSeq (t__law_right_s21 K B) (t__law_right_s24 K B)) (t__law_right_s25 K B))))) := by
  unfold t__law_right_b26
  simp only [seq_assoc]
theorem pure__law_right (vs : List V) (H : Hp) (Q : VK) (E : XK) (h : sp__law_right K B vs H Q E) : t__law_right K B { nx := fun _ H' => Q .non H', rt := Q } (L2.start ["_law_bag_here", "_law_made", "_law_turn", "_law_shape", "_law_near", "_law_mine", "_law_mate", "_law_shown", "_law_flags", "_law_asked", "_law_due", "_law_some", "_law_k", "_law_each"] vs) H := by
  obtain ⟨p, rfl, hp, q⟩ := h
  show t__law_right K B _ [some (.ref p), none, none, none, none, none, none, none, none, none, none, none, none, none] H
  have hz : sizeLine = 16777216 := rfl
  simp only [tSeq, tAsg_name, tAsg_sub, tAsg_tup, tRet, tRetN, tDrop, tIfS, tNext, tNever, tBreak, tCont, tAndV, tOrV, tNotV, tAnd, tOr, tNot, tB, tTest, tIf, tCall, tCons, tNil, tVar, tC, tOp, tUn, tTup, tLst, tRevL, tPar, tPar3, tAug, ipI, tCB, tFld, sFld, iList, iTup, iRng1, iRng2, iEnum, iEnumT, tChain, tSl, tPart, tNoPart, tBM, tCallKw, tTruth, tYes, qAdd, qSub, qMul, qMulW, qDiv, qDivW, qMod, qPow, qLt, qLe, qGt, qGe, qIsN, qNotN, qInt, qAbs, qMax2, qMin2, rI0, rI, rU, rEq, rNe, scal, qIxL, qIxT, qLenQ, qSetL, lstOf_upd, tupOf_upd, atI_0, atI_1, atI_2, atI_3, upd_same, upd_upd, ixL0, ixL1, ixL2, HO.lst.injEq, HO.tup.injEq, List.getElem?_cons_zero, List.getElem?_cons_succ, List.set_cons_zero, List.set_cons_succ, Option.some.injEq, exists_eq_left', exists_eq_left, exists_and_left, V.int.injEq, V.bl.injEq, V.ref.injEq, V.str.injEq, List.append_nil, List.cons.injEq, and_assoc, and_true, true_and, reduceCtorEq, false_and, and_false, false_or, or_false, exists_false, decide_true, decide_false, Bool.not_true, Bool.not_false, not_true_eq_false, not_false_eq_true, if_true, if_false, Bool.false_eq_true, decide_eq_true_eq, Bool.not_eq_true', decide_eq_false_iff_not, tFldC, sFldC, tProp, tMeth, tMake, tMakeKw, rEqOwn, rInOwn, tNotR, rTru, tTruR, tLstRg, tRg2, t__law_right, t__law_right_s1]
  refine ⟨by decide, fun M hM => ?_⟩
  have hMp := hp.not hM
  simp only [tSeq, tAsg_name, tAsg_sub, tAsg_tup, tRet, tRetN, tDrop, tIfS, tNext, tNever, tBreak, tCont, tAndV, tOrV, tNotV, tAnd, tOr, tNot, tB, tTest, tIf, tCall, tCons, tNil, tVar, tC, tOp, tUn, tTup, tLst, tRevL, tPar, tPar3, tAug, ipI, tCB, tFld, sFld, iList, iTup, iRng1, iRng2, iEnum, iEnumT, tChain, tSl, tPart, tNoPart, tBM, tCallKw, tTruth, tYes, qAdd, qSub, qMul, qMulW, qDiv, qDivW, qMod, qPow, qLt, qLe, qGt, qGe, qIsN, qNotN, qInt, qAbs, qMax2, qMin2, rI0, rI, rU, rEq, rNe, scal, qIxL, qIxT, qLenQ, qSetL, lstOf_upd, tupOf_upd, atI_0, atI_1, atI_2, atI_3, upd_same, upd_upd, ixL0, ixL1, ixL2, HO.lst.injEq, HO.tup.injEq, List.getElem?_cons_zero, List.getElem?_cons_succ, List.set_cons_zero, List.set_cons_succ, Option.some.injEq, exists_eq_left', exists_eq_left, exists_and_left, V.int.injEq, V.bl.injEq, V.ref.injEq, V.str.injEq, List.append_nil, List.cons.injEq, and_assoc, and_true, true_and, reduceCtorEq, false_and, and_false, false_or, or_false, exists_false, decide_true, decide_false, Bool.not_true, Bool.not_false, not_true_eq_false, not_false_eq_true, if_true, if_false, Bool.false_eq_true, decide_eq_true_eq, Bool.not_eq_true', decide_eq_false_iff_not, tFldC, sFldC, tProp, tMeth, tMake, tMakeKw, rEqOwn, rInOwn, tNotR, rTru, tTruR, tLstRg, tRg2, t__law_right_s27, tFor]
  have D0 : Drawn p H (upd H M (.lst [])) := (Drawn.refl hp).new hM
  refine ⟨by decide, by decide, lp_rng (n := 5) (fun i σ H' => Drawn p H H' ∧ ∃ Fs, Fs.length = i ∧ MadeAt B H' p M Fs ∧ ∃ v2 v3 v4 v5 v6 v7 v8 v9 v10 v11, σ = [some (.ref p), some (.ref M), v2, v3, v4, v5, v6, v7, v8, v9, v10, v11, none, none]) ⟨D0, [], rfl, ⟨[], upd_same, rfl, fun i t F h1 h2 => by simp at h1, fun F hF => by simp at hF⟩, none, none, none, none, none, none, none, none, none, none, rfl⟩ ?_ ?_⟩
  · rintro i σ H1 hi ⟨D1, Fs, hl, hm, v2, v3, v4, v5, v6, v7, v8, v9, v10, v11, rfl⟩
    rw [gName_ap]
    rw [turn_eq T, seq_ap]
    refine rightA T (p := p) (M := M) D1.2 fun H2 r r2 x y sh D F d2 fc => ?_
    rw [seq_ap]
    refine rightB T fc fun H3 S3 => ?_
    have fc := fc.grow S3
    rw [seq_ap]
    refine rightC T fc fun H4 S4 => ?_
    have fc := fc.grow S4
    rw [seq_ap]
    refine rightD T fc fun H5 w9 w10 S5 => ?_
    have fc := fc.grow S5
    rw [seq_ap]
    refine rightE T fc fun H6 w11 S6 => ?_
    have fc := fc.grow S6
    have S26 := ((S3.trans S4).trans S5).trans S6
    have D6 : Drawn p H1 H6 := ⟨fun b o hb h => S26 _ _ (d2.1 b o hb h), d2.2.same S26⟩
    have hm6 : MadeAt B H6 p M Fs := by
      obtain ⟨ts, mM, ml, me, msm⟩ := hm
      exact ⟨ts, D6.1 _ _ hMp mM, ml, fun i t G h1 h2 => (me i t G h1 h2).grow (minus_grow fun b o hb _ h => D6.1 b o hb h), msm⟩
    refine rightF T fc D6.2 hMp (by omega) hm6 fun H7 k7 m7 => ?_
    have D7 : Drawn p H H7 := by
      refine ⟨fun b o hb h => k7 b o (fun z => by rw [z, hM] at h; cases h) (D6.1 b o hb (D1.1 b o hb h)), ?_⟩
      obtain ⟨d, s, n, z⟩ := D6.2
      exact ⟨d, s, n, k7 _ _ (Ne.symm hMp) z⟩
    exact ⟨D7, Fs ++ [F], by simp [hl], m7, _, _, _, _, _, _, _, _, _, _, rfl⟩
  · rintro σ H1 ⟨D1, Fs, hl, ⟨ts, mM, ml, me, msm⟩, v2, v3, v4, v5, v6, v7, v8, v9, v10, v11, rfl⟩
    simp only [tSeq, tAsg_name, tAsg_sub, tAsg_tup, tRet, tRetN, tDrop, tIfS, tNext, tNever, tBreak, tCont, tAndV, tOrV, tNotV, tAnd, tOr, tNot, tB, tTest, tIf, tCall, tCons, tNil, tVar, tC, tOp, tUn, tTup, tLst, tRevL, tPar, tPar3, tAug, ipI, tCB, tFld, sFld, iList, iTup, iRng1, iRng2, iEnum, iEnumT, tChain, tSl, tPart, tNoPart, tBM, tCallKw, tTruth, tYes, qAdd, qSub, qMul, qMulW, qDiv, qDivW, qMod, qPow, qLt, qLe, qGt, qGe, qIsN, qNotN, qInt, qAbs, qMax2, qMin2, rI0, rI, rU, rEq, rNe, scal, qIxL, qIxT, qLenQ, qSetL, lstOf_upd, tupOf_upd, atI_0, atI_1, atI_2, atI_3, upd_same, upd_upd, ixL0, ixL1, ixL2, HO.lst.injEq, HO.tup.injEq, List.getElem?_cons_zero, List.getElem?_cons_succ, List.set_cons_zero, List.set_cons_succ, Option.some.injEq, exists_eq_left', exists_eq_left, exists_and_left, V.int.injEq, V.bl.injEq, V.ref.injEq, V.str.injEq, List.append_nil, List.cons.injEq, and_assoc, and_true, true_and, reduceCtorEq, false_and, and_false, false_or, or_false, exists_false, decide_true, decide_false, Bool.not_true, Bool.not_false, not_true_eq_false, not_false_eq_true, if_true, if_false, Bool.false_eq_true, decide_eq_true_eq, Bool.not_eq_true', decide_eq_false_iff_not, tFldC, sFldC, tProp, tMeth, tMake, tMakeKw, rEqOwn, rInOwn, tNotR, rTru, tTruR, tLstRg, tRg2, t__law_right_s30, tLc_go]
    have hl5 : Fs.length = 5 := hl
    obtain ⟨F0, hF0⟩ : ∃ F0, Fs[0]? = some F0 := ⟨Fs[0], List.getElem?_eq_getElem (by omega)⟩
    obtain ⟨t0, ht0⟩ : ∃ t0, ts[0]? = some t0 := ⟨ts[0], List.getElem?_eq_getElem (by omega)⟩
    have en0 := (me 0 t0 F0 ht0 hF0).grow minus_same
    have sm0 := msm F0 (List.mem_of_getElem? hF0)
    have g0 : atI (ts.map V.ref) 0 = some (.ref t0) := atI_nat (j := 0) (by rw [List.getElem?_map, ht0]; rfl)
    refine ⟨⟨_, SqL.of mM⟩, map_list (SqL.of mM) (fun _ => none) (by rw [List.length_map]; omega) ?_ fun D2 H2 S2 hD2 h2 => ?_⟩
    · intro i v H2 R hv S2 k
      obtain ⟨t, ht, rfl⟩ := refs_get hv
      obtain ⟨G, hG⟩ : ∃ G, Fs[i]? = some G := ⟨Fs[i]'(by have := (List.getElem?_eq_some_iff.mp ht).1; omega), List.getElem?_eq_getElem _⟩
      have smG := msm G (List.mem_of_getElem? hG)
      obtain ⟨a, f, e1, e2, e3⟩ := ((me i t G ht hG).grow minus_same).grow S2
      obtain ⟨a0, f0, o1, o2, o3⟩ := en0.grow S2
      obtain ⟨dx, r3, k1, held⟩ := id e2
      obtain ⟨dy, r4, k2, held2⟩ := id o2
      simp only [tSeq, tAsg_name, tAsg_sub, tAsg_tup, tRet, tRetN, tDrop, tIfS, tNext, tNever, tBreak, tCont, tAndV, tOrV, tNotV, tAnd, tOr, tNot, tB, tTest, tIf, tCall, tCons, tNil, tVar, tC, tOp, tUn, tTup, tLst, tRevL, tPar, tPar3, tAug, ipI, tCB, tFld, sFld, iList, iTup, iRng1, iRng2, iEnum, iEnumT, tChain, tSl, tPart, tNoPart, tBM, tCallKw, tTruth, tYes, qAdd, qSub, qMul, qMulW, qDiv, qDivW, qMod, qPow, qLt, qLe, qGt, qGe, qIsN, qNotN, qInt, qAbs, qMax2, qMin2, rI0, rI, rU, rEq, rNe, scal, qIxL, qIxT, qLenQ, qSetL, lstOf_upd, tupOf_upd, atI_0, atI_1, atI_2, atI_3, upd_same, upd_upd, ixL0, ixL1, ixL2, HO.lst.injEq, HO.tup.injEq, List.getElem?_cons_zero, List.getElem?_cons_succ, List.set_cons_zero, List.set_cons_succ, Option.some.injEq, exists_eq_left', exists_eq_left, exists_and_left, V.int.injEq, V.bl.injEq, V.ref.injEq, V.str.injEq, List.append_nil, List.cons.injEq, and_assoc, and_true, true_and, reduceCtorEq, false_and, and_false, false_or, or_false, exists_false, decide_true, decide_false, Bool.not_true, Bool.not_false, not_true_eq_false, not_false_eq_true, if_true, if_false, Bool.false_eq_true, decide_eq_true_eq, Bool.not_eq_true', decide_eq_false_iff_not, tFldC, sFldC, tProp, tMeth, tMake, tMakeKw, rEqOwn, rInOwn, tNotR, rTru, tTruR, tLstRg, tRg2, gName_ap, gTup_ap, gCons_ap, gNil_ap, gSub_ap, LcStep, t__law_right_c28, wipe, tupOf_of e1, atI_0, atI_1, lstOf_of (S2 _ _ mM), g0, tupOf_of o1]
      refine ⟨dx, _, k1, _, T.i_Lengths.ty k2, by unfold PySem.W.notFirst; simp, a, norm G, .ref a0, rfl, e2, .inl ⟨a0, norm F0, rfl, o2, _, rfl, ?_⟩⟩
      refine ⟨_, tupOf_of e1, _, atI_1, _, lstOf_of (S2 _ _ mM), _, g0, _, rfl, _, tupOf_of o1, _, atI_1, rEq_B e3 o3 ⟨rfl, ?_⟩⟩
      have ee : decide (norm G = norm F0) = decide (bits60 G = bits60 F0) := by
        rw [decide_eq_decide]
        exact norm_bits smG sm0
      rw [ee, if_neg (fun z => z rfl)]
      exact k _ (Same.refl _)
    · have h2' : H2 D2 = some (.lst (([] : List Bool).map V.bl)) := by rw [h2, List.filterMap_eq_nil_iff.mpr (fun _ _ => rfl)]; rfl
      refine ⟨by decide, fun o ho => ?_⟩
      have S3 := Same.newp (o := .lst []) (Same.refl H2) ho
      refine rEq_B (l := []) (m := []) (S3 _ _ h2') upd_same ?_
      have S13 := S2.trans S3
      exact q _ fun b o hb h => S13 _ _ (D1.1 b o hb h)
theorem pure_law (vs : List V) (H : Hp) (Q : VK) (E : XK) (h : sp_law K B vs H Q E) : t_law K B { nx := fun _ H' => Q .non H', rt := Q } (L2.start ["_law_script", "_law_mine", "_law_k"] vs) H := by
  obtain ⟨a, ns, rfl, ha, hl, q⟩ := h
  show t_law K B _ [some (.ref a), none, none] H
  simp only [tSeq, tAsg_name, tAsg_sub, tAsg_tup, tRet, tRetN, tDrop, tIfS, tNext, tNever, tBreak, tCont, tAndV, tOrV, tNotV, tAnd, tOr, tNot, tB, tTest, tIf, tCall, tCons, tNil, tVar, tC, tOp, tUn, tTup, tLst, tRevL, tPar, tPar3, tAug, ipI, tCB, tFld, sFld, iList, iTup, iRng1, iRng2, iEnum, iEnumT, tChain, tSl, tPart, tNoPart, tBM, tCallKw, tTruth, tYes, qAdd, qSub, qMul, qMulW, qDiv, qDivW, qMod, qPow, qLt, qLe, qGt, qGe, qIsN, qNotN, qInt, qAbs, qMax2, qMin2, rI0, rI, rU, rEq, rNe, scal, qIxL, qIxT, qLenQ, qSetL, lstOf_upd, tupOf_upd, atI_0, atI_1, atI_2, atI_3, upd_same, upd_upd, ixL0, ixL1, ixL2, HO.lst.injEq, HO.tup.injEq, List.getElem?_cons_zero, List.getElem?_cons_succ, List.set_cons_zero, List.set_cons_succ, Option.some.injEq, exists_eq_left', exists_eq_left, exists_and_left, V.int.injEq, V.bl.injEq, V.ref.injEq, V.str.injEq, List.append_nil, List.cons.injEq, and_assoc, and_true, true_and, reduceCtorEq, false_and, and_false, false_or, or_false, exists_false, decide_true, decide_false, Bool.not_true, Bool.not_false, not_true_eq_false, not_false_eq_true, if_true, if_false, Bool.false_eq_true, decide_eq_true_eq, Bool.not_eq_true', decide_eq_false_iff_not, tFldC, sFldC, tProp, tMeth, tMake, tMakeKw, rEqOwn, rInOwn, tNotR, rTru, tTruR, tLstRg, tRg2, t_law, t_law_s1]
  refine ⟨by decide, fun p1 hp1 => ⟨by decide, fun p2 hp2 x dx hx hdx hne => ?_⟩⟩
  have S0 : Same H (upd (upd H p1 (.tup [V.int 1, V.int 3, V.int 5])) p2 (.tup [V.int 1, V.int 3])) := Same.newp (Same.newp (Same.refl H) hp1) hp2
  have f1 : upd (upd H p1 (.tup [V.int 1, V.int 3, V.int 5])) p2 (.tup [V.int 1, V.int 3]) p1 = some (.tup (ofNats [1, 3, 5])) := at_new upd_same hp2
  have f2 : upd (upd H p1 (.tup [V.int 1, V.int 3, V.int 5])) p2 (.tup [V.int 1, V.int 3]) p2 = some (.tup (ofNats [1, 3])) := upd_same
  revert S0 f1 f2 hx hdx
  generalize upd (upd H p1 (.tup [V.int 1, V.int 3, V.int 5])) p2 (.tup [V.int 1, V.int 3]) = H1
  intro hx hdx S0 f1 f2
  have S1 : Same H1 (upd (upd H1 dx (.own x)) x (.ins B.c_Lengths dx [])) := (Same.newp (Same.refl H1) hdx).trans (Same.newp (Same.refl _) (by rw [upd_ne hne.symm]; exact hx))
  refine ⟨x, dx, p1, p2, form1, rfl, upd_same, S1 _ _ f1, S1 _ _ f2, form1_ok, by rw [form1_norm]; decide, fun H2 b2 l2 => ⟨rfl, ?_⟩⟩
  rw [form1_norm] at l2
  have S2 : Same H H2 := fun b o h => b2 b o (fun z => by have := S0 _ _ h; rw [z, hx] at this; cases this) (S1 _ _ (S0 _ _ h))
  obtain ⟨dx2, r3, k1, held⟩ := id l2
  have lk : ∀ (s : Str), s ≠ "held" → List.lookup s ([("held", V.ref r3)] : List (Str × V)) = none := fun s hs => by
    have : (s == ("held" : Str)) = false := beq_eq_false_iff_ne.mpr hs
    simp [List.lookup, this]
  have okn : OkF form1n := ⟨by decide, by decide, by decide, by decide, ⟨by decide, by decide⟩, ⟨by decide, by decide⟩⟩
  simp only [tSeq, tAsg_name, tAsg_sub, tAsg_tup, tRet, tRetN, tDrop, tIfS, tNext, tNever, tBreak, tCont, tAndV, tOrV, tNotV, tAnd, tOr, tNot, tB, tTest, tIf, tCall, tCons, tNil, tVar, tC, tOp, tUn, tTup, tLst, tRevL, tPar, tPar3, tAug, ipI, tCB, tFld, sFld, iList, iTup, iRng1, iRng2, iEnum, iEnumT, tChain, tSl, tPart, tNoPart, tBM, tCallKw, tTruth, tYes, qAdd, qSub, qMul, qMulW, qDiv, qDivW, qMod, qPow, qLt, qLe, qGt, qGe, qIsN, qNotN, qInt, qAbs, qMax2, qMin2, rI0, rI, rU, rEq, rNe, scal, qIxL, qIxT, qLenQ, qSetL, lstOf_upd, tupOf_upd, atI_0, atI_1, atI_2, atI_3, upd_same, upd_upd, ixL0, ixL1, ixL2, HO.lst.injEq, HO.tup.injEq, List.getElem?_cons_zero, List.getElem?_cons_succ, List.set_cons_zero, List.set_cons_succ, Option.some.injEq, exists_eq_left', exists_eq_left, exists_and_left, V.int.injEq, V.bl.injEq, V.ref.injEq, V.str.injEq, List.append_nil, List.cons.injEq, and_assoc, and_true, true_and, reduceCtorEq, false_and, and_false, false_or, or_false, exists_false, decide_true, decide_false, Bool.not_true, Bool.not_false, not_true_eq_false, not_false_eq_true, if_true, if_false, Bool.false_eq_true, decide_eq_true_eq, Bool.not_eq_true', decide_eq_false_iff_not, tFldC, sFldC, tProp, tMeth, tMake, tMakeKw, rEqOwn, rInOwn, tNotR, rTru, tTruR, tLstRg, tRg2, t_law_s4, sp_Lengths__early, sp_Lengths__start, sp_Lengths__again, sp_Lengths__period, sp_Lengths__first, sp_Lengths__endless]
  refine ⟨dx2, _, k1, form1n, l2, fun e he => ⟨dx2, _, k1, form1n, l2, dx2, _, k1, form1n, l2, fun g hg => ⟨dx2, _, k1, form1n, l2, dx2, _, k1, lk _ (by decide +kernel), form1n, l2, okn, fun H3 S3 => ?_⟩⟩⟩
  have fv : firstV form1n = .int 1 := rfl
  rw [fv]
  refine ⟨dx2, _, S3 _ _ k1, lk _ (by decide +kernel), form1n, l2.grow S3, fun H4 S4 => ⟨by show 6 ≤ sizeLine; decide, fun L1 hL1 => ⟨by decide, fun t0 ht0 => ⟨by decide, fun t1 ht1 => ⟨by show 6 ≤ sizeLine; decide, fun L2 hL2 => ?_⟩⟩⟩⟩⟩
  have S24 := S3.trans S4
  have he4 := at_new (o' := .lst [V.ref t0, V.int 1, V.ref t1, V.int 2, V.int 1, V.bl true]) (at_new (o' := .tup [V.int 1]) (at_new (o' := .tup []) (at_new (o' := .lst [V.ref e, V.int 1, V.ref g, V.int 2, V.int 1, V.bl true]) (S24 _ _ he) hL1) ht0) ht1) hL2
  have hg4 := at_new (o' := .lst [V.ref t0, V.int 1, V.ref t1, V.int 2, V.int 1, V.bl true]) (at_new (o' := .tup [V.int 1]) (at_new (o' := .tup []) (at_new (o' := .lst [V.ref e, V.int 1, V.ref g, V.int 2, V.int 1, V.bl true]) (S24 _ _ hg) hL1) ht0) ht1) hL2
  have h1 := at_new (o' := .lst [V.ref t0, V.int 1, V.ref t1, V.int 2, V.int 1, V.bl true]) (at_new (o' := .tup [V.int 1]) (at_new (o' := .tup []) (upd_same (H := H4) (a := L1) (o := .lst [V.ref e, V.int 1, V.ref g, V.int 2, V.int 1, V.bl true])) ht0) ht1) hL2
  have h2 := at_new (o' := .lst [V.ref t0, V.int 1, V.ref t1, V.int 2, V.int 1, V.bl true]) (at_new (o' := .tup [V.int 1]) (upd_same (H := upd H4 L1 (.lst [V.ref e, V.int 1, V.ref g, V.int 2, V.int 1, V.bl true])) (a := t0) (o := .tup [])) ht1) hL2
  have h3 := at_new (o' := .lst [V.ref t0, V.int 1, V.ref t1, V.int 2, V.int 1, V.bl true]) (upd_same (H := upd (upd H4 L1 (.lst [V.ref e, V.int 1, V.ref g, V.int 2, V.int 1, V.bl true])) t0 (.tup [])) (a := t1) (o := .tup [V.int 1])) hL2
  have S5 : Same H4 (upd (upd (upd (upd H4 L1 (.lst [V.ref e, V.int 1, V.ref g, V.int 2, V.int 1, V.bl true])) t0 (.tup [])) t1 (.tup [V.int 1])) L2 (.lst [V.ref t0, V.int 1, V.ref t1, V.int 2, V.int 1, V.bl true])) :=
    Same.newp (Same.newp (Same.newp (Same.newp (Same.refl H4) hL1) ht0) ht1) hL2
  have h4 : (upd (upd (upd (upd H4 L1 (.lst [V.ref e, V.int 1, V.ref g, V.int 2, V.int 1, V.bl true])) t0 (.tup [])) t1 (.tup [V.int 1])) L2 (.lst [V.ref t0, V.int 1, V.ref t1, V.int 2, V.int 1, V.bl true])) L2 = some (.lst [V.ref t0, V.int 1, V.ref t1, V.int 2, V.int 1, V.bl true]) := upd_same
  show rNeD K (V.ref L1) (V.ref L2) (upd (upd (upd (upd H4 L1 (.lst [V.ref e, V.int 1, V.ref g, V.int 2, V.int 1, V.bl true])) t0 (.tup [])) t1 (.tup [V.int 1])) L2 (.lst [V.ref t0, V.int 1, V.ref t1, V.int 2, V.int 1, V.bl true])) _
  revert he4 hg4 h1 h2 h3 S5 h4
  generalize upd (upd (upd (upd H4 L1 (.lst [V.ref e, V.int 1, V.ref g, V.int 2, V.int 1, V.bl true])) t0 (.tup [])) t1 (.tup [V.int 1])) L2 (.lst [V.ref t0, V.int 1, V.ref t1, V.int 2, V.int 1, V.bl true]) = H5
  intro he4 hg4 h1 h2 h3 S5 h4
  refine ⟨.list [.tuple [], .int 1, .tuple [.int 1], .int 2, .int 1, .bool true], .list [.tuple [], .int 1, .tuple [.int 1], .int 2, .int 1, .bool true],
    .lst (SqL.of h1) (.cons (.tup (SqT.of he4) .nil) (.cons (.int 1) (.cons (.tup (SqT.of hg4) (.cons (.int 1) .nil)) (.cons (.int 2) (.cons (.int 1) (.cons (.bl true) .nil)))))),
    .lst (SqL.of h4) (.cons (.tup (SqT.of h2) .nil) (.cons (.int 1) (.cons (.tup (SqT.of h3) (.cons (.int 1) .nil)) (.cons (.int 2) (.cons (.int 1) (.cons (.bl true) .nil)))))), rfl, rfl, false, rfl, ?_⟩
  rw [if_neg (by decide)]
  have S05 := (S2.trans S24).trans S5
  simp only [tSeq, tAsg_name, tAsg_sub, tAsg_tup, tRet, tRetN, tDrop, tIfS, tNext, tNever, tBreak, tCont, tAndV, tOrV, tNotV, tAnd, tOr, tNot, tB, tTest, tIf, tCall, tCons, tNil, tVar, tC, tOp, tUn, tTup, tLst, tRevL, tPar, tPar3, tAug, ipI, tCB, tFld, sFld, iList, iTup, iRng1, iRng2, iEnum, iEnumT, tChain, tSl, tPart, tNoPart, tBM, tCallKw, tTruth, tYes, qAdd, qSub, qMul, qMulW, qDiv, qDivW, qMod, qPow, qLt, qLe, qGt, qGe, qIsN, qNotN, qInt, qAbs, qMax2, qMin2, rI0, rI, rU, rEq, rNe, scal, qIxL, qIxT, qLenQ, qSetL, lstOf_upd, tupOf_upd, atI_0, atI_1, atI_2, atI_3, upd_same, upd_upd, ixL0, ixL1, ixL2, HO.lst.injEq, HO.tup.injEq, List.getElem?_cons_zero, List.getElem?_cons_succ, List.set_cons_zero, List.set_cons_succ, Option.some.injEq, exists_eq_left', exists_eq_left, exists_and_left, V.int.injEq, V.bl.injEq, V.ref.injEq, V.str.injEq, List.append_nil, List.cons.injEq, and_assoc, and_true, true_and, reduceCtorEq, false_and, and_false, false_or, or_false, exists_false, decide_true, decide_false, Bool.not_true, Bool.not_false, not_true_eq_false, not_false_eq_true, if_true, if_false, Bool.false_eq_true, decide_eq_true_eq, Bool.not_eq_true', decide_eq_false_iff_not, tFldC, sFldC, tProp, tMeth, tMake, tMakeKw, rEqOwn, rInOwn, tNotR, rTru, tTruR, tLstRg, tRg2, t_law_s6, tLc_go]
  obtain ⟨n, hn6, hnn⟩ : ∃ n : Nat, n ≤ 6 ∧ (if (if (6 : Int) < ((ns.map V.int).length : Int) then 6 else ((ns.map V.int).length : Int)) > 2 then if (6 : Int) < ((ns.map V.int).length : Int) then 6 else ((ns.map V.int).length : Int) else 2) = (n : Int) := by
    by_cases c : (6 : Int) < ((ns.map V.int).length : Int)
    · exact ⟨6, Nat.le_refl _, by rw [if_pos c]; rfl⟩
    · rw [if_neg c]
      by_cases d : ((ns.map V.int).length : Int) > 2
      · exact ⟨(ns.map V.int).length, by omega, by rw [if_pos d]⟩
      · exact ⟨2, by decide, by rw [if_neg d]; rfl⟩
  refine ⟨a, _, rfl, .inl (sqL_grow ha S05), _, rfl, ?_⟩
  rw [hnn]
  refine ⟨by omega, by omega, map_rng (fun _ => some (.bl true)) (by omega) ?_ fun D6 H6 S6 hD6 h6 => ?_⟩
  · intro i H6 R hi S6 k
    simp only [tSeq, tAsg_name, tAsg_sub, tAsg_tup, tRet, tRetN, tDrop, tIfS, tNext, tNever, tBreak, tCont, tAndV, tOrV, tNotV, tAnd, tOr, tNot, tB, tTest, tIf, tCall, tCons, tNil, tVar, tC, tOp, tUn, tTup, tLst, tRevL, tPar, tPar3, tAug, ipI, tCB, tFld, sFld, iList, iTup, iRng1, iRng2, iEnum, iEnumT, tChain, tSl, tPart, tNoPart, tBM, tCallKw, tTruth, tYes, qAdd, qSub, qMul, qMulW, qDiv, qDivW, qMod, qPow, qLt, qLe, qGt, qGe, qIsN, qNotN, qInt, qAbs, qMax2, qMin2, rI0, rI, rU, rEq, rNe, scal, qIxL, qIxT, qLenQ, qSetL, lstOf_upd, tupOf_upd, atI_0, atI_1, atI_2, atI_3, upd_same, upd_upd, ixL0, ixL1, ixL2, HO.lst.injEq, HO.tup.injEq, List.getElem?_cons_zero, List.getElem?_cons_succ, List.set_cons_zero, List.set_cons_succ, Option.some.injEq, exists_eq_left', exists_eq_left, exists_and_left, V.int.injEq, V.bl.injEq, V.ref.injEq, V.str.injEq, List.append_nil, List.cons.injEq, and_assoc, and_true, true_and, reduceCtorEq, false_and, and_false, false_or, or_false, exists_false, decide_true, decide_false, Bool.not_true, Bool.not_false, not_true_eq_false, not_false_eq_true, if_true, if_false, Bool.false_eq_true, decide_eq_true_eq, Bool.not_eq_true', decide_eq_false_iff_not, tFldC, sFldC, tProp, tMeth, tMake, tMakeKw, rEqOwn, rInOwn, tNotR, rTru, tTruR, tLstRg, tRg2, gName_ap, gTup_ap, gCons_ap, gNil_ap, gSub_ap, LcStep, t_law_e5, wipe]
    refine ⟨a, ns, i, by rw [Int.zero_add], sqL_grow ha (S05.trans S6), hl, by omega, fun H7 p s7 hp pool => ⟨p, rfl, pool, fun H8 hb => k H8 ?_⟩⟩
    intro b o h
    refine hb b o ?_ (s7 _ _ h)
    intro z
    rw [z, hp] at h
    cases h
  · exact rAll_bl (bs := (List.range _).map fun _ => true) (b := true) (by rw [h6, fm_some, List.map_map]; rfl) (by simp) (q _)
end
end RA.K10

namespace RA.K10
open PySem PySem.Spec L2 RA
open PyProof.Rows hiding St
section
variable {P : Program} {w : World} {K : PySem.W.Frag} {B : CA} {mg : Str → Option Value} {base : Heap}
structure Raws (K : PySem.W.Frag) (mg : Str → Option Value) (B : CA) : Prop where
  T : Txt K mg B
  r_is_integer : Raw K mg "is_integer" s_is_integer
  r_is_between : Raw K mg "is_between" s_is_between
  r_are_ascending : Raw K mg "are_ascending" s_are_ascending
  r_least_form : Raw K mg "least_form" s_least_form
  r_Lengths____init__ : IRaw K mg B.c_Lengths "Lengths" "Lengths.__init__" s_Lengths____init__
  r_Lengths__early : PRaw K B.c_Lengths "early" "Lengths.early" s_Lengths__early
  r_Lengths__start : PRaw K B.c_Lengths "start" "Lengths.start" s_Lengths__start
  r_Lengths__again : PRaw K B.c_Lengths "again" "Lengths.again" s_Lengths__again
  r_Lengths__period : PRaw K B.c_Lengths "period" "Lengths.period" s_Lengths__period
  r_Lengths____contains__ : MRaw K B.c_Lengths "__contains__" "Lengths.__contains__" s_Lengths____contains__
  r_Lengths__first : MRaw K B.c_Lengths "first" "Lengths.first" s_Lengths__first
  r_Lengths__endless : MRaw K B.c_Lengths "endless" "Lengths.endless" s_Lengths__endless
  r_Lengths____eq__ : MRaw K B.c_Lengths "__eq__" "Lengths.__eq__" s_Lengths____eq__
  r__law_bag : Raw K mg "_law_bag" s__law_bag
  r__law_draw : Raw K mg "_law_draw" s__law_draw
  r__law_one : Raw K mg "_law_one" s__law_one
  r__law_flagged : Raw K mg "_law_flagged" s__law_flagged
  r__law_drawn_set : Raw K mg "_law_drawn_set" s__law_drawn_set
  r__law_longer : Raw K mg "_law_longer" s__law_longer
  r__law_is_least : Raw K mg "_law_is_least" s__law_is_least
  r__law_right : Raw K mg "_law_right" s__law_right
  r_law : Raw K mg "law" s_law
theorem len_is_integer (vs : List V) (H : Hp) (Q : VK) (E : XK) (h : (sp_is_integer K B) vs H Q E) : vs.length = 1 := by
  try unfold sp_is_integer at h
  try unfold spIsInt at h
  try unfold spBetween at h
  try unfold spLaw at h
  repeat (obtain ⟨_, h⟩ := h)
  all_goals subst_vars
  all_goals rfl
theorem len_is_between (vs : List V) (H : Hp) (Q : VK) (E : XK) (h : (sp_is_between K B) vs H Q E) : vs.length = 3 := by
  try unfold sp_is_between at h
  try unfold spIsInt at h
  try unfold spBetween at h
  try unfold spLaw at h
  repeat (obtain ⟨_, h⟩ := h)
  all_goals subst_vars
  all_goals rfl
theorem len_are_ascending (vs : List V) (H : Hp) (Q : VK) (E : XK) (h : (sp_are_ascending K B) vs H Q E) : vs.length = 3 := by
  try unfold sp_are_ascending at h
  try unfold spIsInt at h
  try unfold spBetween at h
  try unfold spLaw at h
  repeat (obtain ⟨_, h⟩ := h)
  all_goals subst_vars
  all_goals rfl
theorem len_least_form (vs : List V) (H : Hp) (Q : VK) (E : XK) (h : (sp_least_form K B) vs H Q E) : vs.length = 3 := by
  try unfold sp_least_form at h
  try unfold spIsInt at h
  try unfold spBetween at h
  try unfold spLaw at h
  repeat (obtain ⟨_, h⟩ := h)
  all_goals subst_vars
  all_goals rfl
theorem len_Lengths____init__ (vs : List V) (H : Hp) (Q : VK) (E : XK) (h : (sp_Lengths____init__ K B) vs H Q E) : vs.length = 5 := by
  try unfold sp_Lengths____init__ at h
  try unfold spIsInt at h
  try unfold spBetween at h
  try unfold spLaw at h
  repeat (obtain ⟨_, h⟩ := h)
  all_goals subst_vars
  all_goals rfl
theorem len_Lengths__early (vs : List V) (H : Hp) (Q : VK) (E : XK) (h : (sp_Lengths__early K B) vs H Q E) : vs.length = 1 := by
  try unfold sp_Lengths__early at h
  try unfold spIsInt at h
  try unfold spBetween at h
  try unfold spLaw at h
  repeat (obtain ⟨_, h⟩ := h)
  all_goals subst_vars
  all_goals rfl
theorem len_Lengths__start (vs : List V) (H : Hp) (Q : VK) (E : XK) (h : (sp_Lengths__start K B) vs H Q E) : vs.length = 1 := by
  try unfold sp_Lengths__start at h
  try unfold spIsInt at h
  try unfold spBetween at h
  try unfold spLaw at h
  repeat (obtain ⟨_, h⟩ := h)
  all_goals subst_vars
  all_goals rfl
theorem len_Lengths__again (vs : List V) (H : Hp) (Q : VK) (E : XK) (h : (sp_Lengths__again K B) vs H Q E) : vs.length = 1 := by
  try unfold sp_Lengths__again at h
  try unfold spIsInt at h
  try unfold spBetween at h
  try unfold spLaw at h
  repeat (obtain ⟨_, h⟩ := h)
  all_goals subst_vars
  all_goals rfl
theorem len_Lengths__period (vs : List V) (H : Hp) (Q : VK) (E : XK) (h : (sp_Lengths__period K B) vs H Q E) : vs.length = 1 := by
  try unfold sp_Lengths__period at h
  try unfold spIsInt at h
  try unfold spBetween at h
  try unfold spLaw at h
  repeat (obtain ⟨_, h⟩ := h)
  all_goals subst_vars
  all_goals rfl
theorem len_Lengths____contains__ (vs : List V) (H : Hp) (Q : VK) (E : XK) (h : (sp_Lengths____contains__ K B) vs H Q E) : vs.length = 2 := by
  try unfold sp_Lengths____contains__ at h
  try unfold spIsInt at h
  try unfold spBetween at h
  try unfold spLaw at h
  repeat (obtain ⟨_, h⟩ := h)
  all_goals subst_vars
  all_goals rfl
theorem len_Lengths__first (vs : List V) (H : Hp) (Q : VK) (E : XK) (h : (sp_Lengths__first K B) vs H Q E) : vs.length = 1 := by
  try unfold sp_Lengths__first at h
  try unfold spIsInt at h
  try unfold spBetween at h
  try unfold spLaw at h
  repeat (obtain ⟨_, h⟩ := h)
  all_goals subst_vars
  all_goals rfl
theorem len_Lengths__endless (vs : List V) (H : Hp) (Q : VK) (E : XK) (h : (sp_Lengths__endless K B) vs H Q E) : vs.length = 1 := by
  try unfold sp_Lengths__endless at h
  try unfold spIsInt at h
  try unfold spBetween at h
  try unfold spLaw at h
  repeat (obtain ⟨_, h⟩ := h)
  all_goals subst_vars
  all_goals rfl
theorem len_Lengths____eq__ (vs : List V) (H : Hp) (Q : VK) (E : XK) (h : (sp_Lengths____eq__ K B) vs H Q E) : vs.length = 2 := by
  try unfold sp_Lengths____eq__ at h
  try unfold spIsInt at h
  try unfold spBetween at h
  try unfold spLaw at h
  repeat (obtain ⟨_, h⟩ := h)
  all_goals subst_vars
  all_goals rfl
theorem len__law_bag (vs : List V) (H : Hp) (Q : VK) (E : XK) (h : (spFresh K) vs H Q E) : vs.length = 2 := by
  try unfold spFresh at h
  try unfold spIsInt at h
  try unfold spBetween at h
  try unfold spLaw at h
  repeat (obtain ⟨_, h⟩ := h)
  all_goals subst_vars
  all_goals rfl
theorem len__law_draw (vs : List V) (H : Hp) (Q : VK) (E : XK) (h : (spDraw) vs H Q E) : vs.length = 2 := by
  try unfold spDraw at h
  try unfold spIsInt at h
  try unfold spBetween at h
  try unfold spLaw at h
  repeat (obtain ⟨_, h⟩ := h)
  all_goals subst_vars
  all_goals rfl
theorem len__law_one (vs : List V) (H : Hp) (Q : VK) (E : XK) (h : (spOne) vs H Q E) : vs.length = 2 := by
  try unfold spOne at h
  try unfold spIsInt at h
  try unfold spBetween at h
  try unfold spLaw at h
  repeat (obtain ⟨_, h⟩ := h)
  all_goals subst_vars
  all_goals rfl
theorem len__law_flagged (vs : List V) (H : Hp) (Q : VK) (E : XK) (h : (sp__law_flagged K B) vs H Q E) : vs.length = 1 := by
  try unfold sp__law_flagged at h
  try unfold spIsInt at h
  try unfold spBetween at h
  try unfold spLaw at h
  repeat (obtain ⟨_, h⟩ := h)
  all_goals subst_vars
  all_goals rfl
theorem len__law_drawn_set (vs : List V) (H : Hp) (Q : VK) (E : XK) (h : (sp__law_drawn_set K B) vs H Q E) : vs.length = 1 := by
  try unfold sp__law_drawn_set at h
  try unfold spIsInt at h
  try unfold spBetween at h
  try unfold spLaw at h
  repeat (obtain ⟨_, h⟩ := h)
  all_goals subst_vars
  all_goals rfl
theorem len__law_longer (vs : List V) (H : Hp) (Q : VK) (E : XK) (h : (sp__law_longer K B) vs H Q E) : vs.length = 2 := by
  try unfold sp__law_longer at h
  try unfold spIsInt at h
  try unfold spBetween at h
  try unfold spLaw at h
  repeat (obtain ⟨_, h⟩ := h)
  all_goals subst_vars
  all_goals rfl
theorem len__law_is_least (vs : List V) (H : Hp) (Q : VK) (E : XK) (h : (sp__law_is_least K B) vs H Q E) : vs.length = 3 := by
  try unfold sp__law_is_least at h
  try unfold spIsInt at h
  try unfold spBetween at h
  try unfold spLaw at h
  repeat (obtain ⟨_, h⟩ := h)
  all_goals subst_vars
  all_goals rfl
theorem len__law_right (vs : List V) (H : Hp) (Q : VK) (E : XK) (h : (sp__law_right K B) vs H Q E) : vs.length = 1 := by
  try unfold sp__law_right at h
  try unfold spIsInt at h
  try unfold spBetween at h
  try unfold spLaw at h
  repeat (obtain ⟨_, h⟩ := h)
  all_goals subst_vars
  all_goals rfl
theorem len_law (vs : List V) (H : Hp) (Q : VK) (E : XK) (h : (sp_law K B) vs H Q E) : vs.length = 1 := by
  try unfold sp_law at h
  try unfold spIsInt at h
  try unfold spBetween at h
  try unfold spLaw at h
  repeat (obtain ⟨_, h⟩ := h)
  all_goals subst_vars
  all_goals rfl
theorem go_is_integer (R : Raws K mg B) : Has P w K mg base "is_integer" s_is_integer 1 ["value"] (sp_is_integer K B) := ok_is_integer R.T R.r_is_integer  len_is_integer (pure_is_integer R.T)
theorem go_is_between (R : Raws K mg B) : Has P w K mg base "is_between" s_is_between 2 ["value", "least", "most"] (sp_is_between K B) := ok_is_between R.T R.r_is_between (go_is_integer R) len_is_between (pure_is_between R.T)
theorem go_are_ascending (R : Raws K mg B) : Has P w K mg base "are_ascending" s_are_ascending 3 ["value", "least", "most"] (sp_are_ascending K B) := ok_are_ascending R.T R.r_are_ascending (go_is_between R) len_are_ascending (pure_are_ascending R.T)
theorem go_least_form (R : Raws K mg B) : Has P w K mg base "least_form" s_least_form 1 ["flags", "start", "period"] (sp_least_form K B) := ok_least_form R.T R.r_least_form  len_least_form (pure_least_form R.T)
theorem go_Lengths____init__ (R : Raws K mg B) : HasI P w K mg base B.c_Lengths "Lengths" "Lengths.__init__" s_Lengths____init__ 4 ["self", "early", "start", "again", "period"] (sp_Lengths____init__ K B) := ok_Lengths____init__ R.T R.r_Lengths____init__ (go_is_between R) (go_are_ascending R) (go_least_form R) len_Lengths____init__ (pure_Lengths____init__ R.T)
theorem go_Lengths__early (R : Raws K mg B) : HasP P w K mg base B.c_Lengths "early" "Lengths.early" s_Lengths__early 1 ["self"] (sp_Lengths__early K B) := ok_Lengths__early R.T R.r_Lengths__early  len_Lengths__early (pure_Lengths__early R.T)
theorem go_Lengths__start (R : Raws K mg B) : HasP P w K mg base B.c_Lengths "start" "Lengths.start" s_Lengths__start 1 ["self"] (sp_Lengths__start K B) := ok_Lengths__start R.T R.r_Lengths__start  len_Lengths__start (pure_Lengths__start R.T)
theorem go_Lengths__again (R : Raws K mg B) : HasP P w K mg base B.c_Lengths "again" "Lengths.again" s_Lengths__again 1 ["self"] (sp_Lengths__again K B) := ok_Lengths__again R.T R.r_Lengths__again  len_Lengths__again (pure_Lengths__again R.T)
theorem go_Lengths__period (R : Raws K mg B) : HasP P w K mg base B.c_Lengths "period" "Lengths.period" s_Lengths__period 1 ["self"] (sp_Lengths__period K B) := ok_Lengths__period R.T R.r_Lengths__period  len_Lengths__period (pure_Lengths__period R.T)
theorem go_Lengths____contains__ (R : Raws K mg B) : HasM P w K mg base B.c_Lengths "__contains__" "Lengths.__contains__" s_Lengths____contains__ 3 ["self", "value"] (sp_Lengths____contains__ K B) := ok_Lengths____contains__ R.T R.r_Lengths____contains__ (go_is_integer R) (go_Lengths__start R) (go_Lengths__early R) (go_Lengths__period R) (go_Lengths__again R) len_Lengths____contains__ (pure_Lengths____contains__ R.T)
theorem go_Lengths__first (R : Raws K mg B) : HasM P w K mg base B.c_Lengths "first" "Lengths.first" s_Lengths__first 3 ["self"] (sp_Lengths__first K B) := ok_Lengths__first R.T R.r_Lengths__first (go_Lengths__early R) (go_Lengths__start R) (go_Lengths__period R) (go_Lengths__again R) len_Lengths__first (pure_Lengths__first R.T)
theorem go_Lengths__endless (R : Raws K mg B) : HasM P w K mg base B.c_Lengths "endless" "Lengths.endless" s_Lengths__endless 3 ["self"] (sp_Lengths__endless K B) := ok_Lengths__endless R.T R.r_Lengths__endless (go_Lengths__again R) len_Lengths__endless (pure_Lengths__endless R.T)
theorem go_Lengths____eq__ (R : Raws K mg B) : HasM P w K mg base B.c_Lengths "__eq__" "Lengths.__eq__" s_Lengths____eq__ 1 ["self", "other"] (sp_Lengths____eq__ K B) := ok_Lengths____eq__ R.T R.r_Lengths____eq__  len_Lengths____eq__ (pure_Lengths____eq__ R.T)
theorem go__law_bag (R : Raws K mg B) : Has P w K mg base "_law_bag" s__law_bag 1 ["_law_script", "_law_k"] (spFresh K) := ok__law_bag R.T R.r__law_bag  len__law_bag (pure__law_bag R.T)
theorem go__law_draw (R : Raws K mg B) : Has P w K mg base "_law_draw" s__law_draw 1 ["_law_bag_here", "_law_wide"] (spDraw) := ok__law_draw R.T R.r__law_draw  len__law_draw (pure__law_draw R.T)
theorem go__law_one (R : Raws K mg B) : Has P w K mg base "_law_one" s__law_one 2 ["_law_bag_here", "_law_some"] (spOne) := ok__law_one R.T R.r__law_one (go__law_draw R) len__law_one (pure__law_one R.T)
theorem go__law_flagged (R : Raws K mg B) : Has P w K mg base "_law_flagged" s__law_flagged 1 ["_law_shape"] (sp__law_flagged K B) := ok__law_flagged R.T R.r__law_flagged  len__law_flagged (pure__law_flagged R.T)
theorem go__law_drawn_set (R : Raws K mg B) : Has P w K mg base "_law_drawn_set" s__law_drawn_set 3 ["_law_bag_here"] (sp__law_drawn_set K B) := ok__law_drawn_set R.T R.r__law_drawn_set (go__law_draw R) (go__law_one R) len__law_drawn_set (pure__law_drawn_set R.T)
theorem go__law_longer (R : Raws K mg B) : Has P w K mg base "_law_longer" s__law_longer 2 ["_law_bag_here", "_law_shape"] (sp__law_longer K B) := ok__law_longer R.T R.r__law_longer (go__law_flagged R) (go__law_draw R) len__law_longer (pure__law_longer R.T)
theorem go__law_is_least (R : Raws K mg B) : Has P w K mg base "_law_is_least" s__law_is_least 1 ["_law_flags", "_law_begin", "_law_turn"] (sp__law_is_least K B) := ok__law_is_least R.T R.r__law_is_least  len__law_is_least (pure__law_is_least R.T)
theorem go__law_right (R : Raws K mg B) : HasG P w K mg base "_law_right" s__law_right 6 ["_law_bag_here"] (sp__law_right K B) := ok__law_right R.T R.r__law_right (go__law_drawn_set R) (go__law_longer R) (go_Lengths____init__ R) (go_Lengths__early R) (go_Lengths__start R) (go_Lengths__again R) (go_Lengths__period R) (go__law_flagged R) (go_Lengths____eq__ R) (go__law_is_least R) (go_Lengths____contains__ R) (go_Lengths__first R) (go_Lengths__endless R) len__law_right (pure__law_right R.T)
theorem go_law (R : Raws K mg B) : HasG P w K mg base "law" s_law 7 ["_law_script"] (sp_law K B) := ok_law R.T R.r_law (go_Lengths____init__ R) (go_Lengths__early R) (go_Lengths__start R) (go_Lengths__again R) (go_Lengths__period R) (go_Lengths__first R) (go_Lengths__endless R) (go__law_right R) (go__law_bag R) len_law (pure_law R.T)
end
theorem all_mk {K : PySem.W.Frag} {h : Heap} {mg : Str → Option Value} (X : K.In h) (G : h.Ns mainGlobals mg) {C_Lengths : Addr} {tk_MOST_START : Addr} {f0 : Addr} {od0 an0 : Option Addr} {sl0 : Array (Option Value)} {oc0 kV0 dc0 pm0 cd0 ct0 : Value} {f1 : Addr} {od1 an1 : Option Addr} {sl1 : Array (Option Value)} {oc1 kV1 dc1 pm1 cd1 ct1 : Value} {f2 : Addr} {od2 an2 : Option Addr} {sl2 : Array (Option Value)} {oc2 kV2 dc2 pm2 cd2 ct2 : Value} {f3 : Addr} {od3 an3 : Option Addr} {sl3 : Array (Option Value)} {oc3 kV3 dc3 pm3 cd3 ct3 : Value} {f4 : Addr} {od4 an4 : Option Addr} {sl4 : Array (Option Value)} {oc4 kV4 dc4 pm4 cd4 ct4 : Value} {f5 : Addr} {od5 an5 : Option Addr} {sl5 : Array (Option Value)} {oc5 kV5 dc5 pm5 cd5 ct5 : Value} {p5 : Addr} {rs5 : List Value} {f6 : Addr} {od6 an6 : Option Addr} {sl6 : Array (Option Value)} {oc6 kV6 dc6 pm6 cd6 ct6 : Value} {p6 : Addr} {rs6 : List Value} {f7 : Addr} {od7 an7 : Option Addr} {sl7 : Array (Option Value)} {oc7 kV7 dc7 pm7 cd7 ct7 : Value} {p7 : Addr} {rs7 : List Value} {f8 : Addr} {od8 an8 : Option Addr} {sl8 : Array (Option Value)} {oc8 kV8 dc8 pm8 cd8 ct8 : Value} {p8 : Addr} {rs8 : List Value} {f9 : Addr} {od9 an9 : Option Addr} {sl9 : Array (Option Value)} {oc9 kV9 dc9 pm9 cd9 ct9 : Value} {f10 : Addr} {od10 an10 : Option Addr} {sl10 : Array (Option Value)} {oc10 kV10 dc10 pm10 cd10 ct10 : Value} {f11 : Addr} {od11 an11 : Option Addr} {sl11 : Array (Option Value)} {oc11 kV11 dc11 pm11 cd11 ct11 : Value} {f12 : Addr} {od12 an12 : Option Addr} {sl12 : Array (Option Value)} {oc12 kV12 dc12 pm12 cd12 ct12 : Value} {f13 : Addr} {od13 an13 : Option Addr} {sl13 : Array (Option Value)} {oc13 kV13 dc13 pm13 cd13 ct13 : Value} {f14 : Addr} {od14 an14 : Option Addr} {sl14 : Array (Option Value)} {oc14 kV14 dc14 pm14 cd14 ct14 : Value} {f15 : Addr} {od15 an15 : Option Addr} {sl15 : Array (Option Value)} {oc15 kV15 dc15 pm15 cd15 ct15 : Value} {f16 : Addr} {od16 an16 : Option Addr} {sl16 : Array (Option Value)} {oc16 kV16 dc16 pm16 cd16 ct16 : Value} {f17 : Addr} {od17 an17 : Option Addr} {sl17 : Array (Option Value)} {oc17 kV17 dc17 pm17 cd17 ct17 : Value} {f18 : Addr} {od18 an18 : Option Addr} {sl18 : Array (Option Value)} {oc18 kV18 dc18 pm18 cd18 ct18 : Value} {f19 : Addr} {od19 an19 : Option Addr} {sl19 : Array (Option Value)} {oc19 kV19 dc19 pm19 cd19 ct19 : Value} {f20 : Addr} {od20 an20 : Option Addr} {sl20 : Array (Option Value)} {oc20 kV20 dc20 pm20 cd20 ct20 : Value} {f21 : Addr} {od21 an21 : Option Addr} {sl21 : Array (Option Value)} {oc21 kV21 dc21 pm21 cd21 ct21 : Value}
    (zg_Lengths : PySem.W.nsIn K mainGlobals "Lengths" = some (some (.ref C_Lengths)))
    (zb_int : PySem.W.nsIn K mainGlobals "int" = some none)
    (zb_isinstance : PySem.W.nsIn K mainGlobals "isinstance" = some none)
    (zb_bool : PySem.W.nsIn K mainGlobals "bool" = some none)
    (zb_tuple : PySem.W.nsIn K mainGlobals "tuple" = some none)
    (zb_all : PySem.W.nsIn K mainGlobals "all" = some none)
    (zb_range : PySem.W.nsIn K mainGlobals "range" = some none)
    (zb_len : PySem.W.nsIn K mainGlobals "len" = some none)
    (zb_sorted : PySem.W.nsIn K mainGlobals "sorted" = some none)
    (zb_abs : PySem.W.nsIn K mainGlobals "abs" = some none)
    (zb_repr : PySem.W.nsIn K mainGlobals "repr" = some none)
    (zb_list : PySem.W.nsIn K mainGlobals "list" = some none)
    (zb_min : PySem.W.nsIn K mainGlobals "min" = some none)
    (zb_max : PySem.W.nsIn K mainGlobals "max" = some none)
    (zc_MOST_START : PySem.W.nsIn K mainGlobals "MOST_START" = some (some (Value.int 10000 tk_MOST_START)))
    (zn_Lengths_held : PySem.W.findIn K (.ref C_Lengths) "held" = some none)
    (zipg_Lengths : PySem.W.plainGet K C_Lengths Str.empty = true)
    (zihd_Lengths : PySem.W.hasDictIn K C_Lengths = true)
    (zipo_Lengths : PySem.W.plainOver K C_Lengths = true)
    (zisa_Lengths : PySem.W.findIn K (.ref C_Lengths) "__setattr__" = some (some (.builtin "object.__setattr__")))
    (ziha_Lengths : PySem.W.findIn K (.ref C_Lengths) "__class__" = some (some (.builtin "object.__class__")))
    (zihn_Lengths : PySem.W.specialIn K (.builtin "object.__class__") "__get__" = some (some (.builtin "getset_descriptor.__get__")))
    (ziht_Lengths : PySem.W.takesIn K (.builtin "object.__class__") = some true)
    (zihm_Lengths : PySem.W.mroIn K C_Lengths (.type "object") = some true)
    (zne1_Lengths : PySem.W.findIn K (.ref C_Lengths) "__ne__" = some (some (.builtin "object.__ne__")))
    (zne2_Lengths : PySem.W.mroIn K C_Lengths (.type "object") = some true)
    (zb0_Lengths : PySem.W.findIn K (.ref C_Lengths) "__bool__" = some none)
    (zl0_Lengths : PySem.W.findIn K (.ref C_Lengths) "__len__" = some none)
    (zsub_tup : PySem.W.subIn K (.type "tuple") (.ref C_Lengths) = some false)
    (zcls : PySem.W.isClsIn K C_Lengths = true)
    (ztyp : PySem.W.typeIn K (.ref C_Lengths) = some (.type "type"))
    (a0 : PySem.W.nsIn K mainGlobals "is_integer" = some (some (.ref f0)))
    (l0 : K.lookup f0 = some ⟨oc0, od0, .func (PySem.W.fnOf "is_integer" "is_integer" (defArgs s_is_integer) (defBody s_is_integer) (defScope s_is_integer) .none kV0 dc0 pm0 an0 cd0 ct0), sl0⟩)
    (c0 : PySem.W.codeIn K cd0 "is_integer" = true)
    (k0 : PySem.W.keepIn K (.ref f0) = true)
    (a1 : PySem.W.nsIn K mainGlobals "is_between" = some (some (.ref f1)))
    (l1 : K.lookup f1 = some ⟨oc1, od1, .func (PySem.W.fnOf "is_between" "is_between" (defArgs s_is_between) (defBody s_is_between) (defScope s_is_between) .none kV1 dc1 pm1 an1 cd1 ct1), sl1⟩)
    (c1 : PySem.W.codeIn K cd1 "is_between" = true)
    (k1 : PySem.W.keepIn K (.ref f1) = true)
    (a2 : PySem.W.nsIn K mainGlobals "are_ascending" = some (some (.ref f2)))
    (l2 : K.lookup f2 = some ⟨oc2, od2, .func (PySem.W.fnOf "are_ascending" "are_ascending" (defArgs s_are_ascending) (defBody s_are_ascending) (defScope s_are_ascending) .none kV2 dc2 pm2 an2 cd2 ct2), sl2⟩)
    (c2 : PySem.W.codeIn K cd2 "are_ascending" = true)
    (k2 : PySem.W.keepIn K (.ref f2) = true)
    (a3 : PySem.W.nsIn K mainGlobals "least_form" = some (some (.ref f3)))
    (l3 : K.lookup f3 = some ⟨oc3, od3, .func (PySem.W.fnOf "least_form" "least_form" (defArgs s_least_form) (defBody s_least_form) (defScope s_least_form) .none kV3 dc3 pm3 an3 cd3 ct3), sl3⟩)
    (c3 : PySem.W.codeIn K cd3 "least_form" = true)
    (k3 : PySem.W.keepIn K (.ref f3) = true)
    (mk4 : PySem.W.makesIn K C_Lengths = true)
    (a4 : PySem.W.findIn K (.ref C_Lengths) "__init__" = some (some (.ref f4)))
    (i4 : PySem.W.isFn K (.ref f4) = true)
    (kc4 : PySem.W.keepIn K (.ref C_Lengths) = true)
    (l4 : K.lookup f4 = some ⟨oc4, od4, .func (PySem.W.fnOf "__init__" "Lengths.__init__" (defArgs s_Lengths____init__) (defBody s_Lengths____init__) (defScope s_Lengths____init__) .none kV4 dc4 pm4 an4 cd4 ct4), sl4⟩)
    (c4 : PySem.W.codeIn K cd4 "Lengths.__init__" = true)
    (k4 : PySem.W.keepIn K (.ref f4) = true)
    (pa5 : PySem.W.findIn K (.ref C_Lengths) "early" = some (some (.ref p5)))
    (pb5 : PySem.W.specialIn K (.ref p5) "__get__" = some (some (.builtin "property.__get__")))
    (pc5 : PySem.W.takesIn K (.ref p5) = some true)
    (pd5 : PySem.W.recIn K p5 "property" = some (.ref f5 :: rs5))
    (l5 : K.lookup f5 = some ⟨oc5, od5, .func (PySem.W.fnOf "early" "Lengths.early" (defArgs s_Lengths__early) (defBody s_Lengths__early) (defScope s_Lengths__early) .none kV5 dc5 pm5 an5 cd5 ct5), sl5⟩)
    (c5 : PySem.W.codeIn K cd5 "Lengths.early" = true)
    (k5 : PySem.W.keepIn K (.ref f5) = true)
    (pa6 : PySem.W.findIn K (.ref C_Lengths) "start" = some (some (.ref p6)))
    (pb6 : PySem.W.specialIn K (.ref p6) "__get__" = some (some (.builtin "property.__get__")))
    (pc6 : PySem.W.takesIn K (.ref p6) = some true)
    (pd6 : PySem.W.recIn K p6 "property" = some (.ref f6 :: rs6))
    (l6 : K.lookup f6 = some ⟨oc6, od6, .func (PySem.W.fnOf "start" "Lengths.start" (defArgs s_Lengths__start) (defBody s_Lengths__start) (defScope s_Lengths__start) .none kV6 dc6 pm6 an6 cd6 ct6), sl6⟩)
    (c6 : PySem.W.codeIn K cd6 "Lengths.start" = true)
    (k6 : PySem.W.keepIn K (.ref f6) = true)
    (pa7 : PySem.W.findIn K (.ref C_Lengths) "again" = some (some (.ref p7)))
    (pb7 : PySem.W.specialIn K (.ref p7) "__get__" = some (some (.builtin "property.__get__")))
    (pc7 : PySem.W.takesIn K (.ref p7) = some true)
    (pd7 : PySem.W.recIn K p7 "property" = some (.ref f7 :: rs7))
    (l7 : K.lookup f7 = some ⟨oc7, od7, .func (PySem.W.fnOf "again" "Lengths.again" (defArgs s_Lengths__again) (defBody s_Lengths__again) (defScope s_Lengths__again) .none kV7 dc7 pm7 an7 cd7 ct7), sl7⟩)
    (c7 : PySem.W.codeIn K cd7 "Lengths.again" = true)
    (k7 : PySem.W.keepIn K (.ref f7) = true)
    (pa8 : PySem.W.findIn K (.ref C_Lengths) "period" = some (some (.ref p8)))
    (pb8 : PySem.W.specialIn K (.ref p8) "__get__" = some (some (.builtin "property.__get__")))
    (pc8 : PySem.W.takesIn K (.ref p8) = some true)
    (pd8 : PySem.W.recIn K p8 "property" = some (.ref f8 :: rs8))
    (l8 : K.lookup f8 = some ⟨oc8, od8, .func (PySem.W.fnOf "period" "Lengths.period" (defArgs s_Lengths__period) (defBody s_Lengths__period) (defScope s_Lengths__period) .none kV8 dc8 pm8 an8 cd8 ct8), sl8⟩)
    (c8 : PySem.W.codeIn K cd8 "Lengths.period" = true)
    (k8 : PySem.W.keepIn K (.ref f8) = true)
    (a9 : PySem.W.findIn K (.ref C_Lengths) "__contains__" = some (some (.ref f9)))
    (i9 : PySem.W.isFn K (.ref f9) = true)
    (l9 : K.lookup f9 = some ⟨oc9, od9, .func (PySem.W.fnOf "__contains__" "Lengths.__contains__" (defArgs s_Lengths____contains__) (defBody s_Lengths____contains__) (defScope s_Lengths____contains__) .none kV9 dc9 pm9 an9 cd9 ct9), sl9⟩)
    (c9 : PySem.W.codeIn K cd9 "Lengths.__contains__" = true)
    (k9 : PySem.W.keepIn K (.ref f9) = true)
    (a10 : PySem.W.findIn K (.ref C_Lengths) "first" = some (some (.ref f10)))
    (i10 : PySem.W.isFn K (.ref f10) = true)
    (l10 : K.lookup f10 = some ⟨oc10, od10, .func (PySem.W.fnOf "first" "Lengths.first" (defArgs s_Lengths__first) (defBody s_Lengths__first) (defScope s_Lengths__first) .none kV10 dc10 pm10 an10 cd10 ct10), sl10⟩)
    (c10 : PySem.W.codeIn K cd10 "Lengths.first" = true)
    (k10 : PySem.W.keepIn K (.ref f10) = true)
    (a11 : PySem.W.findIn K (.ref C_Lengths) "endless" = some (some (.ref f11)))
    (i11 : PySem.W.isFn K (.ref f11) = true)
    (l11 : K.lookup f11 = some ⟨oc11, od11, .func (PySem.W.fnOf "endless" "Lengths.endless" (defArgs s_Lengths__endless) (defBody s_Lengths__endless) (defScope s_Lengths__endless) .none kV11 dc11 pm11 an11 cd11 ct11), sl11⟩)
    (c11 : PySem.W.codeIn K cd11 "Lengths.endless" = true)
    (k11 : PySem.W.keepIn K (.ref f11) = true)
    (a12 : PySem.W.findIn K (.ref C_Lengths) "__eq__" = some (some (.ref f12)))
    (i12 : PySem.W.isFn K (.ref f12) = true)
    (l12 : K.lookup f12 = some ⟨oc12, od12, .func (PySem.W.fnOf "__eq__" "Lengths.__eq__" (defArgs s_Lengths____eq__) (defBody s_Lengths____eq__) (defScope s_Lengths____eq__) .none kV12 dc12 pm12 an12 cd12 ct12), sl12⟩)
    (c12 : PySem.W.codeIn K cd12 "Lengths.__eq__" = true)
    (k12 : PySem.W.keepIn K (.ref f12) = true)
    (a13 : PySem.W.nsIn K mainGlobals "_law_bag" = some (some (.ref f13)))
    (l13 : K.lookup f13 = some ⟨oc13, od13, .func (PySem.W.fnOf "_law_bag" "_law_bag" (defArgs s__law_bag) (defBody s__law_bag) (defScope s__law_bag) .none kV13 dc13 pm13 an13 cd13 ct13), sl13⟩)
    (c13 : PySem.W.codeIn K cd13 "_law_bag" = true)
    (k13 : PySem.W.keepIn K (.ref f13) = true)
    (a14 : PySem.W.nsIn K mainGlobals "_law_draw" = some (some (.ref f14)))
    (l14 : K.lookup f14 = some ⟨oc14, od14, .func (PySem.W.fnOf "_law_draw" "_law_draw" (defArgs s__law_draw) (defBody s__law_draw) (defScope s__law_draw) .none kV14 dc14 pm14 an14 cd14 ct14), sl14⟩)
    (c14 : PySem.W.codeIn K cd14 "_law_draw" = true)
    (k14 : PySem.W.keepIn K (.ref f14) = true)
    (a15 : PySem.W.nsIn K mainGlobals "_law_one" = some (some (.ref f15)))
    (l15 : K.lookup f15 = some ⟨oc15, od15, .func (PySem.W.fnOf "_law_one" "_law_one" (defArgs s__law_one) (defBody s__law_one) (defScope s__law_one) .none kV15 dc15 pm15 an15 cd15 ct15), sl15⟩)
    (c15 : PySem.W.codeIn K cd15 "_law_one" = true)
    (k15 : PySem.W.keepIn K (.ref f15) = true)
    (a16 : PySem.W.nsIn K mainGlobals "_law_flagged" = some (some (.ref f16)))
    (l16 : K.lookup f16 = some ⟨oc16, od16, .func (PySem.W.fnOf "_law_flagged" "_law_flagged" (defArgs s__law_flagged) (defBody s__law_flagged) (defScope s__law_flagged) .none kV16 dc16 pm16 an16 cd16 ct16), sl16⟩)
    (c16 : PySem.W.codeIn K cd16 "_law_flagged" = true)
    (k16 : PySem.W.keepIn K (.ref f16) = true)
    (a17 : PySem.W.nsIn K mainGlobals "_law_drawn_set" = some (some (.ref f17)))
    (l17 : K.lookup f17 = some ⟨oc17, od17, .func (PySem.W.fnOf "_law_drawn_set" "_law_drawn_set" (defArgs s__law_drawn_set) (defBody s__law_drawn_set) (defScope s__law_drawn_set) .none kV17 dc17 pm17 an17 cd17 ct17), sl17⟩)
    (c17 : PySem.W.codeIn K cd17 "_law_drawn_set" = true)
    (k17 : PySem.W.keepIn K (.ref f17) = true)
    (a18 : PySem.W.nsIn K mainGlobals "_law_longer" = some (some (.ref f18)))
    (l18 : K.lookup f18 = some ⟨oc18, od18, .func (PySem.W.fnOf "_law_longer" "_law_longer" (defArgs s__law_longer) (defBody s__law_longer) (defScope s__law_longer) .none kV18 dc18 pm18 an18 cd18 ct18), sl18⟩)
    (c18 : PySem.W.codeIn K cd18 "_law_longer" = true)
    (k18 : PySem.W.keepIn K (.ref f18) = true)
    (a19 : PySem.W.nsIn K mainGlobals "_law_is_least" = some (some (.ref f19)))
    (l19 : K.lookup f19 = some ⟨oc19, od19, .func (PySem.W.fnOf "_law_is_least" "_law_is_least" (defArgs s__law_is_least) (defBody s__law_is_least) (defScope s__law_is_least) .none kV19 dc19 pm19 an19 cd19 ct19), sl19⟩)
    (c19 : PySem.W.codeIn K cd19 "_law_is_least" = true)
    (k19 : PySem.W.keepIn K (.ref f19) = true)
    (a20 : PySem.W.nsIn K mainGlobals "_law_right" = some (some (.ref f20)))
    (l20 : K.lookup f20 = some ⟨oc20, od20, .func (PySem.W.fnOf "_law_right" "_law_right" (defArgs s__law_right) (defBody s__law_right) (defScope s__law_right) .none kV20 dc20 pm20 an20 cd20 ct20), sl20⟩)
    (c20 : PySem.W.codeIn K cd20 "_law_right" = true)
    (k20 : PySem.W.keepIn K (.ref f20) = true)
    (a21 : PySem.W.nsIn K mainGlobals "law" = some (some (.ref f21)))
    (l21 : K.lookup f21 = some ⟨oc21, od21, .func (PySem.W.fnOf "law" "law" (defArgs s_law) (defBody s_law) (defScope s_law) .none kV21 dc21 pm21 an21 cd21 ct21), sl21⟩)
    (c21 : PySem.W.codeIn K cd21 "law" = true)
    (k21 : PySem.W.keepIn K (.ref f21) = true)
    : ∃ B : CA, Raws K mg B :=
  ⟨⟨C_Lengths⟩, ⟨PySem.W.mg_none_of X G zb_int, PySem.W.mg_none_of X G zb_isinstance, PySem.W.mg_none_of X G zb_bool, PySem.W.mg_none_of X G zb_tuple, PySem.W.mg_none_of X G zb_all, PySem.W.mg_none_of X G zb_range, PySem.W.mg_none_of X G zb_len, PySem.W.mg_none_of X G zb_sorted, PySem.W.mg_none_of X G zb_abs, PySem.W.mg_none_of X G zb_repr, PySem.W.mg_none_of X G zb_list, PySem.W.mg_none_of X G zb_min, PySem.W.mg_none_of X G zb_max, ⟨tk_MOST_START, PySem.W.mg_of X G zc_MOST_START⟩, zn_Lengths_held, ⟨⟨zipg_Lengths, zihd_Lengths, zipo_Lengths, zisa_Lengths⟩, ziha_Lengths, zihn_Lengths, ziht_Lengths, zihm_Lengths⟩, PySem.W.mg_of X G zg_Lengths, ⟨zne1_Lengths, zne2_Lengths⟩, zb0_Lengths, zl0_Lengths, not_first zsub_tup, if_pos (beq_self_eq_true _), kit_sub (by rfl) zcls ztyp zsub_tup⟩,
    ⟨f0, _, PySem.W.mg_of X G a0, fun_mk (st := s_is_integer) l0 c0 k0⟩,
    ⟨f1, _, PySem.W.mg_of X G a1, fun_mk (st := s_is_between) l1 c1 k1⟩,
    ⟨f2, _, PySem.W.mg_of X G a2, fun_mk (st := s_are_ascending) l2 c2 k2⟩,
    ⟨f3, _, PySem.W.mg_of X G a3, fun_mk (st := s_least_form) l3 c3 k3⟩,
    ⟨f4, _, PySem.W.mg_of X G zg_Lengths, ⟨mk4, a4, i4, kc4⟩, fun_mk (st := s_Lengths____init__) l4 c4 k4⟩,
    ⟨p5, f5, _, ⟨pa5, pb5, pc5, ⟨rs5, pd5⟩⟩, fun_mk (st := s_Lengths__early) l5 c5 k5⟩,
    ⟨p6, f6, _, ⟨pa6, pb6, pc6, ⟨rs6, pd6⟩⟩, fun_mk (st := s_Lengths__start) l6 c6 k6⟩,
    ⟨p7, f7, _, ⟨pa7, pb7, pc7, ⟨rs7, pd7⟩⟩, fun_mk (st := s_Lengths__again) l7 c7 k7⟩,
    ⟨p8, f8, _, ⟨pa8, pb8, pc8, ⟨rs8, pd8⟩⟩, fun_mk (st := s_Lengths__period) l8 c8 k8⟩,
    ⟨f9, _, ⟨a9, i9, k9⟩, fun_mk (st := s_Lengths____contains__) l9 c9 k9⟩,
    ⟨f10, _, ⟨a10, i10, k10⟩, fun_mk (st := s_Lengths__first) l10 c10 k10⟩,
    ⟨f11, _, ⟨a11, i11, k11⟩, fun_mk (st := s_Lengths__endless) l11 c11 k11⟩,
    ⟨f12, _, ⟨a12, i12, k12⟩, fun_mk (st := s_Lengths____eq__) l12 c12 k12⟩,
    ⟨f13, _, PySem.W.mg_of X G a13, fun_mk (st := s__law_bag) l13 c13 k13⟩,
    ⟨f14, _, PySem.W.mg_of X G a14, fun_mk (st := s__law_draw) l14 c14 k14⟩,
    ⟨f15, _, PySem.W.mg_of X G a15, fun_mk (st := s__law_one) l15 c15 k15⟩,
    ⟨f16, _, PySem.W.mg_of X G a16, fun_mk (st := s__law_flagged) l16 c16 k16⟩,
    ⟨f17, _, PySem.W.mg_of X G a17, fun_mk (st := s__law_drawn_set) l17 c17 k17⟩,
    ⟨f18, _, PySem.W.mg_of X G a18, fun_mk (st := s__law_longer) l18 c18 k18⟩,
    ⟨f19, _, PySem.W.mg_of X G a19, fun_mk (st := s__law_is_least) l19 c19 k19⟩,
    ⟨f20, _, PySem.W.mg_of X G a20, fun_mk (st := s__law_right) l20 c20 k20⟩,
    ⟨f21, _, PySem.W.mg_of X G a21, fun_mk (st := s_law) l21 c21 k21⟩⟩
theorem walk {l : PySem.W.OpenLaw} {q : Program} {loose : List Str} {XP : (Str → Option Value) → Heap → Prop} {YP : World → Heap → Prop} {d : DefRec} {K : Params → PySem.W.Frag} (hn : l.most = some 63) (hdf : d.params.defaults = []) (hnm : d.name = "law")
    (hY : ∀ (w : World) (h : Heap), YP w h → (K w.params).In h)
    (F : ∀ (w : World) (mg : Str → Option Value) (h : Heap), (K w.params).In h → h.Ns mainGlobals mg → ∃ B : CA, Raws (K w.params) mg B) :
    PySem.W.WalkO q loose XP YP l.row.toRowW d [] (fun f vs => PySem.call f vs) :=
  walk_G (n := 63) (k := 7) (x := "_law_script") (st := s_law) (sp := spLaw) hn (by decide) hdf ⟨rfl, by decide, by decide⟩ hY
    (fun w mg h KX G base _ _ => by
      rw [hnm]
      obtain ⟨B, R⟩ := F w mg h KX G
      exact go_law R)
    (fun K H a ns hl _ hS => ⟨a, ns, rfl, hS, hl, fun _ => rfl⟩)
end RA.K10

open PySem PySem.W PyProof.Rows in
set_option maxRecDepth 100000 in
set_option maxHeartbeats 0 in
theorem PySem.Challenge.cw_readaround_k10_sets_of_lengths_made_holds : PySem.Challenge.rw_readaround_k10_sets_of_lengths_made.Holds := by
  w_on; o_law; k_head; (case hw => w_witness2)
  k_fill
  refine RA.K10.walk (l := PySem.Challenge.rw_readaround_k10_sets_of_lengths_made) rfl rfl rfl (fun w h Y => PySem.W.kIn_of Y) ?F
  case F =>
    intro w mg h KX G
    refine' RA.K10.all_mk KX G ?zg_Lengths ?zb_int ?zb_isinstance ?zb_bool ?zb_tuple ?zb_all ?zb_range ?zb_len ?zb_sorted ?zb_abs ?zb_repr ?zb_list ?zb_min ?zb_max ?zc_MOST_START ?zn_Lengths_held ?zipg_Lengths ?zihd_Lengths ?zipo_Lengths ?zisa_Lengths ?ziha_Lengths ?zihn_Lengths ?ziht_Lengths ?zihm_Lengths ?zne1_Lengths ?zne2_Lengths ?zb0_Lengths ?zl0_Lengths ?zsub_tup ?zcls ?ztyp ?a0 ?l0 ?c0 ?k0 ?a1 ?l1 ?c1 ?k1 ?a2 ?l2 ?c2 ?k2 ?a3 ?l3 ?c3 ?k3 ?mk4 ?a4 ?i4 ?kc4 ?l4 ?c4 ?k4 ?pa5 ?pb5 ?pc5 ?pd5 ?l5 ?c5 ?k5 ?pa6 ?pb6 ?pc6 ?pd6 ?l6 ?c6 ?k6 ?pa7 ?pb7 ?pc7 ?pd7 ?l7 ?c7 ?k7 ?pa8 ?pb8 ?pc8 ?pd8 ?l8 ?c8 ?k8 ?a9 ?i9 ?l9 ?c9 ?k9 ?a10 ?i10 ?l10 ?c10 ?k10 ?a11 ?i11 ?l11 ?c11 ?k11 ?a12 ?i12 ?l12 ?c12 ?k12 ?a13 ?l13 ?c13 ?k13 ?a14 ?l14 ?c14 ?k14 ?a15 ?l15 ?c15 ?k15 ?a16 ?l16 ?c16 ?k16 ?a17 ?l17 ?c17 ?k17 ?a18 ?l18 ?c18 ?k18 ?a19 ?l19 ?c19 ?k19 ?a20 ?l20 ?c20 ?k20 ?a21 ?l21 ?c21 ?k21
    (case zg_Lengths => k_is)
    (case zb_int => k_is)
    (case zb_isinstance => k_is)
    (case zb_bool => k_is)
    (case zb_tuple => k_is)
    (case zb_all => k_is)
    (case zb_range => k_is)
    (case zb_len => k_is)
    (case zb_sorted => k_is)
    (case zb_abs => k_is)
    (case zb_repr => k_is)
    (case zb_list => k_is)
    (case zb_min => k_is)
    (case zb_max => k_is)
    (case zc_MOST_START => k_is)
    (case zn_Lengths_held => k_is)
    (case zipg_Lengths => k_is)
    (case zihd_Lengths => k_is)
    (case zipo_Lengths => k_is)
    (case zisa_Lengths => k_is)
    (case ziha_Lengths => k_is)
    (case zihn_Lengths => k_is)
    (case ziht_Lengths => k_is)
    (case zihm_Lengths => k_is)
    (case zne1_Lengths => k_is)
    (case zne2_Lengths => k_is)
    (case zb0_Lengths => k_is)
    (case zl0_Lengths => k_is)
    (case zsub_tup => k_is)
    (case zcls => k_is)
    (case ztyp => k_is)
    (case a0 => k_is)
    (case l0 => k_is)
    (case c0 => k_is)
    (case k0 => k_is)
    (case a1 => k_is)
    (case l1 => k_is)
    (case c1 => k_is)
    (case k1 => k_is)
    (case a2 => k_is)
    (case l2 => k_is)
    (case c2 => k_is)
    (case k2 => k_is)
    (case a3 => k_is)
    (case l3 => k_is)
    (case c3 => k_is)
    (case k3 => k_is)
    (case mk4 => k_is)
    (case a4 => k_is)
    (case i4 => k_is)
    (case kc4 => k_is)
    (case l4 => k_is)
    (case c4 => k_is)
    (case k4 => k_is)
    (case pa5 => k_is)
    (case pb5 => k_is)
    (case pc5 => k_is)
    (case pd5 => k_is)
    (case l5 => k_is)
    (case c5 => k_is)
    (case k5 => k_is)
    (case pa6 => k_is)
    (case pb6 => k_is)
    (case pc6 => k_is)
    (case pd6 => k_is)
    (case l6 => k_is)
    (case c6 => k_is)
    (case k6 => k_is)
    (case pa7 => k_is)
    (case pb7 => k_is)
    (case pc7 => k_is)
    (case pd7 => k_is)
    (case l7 => k_is)
    (case c7 => k_is)
    (case k7 => k_is)
    (case pa8 => k_is)
    (case pb8 => k_is)
    (case pc8 => k_is)
    (case pd8 => k_is)
    (case l8 => k_is)
    (case c8 => k_is)
    (case k8 => k_is)
    (case a9 => k_is)
    (case i9 => k_is)
    (case l9 => k_is)
    (case c9 => k_is)
    (case k9 => k_is)
    (case a10 => k_is)
    (case i10 => k_is)
    (case l10 => k_is)
    (case c10 => k_is)
    (case k10 => k_is)
    (case a11 => k_is)
    (case i11 => k_is)
    (case l11 => k_is)
    (case c11 => k_is)
    (case k11 => k_is)
    (case a12 => k_is)
    (case i12 => k_is)
    (case l12 => k_is)
    (case c12 => k_is)
    (case k12 => k_is)
    (case a13 => k_is)
    (case l13 => k_is)
    (case c13 => k_is)
    (case k13 => k_is)
    (case a14 => k_is)
    (case l14 => k_is)
    (case c14 => k_is)
    (case k14 => k_is)
    (case a15 => k_is)
    (case l15 => k_is)
    (case c15 => k_is)
    (case k15 => k_is)
    (case a16 => k_is)
    (case l16 => k_is)
    (case c16 => k_is)
    (case k16 => k_is)
    (case a17 => k_is)
    (case l17 => k_is)
    (case c17 => k_is)
    (case k17 => k_is)
    (case a18 => k_is)
    (case l18 => k_is)
    (case c18 => k_is)
    (case k18 => k_is)
    (case a19 => k_is)
    (case l19 => k_is)
    (case c19 => k_is)
    (case k19 => k_is)
    (case a20 => k_is)
    (case l20 => k_is)
    (case c20 => k_is)
    (case k20 => k_is)
    (case a21 => k_is)
    (case l21 => k_is)
    (case c21 => k_is)
    (case k21 => k_is)

