import PyProof.Rows.All
import Wide.All
import OpenK.AllK
import Wide.FinOn
import PySem.Challenge.RW_leastlore_k14_tidy_rows_made
import HandS.ForMost
import HandS.ForExc
import HandS.IsInst
import HandS.Wide
import HandS.Style
import HandS.EndBits
import HandS.ExcInit
import HandS.ExcField
import HandS.ExcIs
import HandS.Walk
import HandS.Replace
import HandS.SortInts
import HandS.SortRule
import HandS.Rev
import KE.KExcIs
set_option Elab.async false
set_option linter.all false
set_option maxRecDepth 100000
set_option maxHeartbeats 4000000
/-! ### what serves every law -/
namespace My
open PySem PySem.Spec PyProof.Rows L2
/-- the def x of the text stands, binds its arguments, and keeps its promise -/
structure Ok (P : Program) (w : World) (K : PySem.W.Frag) (mg : Str → Option Value) (base : Heap) (CX : CXT) (x : Str) (k : Nat) (ps : List Str) (sp : Sp) : Prop where
  ex : ∃ (f : Addr) (fd : FuncData), mg x = some (.ref f) ∧ PySem.W.keepIn K (.ref f) = true ∧ Binds K fd ps [] ∧ FnOk P w K mg base CX k f fd ps sp
section
variable {X : Cx}
theorem pe_callO {CX : CXT} {x : Str} {k : Nat} {ps : List Str} {sp : Sp} {E : XK} {e : Expr} {es : List Expr} {t : TA} {p pos : Pos} (G : Ok X.prog X.w X.K X.mg X.base CX x k ps sp) (hr : Room k X.A) (hg : Gl X x) (hx : Passes CX X E) (ha : PA X (e :: es) t)
    (hdb : (x == ("__debug__" : Str)) = false := by decide) (he : starEach (e :: es) X.env = (false, eval e X.env) :: starEach es X.env := by rfl) (hpl : (backTo pos (starEach es X.env)).any (·.1) = false := by rfl) :
    PE X (.Call (.Name x p) (e :: es) [] pos) (tCall sp [] E t) := by
  obtain ⟨f, fd, m, kp, b, F⟩ := G.ex
  exact pe_call F hr hg m kp b .nil hx ha hdb he hpl
theorem pe_callO0 {CX : CXT} {x : Str} {k : Nat} {ps : List Str} {sp : Sp} {E : XK} {p pos : Pos} (G : Ok X.prog X.w X.K X.mg X.base CX x k ps sp) (hr : Room k X.A) (hg : Gl X x) (hx : Passes CX X E)
    (hdb : (x == ("__debug__" : Str)) = false := by decide) : PE X (.Call (.Name x p) [] [] pos) (tCall sp [] E tNil) := by
  obtain ⟨f, fd, m, kp, b, F⟩ := G.ex
  exact pe_call0 F hr hg m kp b .nil hx hdb
end
/-- the def st stands under the name x in the written part -/
structure At (K : PySem.W.Frag) (x : Str) (st : Stmt) : Prop where
  ex : ∃ (f : Addr) (fd : FuncData), PySem.W.nsIn K mainGlobals x = some (some (.ref f)) ∧ Fun K x x st f fd
theorem at_mk {K : PySem.W.Frag} {x : Str} {st : Stmt} {f : Addr} {oc : Value} {od an : Option Addr} {osl : Array (Option Value)} {kV doc pm cdv ct : Value} (a : PySem.W.nsIn K mainGlobals x = some (some (.ref f)))
    (l : K.lookup f = some ⟨oc, od, .func (PySem.W.fnOf x x (defArgs st) (defBody st) (defScope st) .none kV doc pm an cdv ct), osl⟩)
    (c : PySem.W.codeIn K cdv x = true) (k : PySem.W.keepIn K (.ref f) = true) : At K x st := ⟨f, _, a, fun_mk l c k⟩
/-- from where it stands and what its body keeps -/
theorem At.ok {P : Program} {w : World} {K : PySem.W.Frag} {mg : Str → Option Value} {base h : Heap} {CX : CXT} {x : Str} {st : Stmt} {k : Nat} {ps : List Str} {sp : Sp} (A : At K x st) (X : K.In h) (G : h.Ns mainGlobals mg)
    (hb : ∀ (kV doc pm : Value) (an : Option Addr) (cdv ct : Value) (us : List Value), us.length = ps.length → bindArgs (PySem.W.fnOf x x (defArgs st) (defBody st) (defScope st) .none kV doc pm an cdv ct) ⟨us, []⟩ = pure (ps.zip us))
    (hF : ∀ f fd, Fun K x x st f fd → FnOk P w K mg base CX k f fd ps sp) : Ok P w K mg base CX x k ps sp := by
  obtain ⟨f, fd, a, F⟩ := A.ex
  exact ⟨f, fd, PySem.W.mg_of X G a, F.kp, F.binds hb, hF f fd F⟩
/-! ### heaps: a box of draws at b changes, new things come, all else stands -/
def Box (H : Hp) (b : Addr) : Prop := ∃ d m c : Int, H b = some (.lst [.int d, .int m, .int c])
structure Keep (b : Addr) (H H' : Hp) : Prop where
  box : Box H' b
  old : ∀ a o, a ≠ b → H a = some o → H' a = some o
theorem Keep.refl {b : Addr} {H : Hp} (h : Box H b) : Keep b H H := ⟨h, fun _ _ _ e => e⟩
theorem Keep.trans {b : Addr} {H H1 H2 : Hp} (k : Keep b H H1) (l : Keep b H1 H2) : Keep b H H2 := ⟨l.box, fun a o n e => l.old a o n (k.old a o n e)⟩
theorem Box.some {H : Hp} {b : Addr} (h : Box H b) : ∃ o, H b = some o := by
  obtain ⟨d, m, c, e⟩ := h
  exact ⟨_, e⟩
theorem Box.new {H : Hp} {b p : Addr} {o : HO} (h : Box H b) (n : H p = none) : Box (upd H p o) b := by
  obtain ⟨d, m, c, e⟩ := h
  exact ⟨d, m, c, by rw [upd_ne (ne_of_none e n)]; exact e⟩
theorem Keep.new {b p : Addr} {H H' : Hp} {o : HO} (k : Keep b H H') (n : H' p = none) : Keep b H (upd H' p o) :=
  ⟨k.box.new n, fun a u na e => by rw [upd_ne (ne_of_none (k.old a u na e) n)]; exact k.old a u na e⟩
theorem Keep.seq {K : PySem.W.Frag} {b a : Addr} {H H' : Hp} {xs : List V} (k : Keep b H H') (n : a ≠ b) (h : SqL K H a xs) : SqL K H' a xs := by
  rcases h with (h | ⟨o, h⟩) | h
  · exact .inl (.inl (k.old _ _ n h))
  · exact .inl (.inr ⟨o, k.old _ _ n h⟩)
  · exact .inr h
theorem same_upd {H : Hp} {p : Addr} {o : HO} (h : H p = none) : Same H (upd H p o) := fun b x e => by
  rw [upd_ne (ne_of_none e h)]
  exact e
theorem Same.new {H H' : Hp} {p : Addr} {o : HO} (k : Same H H') (h : H' p = none) : Same H (upd H' p o) := k.trans (same_upd h)
theorem Box.same {H H' : Hp} {b : Addr} (h : Box H b) (s : Same H H') : Box H' b := by
  obtain ⟨d, m, c, e⟩ := h
  exact ⟨d, m, c, s _ _ e⟩
theorem Same.keep {H H' : Hp} {b : Addr} (h : Box H b) (s : Same H H') : Keep b H H' := ⟨h.same s, fun a o _ e => s a o e⟩
theorem Keep.free {b p : Addr} {H H' : Hp} (k : Keep b H H') (h : Box H b) (n : H' p = none) : H p = none := by
  cases q : H p with
  | none => rfl
  | some o =>
    by_cases e : p = b
    · subst e
      obtain ⟨d, m, c, e2⟩ := k.box
      rw [e2] at n
      cases n
    · rw [k.old p o e q] at n
      cases n
end My

/-! ### defs that are run while nothing is being written out by repr (no guards): a promise over such surroundings alone -/
namespace My
open PySem PySem.Spec PyProof.Rows L2
structure FnG (P : Program) (w : World) (K : PySem.W.Frag) (mg : Str → Option Value) (base : Heap) (CX : CXT) (k : Nat) (f : Addr) (fd : FuncData) (ps : List Str) (sp : Sp) : Prop where
  len : ∀ vs H Q E, sp vs H Q E → vs.length = ps.length
  run : ∀ (A : Around) (outer : List Env) (s : Shared) (H : Hp) (args : Args) (us : List Value) (vs : List V) (Q : VK) (E : XK), A.guards = some [] → Room k A →
    Env0 P w K mg base A outer s H → BindsTo s fd args (ps.zip us) → Vals vs us → sp vs H Q E → codeAny (model P w) A (.call (.ref f) args) (CR CX outer P w H s Q E) s
section
variable {P : Program} {w : World} {K : PySem.W.Frag} {mg : Str → Option Value} {base : Heap} {CX : CXT} {k : Nat} {f : Addr} {fd : FuncData} {ps : List Str} {sp : Sp}
theorem fnG_of_ok (F : FnOk P w K mg base CX k f fd ps sp) : FnG P w K mg base CX k f fd ps sp :=
  ⟨F.len, fun A outer s H args us vs Q E _ hr e0 hb hv hs => F.run A outer s H args us vs Q E hr e0 hb hv hs⟩
/-- from a body -/
theorem fnG_of {name qual : Str} {params : Arguments} {body : List Stmt} {scope : Scope} {dV kV doc pm cdv ct oc : Value} {an od : Option Addr} {osl : Array (Option Value)} {N : List Str}
    (lk : K.lookup f = some ⟨oc, od, .func (PySem.W.fnOf name qual params body scope dV kV doc pm an cdv ct), osl⟩)
    (hcd : PySem.W.codeIn K cdv qual = true) (S : FnScope N ps scope) (len : ∀ vs H Q E, sp vs H Q E → vs.length = ps.length)
    (hbody : ∀ (A : Around) (outer : List Env) (s : Shared) (H : Hp) (vs : List V) (Q : VK) (E : XK), A.guards = some [] →
      Room k (A.deeper (envOfC qual scope s.heap.objs.size f cdv)) → sp vs H Q E →
      ∃ t, PSs (cxOf CX P w K mg base N qual scope f cdv A outer s H E) body t ∧ t { nx := fun _ H' => Q .non H', rt := Q } (start N vs) H) :
    FnG P w K mg base CX (k + 1) f (PySem.W.fnOf name qual params body scope dV kV doc pm an cdv ct) ps sp := by
  constructor
  · exact len
  · intro A outer s H args us vs Q E hgd hr e0 hb r hsp
    have kin : K.In s.heap := e0.mod.kin.keeps fun b o e => (e0.bs b o e).1
    have nol : s.heap.NoLimit := e0.mod.nolimit.keeps fun b o e => (e0.bs b o e).1
    have kinds : ∀ y ∈ ps.zip us, scope.names.lookup y.1 = some .local ∨ (scope.names.lookup y.1 = some .cell ∧ ((cellsFrom (s.heap.objs.size + 1) scope.names []).lookup y.1).isSome = true) := by
      intro y hy
      obtain ⟨n, v⟩ := y
      have hm := (List.of_mem_zip hy).1
      cases S.par n hm with
      | inl q => exact Or.inl q
      | inr q => exact Or.inr ⟨q, PySem.W.cellsFrom_some _ _ _ (Or.inl q)⟩
    apply codeAny_call_function hr.depth (kin _ _ lk) rfl S.co S.gen rfl (PySem.W.codeRec_of kin hcd)
    apply hb
    apply wpAny_newFunctionEnv_cells S.kind kinds
    intro env he s1 x
    subst he
    constructor
    · exact nol.keeps x.toInCall.keep
    · apply codeAny_func
      obtain ⟨t, ht, hq⟩ := hbody A outer s H vs Q E hgd (hr.deeper _) hsp
      have I : Inv (cxOf CX P w K mg base N qual scope f cdv A outer s H E) [] (start N vs) H s1 := inv_start S hr.hd e0 (len _ _ _ _ hsp) r x
      refine wpAny_mono (ht.run [] s1 (start N vs) H _ I hq) ?_ (fun e s' hs => hs)
      intro fl s' hs
      cases fl with
      | ret u =>
        obtain ⟨v, σ', H', J, rv, q⟩ := hs
        exact ⟨v, H', J.os, J.bare, J.base, J.hok, rv, q⟩
      | next =>
        obtain ⟨σ', H', J, q⟩ := hs
        exact ⟨V.non, H', J.os, J.bare, J.base, J.hok, rfl, q⟩
      | brk =>
        obtain ⟨_, _, _, q⟩ := hs
        cases q
      | cont =>
        obtain ⟨_, _, _, q⟩ := hs
        cases q
theorem okG {x qual : Str} {st : Stmt} {N : List Str} (F : Fun K x qual st f fd) (S : FnScope N ps (defScope st)) (len : ∀ vs H Q E, sp vs H Q E → vs.length = ps.length)
    (hbody : ∀ (cdv : Value) (A : Around) (outer : List Env) (s : Shared) (H : Hp) (vs : List V) (Q : VK) (E : XK), A.guards = some [] →
      Room k (A.deeper (envOfC qual (defScope st) s.heap.objs.size f cdv)) → sp vs H Q E →
      ∃ t, PSs (cxOf CX0 P w K mg base N qual (defScope st) f cdv A outer s H E).nox (defBody st) t ∧ t { nx := fun _ H' => Q .non H', rt := Q } (start N vs) H) :
    FnG P w K mg base CX0 (k + 1) f fd ps sp := by
  obtain ⟨oc, od, kV, doc, pm, an, cdv, ct, osl, rfl, lk, hcd⟩ := F.ex
  apply fnG_of lk hcd S len
  intro A outer s H vs Q E hgd hr hsp
  obtain ⟨t, h, q⟩ := hbody cdv A outer s H vs Q E hgd hr hsp
  exact ⟨t, h.nox, q⟩
end
/-- as Ok, over such surroundings -/
structure OkG (P : Program) (w : World) (K : PySem.W.Frag) (mg : Str → Option Value) (base : Heap) (CX : CXT) (x : Str) (k : Nat) (ps : List Str) (sp : Sp) : Prop where
  ex : ∃ (f : Addr) (fd : FuncData), mg x = some (.ref f) ∧ PySem.W.keepIn K (.ref f) = true ∧ Binds K fd ps [] ∧ FnG P w K mg base CX k f fd ps sp
theorem At.okG {P : Program} {w : World} {K : PySem.W.Frag} {mg : Str → Option Value} {base h : Heap} {CX : CXT} {x : Str} {st : Stmt} {k : Nat} {ps : List Str} {sp : Sp} (A : At K x st) (X : K.In h) (G : h.Ns mainGlobals mg)
    (hb : ∀ (kV doc pm : Value) (an : Option Addr) (cdv ct : Value) (us : List Value), us.length = ps.length → bindArgs (PySem.W.fnOf x x (defArgs st) (defBody st) (defScope st) .none kV doc pm an cdv ct) ⟨us, []⟩ = pure (ps.zip us))
    (hF : ∀ f fd, Fun K x x st f fd → FnG P w K mg base CX k f fd ps sp) : OkG P w K mg base CX x k ps sp := by
  obtain ⟨f, fd, a, F⟩ := A.ex
  exact ⟨f, fd, PySem.W.mg_of X G a, F.kp, F.binds hb, hF f fd F⟩
section
variable {X : Cx} {CX : CXT} {k : Nat} {f : Addr} {fd : FuncData} {ps : List Str} {sp : Sp} {E : XK} {x : Str}
theorem run_fnG {pins : List (Addr × Obj)} {σ : L2.St} {H : Hp} {s : Shared} {Q : VK} {us : List Value} {vs : List V} (F : FnG X.prog X.w X.K X.mg X.base CX k f fd ps sp) (hgd : X.A.guards = some []) (hr : Room k X.A) (hb : Binds X.K fd ps []) (hx : Passes CX X E)
    (I : Inv X pins σ H s) (r : Vals vs us) (h : sp vs H Q E) : wpAny (model X.prog X.w) X.A (call (.ref f) us) (EP X pins σ Q) X.xe s := by
  have hl : us.length = ps.length := r.length.symm.trans (F.len _ _ _ _ h)
  have hbt : BindsTo s fd ⟨us, []⟩ (ps.zip us) := by
    have z := hb s us I.kIn (by rw [List.append_nil]; exact hl)
    rw [List.append_nil] at z
    exact z
  apply wpAny_call
  refine codeAny_mono (F.run X.A X.stack s H ⟨us, []⟩ us vs Q E hgd hr I.env0 hbt r h) ?_
  intro res s' hq
  rcases res with e | fl
  · exact hx pins σ H s e s' I hq
  · cases fl with
    | ret u => exact I.after hq
    | next => cases hq
    | brk => cases hq
    | cont => cases hq
theorem pe_callG {e : Expr} {es : List Expr} {t : TA} {p pos : Pos} (G : OkG X.prog X.w X.K X.mg X.base CX x k ps sp) (hr : Room k X.A) (hgd : X.A.guards = some []) (hg : Gl X x) (hx : Passes CX X E) (ha : PA X (e :: es) t)
    (hdb : (x == ("__debug__" : Str)) = false := by decide) (he : starEach (e :: es) X.env = (false, eval e X.env) :: starEach es X.env := by rfl) (hpl : (backTo pos (starEach es X.env)).any (·.1) = false := by rfl) :
    PE X (.Call (.Name x p) (e :: es) [] pos) (tCall sp [] E t) := by
  obtain ⟨f, fd, hm, hk, hb, F⟩ := G.ex
  constructor
  intro pins s σ H Q I h
  apply wpAny_Call_Name_kw
  refine ld_glob I hg hm ?_ hdb
  refine PySem.W.callWith_K (h₀ := X.base) I.ok.mod.kin hk (thn (ha.run pos pins s σ H _ I h) ?_) he hpl
  intro us s1 hh
  obtain ⟨vs, H1, I1, r, q⟩ := hh
  rw [List.append_nil] at q
  exact ⟨I1.kIn, run_fnG F hgd hr hb hx I1 r q⟩
end
/-! ### repr of data -/
def rRepr (K : PySem.W.Frag) : List V → Hp → VK → Prop := fun xs H Q => ∃ (x : V) (d : PyData), xs = [x] ∧ Dp K H x d ∧ d.showable = true ∧ d.depth ≤ 60 ∧ d.shown.length ≤ sizeLine ∧ Q (.str d.shown) H
theorem dp_nodict {K : PySem.W.Frag} {H : Hp} : ∀ (d : PyData), (∀ v, Dp K H v d → d.hasDict = false) ∧ True := by
  intro d
  refine ⟨?_, trivial⟩
  intro v h
  induction h using Dp.rec (motive_2 := fun vs ds _ => PyData.hasDictAll ds = false) with
  | non => rfl
  | bl b => rfl
  | int i => rfl
  | str x => rfl
  | lst _ _ ih => simp only [PyData.hasDict]; exact ih
  | tup _ _ ih => simp only [PyData.hasDict]; exact ih
  | nil => rfl
  | cons _ _ ih1 ih2 => simp only [PyData.hasDictAll, ih1, ih2]; rfl
theorem call_reprD {X : Cx} (hgd : X.A.guards = some []) (hu : X.A.units + 64 < cLine) : CallR X (.builtin "repr") (rRepr X.K) := by
  intro pins s σ H xs us Q I r h
  obtain ⟨x, d, rfl, hd, hs, hdep, hz, q⟩ := h
  obtain ⟨u, rfl, r1⟩ := vals1 r
  obtain ⟨as, hr⟩ := Dp.reads I d x u hd r1
  have hnd := (dp_nodict d).1 x hd
  cases hd with
  | non =>
    cases r1
    exact PySem.P.repr_of_none ⟨.str _, H, I.tok _, ⟨_, rfl⟩, q⟩
  | bl b =>
    cases r1
    exact PySem.P.repr_of_bool ⟨.str _, H, I.tok _, ⟨_, rfl⟩, q⟩
  | int i =>
    obtain ⟨t, rfl⟩ := r1
    exact PySem.P.repr_of_int (by simpa [PyData.showable] using hs) ⟨.str _, H, I.tok _, ⟨_, rfl⟩, q⟩
  | str z =>
    obtain ⟨t, rfl⟩ := r1
    exact PySem.P.repr_of_str ⟨.str _, H, I.tok _, ⟨_, rfl⟩, q⟩ (by simpa only [PyData.shown] using hz)
  | lst h1 h2 =>
    cases r1
    exact repr_of_reads' hr hs (PyData.noDict_hsm hnd) hgd (by omega) (fun _ _ e => e) (fun h' u tk hk => ⟨.str _, H, I.kept (t' := tk) hk, ⟨_, rfl⟩, q⟩) hz
  | tup h1 h2 =>
    cases r1
    exact repr_of_reads' hr hs (PyData.noDict_hsm hnd) hgd (by omega) (fun _ _ e => e) (fun h' u tk hk => ⟨.str _, H, I.kept (t' := tk) hk, ⟨_, rfl⟩, q⟩) hz
end My

/-! ### the program's own errors: class X(LoreError), whose __init__ says LoreError.__init__(self, words) and keeps one thing -/
namespace My
open PySem PySem.Spec PyProof.Rows L2
/-- LoreError stands at L and hands on ValueError's __init__ -/
structure BaseC (K : PySem.W.Frag) (mg : Str → Option Value) (L : Addr) : Prop where
  gL : mg "LoreError" = some (.ref L)
  rd : PySem.W.readsIn K L (.type "type") = true
  ga : PySem.W.specialIn K (.ref L) "__getattribute__" = some (some (.builtin "type.__getattribute__"))
  vI : PySem.W.findCls K (.ref L) (.type "type") "__init__" = some (.val (.builtin "ValueError.__init__"))
theorem pe_loreinit {X : Cx} {L : Addr} {e : Expr} {es : List Expr} {ta : TA} {p1 p2 pos : Pos} {pl : Sem Bool} (B : BaseC X.K X.mg L) (hg : Gl X "LoreError") (ha : PA X (e :: es) ta)
    (hc : eval (.Call (.Attribute (.Name "LoreError" p1) "__init__" p2) (e :: es) [] pos) X.env = (do
      let ov ← eval (.Name "LoreError" p1) X.env
      standAt p2.atName
      let (g, first) ← holding [ov] (getMethod ov "__init__" pl)
      callWith pos g first (backTo pos (starEach (e :: es) X.env)) (backToKw pos (keywordEach [] X.env))) := by rfl)
    (he : starEach (e :: es) X.env = (false, eval e X.env) :: starEach es X.env := by rfl) (hpl : (backTo pos (starEach es X.env)).any (·.1) = false := by rfl) :
    PE X (.Call (.Attribute (.Name "LoreError" p1) "__init__" p2) (e :: es) [] pos) (tVeI X.K ta) := by
  constructor
  intro pins s σ H Q I h
  refine PySem.W.methodCall_KW (ld_glob I hg B.gL ?_) hc
  refine PySem.W.method_cls I.kIn B.ga (PySem.W.cls_value I.kIn B.rd B.vI (by decide +kernel) ?_)
  show wpAny _ _ (callWith pos (Value.builtin "ValueError.__init__") [] (backTo pos (starEach (e :: es) X.env)) []) _ _ _
  refine PyProof.Rows.callWith_method1 (thn (ha.run pos pins _ σ H _ (I.tok _) h) ?_) he hpl
  intro us s1 hh
  obtain ⟨vs, H1, I1, r1, a, C, ws, ev, hl, T, ea, q⟩ := hh
  subst ev
  cases r1 with
  | @cons _ u0 _ ur ra rw' =>
    have e0 : u0 = Value.ref a := ra
    subst e0
    refine oinit_ok T I1 ea ?_ fun s' J => ⟨.non, H1, J, rfl, q⟩
    have z := Paired.length rw'
    rw [sizeLine_eq]
    omega
/-- what __init__ does: self keeps v as f -/
def spInit1 (C : Addr) (f : Str) : Sp := fun vs H Q _ => ∃ (a : Addr) (v : V), vs = [.ref a, v] ∧ H a = some (exo a C none) ∧
  ∀ dx, H dx = none → dx ≠ a → Q .non (upd (upd H dx (exd dx [(f, v)])) a (exo a C (some dx)))
/-- what of the text such a class must have -/
structure ErrC (P : Program) (w : World) (K : PySem.W.Frag) (mg : Str → Option Value) (base : Heap) (x f : Str) (C : Addr) : Prop where
  gC : mg x = some (.ref C)
  oex : OexC K C
  noF : PySem.W.findIn K (.ref C) f = some none
  xf : XfC K C
  hcl : (PySem.W.clsIn K C).isSome = true
  ha : PySem.W.findIn K (.ref C) "__class__" = some (some (.builtin "object.__class__"))
  hm : PySem.W.mroIn K C (.type "object") = some true
  te : PySem.W.exmOne K (.ref C) (.ref C) = some true
  hn : PySem.W.specialIn K (.builtin "object.__class__") "__get__" = some (some (.builtin "getset_descriptor.__get__"))
  ht : PySem.W.takesIn K (.builtin "object.__class__") = some true
  ini : ∃ (fI : Addr) (fd : FuncData), PySem.W.findIn K (.ref C) "__init__" = some (some (.ref fI)) ∧ PySem.W.typeIn K (.ref fI) = some (.type "function") ∧ Binds K fd ["self", f] [] ∧ FnOk P w K mg base CX0 1 fI fd ["self", f] (spInit1 C f)
theorem PA_mono {X : Cx} {es : List Expr} {ta : TA} (h : PA X es ta) : PA X es (fun σ H Q => ∃ Q0 : List V → Hp → Prop, ta σ H Q0 ∧ ∀ vs H1, Q0 vs H1 → Q vs H1) := by
  constructor
  intro pos pins s σ H Q I hq
  obtain ⟨Q0, h0, h1⟩ := hq
  refine thn (h.run pos pins s σ H Q0 I h0) ?_
  intro us s1 hh
  obtain ⟨vs, H1, I1, r, q⟩ := hh
  exact ⟨vs, H1, I1, r, h1 vs H1 q⟩
/-- X(e): for any new d the dict that keeps the thing -/
def tMkE (C : Addr) (f : Str) (ta : TA) : L2.St → Hp → XK → Prop := fun σ H Q => ta σ H fun vs H1 => ∃ v, vs = [v] ∧ ∀ d, H1 d = none → Q (.ref C) (some d) (upd H1 d (.xd [(f, v)]))
theorem err_heap {H : Hp} {a dx C : Addr} {fs : List (Str × V)} (n : H a = none) (ne : dx ≠ a) :
    upd (del (upd (upd (upd H a (exo a C none)) dx (exd dx fs)) a (exo a C (some dx))) a) dx (.xd fs) = upd H dx (.xd fs) := by
  funext b
  by_cases h1 : b = dx
  · subst h1
    rw [upd_same, upd_same]
  · rw [upd_ne h1, upd_ne h1]
    by_cases h2 : b = a
    · subst h2
      rw [del_same, n]
    · rw [del_ne h2, upd_ne h2, upd_ne h1, upd_ne h2]
theorem pmk_err {X : Cx} {x f : Str} {C : Addr} {e : Expr} {ta : TA} {p pos : Pos} {k : Nat} (T : ErrC X.prog X.w X.K X.mg X.base x f C) (hr : Room (k + 2) X.A) (hg : Gl X x) (ha : PA X [e] ta)
    (hdb : (x == ("__debug__" : Str)) = false := by decide) (he : starEach [e] X.env = (false, eval e X.env) :: starEach [] X.env := by rfl) (hpl : (backTo pos (starEach [] X.env)).any (·.1) = false := by rfl) :
    PMk X (.Call (.Name x p) [e] [] pos) (tMkE C f ta) := by
  obtain ⟨fI, fd, iC, tI, hb, F1⟩ := T.ini
  intro pins s σ H Q I h
  refine pmk_oex T.oex iC tI F1 (hr.mono (by omega)) hb .nil pass0 hg T.gC (PA_mono ha) hdb he hpl pins s σ H Q I ⟨_, h, ?_⟩
  intro vs H1 hv
  obtain ⟨v, rfl, q⟩ := hv
  refine ⟨(by show 1 ≤ 1000; decide), fun a na => ⟨a, v, rfl, upd_same, fun dx nd ne => ?_⟩⟩
  have nd1 : H1 dx = none := by
    rw [upd_ne ne] at nd
    exact nd
  refine ⟨rfl, dx, [(f, v)], upd_same, ?_, nd1, ?_⟩
  · rw [upd_ne ne, upd_same]
  · rw [err_heap na ne]
    exact q dx nd1
/-- raise X(e) -/
theorem ps_err {X : Cx} {W : WX} {x f : Str} {C : Addr} {e : Expr} {ta : TA} {p pos pos2 : Pos} {k : Nat} (hc : X.calm = true) (T : ErrC X.prog X.w X.K X.mg X.base x f C) (hr : Room (k + 2) X.A) (tk : Takes X W) (hg : Gl X x) (ha : PA X [e] ta)
    (hdb : (x == ("__debug__" : Str)) = false := by decide) (he : starEach [e] X.env = (false, eval e X.env) :: starEach [] X.env := by rfl) (hpl : (backTo pos (starEach [] X.env)).any (·.1) = false := by rfl) :
    PS X (.Raise (some (.Call (.Name x p) [e] [] pos)) none pos2) (fun _ σ H => tMkE C f ta σ H fun cls d H' => W cls d σ H') := ps_raise hc tk (pmk_err T hr hg ha hdb he hpl)
/-- isinstance(e, c), e the caught error (at a, of the class cls, its dict d) -/
def rIsED (K : PySem.W.Frag) (D a : Addr) (cls : Value) (d : Option Addr) : List V → Hp → VK → Prop := fun xs H Q => ∃ (c : V) (cv : Value) (b : Bool) (dd : Addr) (fs : List (Str × V)), xs = [.ref a, c] ∧ cls = .ref D ∧ d = some dd ∧ H dd = some (.xd fs) ∧
  ClsV c cv ∧ PySem.W.kitOne K (.ref D) cv = some b ∧ Q (.bl b) H
theorem call_isED {X : Cx} {x f : Str} {a D : Addr} {oe : Obj} {cls : Value} {d : Option Addr} {pn : List (Addr × Obj)} (T : ErrC X.prog X.w X.K X.mg X.base x f D) (hz : Zc cls d oe) (hf : ∃ vs, oe.data = .fields vs) :
    CallR (X.suite a ((a, oe) :: pn)) (.builtin "isinstance") (rIsED X.K D a cls d) := by
  intro pins s σ H xs us Q I r h
  obtain ⟨c, cv, b, dd, fs, rfl, rfl, rfl, hd, hcv, e, q⟩ := h
  obtain ⟨u1, u2, rfl, r1, r2⟩ := vals2 r
  have e1 : u1 = Value.ref a := r1
  have e2 := hcv.eq r2
  subst e1 e2
  obtain ⟨hget, _⟩ := I.pin (a, oe) (List.mem_append.mpr (.inl List.mem_cons_self))
  obtain ⟨vs, hv⟩ := hf
  obtain ⟨mA, hns, _⟩ := (show ObjOk X.prog X.w H s.heap dd (.xd fs) from I.hok dd _ hd)
  obtain ⟨od, ho, _⟩ := lookIn_ns hns
  have J : PySem.W.InstAt s.heap a oe D (some od) := ⟨hget, hz.1, by unfold PySem.W.notCls; rw [hv] <;> rfl, by rw [hz.2]; exact ho⟩
  have Z := PySem.W.kitx_exc (K := X.K) (x := a) (C := D) (ox := oe) (od := some od) T.hcl T.xf.ga T.xf.gg T.xf.exC T.ha T.hn T.ht T.hm
  exact PySem.W.kia_one Z I.kIn J e (fun z => nomatch z) fun tk => ⟨.bl b, H, I.kept (t' := tk) fun _ _ z => z, rfl, q⟩
end My

/-! ### things by their kinds, and what isinstance says of them -/
namespace My
open PySem PySem.Spec PyProof.Rows L2
inductive Kd | non | bl | int | str | lst | tup | dic
deriving DecidableEq
def Kd.ty : Kd → String
  | .non => "NoneType" | .bl => "bool" | .int => "int" | .str => "str" | .lst => "list" | .tup => "tuple" | .dic => "dict"
inductive Thing (H : Hp) : V → Kd → Prop
  | non : Thing H .non .non
  | bl (b : Bool) : Thing H (.bl b) .bl
  | int (i : Int) : Thing H (.int i) .int
  | str (z : Str) : Thing H (.str z) .str
  | lst {a : Addr} {xs : List V} (h : H a = some (.lst xs)) : Thing H (.ref a) .lst
  | tup {a : Addr} {xs : List V} (h : H a = some (.tup xs)) : Thing H (.ref a) .tup
  | dic {a : Addr} {kvs : List (Key × V)} (h : H a = some (.dK kvs)) : Thing H (.ref a) .dic
theorem Thing.mono {H H' : Hp} {x : V} {k : Kd} (t : Thing H x k) (h : ∀ a o, x = .ref a → H a = some o → H' a = some o) : Thing H' x k := by
  cases t with
  | non => exact .non
  | bl b => exact .bl b
  | int i => exact .int i
  | str z => exact .str z
  | lst e => exact .lst (h _ _ rfl e)
  | tup e => exact .tup (h _ _ rfl e)
  | dic e => exact .dic (h _ _ rfl e)
theorem Thing.same {H H' : Hp} {x : V} {k : Kd} (t : Thing H x k) (s : Same H H') : Thing H' x k := t.mono fun a o _ e => s a o e
theorem Thing.tyx {K : PySem.W.Frag} {H : Hp} {x : V} {k : Kd} (t : Thing H x k) : TyX K H x (.type k.ty) := by
  cases t with
  | non => exact .base .non
  | bl b => exact .base (.bl b)
  | int i => exact .base (.int i)
  | str z => exact .base (.str z)
  | lst e => exact .base (.lst e)
  | tup e => exact .base (.tup e)
  | dic e => exact .base (.dK e)
def Kd.isInt : Kd → Bool | .int => true | .bl => true | _ => false
def Kd.isBool : Kd → Bool | .bl => true | _ => false
def Kd.isStr : Kd → Bool | .str => true | _ => false
def Kd.isList : Kd → Bool | .lst => true | _ => false
def Kd.isTup : Kd → Bool | .tup => true | _ => false
theorem kit_int (k : Kd) : kitB k.ty "int" = some k.isInt := by cases k <;> decide +kernel
theorem kit_bool (k : Kd) : kitB k.ty "bool" = some k.isBool := by cases k <;> decide +kernel
theorem kit_str (k : Kd) : kitB k.ty "str" = some k.isStr := by cases k <;> decide +kernel
theorem kit_list (k : Kd) : kitB k.ty "list" = some k.isList := by cases k <;> decide +kernel
theorem kit_tuple (k : Kd) : kitB k.ty "tuple" = some k.isTup := by cases k <;> decide +kernel
theorem kit_seq {K : PySem.W.Frag} (k : Kd) : PySem.W.kitAny K (.type k.ty) [.type "list", .type "tuple"] = some (k.isList || k.isTup) := by
  refine kitAny_cons (b := k.isList) (kit_ty (kit_list k)) (fun h => ?_) (fun h => by rw [h]; rfl)
  rw [h, Bool.false_or]
  exact kitAny_cons (b := k.isTup) (kit_ty (kit_tuple k)) (fun h => by rw [h]; exact kitAny_nil) (fun h => h)
/-! ### data without things within things, and how repr writes it -/
inductive Dat (H : Hp) : V → PyData → Kd → Prop
  | non : Dat H .non .none .non
  | bl (b : Bool) : Dat H (.bl b) (.bool b) .bl
  | int (i : Int) : Dat H (.int i) (.int i) .int
  | str (z : Str) : Dat H (.str z) (.str z) .str
  | lst {a : Addr} {ns : List Int} (h : H a = some (.lst (ns.map V.int))) : Dat H (.ref a) (.list (ns.map PyData.int)) .lst
  | tup {a : Addr} {ns : List Int} (h : H a = some (.tup (ns.map V.int))) : Dat H (.ref a) (.tuple (ns.map PyData.int)) .tup
  | dic {a : Addr} (h : H a = some (.dK [])) : Dat H (.ref a) (.dict []) .dic
theorem Dat.thing {H : Hp} {x : V} {d : PyData} {k : Kd} (t : Dat H x d k) : Thing H x k := by
  cases t with
  | non => exact .non
  | bl b => exact .bl b
  | int i => exact .int i
  | str z => exact .str z
  | lst e => exact .lst e
  | tup e => exact .tup e
  | dic e => exact .dic e
theorem Dat.mono {H H' : Hp} {x : V} {d : PyData} {k : Kd} (t : Dat H x d k) (h : ∀ a o, x = .ref a → H a = some o → H' a = some o) : Dat H' x d k := by
  cases t with
  | non => exact .non
  | bl b => exact .bl b
  | int i => exact .int i
  | str z => exact .str z
  | lst e => exact .lst (h _ _ rfl e)
  | tup e => exact .tup (h _ _ rfl e)
  | dic e => exact .dic (h _ _ rfl e)
theorem Dat.same {H H' : Hp} {x : V} {d : PyData} {k : Kd} (t : Dat H x d k) (s : Same H H') : Dat H' x d k := t.mono fun a o _ e => s a o e
theorem dpInts {K : PySem.W.Frag} {H : Hp} : ∀ ns : List Int, DpAll K H (ns.map V.int) (ns.map PyData.int)
  | [] => .nil
  | n :: r => .cons (.int n) (dpInts r)
def rReprX (K : PySem.W.Frag) : List V → Hp → VK → Prop := fun xs H Q => ∃ (x : V) (d : PyData) (k : Kd), xs = [x] ∧ Dat H x d k ∧ d.showable = true ∧ d.shown.length ≤ sizeLine ∧ Q (.str d.shown) H
theorem depth_ints : ∀ ns : List Int, PyData.depthAll (ns.map PyData.int) ≤ 1
  | [] => by simp [PyData.depthAll]
  | n :: r => by
    have z := depth_ints r
    simp only [List.map_cons, PyData.depthAll, PyData.depth]
    omega
theorem call_reprX {X : Cx} (hgd : X.A.guards = some []) (hu : X.A.units + 64 < cLine) : CallR X (.builtin "repr") (rReprX X.K) := by
  intro pins s σ H xs us Q I r h
  obtain ⟨x, d, k, rfl, hd, hs, hz, q⟩ := h
  by_cases hdic : ∃ a, x = .ref a ∧ H a = some (.dK []) ∧ d = .dict []
  · obtain ⟨a, rfl, ha, rfl⟩ := hdic
    obtain ⟨u, rfl, r1⟩ := vals1 r
    have e1 : u = Value.ref a := r1
    subst e1
    obtain ⟨_, hsys, vs, hkv, o, es, ep, h1, h2, h3, _, h4, _⟩ := (show ObjOk X.prog X.w H s.heap a (.dK []) from I.hok a _ ha)
    cases hkv
    have hes : es = #[] := by
      obtain ⟨l⟩ := es
      cases l with
      | nil => rfl
      | cons e r => cases h4
    subst hes
    have rd : Reads s.heap (.ref a) (.dict []) (a :: [] ++ []) := .dict (kvs := []) (as := []) (bs := []) h1 h2.1 h3 .nil .nil
    refine repr_of_reads' rd hs (fun _ hm => ?_) hgd (by simp only [PyData.depth, PyData.depthKv]; omega) (fun _ _ e => e) (fun h' u tk hk => ⟨.str _, H, I.kept (t' := tk) hk, ⟨_, rfl⟩, q⟩) hz
    rcases List.mem_cons.mp hm with e | e
    · rw [← e] at hsys
      simp at hsys
    · cases e
  · refine call_reprD hgd hu pins s σ H [x] us Q I r ⟨x, d, rfl, ?_, hs, ?_, hz, q⟩
    · cases hd with
      | non => exact .non
      | bl b => exact .bl b
      | int i => exact .int i
      | str z => exact .str z
      | lst e => exact .lst (SqL.of e) (dpInts _)
      | tup e => exact .tup (SqT.of e) (dpInts _)
      | dic e => exact absurd ⟨_, rfl, e, rfl⟩ hdic
    · cases hd with
      | non => decide
      | bl b => simp only [PyData.depth]; omega
      | int i => simp only [PyData.depth]; omega
      | str z => simp only [PyData.depth]; omega
      | lst e =>
        have := depth_ints ‹List Int›
        simp only [PyData.depth]
        omega
      | tup e =>
        have := depth_ints ‹List Int›
        simp only [PyData.depth]
        omega
      | dic e => exact absurd ⟨_, rfl, e, rfl⟩ hdic
theorem look1 {f : Str} {v : V} : ([(f, v)] : List (Str × V)).lookup f = some v := by simp [List.lookup]
end My

/-! ### from what the top has written to the facts of an error's class -/
namespace My
open PySem PySem.Spec PyProof.Rows L2
/-- the class stands at C, its __init__ is st -/
structure ErrAt (K : PySem.W.Frag) (x f q : Str) (st : Stmt) (C L : Addr) : Prop where
  at_ : PySem.W.nsIn K mainGlobals x = some (some (.ref C))
  oex : OexC K C
  noF : PySem.W.findIn K (.ref C) f = some none
  xf : XfC K C
  hcl : (PySem.W.clsIn K C).isSome = true
  ha : PySem.W.findIn K (.ref C) "__class__" = some (some (.builtin "object.__class__"))
  hm : PySem.W.mroIn K C (.type "object") = some true
  te : PySem.W.exmOne K (.ref C) (.ref C) = some true
  hn : PySem.W.specialIn K (.builtin "object.__class__") "__get__" = some (some (.builtin "getset_descriptor.__get__"))
  ht : PySem.W.takesIn K (.builtin "object.__class__") = some true
  ini : ∃ (fI : Addr) (fd : FuncData), PySem.W.findIn K (.ref C) "__init__" = some (some (.ref fI)) ∧ PySem.W.typeIn K (.ref fI) = some (.type "function") ∧ Fun K "__init__" q st fI fd
  lo : PySem.W.kitOne K (.ref C) (.ref L) = some true
theorem errAt_mk {K : PySem.W.Frag} {x f q : Str} {st : Stmt} {C L fI : Addr} {nm qn : Str} {N : Addr} {bs : List Value} {sn : List Str} {sub : List Value} {ab : Bool} {col : Option Bool} {dd : Option Addr} {m0 m1 m2 m3 m5 : Option Value}
    {oc : Value} {od an : Option Addr} {osl : Array (Option Value)} {kV doc pm cdv ct : Value}
    (a : PySem.W.nsIn K mainGlobals x = some (some (.ref C)))
    (xL : K.lookup C = some (excClassObj nm qn C N bs [.ref L, .type "ValueError", .type "Exception", .type "BaseException", .type "object"] true sn sub ab col dd m0 m1 m2 m3 m5 "ValueError.__new__"))
    (i : PySem.W.findIn K (.ref C) "__init__" = some (some (.ref fI)))
    (l : K.lookup fI = some ⟨oc, od, .func (PySem.W.fnOf "__init__" q (defArgs st) (defBody st) (defScope st) .none kV doc pm an cdv ct), osl⟩)
    (c : PySem.W.codeIn K cdv q = true) (k : PySem.W.keepIn K (.ref fI) = true) (tI : PySem.W.typeIn K (.ref fI) = some (.type "function"))
    (sa : PySem.W.findIn K (.ref C) "__setattr__" = some (some (.builtin "object.__setattr__"))) (ga : PySem.W.findIn K (.ref C) "__getattribute__" = some (some (.builtin "BaseException.__getattribute__")))
    (gg : PySem.W.findIn K (.ref C) "__getattr__" = some none) (noF : PySem.W.findIn K (.ref C) f = some none)
    (kC : PySem.W.keepIn K (.ref C) = true) (eC : PySem.W.subIn K (.ref C) (.type "BaseException") = some true) (tC : PySem.W.typeIn K (.ref C) = some (.type "type")) (hC : PySem.W.hasDictIn K C = true) (iC : PySem.W.isClsIn K C = true) (sC : PySem.W.subIn K (.ref C) (.ref C) = some true)
    (ha : PySem.W.findIn K (.ref C) "__class__" = some (some (.builtin "object.__class__"))) (hm : PySem.W.mroIn K C (.type "object") = some true)
    (hn : PySem.W.specialIn K (.builtin "object.__class__") "__get__" = some (some (.builtin "getset_descriptor.__get__"))) (ht : PySem.W.takesIn K (.builtin "object.__class__") = some true)
    (lo : PySem.W.kitOne K (.ref C) (.ref L) = some true) : ErrAt K x f q st C L where
  at_ := a
  oex := ⟨⟨nm, qn, N, bs, _, sn, sub, ab, col, dd, m0, m1, m2, m3, m5, xL, by rfl⟩, sa, eC, tC, kC⟩
  noF := noF
  xf := ⟨ga, gg, eC, hC⟩
  hcl := iC
  ha := ha
  hm := hm
  te := PySem.W.exm_ref eC hC tC sC
  hn := hn
  ht := ht
  ini := ⟨fI, _, i, tI, fun_mk l c k⟩
  lo := lo
theorem ErrAt.mk' {P : Program} {w : World} {K : PySem.W.Frag} {mg : Str → Option Value} {base h : Heap} {x f q : Str} {st : Stmt} {C L : Addr} (T : ErrAt K x f q st C L) (X : K.In h) (G : h.Ns mainGlobals mg)
    (hb : ∀ (kV doc pm : Value) (an : Option Addr) (cdv ct : Value) (us : List Value), us.length = (["self", f] : List Str).length → bindArgs (PySem.W.fnOf "__init__" q (defArgs st) (defBody st) (defScope st) .none kV doc pm an cdv ct) ⟨us, []⟩ = pure ((["self", f] : List Str).zip us))
    (hF : ∀ fI fd, Fun K "__init__" q st fI fd → FnOk P w K mg base CX0 1 fI fd ["self", f] (spInit1 C f)) : ErrC P w K mg base x f C := by
  obtain ⟨fI, fd, i, tI, F⟩ := T.ini
  exact { gC := PySem.W.mg_of X G T.at_, oex := T.oex, noF := T.noF, xf := T.xf, hcl := T.hcl, ha := T.ha, hm := T.hm, te := T.te, hn := T.hn, ht := T.ht, ini := ⟨fI, fd, i, tI, F.binds hb, hF fI fd F⟩ }
theorem baseC_mk {K : PySem.W.Frag} {h : Heap} {mg : Str → Option Value} {L : Addr} (X : K.In h) (G : h.Ns mainGlobals mg) (a : PySem.W.nsIn K mainGlobals "LoreError" = some (some (.ref L))) (rd : PySem.W.readsIn K L (.type "type") = true)
    (ga : PySem.W.specialIn K (.ref L) "__getattribute__" = some (some (.builtin "type.__getattribute__"))) (vI : PySem.W.findCls K (.ref L) (.type "type") "__init__" = some (.val (.builtin "ValueError.__init__"))) : BaseC K mg L := ⟨PySem.W.mg_of X G a, rd, ga, vI⟩
end My

/-! ### texts, sign by sign -/
namespace My
open PySem PySem.Spec PyProof.Rows L2
theorem Same.wr {H H' : Hp} {D : Addr} {o : HO} (s : Same H H') (n : H D = none) : Same H (upd H' D o) := fun b u e => by
  rw [upd_ne (ne_of_none e n)]
  exact s b u e
/-- a comprehension of truths over the signs of a text -/
theorem lc_signs {σ : L2.St} {H1 : Hp} {D : Addr} {z : Str} {vs : List Nat} {j : Nat} {te : TE} {f : Nat → Bool} {Qd : Hp → Prop} (hD : H1 D = none) (hw : ∀ v, wipe ((wipe σ vs).set j v) vs = wipe σ vs) (hl : z.length ≤ sizeLine)
    (hte : ∀ (c : Nat) (H : Hp) (Q : VK), Q (.bl (f c)) H → te ((wipe σ vs).set j (some (.str ⟨#[c]⟩))) H Q) (hd : ∀ H', Same H1 H' → H' D = some (.lst ((z.cps.toList.map f).map V.bl)) → Qd H') :
    ∃ W : Nat → Nat → Hp → Prop, (∃ m, W 0 m (upd H1 D (.lst []))) ∧ ∀ i m H, W i m H →
      ((Its z).stop i H ∧ Qd H) ∨ ((Its z).go i H ∧ ∃ Nx : Hp → Prop, (∀ H', Nx H' → ∃ m', m' < m ∧ W (i + 1) m' H') ∧ ∀ x H', (Its z).yld i H x H' → gName j x (wipe σ vs) H' fun σ2 H2 => wipe σ2 vs = wipe σ vs ∧ tYes σ2 H2 fun b H3 =>
        if b = true then te σ2 H3 fun y H4 => ∃ acc, H4 D = some (.lst acc) ∧ acc.length < sizeLine ∧ Nx (upd H4 D (.lst (acc ++ [y]))) else Nx H3) := by
  refine lc_it walk_str (fun i H' => Same H1 H' ∧ H' D = some (.lst (((z.cps.toList.take i).map f).map V.bl))) ⟨Same.wr (Same.refl _) hD, upd_same⟩ (fun _ _ _ _ => trivial) ?_ ?_
  · intro i x H H' hi hP hY
    obtain ⟨rfl, c, hc, rfl⟩ := hY
    obtain ⟨s, h⟩ := hP
    refine ⟨hw _, ?_⟩
    refine hte c _ _ ⟨_, h, ?_, Same.wr s hD, ?_⟩
    · have hl' : z.cps.size ≤ sizeLine := hl
      simp only [List.length_map, List.length_take, Array.length_toList]
      omega
    · have hc' : z.cps.toList[i]? = some c := by simpa using hc
      rw [upd_same, List.take_add_one, hc', List.map_append, List.map_append]
      rfl
  · intro H hP
    obtain ⟨s, h⟩ := hP
    rw [List.take_of_length_le (by simp)] at h
    exact hd H s h
/-- a comprehension of those signs of a text that a test holds -/
theorem lc_kept {σ : L2.St} {H1 : Hp} {D : Addr} {z : Str} {vs : List Nat} {j : Nat} {tt : TT} {te : TE} {f : Nat → Bool} {Qd : Hp → Prop} (hD : H1 D = none) (hw : ∀ v, wipe ((wipe σ vs).set j v) vs = wipe σ vs) (hl : z.length ≤ sizeLine)
    (htt : ∀ (c : Nat) (H : Hp) (Q : Bool → Hp → Prop), Q (f c) H → tt ((wipe σ vs).set j (some (.str ⟨#[c]⟩))) H Q)
    (hte : ∀ (c : Nat) (H : Hp) (Q : VK), Q (.str ⟨#[c]⟩) H → te ((wipe σ vs).set j (some (.str ⟨#[c]⟩))) H Q) (hd : ∀ H', Same H1 H' → H' D = some (.lst ((z.cps.toList.filter f).map fun c => V.str ⟨#[c]⟩)) → Qd H') :
    ∃ W : Nat → Nat → Hp → Prop, (∃ m, W 0 m (upd H1 D (.lst []))) ∧ ∀ i m H, W i m H →
      ((Its z).stop i H ∧ Qd H) ∨ ((Its z).go i H ∧ ∃ Nx : Hp → Prop, (∀ H', Nx H' → ∃ m', m' < m ∧ W (i + 1) m' H') ∧ ∀ x H', (Its z).yld i H x H' → gName j x (wipe σ vs) H' fun σ2 H2 => wipe σ2 vs = wipe σ vs ∧ tt σ2 H2 fun b H3 =>
        if b = true then te σ2 H3 fun y H4 => ∃ acc, H4 D = some (.lst acc) ∧ acc.length < sizeLine ∧ Nx (upd H4 D (.lst (acc ++ [y]))) else Nx H3) := by
  refine lc_it walk_str (fun i H' => Same H1 H' ∧ H' D = some (.lst (((z.cps.toList.take i).filter f).map fun c => V.str ⟨#[c]⟩))) ⟨Same.wr (Same.refl _) hD, upd_same⟩ (fun _ _ _ _ => trivial) ?_ ?_
  · intro i x H H' hi hP hY
    obtain ⟨rfl, c, hc, rfl⟩ := hY
    obtain ⟨s, h⟩ := hP
    have hc' : z.cps.toList[i]? = some c := by simpa using hc
    refine ⟨hw _, htt c _ _ ?_⟩
    cases hf : f c with
    | true =>
      refine hte c _ _ ⟨_, h, ?_, Same.wr s hD, ?_⟩
      · have hl' : z.cps.size ≤ sizeLine := hl
        have hle := List.length_filter_le f (z.cps.toList.take i)
        simp only [List.length_map, List.length_take, Array.length_toList] at hle ⊢
        omega
      · rw [upd_same, List.take_add_one, hc', List.filter_append, List.map_append]
        simp [hf]
    | false =>
      refine ⟨s, ?_⟩
      rw [h, List.take_add_one, hc', List.filter_append]
      simp [hf]
  · intro H hP
    obtain ⟨s, h⟩ := hP
    rw [List.take_of_length_le (by simp)] at h
    exact hd H s h
/-! ### names, values -/
def isL (c : Nat) : Bool := decide (97 ≤ c ∧ c ≤ 122)
def isF (c : Nat) : Bool := decide (48 ≤ c ∧ c ≤ 57)
theorem lets_eq : (PySem.Str.ofString "abcdefghijklmnopqrstuvwxyz").cps.toList = List.range' 97 26 := by decide +kernel
theorem figs_eq : (PySem.Str.ofString "0123456789").cps.toList = List.range' 48 10 := by decide +kernel
theorem in_lets (c : Nat) : decide (c ∈ (PySem.Str.ofString "abcdefghijklmnopqrstuvwxyz").cps.toList) = isL c := by
  unfold isL
  rw [decide_eq_decide, lets_eq, List.mem_range'_1]
  omega
theorem in_figs (c : Nat) : decide (c ∈ (PySem.Str.ofString "0123456789").cps.toList) = isF c := by
  unfold isF
  rw [decide_eq_decide, figs_eq, List.mem_range'_1]
  omega
theorem in_both (c : Nat) : decide (c ∈ (PySem.Str.ofString "abcdefghijklmnopqrstuvwxyz" ++ PySem.Str.ofString "0123456789").cps.toList) = (isL c || isF c) := by
  have e : (PySem.Str.ofString "abcdefghijklmnopqrstuvwxyz" ++ PySem.Str.ofString "0123456789").cps.toList = (PySem.Str.ofString "abcdefghijklmnopqrstuvwxyz").cps.toList ++ (PySem.Str.ofString "0123456789").cps.toList := by decide +kernel
  rw [e, ← in_lets, ← in_figs, ← Bool.decide_or]
  rw [decide_eq_decide]
  exact List.mem_append
def ownW : List Str := ["all", "key", "days", "turns", "last", "ends", "now", "both", "either", "but", "let", "bar", "frame", "find", "known", "ask"]
abbrev ownV : List V := ownW.map V.str
def nameB (z : Str) : Bool := decide (1 ≤ z.length ∧ z.length ≤ 8) && (!inV (.str z) ownV && z.cps.toList.all isL)
def valueB (z : Str) : Bool := decide (1 ≤ z.length ∧ z.length ≤ 12) && z.cps.toList.all fun c => isL c || isF c
def nameX : V → Bool | .str z => nameB z | _ => false
def valueX : V → Bool | .str z => valueB z | _ => false
theorem own_flat : ownV.all flatV = true := by decide +kernel
/-- what is promised of a function that tells a truth of a thing -/
def spTell (f : V → Bool) : Sp := fun vs H Q _ => ∃ (x : V) (k : Kd), vs = [x] ∧ Thing H x k ∧ (∀ z, x = .str z → z.length ≤ sizeLine) ∧ ∀ H', Same H H' → Q (.bl (f x)) H'
end My

/-! ### the law's call, where its promise is of that kind -/
namespace My
open PySem PySem.Spec PyProof.Rows L2
theorem law_callG {P : Program} {w : World} {K : PySem.W.Frag} {mg mb : Str → Option Value} {CX : CXT} {k : Nat} {fa a : Addr} {fd : FuncData} {x : Str} {sp : Sp} {s₁ : Shared} {vs : List Value} {ns : List Int} (KX : K.In s₁.heap) (hns : s₁.heap.Ns mainGlobals mg)
    (hb : s₁.heap.Ns builtinsNs mb) (hbb : ∀ x : Str, x ≠ "__name__" → mb x = bootBuiltins x) (hlim : s₁.heap.NoLimit) (hg : s₁.gens = #[]) (ha : s₁.heap.get? a = some { cls := .type "list", data := .seq vs.toArray })
    (hi : IntsAre vs ns) (hl : ns.length ≤ sizeLine) (hr : Room k callerA) (F : ∀ base : Heap, K.In base → base.Ns mainGlobals mg → FnG P w K mg base CX k fa fd [x] sp) (hbind : ∀ (s : Shared) (u : Value), BindsTo s fd ⟨[u], []⟩ [(x, u)])
    (hsp : ∀ H : Hp, Only H → SqL K H a (ns.map V.int) → sp [.ref a] H (fun v _ => v = .bl true) fun _ _ _ => False) (hCX : ∀ H e s', CX [] H s₁ (fun _ _ _ => False) e s' → False) :
    codeAny (model P w) callerA (.call (.ref fa) ⟨[.ref a], []⟩)
      (fun r s' => r = .ok (.ret (.bool true)) ∧ OldK s₁.heap s'.heap ∧ s'.os = s₁.os ∧ AllBare s'.gens) s₁ := by
  have rv := vals_ints hi
  have lenV := hi.length
  have core : ∀ H : Hp, Only H → SqL K H a (ns.map V.int) → HOk P w H s₁.heap → (∀ b, H b ≠ none → b = a) → (H a ≠ none → K.lookup a = none) →
      codeAny (model P w) callerA (.call (.ref fa) ⟨[.ref a], []⟩)
        (fun r s' => r = .ok (.ret (.bool true)) ∧ OldK s₁.heap s'.heap ∧ s'.os = s₁.os ∧ AllBare s'.gens) s₁ := by
    intro H hO hS hok hA hK
    have isA : ∀ {b : Addr} {u : HO}, H b = some u → b = a := by
      intro b u q
      apply hA b
      rw [q]
      exact fun z => nomatch z
    have dictFree : ∀ {b : Addr} {o : Obj} {es : Array DictEntry} {ep : Nat}, s₁.heap.get? b = some o → o.data = .dict es ep → H b = none := by
      intro b o es ep e d
      cases q : H b with
      | none => rfl
      | some u =>
        have e' := isA q
        subst e'
        rw [ha] at e
        cases e
        have d' : Data.seq vs.toArray _ = Data.dict es ep := d
        cases d'
    have ns2 : ∀ {b : Addr} {m : Str → Option Value}, s₁.heap.Ns b m → (hidT s₁.heap H).Ns b m := by
      intro b m h
      obtain ⟨o, es, ep, e, d, r⟩ := h
      exact ⟨o, es, ep, hidT_get e (dictFree e d), d, r⟩
    have kin2 : K.In (hidT s₁.heap H) := by
      intro b o e
      apply hidT_get (KX b o e)
      cases q : H b with
      | none => rfl
      | some u =>
        have e' := isA q
        subst e'
        have z := hK (by rw [q]; exact fun z => nomatch z)
        rw [z] at e
        cases e
    have nol2 : (hidT s₁.heap H).NoLimit := by
      obtain ⟨mc, h1, h2⟩ := hlim
      exact ⟨mc, ns2 h1, h2⟩
    have e0 : Env0 P w K mg (hidT s₁.heap H) callerA [] s₁ H :=
      { frames := rfl, mod := ⟨kin2, ns2 hns, ⟨mb, ns2 hb, hbb⟩, nol2⟩, bs := fun b o e => of_hidT e, bsz := Nat.le_of_eq (hidT_size _ _), funs := trivial, frf := fun b hb => (by cases (show b ∈ ([] : List Addr) from hb)), hok := hok, bare := .of_eq hg }
    have run := (F _ kin2 (ns2 hns)).run callerA [] s₁ H ⟨[.ref a], []⟩ [.ref a] [.ref a] _ _ rfl hr e0 (hbind s₁ (.ref a)) (.cons rfl .nil) (hsp H hO hS)
    refine codeAny_mono run ?_
    intro r s' h
    rcases r with e | fl
    · exact (hCX H e s' h).elim
    · cases fl with
      | next => cases h
      | brk => cases h
      | cont => cases h
      | ret u =>
        obtain ⟨v, H', os, bare, un, hok', r', q⟩ := h
        have q' : v = .bl true := q
        subst q'
        have ru : u = Value.bool true := r'
        subst ru
        refine ⟨rfl, OldK.of_keep ?_, os, bare⟩
        intro b o e
        cases q : H b with
        | none => exact un.keep b o e q (fun z => by cases (show b ∈ ([] : List Addr) from z)) (by simp)
        | some u =>
          rcases hO b with z | ⟨ob, xs, z⟩
          · rw [q] at z
            cases z
          · obtain ⟨e1, _⟩ := hok b _ z
            obtain ⟨e2, _⟩ := hok' b _ (un.frzs b ob _ z)
            rw [e] at e1
            cases e1
            exact e2
  cases hk : K.lookup a with
  | some o =>
    have e := KX a o hk
    rw [ha] at e
    cases e
    have hsq : SqL K (fun _ => none) a (ns.map V.int) := .inr ⟨_, vs.toArray, _, hk, rfl, rfl, rfl, by rw [List.size_toArray, lenV]; exact hl, by simpa using rv⟩
    exact core (fun _ => none) (fun _ => .inl rfl) hsq (fun b u z => nomatch z) (fun b z => absurd rfl z) fun z => absurd rfl z
  | none =>
    let H0 : Hp := upd (fun _ => none) a (.frz { cls := .type "list", data := .seq vs.toArray } (.lst (ns.map V.int)))
    have at0 : H0 a = some (.frz { cls := .type "list", data := .seq vs.toArray } (.lst (ns.map V.int))) := upd_same
    have off0 : ∀ b, b ≠ a → H0 b = none := fun b hb => upd_ne hb
    refine core H0 ?_ (.inl (.inr ⟨_, at0⟩)) ?_ ?_ (fun _ => hk)
    · intro b
      by_cases hb : b = a
      · subst hb
        exact .inr ⟨_, _, at0⟩
      · exact .inl (off0 b hb)
    · intro b u z
      by_cases hb : b = a
      · subst hb
        rw [at0] at z
        cases z
        exact ⟨ha, by rw [List.length_map]; exact hl, vs, _, rv, ha⟩
      · rw [off0 b hb] at z
        cases z
    · intro b z
      by_cases hb : b = a
      · exact hb
      · exact absurd (off0 b hb) z
theorem walk_ofG {l : PySem.W.OpenLaw} {n k : Nat} {q : Program} {loose : List Str} {XP : (Str → Option Value) → Heap → Prop} {YP : World → Heap → Prop} {d : DefRec} {K : Params → PySem.W.Frag} {CX : World → CXT} {sp : World → Sp} {x : Str}
    (hn : l.most = some n) (hn2 : n ≤ sizeLine) (hdf : d.params.defaults = []) (hr : Room k callerA) (hY : ∀ (w : World) (h : Heap), YP w h → (K w.params).In h)
    (F : ∀ (w : World) (mg : Str → Option Value) (fa : Addr) (h : Heap), (K w.params).In h → h.Ns mainGlobals mg → mg d.name = some (.ref fa) →
      ∃ fd : FuncData, (∀ (s : Shared) (u : Value), BindsTo s fd ⟨[u], []⟩ [(x, u)]) ∧ ∀ base : Heap, (K w.params).In base → base.Ns mainGlobals mg → FnG l.prog w (K w.params) mg base (CX w) k fa fd [x] (sp w))
    (hsp : ∀ (w : World) (H : Hp) (a : Addr) (ns : List Int), ns.length ≤ n → (∀ z ∈ ns, Builtin.Int.intBits z ≤ 1048576) → Only H → SqL (K w.params) H a (ns.map V.int) → sp w [.ref a] H (fun v _ => v = .bl true) fun _ _ _ => False)
    (hCX : ∀ (w : World) (H : Hp) (s : Shared) (e : Value) (s' : Shared), CX w [] H s (fun _ _ _ => False) e s' → False) : PySem.W.WalkO q loose XP YP l.row.toRowW d [] (fun f vs => PySem.call f vs) := by
  apply Att.attach_callB hn hdf
  intro w s₀ s₁ mg mb fa o pm cd doc a vs ns G Y ho hd hcd hmg hobj hints hlen hbits hg
  have KX := hY w _ Y
  obtain ⟨fd, hb, hF⟩ := F w mg fa _ KX G.T.g hmg
  exact law_callG KX G.T.g G.T.b G.T.builtins G.T.nolimit hg hobj hints (Nat.le_trans hlen hn2) hr hF hb (fun H hO hS => hsp w H a ns hlen hbits hO hS) fun H e s' => hCX w H s₁ e s'
end My

/-! ### data that repr and == take: how deep, how much -/
namespace My
open PySem PySem.Spec PyProof.Rows L2
structure Nice (d : PyData) (dep m : Nat) : Prop where
  sh : d.showable = true
  lay : d.canLay0 = true
  dp : d.depth ≤ dep
  sv : d.leavesShort 13 = true
  bk : d.bulk ≤ m
structure NiceAll (ds : List PyData) (dep m : Nat) : Prop where
  sh : PyData.showableAll ds = true
  lay : PyData.canLayAll0 ds = true
  dp : PyData.depthAll ds ≤ dep
  sv : PyData.leavesShortAll 13 ds = true
  bk : PyData.bulkAll ds ≤ m
theorem shown_int_le {i : Int} (h : i.natAbs < 10 ^ 12) : (PyData.shown (.int i)).length ≤ 13 := by
  have e : (Str.ofString (toString i)).length = (toString i).length := PySem.ofString_length _
  have z := int_text_length_le10 (a := i) (k := 12) (by decide) h
  simp only [PyData.shown]
  omega
theorem nice_int {i : Int} (h : i.natAbs < 10 ^ 12) : Nice (.int i) 0 0 := by
  refine ⟨?_, rfl, Nat.le_refl _, ?_, Nat.le_refl _⟩
  · simp only [PyData.showable, decide_eq_true_eq]
    have : i.natAbs.log2 ≤ (10 ^ 12).log2 := by
      rcases Nat.eq_zero_or_pos i.natAbs with z | z
      · rw [z]; decide
      · exact (Nat.le_log2 (by decide)).mpr (Nat.le_trans ((Nat.le_log2 (by omega)).mp (Nat.le_refl _)) (by omega))
    exact Nat.lt_of_le_of_lt this (by decide)
  · simp only [PyData.leavesShort, decide_eq_true_eq]
    exact shown_int_le h
theorem nice_non : Nice .none 0 0 := ⟨rfl, rfl, Nat.le_refl _, rfl, Nat.le_refl _⟩
theorem nice_bl (b : Bool) : Nice (.bool b) 0 0 := ⟨rfl, rfl, Nat.le_refl _, rfl, Nat.le_refl _⟩
theorem nice_nil : NiceAll [] 0 0 := ⟨rfl, rfl, Nat.le_refl _, rfl, Nat.le_refl _⟩
theorem Nice.cons {d : PyData} {ds : List PyData} {e1 e2 m1 m2 : Nat} (h : Nice d e1 m1) (t : NiceAll ds e2 m2) : NiceAll (d :: ds) (max e1 e2) (m1 + 1 + m2) := by
  refine ⟨?_, ?_, ?_, ?_, ?_⟩
  · simp only [PyData.showableAll, h.sh, t.sh]; rfl
  · simp only [PyData.canLayAll0, h.lay, t.lay]; rfl
  · simp only [PyData.depthAll]; have := h.dp; have := t.dp; omega
  · simp only [PyData.leavesShortAll, h.sv, t.sv]; rfl
  · simp only [PyData.bulkAll]; have := h.bk; have := t.bk; omega
theorem NiceAll.list {ds : List PyData} {e m : Nat} (t : NiceAll ds e m) : Nice (.list ds) (e + 1) m := by
  refine ⟨?_, ?_, ?_, ?_, ?_⟩
  · simpa only [PyData.showable] using t.sh
  · simpa only [PyData.canLay0] using t.lay
  · simp only [PyData.depth]; have := t.dp; omega
  · simpa only [PyData.leavesShort] using t.sv
  · simpa only [PyData.bulk] using t.bk
theorem NiceAll.tup {ds : List PyData} {e m : Nat} (t : NiceAll ds e m) : Nice (.tuple ds) (e + 1) m := by
  refine ⟨?_, ?_, ?_, ?_, ?_⟩
  · simpa only [PyData.showable] using t.sh
  · simpa only [PyData.canLay0] using t.lay
  · simp only [PyData.depth]; have := t.dp; omega
  · simpa only [PyData.leavesShort] using t.sv
  · simpa only [PyData.bulk] using t.bk
theorem Nice.mono {d : PyData} {e m e' m' : Nat} (h : Nice d e m) (he : e ≤ e') (hm : m ≤ m') : Nice d e' m' := ⟨h.sh, h.lay, Nat.le_trans h.dp he, h.sv, Nat.le_trans h.bk hm⟩
theorem NiceAll.mono {d : List PyData} {e m e' m' : Nat} (h : NiceAll d e m) (he : e ≤ e') (hm : m ≤ m') : NiceAll d e' m' := ⟨h.sh, h.lay, Nat.le_trans h.dp he, h.sv, Nat.le_trans h.bk hm⟩
theorem niceAll_of {ds : List PyData} {e m : Nat} (h : ∀ d ∈ ds, Nice d e m) : NiceAll ds e (ds.length * (m + 1)) := by
  induction ds with
  | nil => exact nice_nil.mono (Nat.zero_le _) (Nat.zero_le _)
  | cons d ds ih =>
    refine ((h d List.mem_cons_self).cons (ih fun x m => h x (List.mem_cons_of_mem _ m))).mono (by omega) ?_
    rw [List.length_cons, Nat.succ_mul]
    omega
theorem Nice.shaped {d : PyData} {e m : Nat} (h : Nice d e m) (he : e ≤ 64) : SeqAt.shaped d = true := by
  simp only [SeqAt.shaped, h.lay, Bool.true_and, decide_eq_true_eq]
  exact Nat.le_trans h.dp he
theorem Nice.fits {d : PyData} {e m : Nat} (h : Nice d e m) (hm : m ≤ 2 ^ 20) : d.shown.length ≤ sizeLine := PyData.shown_fits_bulk (by decide) (by decide) h.sv (Nat.le_trans h.bk hm)
end My

/-! ### rows of stretches, by the numbers they have -/
namespace My
abbrev Prs := List (Int × Int)
def MemR (n : Int) (rs : Prs) : Prop := ∃ r ∈ rs, r.1 ≤ n ∧ n < r.2
def Okr (r : Int × Int) : Prop := 0 ≤ r.1 ∧ r.1 < r.2 ∧ r.2 ≤ 400
def Tidy (rs : Prs) : Prop := rs.Pairwise (fun r s => r.2 < s.1) ∧ ∀ r ∈ rs, Okr r
theorem memR_nil {n : Int} : ¬ MemR n [] := fun ⟨_, h, _⟩ => by cases h
theorem memR_cons {n : Int} {r : Int × Int} {rs : Prs} : MemR n (r :: rs) ↔ (r.1 ≤ n ∧ n < r.2) ∨ MemR n rs := by
  constructor
  · rintro ⟨s, h, q⟩
    rcases List.mem_cons.mp h with e | e
    · subst e; exact .inl q
    · exact .inr ⟨s, e, q⟩
  · rintro (q | ⟨s, h, q⟩)
    · exact ⟨r, List.mem_cons_self, q⟩
    · exact ⟨s, List.mem_cons_of_mem _ h, q⟩
theorem memR_append {n : Int} {rs ss : Prs} : MemR n (rs ++ ss) ↔ MemR n rs ∨ MemR n ss := by
  constructor
  · rintro ⟨s, h, q⟩
    rcases List.mem_append.mp h with e | e
    · exact .inl ⟨s, e, q⟩
    · exact .inr ⟨s, e, q⟩
  · rintro (⟨s, h, q⟩ | ⟨s, h, q⟩)
    · exact ⟨s, List.mem_append.mpr (.inl h), q⟩
    · exact ⟨s, List.mem_append.mpr (.inr h), q⟩
theorem memR_one {n b e : Int} : MemR n [(b, e)] ↔ b ≤ n ∧ n < e := by
  rw [memR_cons]
  exact ⟨fun h => h.elim id fun h => absurd h memR_nil, .inl⟩
theorem memR_perm {n : Int} {rs ss : Prs} (h : rs.Perm ss) : MemR n rs ↔ MemR n ss :=
  ⟨fun ⟨r, m, q⟩ => ⟨r, h.mem_iff.mp m, q⟩, fun ⟨r, m, q⟩ => ⟨r, h.mem_iff.mpr m, q⟩⟩
theorem tidy_nil : Tidy [] := ⟨.nil, fun _ h => by cases h⟩
theorem Tidy.tail {r : Int × Int} {rs : Prs} (h : Tidy (r :: rs)) : Tidy rs := ⟨(List.pairwise_cons.mp h.1).2, fun s m => h.2 s (List.mem_cons_of_mem _ m)⟩
theorem Tidy.drop {rs : Prs} (h : Tidy rs) (k : Nat) : Tidy (rs.drop k) := ⟨h.1.drop, fun s m => h.2 s (List.mem_of_mem_drop m)⟩
theorem Tidy.head {r : Int × Int} {rs : Prs} (h : Tidy (r :: rs)) : Okr r := h.2 r List.mem_cons_self
theorem Tidy.behind {r : Int × Int} {rs : Prs} {n : Int} (h : Tidy (r :: rs)) (m : MemR n rs) : r.2 < n := by
  obtain ⟨s, hs, q⟩ := m
  have := (List.pairwise_cons.mp h.1).1 s hs
  omega
theorem Tidy.from {r : Int × Int} {rs : Prs} {n : Int} (h : Tidy (r :: rs)) (m : MemR n (r :: rs)) : r.1 ≤ n := by
  rcases memR_cons.mp m with e | e
  · exact e.1
  · have := h.behind e
    have := h.head
    unfold Okr at this
    omega
theorem tidy_snoc {rs : Prs} {b e : Int} (h : Tidy rs) (hl : ∀ r ∈ rs, r.2 < b) (h0 : 0 ≤ b) (h1 : b < e) (h2 : e ≤ 400) : Tidy (rs ++ [(b, e)]) := by
  constructor
  · refine List.pairwise_append.mpr ⟨h.1, List.pairwise_singleton _ _, fun r m s q => ?_⟩
    rcases List.mem_cons.mp q with e | e
    · subst e; exact hl r m
    · cases e
  · intro r m
    rcases List.mem_append.mp m with q | q
    · exact h.2 r q
    · rcases List.mem_cons.mp q with e | e
      · subst e; exact ⟨h0, h1, h2⟩
      · cases e
theorem tidy_init {rs : Prs} {r : Int × Int} (h : Tidy (rs ++ [r])) : Tidy rs ∧ (∀ s ∈ rs, s.2 < r.1) ∧ Okr r :=
  ⟨⟨(List.pairwise_append.mp h.1).1, fun s m => h.2 s (List.mem_append.mpr (.inl m))⟩, fun s m => (List.pairwise_append.mp h.1).2.2 s m r List.mem_cons_self, h.2 r (List.mem_append.mpr (.inr List.mem_cons_self))⟩
theorem tidy_uniq : ∀ {rs ss : Prs}, Tidy rs → Tidy ss → (∀ n, MemR n rs ↔ MemR n ss) → rs = ss
  | [], [], _, _, _ => rfl
  | [], s :: ss, _, h, m => absurd ((m s.1).mpr ⟨s, List.mem_cons_self, Int.le_refl _, h.head.2.1⟩) memR_nil
  | s :: ss, [], h, _, m => absurd ((m s.1).mp ⟨s, List.mem_cons_self, Int.le_refl _, h.head.2.1⟩) memR_nil
  | r :: rs, s :: ss, h, g, m => by
    have hr := h.head
    have hs := g.head
    unfold Okr at hr hs
    have a1 : s.1 ≤ r.1 := g.from ((m r.1).mp ⟨r, List.mem_cons_self, Int.le_refl _, hr.2.1⟩)
    have a2 : r.1 ≤ s.1 := h.from ((m s.1).mpr ⟨s, List.mem_cons_self, Int.le_refl _, hs.2.1⟩)
    have b1 : ¬ r.2 < s.2 := fun z => by
      have := (m r.2).mpr (memR_cons.mpr (.inl ⟨by omega, z⟩))
      rcases memR_cons.mp this with e | e
      · omega
      · have := h.behind e
        omega
    have b2 : ¬ s.2 < r.2 := fun z => by
      have := (m s.2).mp (memR_cons.mpr (.inl ⟨by omega, z⟩))
      rcases memR_cons.mp this with e | e
      · omega
      · have := g.behind e
        omega
    have e : r = s := by
      obtain ⟨r1, r2⟩ := r
      obtain ⟨s1, s2⟩ := s
      have e1 : r1 = s1 := by simp only at a1 a2; omega
      have e2 : r2 = s2 := by simp only at b1 b2; omega
      rw [e1, e2]
    subst e
    rw [tidy_uniq h.tail g.tail fun n => ⟨fun q => ?_, fun q => ?_⟩]
    · have k := h.behind q
      rcases memR_cons.mp ((m n).mp (memR_cons.mpr (.inr q))) with e | e
      · omega
      · exact e
    · have k := g.behind q
      rcases memR_cons.mp ((m n).mpr (memR_cons.mpr (.inr q))) with e | e
      · omega
      · exact e
theorem tidy_len : ∀ {rs : Prs} {e : Int}, Tidy rs → (∀ r ∈ rs, e < r.1) → e ≤ 400 → e + 2 * rs.length ≤ 400
  | [], e, _, _, h => by simpa using h
  | r :: rs, e, t, h, _ => by
    have hr := t.head
    unfold Okr at hr
    have z := tidy_len (e := r.2) t.tail (fun s m => (List.pairwise_cons.mp t.1).1 s m) hr.2.2
    have := h r List.mem_cons_self
    simp only [List.length_cons]
    omega
theorem Tidy.len {rs : Prs} (t : Tidy rs) : rs.length ≤ 200 := by
  have := tidy_len (e := -1) t (fun r m => by have := (t.2 r m).1; omega) (by decide)
  omega
theorem Tidy.bnd {rs : Prs} {n : Int} (t : Tidy rs) (m : MemR n rs) : 0 ≤ n ∧ n < 400 := by
  obtain ⟨r, h, q⟩ := m
  have := t.2 r h
  unfold Okr at this
  omega
/-- one more stretch that begins no earlier than the last one -/
theorem tidy_add {rs : Prs} {r : Int × Int} {b e : Int} (h : Tidy (rs ++ [r])) (hb : r.1 ≤ b) (he : b ≤ r.2) (h1 : b < e) (h2 : e ≤ 400) :
    Tidy (rs ++ [(r.1, if e > r.2 then e else r.2)]) ∧ ∀ n, MemR n (rs ++ [(r.1, if e > r.2 then e else r.2)]) ↔ MemR n (rs ++ [r]) ∨ (b ≤ n ∧ n < e) := by
  obtain ⟨t, l, o⟩ := tidy_init h
  unfold Okr at o
  obtain ⟨r1, r2⟩ := r
  simp only at hb he o l ⊢
  constructor
  · refine tidy_snoc t l o.1 ?_ ?_ <;> split <;> omega
  · intro n
    rw [memR_append, memR_append, memR_one, memR_one]
    by_cases z : MemR n rs
    · simp [z]
    · simp only [z, false_or]
      split <;> omega
end My

/-! ### rows of stretches on the heap -/
namespace My
open PySem PySem.Spec PyProof.Rows L2
section
variable {X : Cx} {a b c d : Expr} {ta tb tc td : TE} {pos : Pos}
def tChain3 (r r' r'' : R2) (ta tb tc td : TE) : TE := fun σ H Q => ta σ H fun x H1 => tb σ H1 fun y H2 => r x y H2 fun z H3 => ∃ k, z = .bl k ∧
  (if k = true then tc σ H3 fun w' H4 => r' y w' H4 fun z2 H5 => ∃ k2, z2 = .bl k2 ∧ (if k2 = true then td σ H5 fun u H6 => r'' w' u H6 Q else Q (.bl false) H5) else Q (.bl false) H3)
theorem pe_chain3 {op op' op'' : CmpOp} {r r' r'' : R2} (ho : OpR X (compareOp op) r) (ho' : OpR X (compareOp op') r') (ho'' : OpR X (compareOp op'') r'') (ha : PE X a ta) (hb : PE X b tb) (hc : PE X c tc) (hd : PE X d td)
    (hm : lastMarks [op, op', op''] [b, c, d] = false := by with_unfolding_all rfl) : PE X (.Compare a [op, op', op''] [b, c, d] pos) (tChain3 r r' r'' ta tb tc td) := by
  refine ⟨fun pins s σ H Q I h => ?_⟩
  refine Compare_chain (thn (ha.run pins s σ H _ I h) fun v s1 ⟨x, H1, I1, r1, q1⟩ => chain_link (thn (hb.run pins s1 σ H1 _ I1 q1) fun u s2 ⟨y, H2, I2, r2, q2⟩ =>
    thn (ho pins s2 σ H2 x y v u _ I2 r1 r2 q2) fun d s3 ⟨z, H3, I3, r3, k, e, q3⟩ => ?_)) hm
  subst e
  cases r3
  refine wpAny_truthy_bool ?_
  cases k with
  | false => exact ite_ff ⟨.bl false, H3, I3, rfl, q3⟩
  | true =>
    refine ite_tt (chain_link (thn (hc.run pins s3 σ H3 _ I3 q3) fun w' s4 ⟨z', H4, I4, r4, q4⟩ => thn (ho' pins s4 σ H4 y z' u w' _ I4 r2 r4 q4) fun d' s5 ⟨z2, H5, I5, r5, k2, e2, q5⟩ => ?_))
    subst e2
    cases r5
    refine wpAny_truthy_bool ?_
    cases k2 with
    | false => exact ite_ff ⟨.bl false, H5, I5, rfl, q5⟩
    | true => exact ite_tt (chain_last (thn (hd.run pins s5 σ H5 _ I5 q5) fun u' s6 ⟨y', H6, I6, r6, q6⟩ => ho'' pins s6 σ H6 z' y' w' u' Q I6 r4 r6 q6))
end
inductive PrsAt (H : Hp) : List V → Prs → Prop
  | nil : PrsAt H [] []
  | cons {p : Addr} {r : Int × Int} {xs : List V} {rs : Prs} (h : H p = some (.tup [.int r.1, .int r.2])) (t : PrsAt H xs rs) : PrsAt H (.ref p :: xs) (r :: rs)
theorem PrsAt.mono {H H' : Hp} {xs : List V} {rs : Prs} (h : PrsAt H xs rs) (s : ∀ p ts, H p = some (.tup ts) → H' p = some (.tup ts)) : PrsAt H' xs rs := by
  induction h with
  | nil => exact .nil
  | cons e _ ih => exact .cons (s _ _ e) ih
theorem PrsAt.same {H H' : Hp} {xs : List V} {rs : Prs} (h : PrsAt H xs rs) (s : Same H H') : PrsAt H' xs rs := h.mono fun p _ e => s p _ e
theorem PrsAt.append {H : Hp} {xs ys : List V} {rs ss : Prs} (h : PrsAt H xs rs) (g : PrsAt H ys ss) : PrsAt H (xs ++ ys) (rs ++ ss) := by
  induction h with
  | nil => exact g
  | cons e _ ih => exact .cons e ih
theorem PrsAt.len {H : Hp} {xs : List V} {rs : Prs} (h : PrsAt H xs rs) : xs.length = rs.length := by
  induction h with
  | nil => rfl
  | cons e _ ih => simp [ih]
theorem PrsAt.get {H : Hp} {xs : List V} {rs : Prs} (h : PrsAt H xs rs) : ∀ {i : Nat} {x : V}, xs[i]? = some x → ∃ p r, x = .ref p ∧ rs[i]? = some r ∧ H p = some (.tup [.int r.1, .int r.2]) := by
  induction h with
  | nil => intro i x e; simp at e
  | cons e _ ih =>
    intro i x e
    cases i with
    | zero => simp at e; subst e; exact ⟨_, _, rfl, rfl, by assumption⟩
    | succ i => simp at e; simpa using ih e
theorem PrsAt.getr {H : Hp} {xs : List V} {rs : Prs} (h : PrsAt H xs rs) {i : Nat} (hi : i < rs.length) : ∃ p, xs[i]? = some (.ref p) ∧ H p = some (.tup [.int rs[i].1, .int rs[i].2]) := by
  have e : xs[i]? = some (xs[i]'(by rw [h.len]; exact hi)) := List.getElem?_eq_getElem _
  obtain ⟨p, r, e1, e2, e3⟩ := h.get e
  rw [List.getElem?_eq_getElem hi] at e2
  cases e2
  exact ⟨p, by rw [e, e1], e3⟩
theorem PrsAt.unsnoc {H : Hp} {xs : List V} {rs : Prs} {r : Int × Int} (h : PrsAt H xs (rs ++ [r])) : ∃ ys p, xs = ys ++ [.ref p] ∧ PrsAt H ys rs ∧ H p = some (.tup [.int r.1, .int r.2]) := by
  induction rs generalizing xs with
  | nil => cases h with
    | cons e t => cases t; exact ⟨[], _, rfl, .nil, e⟩
  | cons s rs ih => cases h with
    | cons e t =>
      obtain ⟨ys, p, e1, e2, e3⟩ := ih t
      exact ⟨_ :: ys, p, by rw [e1]; rfl, .cons e e2, e3⟩
theorem PrsAt.item {H : Hp} {xs : List V} {rs : Prs} (h : PrsAt H xs rs) {x : V} (m : x ∈ xs) : ∃ p r, x = .ref p ∧ r ∈ rs ∧ H p = some (.tup [.int r.1, .int r.2]) := by
  obtain ⟨i, e⟩ := List.getElem?_of_mem m
  obtain ⟨p, r, e1, e2, e3⟩ := h.get e
  exact ⟨p, r, e1, List.mem_of_getElem? e2, e3⟩
/-- the pair at an address of the heap, as numbers -/
def pairOf (H : Hp) (v : V) : Int × Int := match v with | .ref p => (match H p with | some (.tup [.int b, .int e]) => (b, e) | _ => (0, 0)) | _ => (0, 0)
theorem PrsAt.map {H : Hp} {xs : List V} {rs : Prs} (h : PrsAt H xs rs) : rs = xs.map (pairOf H) := by
  induction h with
  | nil => rfl
  | cons e _ ih => simp [pairOf, e, ← ih]
theorem PrsAt.pair {H : Hp} {xs : List V} {rs : Prs} (h : PrsAt H xs rs) {x : V} (m : x ∈ xs) : ∃ t, x = .ref t ∧ H t = some (.tup [.int (pairOf H x).1, .int (pairOf H x).2]) := by
  obtain ⟨p, r, rfl, _, e⟩ := h.item m
  exact ⟨p, rfl, by simp [pairOf, e]⟩
theorem PrsAt.perm {H : Hp} {xs ys : List V} {rs : Prs} (h : PrsAt H xs rs) (m : ys.Perm xs) : PrsAt H ys (ys.map (pairOf H)) := by
  have z : ∀ y ∈ ys, ∃ t, y = .ref t ∧ H t = some (.tup [.int (pairOf H y).1, .int (pairOf H y).2]) := fun y q => h.pair (m.mem_iff.mp q)
  clear h m
  induction ys with
  | nil => exact .nil
  | cons y ys ih =>
    obtain ⟨t, e1, e2⟩ := z y List.mem_cons_self
    have r := ih fun y q => z y (List.mem_cons_of_mem _ q)
    subst e1
    exact .cons e2 r
/-- at a a list of these stretches -/
def RunsAt (H : Hp) (a : Addr) (rs : Prs) : Prop := ∃ xs, H a = some (.lst xs) ∧ PrsAt H xs rs
theorem RunsAt.same {H H' : Hp} {a : Addr} {rs : Prs} (h : RunsAt H a rs) (s : Same H H') : RunsAt H' a rs := by
  obtain ⟨xs, e, p⟩ := h
  exact ⟨xs, s _ _ e, p.same s⟩
theorem RunsAt.keep {H H' : Hp} {a b : Addr} {rs : Prs} (h : RunsAt H a rs) (hb : Box H b) (k : Keep b H H') (n : a ≠ b) : RunsAt H' a rs := by
  obtain ⟨xs, e, p⟩ := h
  refine ⟨xs, k.old _ _ n e, p.mono fun q ts z => k.old _ _ ?_ z⟩
  rintro rfl
  obtain ⟨d, m, c, e2⟩ := hb
  rw [e2] at z
  cases z
theorem RunsAt.thing {H : Hp} {a : Addr} {rs : Prs} (h : RunsAt H a rs) : Thing H (.ref a) .lst := by
  obtain ⟨xs, e, _⟩ := h
  exact .lst e
/-- a new list of stretches at a, while all that stood in H stands -/
structure Gro (H H' : Hp) (a : Addr) (rs : Prs) : Prop where
  fr : H a = none
  old : Same H H'
  at' : RunsAt H' a rs
theorem gro_new {H : Hp} {a : Addr} (n : H a = none) : Gro H (upd H a (.lst [])) a [] := ⟨n, same_upd n, [], upd_same, .nil⟩
theorem upd2_same {H H' : Hp} {a p : Addr} {o o' : HO} (s : Same H H') (n : H a = none) (np : H' p = none) : Same H (upd (upd H' p o) a o') := fun q u e => by
  have e1 : q ≠ a := fun z => by rw [z, n] at e; cases e
  have e2 : q ≠ p := fun z => by rw [← z, s _ _ e] at np; cases np
  rw [upd_ne e1, upd_ne e2]
  exact s _ _ e
theorem Gro.push {H H' : Hp} {a p : Addr} {rs : Prs} {xs : List V} {b e : Int} (g : Gro H H' a rs) (ha : H' a = some (.lst xs)) (np : H' p = none) :
    Gro H (upd (upd H' p (.tup [.int b, .int e])) a (.lst (xs ++ [.ref p]))) a (rs ++ [(b, e)]) := by
  refine ⟨g.fr, upd2_same g.old g.fr np, _, upd_same, ?_⟩
  obtain ⟨ys, e1, pr⟩ := g.at'
  rw [ha] at e1
  cases e1
  have na : p ≠ a := fun z => by rw [z, ha] at np; cases np
  refine PrsAt.append (pr.mono fun q ts z => ?_) (.cons (r := (b, e)) ?_ .nil)
  · rw [upd_ne (fun w => by rw [w, ha] at z; cases z), upd_ne (ne_of_none z np)]
    exact z
  · rw [upd_ne na, upd_same]
theorem Gro.setLast {H H' : Hp} {a p q : Addr} {rs : Prs} {r : Int × Int} {ys : List V} {b e : Int} (g : Gro H H' a (rs ++ [r])) (ha : H' a = some (.lst (ys ++ [.ref q]))) (np : H' p = none) :
    Gro H (upd (upd H' p (.tup [.int b, .int e])) a (.lst (ys ++ [.ref p]))) a (rs ++ [(b, e)]) := by
  refine ⟨g.fr, upd2_same g.old g.fr np, _, upd_same, ?_⟩
  obtain ⟨zs, e1, pr⟩ := g.at'
  rw [ha] at e1
  cases e1
  have na : p ≠ a := fun z => by rw [z, ha] at np; cases np
  obtain ⟨us, u, e2, pr2, _⟩ := pr.unsnoc
  have e3 := List.append_inj_left' e2 rfl
  subst e3
  refine PrsAt.append (pr2.mono fun q ts z => ?_) (.cons (r := (b, e)) ?_ .nil)
  · rw [upd_ne (fun w => by rw [w, ha] at z; cases z), upd_ne (ne_of_none z np)]
    exact z
  · rw [upd_ne na, upd_same]
/-! ### as data -/
def pairD (r : Int × Int) : PyData := .tuple [.int r.1, .int r.2]
def runsD (rs : Prs) : PyData := .list (rs.map pairD)
theorem PrsAt.dp {K : PySem.W.Frag} {H : Hp} {xs : List V} {rs : Prs} (h : PrsAt H xs rs) : DpAll K H xs (rs.map pairD) := by
  induction h with
  | nil => exact .nil
  | cons e _ ih => exact .cons (.tup (SqT.of e) (.cons (.int _) (.cons (.int _) .nil))) ih
theorem RunsAt.dp {K : PySem.W.Frag} {H : Hp} {a : Addr} {rs : Prs} (h : RunsAt H a rs) : Dp K H (.ref a) (runsD rs) := by
  obtain ⟨xs, e, p⟩ := h
  exact .lst (SqL.of e) p.dp
end My
namespace My
theorem iteN {b : Bool} {A B : Prop} (h : b = false) (hB : B) : if b = true then A else B := by rw [h]; exact hB
theorem iteY {b : Bool} {A B : Prop} (h : b = true) (hA : A) : if b = true then A else B := by rw [h]; exact hA
end My
namespace My
open PySem PySem.Spec PyProof.Rows L2
theorem Gro.new {H H' : Hp} {a p : Addr} {rs : Prs} {o : HO} (g : Gro H H' a rs) (n : H' p = none) : Gro H (upd H' p o) a rs := ⟨g.fr, g.old.trans (same_upd n), g.at'.same (same_upd n)⟩
theorem Same.none {H H' : Hp} {p : Addr} (s : Same H H') (n : H' p = none) : H p = none := by
  cases e : H p with
  | none => rfl
  | some o => rw [s _ _ e] at n; cases n
theorem Gro.back {H H1 H' : Hp} {a : Addr} {rs : Prs} (g : Gro H1 H' a rs) (s : Same H H1) : Gro H H' a rs := ⟨Same.none s g.fr, s.trans g.old, g.at'⟩
theorem ixN_last (xs : List V) (v : V) : ixN (xs ++ [v]).length (-1) = some xs.length := by
  have hl : (xs ++ [v]).length = xs.length + 1 := by simp
  unfold ixN
  rw [hl, if_neg (by decide), if_pos (by omega)]
  congr 1
  omega
theorem set_last (xs : List V) (v u : V) : (xs ++ [v]).set xs.length u = xs ++ [u] := by simp
theorem runsD_nil {rs : Prs} (h : rs ≠ []) : PyData.eqv (runsD rs) (.list []) = false := by
  cases rs with
  | nil => exact absurd rfl h
  | cons r rs => rfl
theorem nice_pair {r : Int × Int} (h : Okr r) : Nice (pairD r) 1 2 := by
  unfold Okr at h
  exact ((nice_int (by omega)).cons ((nice_int (by omega)).cons nice_nil)).tup
theorem nice_runs {rs : Prs} (h : ∀ r ∈ rs, Okr r) : Nice (runsD rs) 2 (rs.length * 3) := by
  have z : NiceAll (rs.map pairD) 1 ((rs.map pairD).length * 3) := niceAll_of fun d m => by
    obtain ⟨r, mr, rfl⟩ := List.mem_map.mp m
    exact nice_pair (h r mr)
  rw [List.length_map] at z
  exact z.list
theorem Tidy.nice {rs : Prs} (t : Tidy rs) : Nice (runsD rs) 2 600 := (nice_runs t.2).mono (Nat.le_refl _) (by have := t.len; omega)
theorem len_le {n : Nat} (h : n ≤ 1000) : n ≤ sizeLine := Nat.le_trans h (by decide)
theorem nil_or_snoc (rs : Prs) : rs = [] ∨ ∃ us r, rs = us ++ [r] := by
  cases rs with
  | nil => exact .inl rfl
  | cons r rs => exact .inr ⟨(r :: rs).dropLast, (r :: rs).getLast (by simp), (List.dropLast_concat_getLast (by simp)).symm⟩
theorem take_snoc {α : Type} {xs : List α} {i : Nat} {x : α} (h : xs[i]? = some x) : xs.take (i + 1) = xs.take i ++ [x] := by
  rw [List.take_add_one, h]
  rfl
theorem drop_cons {α : Type} {xs : List α} {i : Nat} {x : α} (h : xs[i]? = some x) : xs.drop i = x :: xs.drop (i + 1) := by
  have hlt : i < xs.length := (List.getElem?_eq_some_iff.mp h).1
  rw [List.drop_eq_getElem_cons hlt, (List.getElem?_eq_some_iff.mp h).2]
end My
namespace My
open PySem PySem.Spec PyProof.Rows L2
theorem ix_listK {X : Cx} {K : PySem.W.Frag} (h : X.K = K) : IxR X (rIxL K) := h ▸ ix_list
theorem ix_tupK {X : Cx} {K : PySem.W.Frag} (h : X.K = K) : IxR X (rIxT K) := h ▸ ix_tup
end My
namespace My
open PySem PySem.Spec PyProof.Rows L2
theorem pg_tupK {X : Cx} {K : PySem.W.Frag} {pos : Pos} {es : List Expr} {k : Nat} {t : TGs} {n : Nat} (e : X.K = K) (hc : X.calm = true) (h : PGs X es t)
    (hn : (assignEach es X.env).length = n := by rfl) (hst : (assignEach es X.env).findIdx? (·.1) = none := by rfl) : PG X (.Tuple es k pos) (gTup K n t) := e ▸ pg_tup hc h hn hst
theorem op_in_seqK {X : Cx} {K : PySem.W.Frag} (e : X.K = K) : OpR X (compareOp .In) (rIn K false) := e ▸ op_in_seq
theorem op_notIn_seqK {X : Cx} {K : PySem.W.Frag} (e : X.K = K) : OpR X (compareOp .NotIn) (rIn K true) := e ▸ op_notIn_seq
end My

/-! ### sorted of a tuple -/
namespace My
open PySem PySem.Spec PyProof.Rows L2
section
variable {prog : Program} {w : World} {A : Around} {E : Value → Shared → Prop} {s : Shared}
theorem collect_tup {l : Addr} {vs : List Value} {o : Obj} {n : Nat} {Q : List Value → Shared → Prop} (ho : s.heap.get? l = some o) (hc : o.cls = .type "tuple") (hd : o.data = .seq vs.toArray n)
    (h : Q vs { s with heap := (s.heap.push (seqObj "list" #[] 0)).update s.heap.objs.size (Obj.mapSeq (· ++ vs.toArray)) }) (hsz : vs.length ≤ sizeLine) :
    wpAny (model prog w) A (collect (.ref l)) Q E s := by
  unfold collect
  refine wpAny_bind (wpAny_runValue (codeAny_builtin entry_proto_collect' ?_))
  show wpAny _ _ (do again (.builtin "list.__iadd__" ⟨[← newList [], .ref l], []⟩)) _ _ s
  refine wpAny_bind (wpAny_newList (wpAny_pure ⟨Code.quiet_builtin _ (by decide +kernel), codeAny_builtin entry_list_iadd' ?_⟩))
  show wpAny _ _ (Builtin.List.listExtendWith (.ref s.heap.objs.size) (.ref l) (.ref s.heap.objs.size)) _ _ { s with heap := s.heap.push (seqObj "list" #[] 0) }
  unfold Builtin.List.listExtendWith
  have ho' : (s.heap.push (seqObj "list" #[] 0)).get? l = some o := Heap.get?_push_of_some _ ho
  refine wpAny_bind (wpAny_typeOf (T := "tuple") ⟨o, ho', hc⟩ ?_)
  have ht : (Value.type "tuple" == Value.type "tuple") = true := by rfl
  rw [if_pos (by rw [ht]; simp)]
  refine wpAny_bind (listItems_at ho' hd ?_)
  refine wpAny_bind (listItems_at (xs := #[]) (n := 0) (Heap.get?_push_size _ rfl) rfl ?_)
  rw [if_neg (by simp)]
  refine wpAny_bind (listUpdate_at (xs := #[]) (n := 0) (Heap.get?_push_size _ rfl) rfl ?_ (Nat.zero_le _) (by show (#[] ++ vs.toArray).size ≤ sizeLine + 1; simp only [Array.size_append, List.size_toArray, List.length_nil]; omega))
  refine wpAny_pure ?_
  show wpAny (model prog w) A (do
      let o ← load s.heap.objs.size
      match o.data with
      | .seq xs _ => pure xs.toList
      | _ => unsupported "internal:collect") Q E { s with heap := (s.heap.push (seqObj "list" #[] 0)).update s.heap.objs.size (Obj.mapSeq (· ++ vs.toArray)) }
  refine wpAny_bind (wpAny_load (get?_update_seq (Heap.get?_push_size _ rfl) _) ?_)
  show wpAny _ _ (pure ((#[] : Array Value) ++ vs.toArray).toList) Q E _
  rw [show ((#[] : Array Value) ++ vs.toArray).toList = vs by simp]
  exact wpAny_pure h
/-- sorted of any thing that is collected as a list is -/
theorem sorted_by {l : Addr} {vs : List Value} {ltv : Value → Value → Bool} {Q : Value → Shared → Prop} (O : SrtO.Swo ltv) (hz : vs.length ≤ sizeLine)
    (hcol : ∀ {A : Around} {E : Value → Shared → Prop} {R : List Value → Shared → Prop}, R vs { s with heap := (s.heap.push (seqObj "list" #[] 0)).update s.heap.objs.size (Obj.mapSeq (· ++ vs.toArray)) } → wpAny (model prog w) A (collect (.ref l)) R E s)
    (hS : 2 ≤ vs.length → ∀ (h₁ : Heap) (a : Addr), h₁.get? a = some (seqObj "list" vs.toArray 0) → (∀ b o, s.heap.get? b = some o → b ≠ a ∧ h₁.get? b = some o) → SrtO.SortableO prog w A.in1.in1 { s with heap := h₁ } a vs ltv)
    (h : ∀ out : List Value, SrtO.Srtd ltv out → SrtO.Stb ltv out vs → Q (.ref (s.heap.objs.size + 1)) { s with heap := sortedAll s.heap vs out.toArray }) :
    wpAny (model prog w) A (call (.builtin "sorted") [.ref l]) Q E s := by
  refine PySem.Calls.call_function_entry kind_sorted plain_sorted entry_sorted (args_sorted1 _) ?_
  unfold Builtin.«sorted»
  refine wpAny_bind (m := checkCount "sorted" 1 1 _) (wpAny_pure ?_)
  refine wpAny_bind (hcol ?_)
  refine wpAny_bind (wpAny_newList ?_ hz)
  have hsz : ((s.heap.push (seqObj "list" #[] 0)).update s.heap.objs.size (Obj.mapSeq (· ++ vs.toArray))).objs.size = s.heap.objs.size + 1 := by
    rw [Heap.size_update, size_push']
  have hoL : (((s.heap.push (seqObj "list" #[] 0)).update s.heap.objs.size (Obj.mapSeq (· ++ vs.toArray))).push (seqObj "list" vs.toArray 0)).get? (s.heap.objs.size + 1) = some (seqObj "list" vs.toArray 0) := by
    rw [← hsz]; exact Heap.get?_push_size _ rfl
  have keep : ∀ b o, s.heap.get? b = some o → b ≠ s.heap.objs.size + 1 ∧ (((s.heap.push (seqObj "list" #[] 0)).update s.heap.objs.size (Obj.mapSeq (· ++ vs.toArray))).push (seqObj "list" vs.toArray 0)).get? b = some o := fun b o q => by
    have hlt : b < s.heap.objs.size := Heap.lt_size q
    refine ⟨Nat.ne_of_lt (Nat.lt_succ_of_lt hlt), Heap.get?_push_of_some _ ?_⟩
    rw [Heap.get?_update_ne _ _ _ _ (Nat.ne_of_lt hlt)]
    exact Heap.get?_push_of_some _ q
  show wpAny _ _ _ _ _ { s with heap := ((s.heap.push (seqObj "list" #[] 0)).update s.heap.objs.size (Obj.mapSeq (· ++ vs.toArray))).push (seqObj "list" vs.toArray 0) }
  rw [hsz]
  refine wpAny_bind (wpAny_holding (wpAny_call_entry slot_list_sort ⟨_, hoL, rfl⟩ entry_list_sort (SrtO.list_sort_ord O hoL hz (fun h2 => hS h2 _ _ hoL keep) fun out hs hb => ⟨_, rfl, ?_⟩) (args_list_sort _)))
  exact wpAny_pure ⟨_, rfl, h out hs hb⟩
end
def rSortedTP (K : PySem.W.Frag) : List V → Hp → VK → Prop := fun vs H Q => ∃ (a : Addr) (xs : List V) (k : V → Int × Int), vs = [V.ref a] ∧ SqT K H a xs ∧ (∀ x ∈ xs, ∃ t, x = V.ref t ∧ H t = some (.tup [.int (k x).1, .int (k x).2])) ∧
  ∀ ys p, SrtO.Srtd (ltP k) ys → SrtO.Stb (ltP k) ys xs → H p = none → Q (.ref p) (upd H p (.lst ys))
theorem cr_sortedTP {X : Cx} : CallR X (.builtin "sorted") (rSortedTP X.K) := by
  intro pins s σ H vs us Q I r h
  obtain ⟨a, xs, k, rfl, hs, hx, q⟩ := h
  obtain ⟨its, rv, ⟨o, ho, hc, n, hd⟩, hz⟩ := I.tuple hs
  obtain ⟨u, rfl, ru⟩ := vals1 r
  obtain rfl : u = Value.ref a := ru
  have hz' : its.length ≤ sizeLine := by rw [← rv.length]; exact hz
  obtain ⟨e1, e2⟩ := refs_back rv fun x m => by
    obtain ⟨t, e, _⟩ := hx x m
    exact ⟨t, e⟩
  have hp : ∀ v ∈ its, Srt.IsPair s.heap v (k (backV v)).1 (k (backV v)).2 := fun v hv => by
    obtain ⟨t, rfl⟩ := e2 v hv
    have hm : V.ref t ∈ xs := by rw [e1]; exact List.mem_map.mpr ⟨_, hv, rfl⟩
    obtain ⟨t', e, ht⟩ := hx _ hm
    cases e
    obtain ⟨_, its2, r2, o, ho, hc, n, hd⟩ := I.hok _ _ ht
    obtain ⟨u1, u2, rfl, ri, rj⟩ := vals2 r2
    obtain ⟨t1, rfl⟩ := ri
    obtain ⟨t2, rfl⟩ := rj
    exact ⟨t, o, t1, t2, n, rfl, ho, hc, hd⟩
  refine sorted_by (SrtO.swo_lex fun u => k (backV u)) hz' (fun h => collect_tup ho hc hd h hz') (fun h2 h₁ a ha kk => ?_) fun out h1 h2 => ?_
  · refine SrtO.pairs_sortableO (s := { s with heap := h₁ }) (by omega) (fun v hm => (hp v hm).keeps fun b o e _ => (kk b o e).2) fun o e => ?_
    have e' : some o = some (seqObj "list" its.toArray 0) := e.symm.trans ha
    cases e'
    intro c
    exact absurd (Value.type.inj c) (by decide)
  · have h3 : ∀ u ∈ out, ∃ a, u = Value.ref a := fun u hu => e2 u (h2.perm.mem_iff.mp hu)
    obtain ⟨n, hn⟩ := sortedAll_at s.heap its out.toArray
    have hb : SrtO.Stb (ltP k) (out.map backV) xs := by
      rw [e1]
      exact SrtO.Stb.map (ltP_swo k) backV h2
    have hd : s.heap.objs.size ≤ s.heap.objs.size + 1 := Nat.le_succ _
    refine ⟨.ref _, upd H (s.heap.objs.size + 1) (.lst (out.map backV)), I.laid (t' := s.toks) (fun b o e => sortedAll_old e) hd ⟨?_, out, n, vals_back h3, hn⟩, rfl, q _ _ (SrtO.srtd_map h1) hb (I.hok.fresh hd)⟩
    rw [hb.len]
    exact hz
def rSortedTI (K : PySem.W.Frag) : List V → Hp → VK → Prop := fun vs H Q => ∃ (a : Addr) (ns : List Int), vs = [V.ref a] ∧ SqT K H a (ns.map V.int) ∧ ∀ (ns' : List Int) (p : Addr), ns'.Perm ns → ns'.Pairwise (· ≤ ·) → H p = none → Q (.ref p) (upd H p (.lst (ns'.map V.int)))
theorem cr_sortedTI {X : Cx} : CallR X (.builtin "sorted") (rSortedTI X.K) := by
  intro pins s σ H vs us Q I r h
  obtain ⟨a, ns, rfl, hs, q⟩ := h
  obtain ⟨its, rv, ⟨o, ho, hc, n, hd⟩, hz⟩ := I.tuple hs
  rw [Vals.ref1 r]
  have hz' : its.length ≤ sizeLine := by rw [← rv.length]; exact hz
  have hi := rv.ints
  refine sorted_by SrtO.swo_int hz' (fun h => collect_tup ho hc hd h hz') (fun h2 h₁ a' _ _ => SrtO.ints_sortable hi h2) fun out h1 h2 => ?_
  obtain ⟨k1, k2, k3⟩ := SrtO.ints_out hi h1 h2
  obtain ⟨ep, he'⟩ := sortedAll_at s.heap its out.toArray
  have hlen : ((out.map SrtO.iv).map V.int).length ≤ sizeLine := by
    rw [List.length_map, k2.length_eq]
    rw [List.length_map] at hz
    exact hz
  exact ⟨.ref _, upd H (s.heap.objs.size + 1) (.lst ((out.map SrtO.iv).map V.int)), I.laid (t' := s.toks) (fun _ _ => sortedAll_old) (Nat.le_succ _) ⟨hlen, out, ep, vals_of_ints k1, he'⟩, rfl, q _ _ k2 k3 (I.hok.fresh (Nat.le_succ _))⟩
end My

/-! ### list(range(..)), list(reversed(xs)) -/
namespace My
open PySem PySem.Spec PyProof.Rows L2
def rgL (i c : Int) (n : Nat) : List V := (List.range n).map fun k : Nat => V.int (i + (k : Int) * c)
/-- the arguments of a range: it begins at i, by steps of c, n numbers -/
def RgA (vs : List V) (i c : Int) (n : Nat) : Prop := (∃ j, vs = [.int j] ∧ i = 0 ∧ c = 1 ∧ -(2 ^ 62) ≤ j ∧ j < 2 ^ 62 ∧ n = j.toNat) ∨
  (∃ j, vs = [.int i, .int j] ∧ c = 1 ∧ -(2 ^ 62) ≤ i ∧ i < 2 ^ 62 ∧ -(2 ^ 62) ≤ j ∧ j < 2 ^ 62 ∧ n = (j - i).toNat) ∨ (∃ j, vs = [.int i, .int j, .int c] ∧ RgC i j c n)
def tListR (ta : TA) : TE := fun σ H Q => ta σ H fun vs H1 => ∃ (i c : Int) (n : Nat), RgA vs i c n ∧ n ≤ 1000 ∧ ∀ p, H1 p = none → Q (.ref p) (upd H1 p (.lst (rgL i c n)))
theorem rg_vals {i c : Int} {n : Nat} {acc : Array Value} (h : ItemsOf (fun k v => ∃ t, v = .int (i + (k : Int) * c) t) acc n) : Vals (rgL i c n) acc.toList := by
  have z : ∀ (m : Nat) (us : List Value), us.length = m → (∀ (j : Nat) (v : Value), us[j]? = some v → ∃ t, v = Value.int (i + (j : Int) * c) t) → Vals (rgL i c m) us := by
    intro m
    induction m with
    | zero =>
      intro us hl _
      match us, hl with
      | [], _ => exact .nil
    | succ m ih =>
      intro us hl hv
      have e : us = us.dropLast ++ [us.getLast (by intro z; rw [z] at hl; cases hl)] := (List.dropLast_concat_getLast _).symm
      have hd : us.dropLast.length = m := by rw [List.length_dropLast]; omega
      have h1 := ih us.dropLast hd fun j v q => hv j v (by
        rw [e, List.getElem?_append_left (by have := (List.getElem?_eq_some_iff.mp q).1; omega)]
        exact q)
      obtain ⟨t, ht⟩ := hv m (us.getLast (by intro z; rw [z] at hl; cases hl)) (by
        rw [List.getElem?_eq_getElem (by omega)]
        simp [List.getLast_eq_getElem, hl])
      rw [e]
      unfold rgL
      rw [List.range_succ, List.map_append]
      refine Vals.append h1 (.cons ?_ .nil)
      rw [ht]
      exact ⟨t, rfl⟩
  refine z n acc.toList (by rw [Array.length_toList]; exact h.1) fun j v q => h.2 j v ?_
  rw [← Array.getElem?_toList]
  exact q
section
variable {X : Cx}
theorem pe_listR {a : Expr} {as : List Expr} {ta : TA} {p p2 pos pos2 : Pos} (hc : X.calm = true) (hg : Gl X "list") (hm : X.mg "list" = none) (hg2 : Gl X "range") (hm2 : X.mg "range" = none) (ha : PA X (a :: as) ta)
    (hs : starEach (a :: as) X.env = (false, eval a X.env) :: starEach as X.env := by rfl) (hpl : (backTo pos2 (starEach as X.env)).any (·.1) = false := by rfl)
    (hs2 : starEach [.Call (.Name "range" p2) (a :: as) [] pos2] X.env = (false, eval (.Call (.Name "range" p2) (a :: as) [] pos2) X.env) :: starEach [] X.env := by rfl) :
    PE X (.Call (.Name "list" p) [.Call (.Name "range" p2) (a :: as) [] pos2] [] pos) (tListR ta) := by
  refine ⟨fun pins s σ H Q I h => ?_⟩
  refine Call_ (ld_blt I hg hm boot_list (PyProof.Rows.callWith_type1 (args_cons (Call_ (ld_blt I hg2 hm2 boot_range (PyProof.Rows.callWith_type1 (thn (ha.run pos2 pins s σ H _ I h) fun us s1 ⟨vs, H1, I1, r1, q1⟩ => ?_) hs hpl))) hs2) hs2 rfl))
  obtain ⟨i, c, n, hr, hn, q⟩ := q1
  have fin : ∀ {r : Addr} {j : Int} {t u v : Tok} {s2 : Shared}, Inv X pins σ H1 s2 → IsRange s2.heap r i j c t u v → Builtin.Range.small i j c = true → Builtin.Range.rangeSize i j c = n →
      wpAny (model X.prog X.w) X.A (call (.type "list") [.ref r]) (EP X pins σ Q) X.xe s2 := by
    intro r j t u v s2 I2 hi h1 h2
    refine call_list_range (I2.ok.hd hc) hi h1 h2 (Nat.le_trans hn (by decide)) fun h' tk acc c' hk hS hacc => ?_
    refine ⟨.ref s2.heap.objs.size, upd H1 s2.heap.objs.size (.lst (rgL i c n)), I2.laid (t' := tk) hk (Nat.le_refl _) (show ObjOk X.prog X.w _ h' _ (.lst (rgL i c n)) from ⟨?_, acc.toList, c', rg_vals hacc, ?_⟩), rfl, q _ (I2.hok.fresh (Nat.le_refl _))⟩
    · simp only [rgL, List.length_map, List.length_range]
      exact Nat.le_trans hn (by decide)
    · rw [Array.toArray_toList]
      exact hS
  rcases hr with ⟨j, rfl, rfl, rfl, j1, j2, rfl⟩ | ⟨j, rfl, rfl, i1, i2, j1, j2, rfl⟩ | ⟨j, rfl, c0, c1, c2, c3⟩
  · obtain ⟨u, rfl, ru⟩ := vals1 r1
    obtain ⟨t, rfl⟩ := ru
    refine call_range_1 (args_nil (fin ?_ (IsRange.new ..) (small_one (by decide) (by decide) j1 j2) ?_))
    · exact I1.kept (t' := s1.toks + 1 + 1) fun b o e => Heap.get?_push_of_some _ e
    · rw [rangeSize_one]
      split <;> omega
  · obtain ⟨u1, u2, rfl, ri, rj⟩ := vals2 r1
    obtain ⟨t, rfl⟩ := ri
    obtain ⟨u, rfl⟩ := rj
    refine call_range_2 (args_nil (fin ?_ (IsRange.new ..) (small_one i1 i2 j1 j2) ?_))
    · exact I1.kept (t' := s1.toks + 1) fun b o e => Heap.get?_push_of_some _ e
    · rw [rangeSize_one]
      split <;> omega
  · cases r1 with
    | cons r rr =>
      cases rr with
      | cons r' rr =>
        cases rr with
        | cons r'' rr =>
          cases rr
          obtain ⟨t, rfl⟩ := r
          obtain ⟨t', rfl⟩ := r'
          obtain ⟨t'', rfl⟩ := r''
          refine call_range_3 c0 (args_nil (fin ?_ (IsRange.new ..) c2 c3)) (.inl (PyProof.noPylong_small c1))
          exact I1.kept (t' := s1.toks) fun b o e => Heap.get?_push_of_some _ e
end
section
variable {prog : Program} {w : World} {A : Around} {E : Value → Shared → Prop} {s : Shared}
theorem list_extend_rev {R : Result → Shared → Prop} {it l : Addr} {items : Array Value} (hh : A.handled = none) (hit : s.heap.IsRevIter it l ((items.size : Int) - 1)) (hl : s.heap.IsList l items) (hne : l ≠ it) (hn : items.size ≤ sizeLine) (S : Addr) (hSi : S ≠ it) (hSl : S ≠ l) {c : Nat}
    (hS : s.heap.get? S = some { cls := .type "list", data := .seq #[] c })
    (hR : ∀ h' tk acc' c', (∀ b o, b ≠ S → b ≠ it → s.heap.get? b = some o → h'.get? b = some o) → h'.get? S = some { cls := .type "list", dict := none, data := .seq acc' c', slots := #[] } →
      ItemsOf (fun i v => items[items.size - 1 - i]? = some v) acc' items.size → R (.ok (.ret .none)) { s with heap := h', toks := tk }) :
    wpAny (model prog w) A.in1 (Builtin.List.listExtendWith (.ref S) (.ref it) .none)
      (fun fin s' => match fin with | .done f => R (.ok f) s' | .again c' => c'.quiet = true ∧ codeAny (model prog w) A c' R s') (fun e s' => R (.error e) s') s := by
  have W := (Walks.listRev (prog := prog) (w := w) (A := A.in1) hh it l hne items).toS
  have hSf : S ∉ [it, l] := by simp only [List.mem_cons, List.not_mem_nil, or_false, not_or]; exact ⟨hSi, hSl⟩
  have hT : s.TypeIs (.ref it) "list_reverseiterator" := hit.typeIs
  have h1 : Builtin.List.listSameRef (.ref S) (.ref it) = false := by simp [Builtin.List.listSameRef, hSi]
  unfold Builtin.List.listExtendWith
  refine wpAny_bind (wpAny_typeOf hT ?_)
  rw [if_neg (by rw [h1]; decide)]
  refine wpAny_bind (wpAny_pyIter_revIter hit ?_)
  refine wpAny_bind (wpAny_holding ?_)
  unfold Builtin.List.listLengthHint
  refine wpAny_bind (wpAny_specialOf hT RT.nolen_lri ?_)
  show wpAny _ A.in1 (specialOf (Value.ref it) (Str.ofString "__length_hint__") >>= _) _ _ _
  refine wpAny_bind (wpAny_specialOf hT RT.hint_lri ?_)
  generalize hid : ("list_reverseiterator.__length_hint__" : String) = id0
  wp_delta
  rw [show splitId id0 = some ("list_reverseiterator", "__length_hint__") from by subst hid; decide +kernel]
  subst hid
  refine wpAny_bind (wpAny_isInstance (b := true) hT (by rw [isSubtype_type]; kernel_rfl) ?_)
  refine wpAny_pure ?_
  rw [if_neg (by decide)]
  have e0 : ((items.size : Nat) : Int) - 1 - ((0 : Nat) : Int) = (items.size : Int) - 1 := by omega
  refine wpAny_pure ⟨plainId_quiet F.plain_extend_loop _, codeAny_extend_loopS W hn _ hSf _ items.size 0 _ _ _ rfl (Nat.zero_le _) ⟨Nat.zero_le _, by rw [e0]; exact hit, hl⟩ hS (ItemsOf.nil _) fun s' acc' c' hm hS' hacc => ?_⟩
  rw [Moved.eq_with hm]
  refine hR s'.heap s'.toks acc' c' (fun b o hb hb2 e => hm.heap b o (fun hmem => ?_) e) hS' hacc
  rcases List.mem_cons.mp hmem with e' | hmem
  · exact hb e'
  · exact hb2 (List.mem_singleton.mp hmem)
theorem call_list_rev {it l : Addr} {items : Array Value} {Q : Value → Shared → Prop} (hh : A.handled = none) (hit : s.heap.IsRevIter it l ((items.size : Int) - 1)) (hl : s.heap.IsList l items) (hne : l ≠ it) (hn : items.size ≤ sizeLine)
    (hQ : ∀ h' tk acc' c', (∀ b o, b ≠ it → s.heap.get? b = some o → h'.get? b = some o) → h'.get? s.heap.objs.size = some { cls := .type "list", dict := none, data := .seq acc' c', slots := #[] } →
      ItemsOf (fun i v => items[items.size - 1 - i]? = some v) acc' items.size → Q (.ref s.heap.objs.size) { s with heap := h', toks := tk }) :
    wpAny (model prog w) A (call (.type "list") [.ref it]) Q E s := by
  refine callType_codes (Q₁ := fun obj s₁ => obj = .ref s.heap.objs.size ∧ s₁ = { s with heap := s.heap.push { cls := .type "list", data := .seq #[] } }) F.called_list (F.typeCall_list_1 _) F.entry_list_init
    (code_list_new _ ⟨rfl, rfl⟩) fun obj s₁ h₁ => ?_
  obtain ⟨rfl, rfl⟩ := h₁
  obtain ⟨oi, hoi, _⟩ := id hit
  obtain ⟨ol, hol, _⟩ := id hl
  have hSi : s.heap.objs.size ≠ it := Nat.ne_of_gt (Heap.lt_size hoi)
  have hSl : s.heap.objs.size ≠ l := Nat.ne_of_gt (Heap.lt_size hol)
  have hS : (s.heap.push { cls := .type "list", data := .seq #[] }).get? s.heap.objs.size = some { cls := .type "list", data := .seq #[] } := Heap.get?_push_size _ rfl
  refine ⟨⟨_, hS, rfl⟩, F.args_list_init_2 _ _, ?_⟩
  show wpAny _ A.in1.in1 (do let old ← Builtin.List.listItems (.ref s.heap.objs.size); Builtin.List.listUpdate (.ref s.heap.objs.size) (fun _ => #[]); letGo old.toList.reverse; Builtin.List.listExtendWith (.ref s.heap.objs.size) (.ref it) .none) _ _ _
  refine wpAny_bind ?_
  unfold Builtin.List.listItems
  refine wpAny_bind (wpAny_seqItems hS rfl (wpAny_pure ?_))
  show wpAny _ _ (updateSeq s.heap.objs.size (fun _ => #[]) >>= fun _ => letGo (#[] : Array Value).toList.reverse >>= fun _ => Builtin.List.listExtendWith (.ref s.heap.objs.size) (.ref it) .none) _ _ _
  refine wpAny_bind (wpAny_updateSeq hS rfl ?_)
  have hS₂ := Heap.get?_update_self (Obj.mapSeq (fun _ => (#[] : Array Value))) hS rfl
  have oth : ∀ b o, b ≠ s.heap.objs.size → s.heap.get? b = some o → ((s.heap.push { cls := .type "list", data := .seq #[] }).update s.heap.objs.size (Obj.mapSeq (fun _ => (#[] : Array Value)))).get? b = some o :=
    fun b o hb e => (Heap.get?_update_other _ _ (Ne.symm hb)).trans (Heap.get?_push_of_some _ e)
  refine wpAny_bind (wpAny_letGo ?_)
  refine list_extend_rev (A := A.in1) (s := { s with heap := (s.heap.push { cls := .type "list", data := .seq #[] }).update s.heap.objs.size (Obj.mapSeq (fun _ => (#[] : Array Value))) }) hh (hit.at fun o e => oth _ _ (Ne.symm hSi) e) ?_ hne hn _ hSi hSl hS₂ fun h' tk acc' c' hk hS' hacc => ?_
  · obtain ⟨o, ho, r⟩ := hl
    exact ⟨o, oth _ _ (Ne.symm hSl) ho, r⟩
  · exact ⟨rfl, hQ h' tk acc' c' (fun b o hb e => hk b o (Nat.ne_of_lt (Heap.lt_size e)) hb (oth b o (Nat.ne_of_lt (Heap.lt_size e)) e)) hS' hacc⟩
end
def tListRev (K : PySem.W.Frag) (te : TE) : TE := fun σ H Q => te σ H fun v H1 => ∃ (a : Addr) (xs : List V), v = .ref a ∧ SqL K H1 a xs ∧ ∀ p, H1 p = none → Q (.ref p) (upd H1 p (.lst xs.reverse))
theorem pe_listRev {X : Cx} {e : Expr} {te : TE} {p p2 pos pos2 : Pos} (hc : X.calm = true) (hg : Gl X "list") (hm : X.mg "list" = none) (hg2 : Gl X "reversed") (hm2 : X.mg "reversed" = none) (he : PE X e te)
    (hs : starEach [e] X.env = (false, eval e X.env) :: starEach [] X.env := by rfl)
    (hs2 : starEach [.Call (.Name "reversed" p2) [e] [] pos2] X.env = (false, eval (.Call (.Name "reversed" p2) [e] [] pos2) X.env) :: starEach [] X.env := by rfl) :
    PE X (.Call (.Name "list" p) [.Call (.Name "reversed" p2) [e] [] pos2] [] pos) (tListRev X.K te) := by
  refine ⟨fun pins s σ H Q I h => ?_⟩
  refine Call_ (ld_blt I hg hm boot_list (PyProof.Rows.callWith_type1 (args_cons (Call_ (ld_blt I hg2 hm2 PyProof.Rows.boot_reversed (PyProof.Rows.callWith_type1 (args_cons (thn (he.run pins s σ H _ I h) fun u s1 ⟨v, H1, I1, r1, q1⟩ => args_nil ?_) hs) hs rfl))) hs2) hs2 rfl))
  obtain ⟨a, xs, ev, hq, q⟩ := q1
  subst ev
  obtain rfl : u = Value.ref a := r1
  obtain ⟨its, rv, p', hz⟩ := I1.list hq
  refine call_reversed_list p'.isList (args_nil ?_)
  have k0 : ∀ b o, s1.heap.get? b = some o → (s1.heap.push (revObj a ((its.toArray.size : Int) - 1))).get? b = some o := fun b o e => Heap.get?_push_of_some _ e
  have I2 : Inv X pins σ H1 { s1 with heap := s1.heap.push (revObj a ((its.toArray.size : Int) - 1)) } := I1.kept (t' := s1.toks) k0
  have hl := p'.isList
  obtain ⟨ol, hol, _⟩ := id hl
  have hne : a ≠ s1.heap.objs.size := Nat.ne_of_lt (Heap.lt_size hol)
  have hn : its.toArray.size ≤ sizeLine := by rw [List.size_toArray, ← rv.length]; exact hz
  obtain ⟨f0, f1, f2, f3, f4, f5⟩ := I1.fpOk (H' := H1) (b := s1.heap.objs.size) (Nat.le_refl _) (I1.hok.fresh (Nat.le_refl _))
  refine call_list_rev (s := { s1 with heap := s1.heap.push (revObj a ((its.toArray.size : Int) - 1)) }) (I1.ok.hd hc) ⟨_, Heap.get?_push_size _ rfl, rfl, rfl⟩ (hl.push _) hne hn fun h' tk acc c' hk hS hi => ?_
  -- what stood before stands: the iterator alone was written
  have kk : ∀ b o, s1.heap.get? b = some o → h'.get? b = some o := fun b o e => hk b o (Nat.ne_of_lt (Heap.lt_size e)) (k0 b o e)
  have hge : s1.heap.objs.size ≤ (s1.heap.push (revObj a ((its.toArray.size : Int) - 1))).objs.size := by rw [size_push']; exact Nat.le_succ _
  refine ⟨.ref (s1.heap.push (revObj a ((its.toArray.size : Int) - 1))).objs.size, upd H1 (s1.heap.push (revObj a ((its.toArray.size : Int) - 1))).objs.size (.lst xs.reverse), I1.laid (t' := tk) kk hge (show ObjOk X.prog X.w _ h' _ (.lst xs.reverse) from ⟨by rw [List.length_reverse]; exact hz, acc.toList, c', RT.vals_rev rv hi, ?_⟩), rfl, q _ (I1.hok.fresh hge)⟩
  rw [Array.toArray_toList]
  exact hS
end My

/-! ### the numbers of a row -/
namespace My
open PySem PySem.Spec PyProof.Rows L2
def rng1 (r : Int × Int) : List Int := (List.range (r.2 - r.1).toNat).map fun k : Nat => r.1 + (k : Int) * 1
def numsOf (rs : Prs) : List Int := rs.flatMap rng1
theorem rgL_rng1 (r : Int × Int) : rgL r.1 1 (r.2 - r.1).toNat = (rng1 r).map V.int := by
  unfold rgL rng1
  rw [List.map_map]
  rfl
theorem mem_rng1 {n : Int} {r : Int × Int} : n ∈ rng1 r ↔ r.1 ≤ n ∧ n < r.2 := by
  unfold rng1
  rw [List.mem_map]
  constructor
  · rintro ⟨k, mk, rfl⟩
    have := List.mem_range.mp mk
    omega
  · intro h
    exact ⟨(n - r.1).toNat, List.mem_range.mpr (by omega), by omega⟩
theorem mem_numsOf {n : Int} {rs : Prs} : n ∈ numsOf rs ↔ MemR n rs := by
  unfold numsOf
  rw [List.mem_flatMap]
  constructor
  · rintro ⟨r, m, h⟩
    exact ⟨r, m, mem_rng1.mp h⟩
  · rintro ⟨r, m, h⟩
    exact ⟨r, m, mem_rng1.mpr h⟩
theorem rng1_up (r : Int × Int) : (rng1 r).Pairwise (· < ·) := by
  unfold rng1
  refine List.pairwise_map.mpr (List.pairwise_lt_range.imp fun {a b} h => ?_)
  omega
theorem nums_up : ∀ {rs : Prs}, Tidy rs → (numsOf rs).Pairwise (· < ·)
  | [], _ => .nil
  | r :: rs, h => by
    unfold numsOf
    rw [List.flatMap_cons]
    refine List.pairwise_append.mpr ⟨rng1_up r, nums_up h.tail, fun a ma b mb => ?_⟩
    have h1 := mem_rng1.mp ma
    have h2 := h.behind (mem_numsOf.mp mb)
    omega
theorem up_uniq : ∀ {l m : List Int}, l.Pairwise (· < ·) → m.Pairwise (· < ·) → (∀ n, n ∈ l ↔ n ∈ m) → l = m
  | [], [], _, _, _ => rfl
  | [], b :: m, _, _, h => by have := (h b).mpr List.mem_cons_self; cases this
  | a :: l, [], _, _, h => by have := (h a).mp List.mem_cons_self; cases this
  | a :: l, b :: m, hl, hm, h => by
    have l1 := (List.pairwise_cons.mp hl).1
    have m1 := (List.pairwise_cons.mp hm).1
    have e : a = b := by
      rcases List.mem_cons.mp ((h a).mp List.mem_cons_self) with z | z
      · exact z
      · rcases List.mem_cons.mp ((h b).mpr List.mem_cons_self) with w | w
        · exact w.symm
        · have := l1 b w
          have := m1 a z
          omega
    subst e
    rw [up_uniq (List.pairwise_cons.mp hl).2 (List.pairwise_cons.mp hm).2 fun n => ⟨fun z => ?_, fun z => ?_⟩]
    · rcases List.mem_cons.mp ((h n).mp (List.mem_cons_of_mem _ z)) with w | w
      · have := l1 n z
        omega
      · exact w
    · rcases List.mem_cons.mp ((h n).mpr (List.mem_cons_of_mem _ z)) with w | w
      · have := m1 n z
        omega
      · exact w
theorem nums_len : ∀ {rs : Prs}, (∀ r ∈ rs, Okr r) → ((rs.map fun r => r.2 - r.1).sum : Int) = ((numsOf rs).length : Int)
  | [], _ => rfl
  | r :: rs, h => by
    have o := h r List.mem_cons_self
    unfold Okr at o
    have ih := nums_len (rs := rs) fun s m => h s (List.mem_cons_of_mem _ m)
    unfold numsOf at ih ⊢
    rw [List.flatMap_cons, List.map_cons, List.sum_cons, ih, List.length_append]
    have : (rng1 r).length = (r.2 - r.1).toNat := by simp [rng1]
    rw [this]
    omega
theorem up_len : ∀ {l : List Int} {lo : Int}, l.Pairwise (· < ·) → (∀ n ∈ l, lo ≤ n ∧ n < 400) → lo ≤ 400 → lo + (l.length : Int) ≤ 400
  | [], lo, _, _, h => by simpa using h
  | a :: l, lo, hp, hb, _ => by
    have h1 := hb a List.mem_cons_self
    have z := up_len (lo := a + 1) (List.pairwise_cons.mp hp).2 (fun n m => ⟨by have := (List.pairwise_cons.mp hp).1 n m; omega, (hb n (List.mem_cons_of_mem _ m)).2⟩) (by omega)
    simp only [List.length_cons]
    omega
theorem nums_le {rs : Prs} (t : Tidy rs) : (numsOf rs).length ≤ 400 := by
  have := up_len (lo := 0) (nums_up t) (fun n m => t.bnd (mem_numsOf.mp m)) (by decide)
  omega
theorem numsOf_append (rs ss : Prs) : numsOf (rs ++ ss) = numsOf rs ++ numsOf ss := by
  unfold numsOf
  rw [List.flatMap_append]
theorem numsOf_one (r : Int × Int) : numsOf [r] = rng1 r := by
  unfold numsOf
  simp
theorem inV_ints {n : Int} {ns : List Int} : inV (.int n) (ns.map V.int) = decide (n ∈ ns) := by
  unfold inV
  induction ns with
  | nil => rfl
  | cons m ns ih =>
    rw [List.map_cons, List.any_cons, ih, Bool.eq_iff_iff]
    have e : eqV (.int m) (.int n) = decide (m = n) := by
      simp only [eqV]; exact (Bool.beq_eq_decide_eq m n)
    rw [e]
    simp only [Bool.or_eq_true, decide_eq_true_eq, List.mem_cons]
    exact or_congr ⟨fun z => z.symm, fun z => z.symm⟩ Iff.rfl
theorem flat_ints (ns : List Int) : (ns.map V.int).all flatV = true := by
  rw [List.all_map]
  exact List.all_eq_true.mpr fun x _ => rfl
theorem nice_ints {ns : List Int} (h : ∀ n ∈ ns, n.natAbs < 10 ^ 12) : Nice (.list (ns.map PyData.int)) 1 ns.length := by
  have z : NiceAll (ns.map PyData.int) 0 ((ns.map PyData.int).length * 1) := niceAll_of fun d m => by
    obtain ⟨n, mn, rfl⟩ := List.mem_map.mp m
    exact nice_int (h n mn)
  rw [List.length_map, Nat.mul_one] at z
  exact z.list
end My

namespace My
open PySem PySem.Spec PyProof.Rows L2
def topS (i : Nat) : Stmt := PySem.Challenge.pw_leastlore_k14_tidy_rows_made.main.body.getD i (.Pass ⟨0, 0, 0, 0⟩)
abbrev sis_whole : Stmt := topS 5
theorem scis_whole : FnScope ["thing"] ["thing"] (defScope sis_whole) := ⟨rfl, rfl, rfl, by decide +kernel, rfl, by decide +kernel, by decide +kernel⟩

abbrev sis_within : Stmt := topS 6
theorem scis_within : FnScope ["thing", "low", "high"] ["thing", "low", "high"] (defScope sis_within) := ⟨rfl, rfl, rfl, by decide +kernel, rfl, by decide +kernel, by decide +kernel⟩

abbrev sis_stretch : Stmt := topS 9
theorem scis_stretch : FnScope ["thing"] ["thing"] (defScope sis_stretch) := ⟨rfl, rfl, rfl, by decide +kernel, rfl, by decide +kernel, by decide +kernel⟩

abbrev sis_runs : Stmt := topS 10
theorem scis_runs : FnScope ["thing", "end", "one"] ["thing"] (defScope sis_runs) := ⟨rfl, rfl, rfl, by decide +kernel, rfl, by decide +kernel, by decide +kernel⟩

abbrev sneed_runs : Stmt := topS 11
theorem scneed_runs : FnScope ["thing"] ["thing"] (defScope sneed_runs) := ⟨rfl, rfl, rfl, by decide +kernel, rfl, by decide +kernel, by decide +kernel⟩

abbrev stidied : Stmt := topS 12
theorem sctidied : FnScope ["stretches", "found", "begin", "end"] ["stretches"] (defScope stidied) := ⟨rfl, rfl, rfl, by decide +kernel, rfl, by decide +kernel, by decide +kernel⟩

abbrev sruns_of : Stmt := topS 13
theorem scruns_of : FnScope ["stretches", "one"] ["stretches"] (defScope sruns_of) := ⟨rfl, rfl, rfl, by decide +kernel, rfl, by decide +kernel, by decide +kernel⟩

abbrev sruns_by : Stmt := topS 14
theorem scruns_by : FnScope ["numbers", "number"] ["numbers"] (defScope sruns_by) := ⟨rfl, rfl, rfl, by decide +kernel, rfl, by decide +kernel, by decide +kernel⟩

abbrev show_many : Stmt := topS 15
theorem schow_many : FnScope ["runs", "begin", "end"] ["runs"] (defScope show_many) := ⟨rfl, rfl, rfl, by decide +kernel, rfl, by decide +kernel, by decide +kernel⟩

abbrev snumbers_in : Stmt := topS 16
theorem scnumbers_in : FnScope ["runs", "found", "begin", "end"] ["runs"] (defScope snumbers_in) := ⟨rfl, rfl, rfl, by decide +kernel, rfl, by decide +kernel, by decide +kernel⟩

abbrev shas_number : Stmt := topS 17
theorem schas_number : FnScope ["runs", "thing", "begin", "end"] ["runs", "thing"] (defScope shas_number) := ⟨rfl, rfl, rfl, by decide +kernel, rfl, by decide +kernel, by decide +kernel⟩

abbrev s_law_cell_at : Stmt := topS 19
theorem sc_law_cell_at : FnScope ["_law_script", "_law_k"] ["_law_script", "_law_k"] (defScope s_law_cell_at) := ⟨rfl, rfl, rfl, by decide +kernel, rfl, by decide +kernel, by decide +kernel⟩

abbrev s_law_box : Stmt := topS 20
theorem sc_law_box : FnScope ["_law_cell"] ["_law_cell"] (defScope s_law_box) := ⟨rfl, rfl, rfl, by decide +kernel, rfl, by decide +kernel, by decide +kernel⟩

abbrev s_law_take : Stmt := topS 21
theorem sc_law_take : FnScope ["_law_box_here", "_law_many", "_law_number"] ["_law_box_here", "_law_many"] (defScope s_law_take) := ⟨rfl, rfl, rfl, by decide +kernel, rfl, by decide +kernel, by decide +kernel⟩

abbrev s_law_stretches : Stmt := topS 22
theorem sc_law_stretches : FnScope ["_law_box_here", "_law_most", "_law_found", "_law_k", "_law_begin", "_law_wide"] ["_law_box_here", "_law_most"] (defScope s_law_stretches) := ⟨rfl, rfl, rfl, by decide +kernel, rfl, by decide +kernel, by decide +kernel⟩

abbrev s_law_rising : Stmt := topS 23
theorem sc_law_rising : FnScope ["_law_marks_here", "_law_found", "_law_number"] ["_law_marks_here"] (defScope s_law_rising) := ⟨rfl, rfl, rfl, by decide +kernel, rfl, by decide +kernel, by decide +kernel⟩

abbrev s_law_marks : Stmt := topS 24
theorem sc_law_marks : FnScope ["_law_stretches_here", "_law_marks_here", "_law_begin", "_law_end", "_law_number"] ["_law_stretches_here"] (defScope s_law_marks) := ⟨rfl, rfl, rfl, by decide +kernel, rfl, by decide +kernel, by decide +kernel⟩

abbrev s_law_mixed : Stmt := topS 25
theorem sc_law_mixed : FnScope ["_law_box_here", "_law_some", "_law_left", "_law_found"] ["_law_box_here", "_law_some"] (defScope s_law_mixed) := ⟨rfl, rfl, rfl, by decide +kernel, rfl, by decide +kernel, by decide +kernel⟩

abbrev s_law_right : Stmt := topS 26
theorem sc_law_right : FnScope ["_law_box_here", "_law_found", "_law_due", "_law_numbers", "_law_turn", "_law_thing", "_law_told"] ["_law_box_here", "_law_found", "_law_due", "_law_numbers"] (defScope s_law_right) := ⟨rfl, rfl, rfl, by decide +kernel, rfl, by decide +kernel, by decide +kernel⟩

abbrev slaw : Stmt := topS 27
theorem sclaw : FnScope ["_law_script", "_law_k", "_law_odd", "_law_singles", "_law_box_here", "_law_some", "_law_marks_here", "_law_due", "_law_numbers", "_law_handed", "_law_each", "_law_short", "_law_kept", "_law_found", "_law_number", "_law_one"] ["_law_script"] (defScope slaw) := ⟨rfl, rfl, rfl, by decide +kernel, rfl, by decide +kernel, by decide +kernel⟩

structure Tx (mg : Str → Option Value) : Prop where
  b_any : mg "any" = none
  b_bool : mg "bool" = none
  b_int : mg "int" = none
  b_isinstance : mg "isinstance" = none
  b_len : mg "len" = none
  b_list : mg "list" = none
  b_max : mg "max" = none
  b_min : mg "min" = none
  b_range : mg "range" = none
  b_repr : mg "repr" = none
  b_reversed : mg "reversed" = none
  b_sorted : mg "sorted" = none
  b_sum : mg "sum" = none
  b_tuple : mg "tuple" = none
  c_MOST : ∃ t, mg "MOST" = some (.int 400 t)

section
variable {P : Program} {w : World} {K : PySem.W.Frag} {mg : Str → Option Value} {base : Heap}
/-! ### is_whole, is_within -/
def isI : V → Bool | .int _ => true | _ => false
def wi (x : V) (lo hi : Int) : Bool := match x with | .int i => decide (lo ≤ i ∧ i ≤ hi) | _ => false
def spWhole : Sp := fun vs H Q _ => ∃ (x : V) (k : Kd), vs = [x] ∧ Thing H x k ∧ Q (.bl (isI x)) H
theorem ok_whole {f : Addr} {fd : FuncData} (T : Tx mg) (F : Fun K "is_whole" "is_whole" sis_whole f fd) : FnOk P w K mg base CX0 1 f fd ["thing"] spWhole := by
  refine F.ok scis_whole (fun vs H Q E h => ?_) (fun cdv A outer s H vs Q E hr h => ?_)
  · obtain ⟨x, k, rfl, _⟩ := h
    rfl
  · obtain ⟨x, k, rfl, t, q⟩ := h
    refine ⟨_, (pss_one (ps_ret (pe_and (pe_callB call_isi (by rfl) T.b_isinstance PyProof.Rows.boot_isinstance (pa_cons (pv 0) (pa_cons (pe_bltn (v := .ty "int") (by rfl) T.b_int PyProof.Rows.boot_int rfl) pa_nil))) (pe_one (pe_not (pe_callB call_isi (by rfl) T.b_isinstance PyProof.Rows.boot_isinstance (pa_cons (pv 0) (pa_cons (pe_bltn (v := .ty "bool") (by rfl) T.b_bool PyProof.Rows.boot_bool rfl) pa_nil)))))))), ?_⟩
    refine ⟨_, rfl, _, _, _, _, k.isInt, rfl, .ty _, t.tyx, kit_ty (kit_int k), k.isInt, rfl, ?_⟩
    have e : isI x = (k.isInt && !k.isBool) := by cases t <;> rfl
    rw [e] at q
    refine ite2 (fun c => ?_) (fun c => ?_)
    · refine ⟨_, rfl, _, _, _, _, k.isBool, rfl, .ty _, t.tyx, kit_ty (kit_bool k), k.isBool, rfl, ?_⟩
      rw [c, Bool.true_and] at q
      exact q
    · have c' : k.isInt = false := by simpa using c
      rw [c', Bool.false_and] at q
      exact q

def spWithin : Sp := fun vs H Q _ => ∃ (x : V) (k : Kd) (lo hi : Int), vs = [x, .int lo, .int hi] ∧ Thing H x k ∧ Q (.bl (wi x lo hi)) H
theorem ok_within {f : Addr} {fd : FuncData} (T : Tx mg) (G_is_whole : Ok P w K mg base CX0 "is_whole" 1 ["thing"] spWhole) (F : Fun K "is_within" "is_within" sis_within f fd) : FnOk P w K mg base CX0 2 f fd ["thing", "low", "high"] spWithin := by
  refine F.ok scis_within (fun vs H Q E h => ?_) (fun cdv A outer s H vs Q E hr h => ?_)
  · obtain ⟨x, k, lo, hi, rfl, _⟩ := h
    rfl
  · obtain ⟨x, k, lo, hi, rfl, t, q⟩ := h
    refine ⟨_, (pss_one (ps_ret (pe_and (pe_callO G_is_whole (hr.mono (by decide)) (by rfl) pass0 (pa_cons (pv 0) pa_nil)) (pe_one (pe_chain op_le op_le (pv 1) (pv 0) (pv 2)))))), ?_⟩
    refine ⟨_, rfl, x, k, rfl, t, isI x, rfl, ?_⟩
    cases t with
    | int i =>
      refine ⟨_, rfl, _, rfl, lo, i, rfl, rfl, _, rfl, ite2 (fun e => ?_) (fun e => ?_)⟩
      · refine ⟨_, rfl, i, hi, rfl, rfl, ?_⟩
        have e2 : lo ≤ i := of_decide_eq_true e
        have e3 : decide (lo ≤ i ∧ i ≤ hi) = decide (i ≤ hi) := by
          rw [decide_eq_decide]
          exact ⟨fun z => z.2, fun z => ⟨e2, z⟩⟩
        have q2 : Q (.bl (decide (lo ≤ i ∧ i ≤ hi))) H := q
        rw [e3] at q2
        exact q2
      · have e2 : decide (lo ≤ i ∧ i ≤ hi) = false := decide_eq_false fun z => e (decide_eq_true z.1)
        have q2 : Q (.bl (decide (lo ≤ i ∧ i ≤ hi))) H := q
        rw [e2] at q2
        exact q2
    | non => exact q
    | bl b => exact q
    | str z => exact q
    | lst e => exact q
    | tup e => exact q
    | dic e => exact q

/-! ### is_stretch, is_runs -/
def strB (H : Hp) (x : V) : Bool := match x with | .ref p => (match H p with | some (.tup [.int b, .int e]) => decide (0 ≤ b ∧ b < e ∧ e ≤ 400) | _ => false) | _ => false
def Flat (H : Hp) (x : V) : Prop := ∀ p xs, x = .ref p → H p = some (.tup xs) → ∀ y ∈ xs, ∃ k, Thing H y k
def spStretch : Sp := fun vs H Q _ => ∃ (x : V) (k : Kd), vs = [x] ∧ Thing H x k ∧ Flat H x ∧ Q (.bl (strB H x)) H
theorem ok_stretch {f : Addr} {fd : FuncData} (T : Tx mg) (G_is_whole : Ok P w K mg base CX0 "is_whole" 1 ["thing"] spWhole) (F : Fun K "is_stretch" "is_stretch" sis_stretch f fd) : FnOk P w K mg base CX0 2 f fd ["thing"] spStretch := by
  refine F.ok scis_stretch (fun vs H Q E h => ?_) (fun cdv A outer s H vs Q E hr h => ?_)
  · obtain ⟨x, k, rfl, _⟩ := h
    rfl
  · obtain ⟨x, k, rfl, t, fl, q⟩ := h
    obtain ⟨tM, c_MOST⟩ := T.c_MOST
    refine ⟨_, (pss_cons (ps_if (PW.pt (pw_or (pt_not (pt_val (pe_callB call_isi (by rfl) T.b_isinstance PyProof.Rows.boot_isinstance (pa_cons (pv 0) (pa_cons (pe_bltn (v := .ty "tuple") (by rfl) T.b_tuple PyProof.Rows.boot_tuple rfl) pa_nil))))) (pw_or (pt_cmpR op_ne (pe_callB call_len_seq (by rfl) T.b_len PySem.boot_len (pa_cons (pv 0) pa_nil)) pe_int (nomark _)) (pw_or (pt_not (pt_val (pe_callO G_is_whole (hr.mono (by decide)) (by rfl) pass0 (pa_cons (pe_ix ix_tup (pv 0) pe_int (fun _ _ => rfl)) pa_nil)))) (pw_or1 (pt_not (pt_val (pe_callO G_is_whole (hr.mono (by decide)) (by rfl) pass0 (pa_cons (pe_ix ix_tup (pv 0) pe_int (fun _ _ => rfl)) pa_nil))))))))) (pss_one (ps_ret pe_bl)) pss_nil)
      (pss_one (ps_ret (pe_chain3 op_le op_lt op_le pe_int (pe_ix ix_tup (pv 0) pe_int (fun _ _ => rfl)) (pe_ix ix_tup (pv 0) pe_int (fun _ _ => rfl)) (pe_glob (v := .int 400) (by rfl) c_MOST ⟨_, rfl⟩))))), ?_⟩
    by_cases hk : k = .tup
    · subst hk
      cases t with
      | tup e =>
        rename_i p xs
        have ff := fl p xs rfl e
        refine ⟨_, rfl, _, _, _, _, true, rfl, .ty _, (Thing.tup e).tyx, kit_ty (kit_tuple .tup), true, rfl, ?_⟩
        refine ⟨_, rfl, p, _, rfl, .inr (SqT.of e), rfl, _, rfl, ?_⟩
        by_cases hl : xs.length = 2
        · match xs, hl with
          | [y, z], _ =>
            obtain ⟨k1, t1⟩ := ff y List.mem_cons_self
            obtain ⟨k2, t2⟩ := ff z (List.mem_cons_of_mem _ List.mem_cons_self)
            refine iteN (by simp) ⟨_, rfl, p, _, 0, y, rfl, rfl, SqT.of e, atI_nat (j := 0) rfl, y, k1, rfl, t1, _, rfl, ?_⟩
            cases t1 with
            | int b =>
              refine ⟨_, rfl, p, _, 1, z, rfl, rfl, SqT.of e, atI_nat (j := 1) rfl, z, k2, rfl, t2, _, rfl, ?_⟩
              cases t2 with
              | int c =>
                have q2 : Q (.bl (decide (0 ≤ b ∧ b < c ∧ c ≤ 400))) H := by simpa only [strB, e] using q
                refine ⟨_, rfl, p, _, 0, .int b, rfl, rfl, SqT.of e, atI_nat (j := 0) rfl, _, _, rfl, rfl, _, rfl, ite2 (fun e1 => ?_) (fun e1 => ?_)⟩
                · refine ⟨_, rfl, p, _, 1, .int c, rfl, rfl, SqT.of e, atI_nat (j := 1) rfl, _, _, rfl, rfl, _, rfl, ite2 (fun e2 => ?_) (fun e2 => ?_)⟩
                  · refine ⟨_, _, rfl, rfl, ?_⟩
                    have e1' : 0 ≤ b := of_decide_eq_true e1
                    have e2' : b < c := of_decide_eq_true e2
                    have e3 : decide (0 ≤ b ∧ b < c ∧ c ≤ 400) = decide (c ≤ 400) := by
                      rw [decide_eq_decide]
                      exact ⟨fun z => z.2.2, fun z => ⟨e1', e2', z⟩⟩
                    rw [e3] at q2
                    exact q2
                  · have e3 : decide (0 ≤ b ∧ b < c ∧ c ≤ 400) = false := decide_eq_false fun z => e2 (decide_eq_true z.2.1)
                    rw [e3] at q2
                    exact q2
                · have e3 : decide (0 ≤ b ∧ b < c ∧ c ≤ 400) = false := decide_eq_false fun z => e1 (decide_eq_true z.1)
                  rw [e3] at q2
                  exact q2
              | non => exact (show Q (.bl false) H by simpa [strB, e] using q)
              | bl b => exact (show Q (.bl false) H by simpa [strB, e] using q)
              | str z => exact (show Q (.bl false) H by simpa [strB, e] using q)
              | lst e' => exact (show Q (.bl false) H by simpa [strB, e] using q)
              | tup e' => exact (show Q (.bl false) H by simpa [strB, e] using q)
              | dic e' => exact (show Q (.bl false) H by simpa [strB, e] using q)
            | non => exact (show Q (.bl false) H by simpa [strB, e] using q)
            | bl b => exact (show Q (.bl false) H by simpa [strB, e] using q)
            | str z => exact (show Q (.bl false) H by simpa [strB, e] using q)
            | lst e' => exact (show Q (.bl false) H by simpa [strB, e] using q)
            | tup e' => exact (show Q (.bl false) H by simpa [strB, e] using q)
            | dic e' => exact (show Q (.bl false) H by simpa [strB, e] using q)
        · refine iteY (by simpa using fun z : (xs.length : Int) = 2 => hl (by omega)) ?_
          have e3 : strB H (.ref p) = false := by
            simp only [strB, e]
            split
            · rename_i h1
              cases h1
              simp at hl
            · rfl
          rw [e3] at q
          exact q
    · have hf : k.isTup = false := by cases k <;> first | rfl | exact absurd rfl hk
      refine ⟨_, rfl, _, _, _, _, false, rfl, .ty _, t.tyx, kit_ty (by rw [← hf]; exact kit_tuple k), false, rfl, ?_⟩
      have e3 : strB H x = false := by
        cases t with
        | tup e => exact absurd rfl hk
        | non => rfl
        | bl b => rfl
        | int i => rfl
        | str z => rfl
        | lst e' => simp [strB, e']
        | dic e' => simp [strB, e']
      rw [e3] at q
      exact q
def rowB (H : Hp) : Int → List V → Bool
  | _, [] => true
  | e, y :: ys => strB H y && (decide (e < (pairOf H y).1) && rowB H (pairOf H y).2 ys)
def runsB (H : Hp) (x : V) : Bool := match x with | .ref p => (match H p with | some (.lst xs) => rowB H (-1) xs | _ => false) | _ => false
theorem strB_iff {H : Hp} {x : V} (h : strB H x = true) : ∃ p, x = .ref p ∧ H p = some (.tup [.int (pairOf H x).1, .int (pairOf H x).2]) ∧ Okr (pairOf H x) := by
  unfold strB at h
  split at h
  · rename_i p
    split at h
    · rename_i b e hp
      refine ⟨p, rfl, ?_, ?_⟩
      · simp [pairOf, hp]
      · simpa [pairOf, hp, Okr] using h
    · cases h
  · cases h
def Flat2 (H : Hp) (x : V) : Prop := ∀ p xs, x = .ref p → H p = some (.lst xs) → ∀ y ∈ xs, (∃ k, Thing H y k) ∧ Flat H y
def spRuns : Sp := fun vs H Q _ => ∃ (x : V) (k : Kd), vs = [x] ∧ Thing H x k ∧ Flat2 H x ∧ Q (.bl (runsB H x)) H
theorem ok_runs {f : Addr} {fd : FuncData} (T : Tx mg) (G_is_stretch : Ok P w K mg base CX0 "is_stretch" 2 ["thing"] spStretch) (F : Fun K "is_runs" "is_runs" sis_runs f fd) : FnOk P w K mg base CX0 3 f fd ["thing"] spRuns := by
  refine F.ok scis_runs (fun vs H Q E h => ?_) (fun cdv A outer s H vs Q E hr h => ?_)
  · obtain ⟨x, k, rfl, _⟩ := h
    rfl
  · obtain ⟨x, k, rfl, t, fl, q⟩ := h
    refine ⟨_, (pss_cons (ps_if (pt_not (pt_val (pe_callB call_isi (by rfl) T.b_isinstance PyProof.Rows.boot_isinstance (pa_cons (pv 0) (pa_cons (pe_bltn (v := .ty "list") (by rfl) T.b_list PyProof.Rows.boot_list rfl) pa_nil))))) (pss_one (ps_ret pe_bl)) pss_nil)
      (pss_cons (ps_set (i := 1) scis_runs.nd rfl (.inl rfl) (pe_un un_neg pe_int))
      (pss_cons (ps_for PassesOwn.never rfl (pi_list (pv 0)) (pg_name (i := 2) scis_runs.nd rfl (.inl rfl)) (pss_cons (ps_if (PW.pt (pw_or (pt_not (pt_val (pe_callO G_is_stretch (hr.mono (by decide)) (by rfl) pass0 (pa_cons (pv 2) pa_nil)))) (pw_or1 (pt_cmpR op_le (pe_ix ix_tup (pv 2) pe_int (fun _ _ => rfl)) (pv 1) (nomark _))))) (pss_one (ps_ret pe_bl)) pss_nil)
      (pss_one (ps_set (i := 1) scis_runs.nd rfl (.inl rfl) (pe_ix ix_tup (pv 2) pe_int (fun _ _ => rfl))))))
      (pss_one (ps_ret pe_bl))))), ?_⟩
    by_cases hk : k = .lst
    · subst hk
      cases t with
      | lst e =>
        rename_i p xs
        have ff := fl p xs rfl e
        have q2 : Q (.bl (rowB H (-1) xs)) H := by simpa only [runsB, e] using q
        refine ⟨_, rfl, _, _, _, _, true, rfl, .ty _, (Thing.lst e).tyx, kit_ty (kit_list .lst), true, rfl, ?_⟩
        refine ⟨_, rfl, _, rfl, p, rfl, ⟨_, SqL.of e⟩, for_list (K := K) (a := p) (xs := xs) (fun i σ H' => (∃ (m : Int) (y : Option V), σ = [some (.ref p), some (.int m), y] ∧ rowB H (-1) xs = rowB H m (xs.drop i)) ∧ H' = H) ⟨⟨_, _, rfl, rfl⟩, rfl⟩ (fun i σ H' _ hW => hW.2 ▸ SqL.of e) (fun i y σ H' hi hW => ?_) (fun σ H' hW => ?_)⟩
        · obtain ⟨⟨m, y0, rfl, em⟩, rfl⟩ := hW
          have hlt : i < xs.length := (List.getElem?_eq_some_iff.mp hi).1
          have ed : xs.drop i = y :: xs.drop (i + 1) := by
            rw [List.drop_eq_getElem_cons hlt]
            rw [(List.getElem?_eq_some_iff.mp hi).2]
          rw [ed] at em
          simp only [rowB] at em
          obtain ⟨⟨ky, ty⟩, fy⟩ := ff y (List.mem_of_getElem? hi)
          refine ⟨_, rfl, y, ky, rfl, ty, fy, _, rfl, ?_⟩
          cases hs : strB H' y with
          | false =>
            rw [hs, Bool.false_and] at em
            rw [em] at q2
            exact q2
          | true =>
            rw [hs, Bool.true_and] at em
            obtain ⟨py, rfl, ey, oy⟩ := strB_iff hs
            refine ⟨_, rfl, py, _, 0, _, rfl, rfl, SqT.of ey, atI_nat (j := 0) rfl, _, rfl, _, _, rfl, rfl, _, rfl, ite2 (fun e1 => ?_) (fun e1 => ?_)⟩
            · have e1' : (pairOf H' (.ref py)).1 ≤ m := of_decide_eq_true e1
              rw [decide_eq_false (by omega), Bool.false_and] at em
              rw [em] at q2
              exact q2
            · have e1' : ¬ (pairOf H' (.ref py)).1 ≤ m := fun z => e1 (decide_eq_true z)
              rw [decide_eq_true (by omega), Bool.true_and] at em
              refine ⟨_, rfl, py, _, 1, _, rfl, rfl, SqT.of ey, atI_nat (j := 1) rfl, ⟨_, _, rfl, em⟩, rfl⟩
        · obtain ⟨⟨m, y0, rfl, em⟩, rfl⟩ := hW
          rw [List.drop_length] at em
          rw [em] at q2
          exact q2
    · have hf : k.isList = false := by cases k <;> first | rfl | exact absurd rfl hk
      refine ⟨_, rfl, _, _, _, _, false, rfl, .ty _, t.tyx, kit_ty (by rw [← hf]; exact kit_list k), false, rfl, ?_⟩
      have e3 : runsB H x = false := by
        cases t with
        | lst e => exact absurd rfl hk
        | non => rfl
        | bl b => rfl
        | int i => rfl
        | str z => rfl
        | tup e' => simp [runsB, e']
        | dic e' => simp [runsB, e']
      rw [e3] at q
      exact q
theorem rowB_tidy {H : Hp} : ∀ {xs : List V} {rs : Prs} {e : Int}, PrsAt H xs rs → Tidy rs → (∀ r ∈ rs, e < r.1) → rowB H e xs = true
  | _, _, _, .nil, _, _ => rfl
  | _, _, e, .cons (p := p) (r := r) (rs := rs) h t, td, hl => by
    have ep : pairOf H (.ref p) = r := by simp [pairOf, h]
    have o := td.head
    unfold Okr at o
    simp only [rowB, ep]
    rw [rowB_tidy t td.tail fun s m => (List.pairwise_cons.mp td.1).1 s m, decide_eq_true (hl r List.mem_cons_self)]
    simp [strB, h, o]
theorem tidy_rowB {H : Hp} : ∀ {xs : List V} {e : Int}, -1 ≤ e → rowB H e xs = true → PrsAt H xs (xs.map (pairOf H)) ∧ Tidy (xs.map (pairOf H)) ∧ ∀ r ∈ xs.map (pairOf H), e < r.1
  | [], _, _, _ => ⟨.nil, tidy_nil, fun _ h => by cases h⟩
  | y :: ys, e, he, h => by
    simp only [rowB, Bool.and_eq_true, decide_eq_true_eq] at h
    obtain ⟨h1, h2, h3⟩ := h
    obtain ⟨p, e1, e2, o⟩ := strB_iff h1
    have o' := o
    unfold Okr at o'
    obtain ⟨i1, i2, i3⟩ := tidy_rowB (e := (pairOf H y).2) (by omega) h3
    refine ⟨?_, ⟨List.pairwise_cons.mpr ⟨fun s m => i3 s m, i2.1⟩, fun r m => ?_⟩, fun r m => ?_⟩
    · subst e1
      exact .cons e2 i1
    · rcases List.mem_cons.mp m with z | z
      · rw [z]; exact o
      · exact i2.2 r z
    · rcases List.mem_cons.mp m with z | z
      · rw [z]; exact h2
      · have := i3 r z
        omega
theorem RunsAt.row {H : Hp} {a : Addr} {rs : Prs} (h : RunsAt H a rs) (t : Tidy rs) : runsB H (.ref a) = true := by
  obtain ⟨xs, e, p⟩ := h
  simp only [runsB, e]
  exact rowB_tidy p t fun r m => by have := (t.2 r m).1; omega
theorem RunsAt.flat {H : Hp} {a : Addr} {rs : Prs} (h : RunsAt H a rs) : Flat2 H (.ref a) := by
  obtain ⟨xs, e, p⟩ := h
  intro q ys eq eq2 y m
  cases eq
  rw [e] at eq2
  cases eq2
  obtain ⟨u, r, rfl, _, hu⟩ := p.item m
  refine ⟨⟨_, .tup hu⟩, fun v zs ev ez z mz => ?_⟩
  cases ev
  rw [hu] at ez
  cases ez
  rcases List.mem_cons.mp mz with z | z
  · exact z ▸ ⟨_, .int _⟩
  · rcases List.mem_cons.mp z with z | z
    · exact z ▸ ⟨_, .int _⟩
    · cases z
/-! ### need_runs of a tidy row -/
def spNeed : Sp := fun vs H Q _ => ∃ (a : Addr) (rs : Prs), vs = [.ref a] ∧ RunsAt H a rs ∧ Tidy rs ∧ Q (.ref a) H
theorem ok_need {f : Addr} {fd : FuncData} (T : Tx mg) (G_is_runs : Ok P w K mg base CX0 "is_runs" 3 ["thing"] spRuns) (F : Fun K "need_runs" "need_runs" sneed_runs f fd) : FnOk P w K mg base CX0 4 f fd ["thing"] spNeed := by
  refine F.ok scneed_runs (fun vs H Q E h => ?_) (fun cdv A outer s H vs Q E hr h => ?_)
  · obtain ⟨a, rs, rfl, _⟩ := h
    rfl
  · obtain ⟨a, rs, rfl, ra, td, q⟩ := h
    refine ⟨_, (pss_cons (ps_if (pt_not (pt_val (pe_callO G_is_runs (hr.mono (by decide)) (by rfl) pass0 (pa_cons (pv 0) pa_nil)))) (pss_one ps_never) pss_nil)
      (pss_one (ps_ret (pv 0)))), ?_⟩
    refine ⟨_, rfl, .ref a, .lst, rfl, ra.thing, ra.flat, true, by rw [ra.row td], ?_⟩
    exact ⟨_, rfl, q⟩

/-! ### tidied -/
def spTidied : Sp := fun vs H Q _ => ∃ (a : Addr) (rs : Prs), vs = [.ref a] ∧ RunsAt H a rs ∧ rs.Pairwise (fun r s => r.1 ≤ s.1) ∧ (∀ r ∈ rs, Okr r) ∧ rs.length ≤ 1000 ∧ ∀ c H' ts, Gro H H' c ts → Tidy ts → (∀ n, MemR n ts ↔ MemR n rs) → Q (.ref c) H'
theorem ok_tidied {f : Addr} {fd : FuncData} (T : Tx mg) (F : Fun K "tidied" "tidied" stidied f fd) : FnOk P w K mg base CX0 1 f fd ["stretches"] spTidied := by
  refine F.ok sctidied (fun vs H Q E h => ?_) (fun cdv A outer s H vs Q E hr h => ?_)
  · obtain ⟨a, rs, rfl, _⟩ := h
    rfl
  · obtain ⟨a, rs, rfl, ⟨xs, ea, pr⟩, srt, ok, hlen, q⟩ := h
    refine ⟨_, (pss_cons (ps_set (i := 1) sctidied.nd rfl (.inl rfl) (pe_lst pa_nil))
      (pss_cons (ps_for PassesOwn.never rfl (pi_list (pv 0)) (pg_tup rfl (pgs_cons (pg_name (i := 2) sctidied.nd rfl (.inl rfl)) (pgs_cons (pg_name (i := 3) sctidied.nd rfl (.inl rfl)) pgs_nil))) (pss_one (ps_if (PW.pt (pw_and (pt_cmpR (op_neD hr.units) (pv 1) (pe_lst pa_nil) (nomark _)) (pw_and1 (pt_cmpR op_le (pv 2) (pe_ix ix_tup (pe_ix ix_list (pv 1) (pe_un un_neg pe_int) (fun _ _ => rfl)) pe_int (fun _ _ => rfl)) (nomark _))))) (pss_one (ps_asg (pe_tup (pa_cons (pe_ix ix_tup (pe_ix ix_list (pv 1) (pe_un un_neg pe_int) (fun _ _ => rfl)) pe_int (fun _ _ => rfl)) (pa_cons (pe_callB (call_max2 rfl) (by rfl) T.b_max PyProof.Rows.boot_max (pa_cons (pe_ix ix_tup (pe_ix ix_list (pv 1) (pe_un un_neg pe_int) (fun _ _ => rfl)) pe_int (fun _ _ => rfl)) (pa_cons (pv 3) pa_nil))) pa_nil))) (pg_sub (pv 1) (pe_un un_neg pe_int) set_list))) (pss_one (ps_expr (pe_bm PySem.F.plainAttrs_list PySem.F.slot_list_append PySem.F.type_list_append mt_append (pv 1) (pa_cons (pe_tup (pa_cons (pv 2) (pa_cons (pv 3) pa_nil))) pa_nil)))))))
      (pss_one (ps_ret (pv 1))))), ?_⟩
    refine ⟨(by show 0 ≤ sizeLine; decide), fun c nc => ?_⟩
    refine ⟨_, rfl, a, rfl, ⟨_, SqL.of (same_upd nc _ _ ea)⟩, for_list (K := K) (a := a) (xs := xs) (fun i σ H' => ∃ (ts : Prs) (y2 y3 : Option V), σ = [some (.ref a), some (.ref c), y2, y3] ∧ Gro H H' c ts ∧ Tidy ts ∧ ts.length ≤ i ∧ (∀ n, MemR n ts ↔ MemR n (rs.take i)) ∧ ∀ r ∈ ts, ∀ s ∈ rs.drop i, r.1 ≤ s.1)
      ⟨[], _, _, rfl, gro_new nc, tidy_nil, Nat.le_refl _, fun n => Iff.rfl, fun r m => by cases m⟩ (fun i σ H' _ hW => ?_) (fun i x σ H' hi hW => ?_) (fun σ H' hW => ?_)⟩
    · obtain ⟨ts, y2, y3, _, g, _⟩ := hW
      exact SqL.of (g.old _ _ ea)
    · obtain ⟨ts, y2, y3, rfl, g, td, hlt, hm, hb⟩ := hW
      obtain ⟨p, r, rfl, hr1, ep⟩ := pr.get hi
      have hlt2 : i < rs.length := (List.getElem?_eq_some_iff.mp hr1).1
      have okr := ok r (List.mem_of_getElem? hr1)
      unfold Okr at okr
      have next : ∀ us : Prs, (∀ u ∈ us, u.1 ≤ r.1) → ∀ u ∈ us, ∀ s ∈ rs.drop (i + 1), u.1 ≤ s.1 := by
        intro us hu u mu s ms
        have z : (rs.drop i).Pairwise (fun r s => r.1 ≤ s.1) := srt.drop
        rw [drop_cons hr1] at z
        exact Int.le_trans (hu u mu) ((List.pairwise_cons.mp z).1 s ms)
      have here : ∀ u ∈ ts, u.1 ≤ r.1 := fun u mu => hb u mu r (by rw [drop_cons hr1]; exact List.mem_cons_self)
      refine ⟨p, _, rfl, SqT.of (g.old _ _ ep), rfl, _, _, rfl, _, _, rfl, rfl, ?_⟩
      refine ⟨_, rfl, (by show 0 ≤ sizeLine; decide), fun pe ne => ?_⟩
      have g1 := g.new ne (o := .lst [])
      generalize hH1 : upd H' pe (.lst []) = H1 at g1 ⊢
      have epe : H1 pe = some (.lst []) := by rw [← hH1]; exact upd_same
      obtain ⟨zs, ec, prz⟩ := g1.at'
      refine ⟨runsD ts, .list [], g1.at'.dp, .lst (SqL.of epe) .nil, (td.nice.shaped (by decide)), rfl, _, rfl, ?_⟩
      have hzl : zs.length < sizeLine := by
        rw [prz.len]
        exact Nat.lt_of_le_of_lt (show ts.length ≤ 1000 by omega) (by decide)
      have app : (∀ u ∈ ts, u.2 < r.1) → ∀ t, H1 t = none → ∃ (ts' : Prs) (y2 y3 : Option V), [some (.ref a), some (.ref c), some (.int r.1), some (.int r.2)] = [some (.ref a), some (.ref c), y2, y3] ∧ Gro H (upd (upd H1 t (.tup [.int r.1, .int r.2])) c (.lst (zs ++ [.ref t]))) c ts' ∧ Tidy ts' ∧ ts'.length ≤ i + 1 ∧ (∀ n, MemR n ts' ↔ MemR n (rs.take (i + 1))) ∧ ∀ u ∈ ts', ∀ s ∈ rs.drop (i + 1), u.1 ≤ s.1 := by
        intro hl t nt
        refine ⟨ts ++ [(r.1, r.2)], _, _, rfl, g1.push ec nt, tidy_snoc td hl okr.1 okr.2.1 okr.2.2, by simp; omega, fun n => ?_, next _ fun u mu => ?_⟩
        · rw [take_snoc hr1, memR_append, memR_append, hm n]
        · rcases List.mem_append.mp mu with z | z
          · exact here u z
          · rcases List.mem_cons.mp z with z | z
            · rw [z]; exact Int.le_refl _
            · cases z
      rcases nil_or_snoc ts with e | ⟨us, u, e⟩
      · refine iteN (by rw [e]; rfl) ?_
        refine ⟨_, rfl, .inl ⟨rfl, _, SqL.of ec⟩, _, rfl, _, rfl, (by show 2 ≤ sizeLine; decide), fun t nt => ?_⟩
        refine ⟨c, _, _, rfl, rfl, (by rw [upd_ne (ne_of_none ec nt)]; exact ec), hzl, app (by rw [e]; intro u mu; cases mu) t nt⟩
      · subst e
        obtain ⟨ys, v, ez, pry, ev⟩ := prz.unsnoc
        subst ez
        obtain ⟨tdu, hul, oku⟩ := tidy_init td
        refine iteY (by rw [runsD_nil (by simp)]; rfl) ?_
        refine ⟨_, rfl, _, rfl, _, rfl, c, _, -1, .ref v, rfl, rfl, SqL.of ec, atI_last _ _, v, _, 1, .int u.2, rfl, rfl, SqT.of ev, atI_nat (j := 1) rfl, _, _, rfl, rfl, _, rfl, ite2 (fun e1 => ?_) (fun e1 => ?_)⟩
        · have e1' : r.1 ≤ u.2 := of_decide_eq_true e1
          refine ⟨_, rfl, _, rfl, c, _, -1, .ref v, rfl, rfl, SqL.of ec, atI_last _ _, v, _, 0, .int u.1, rfl, rfl, SqT.of ev, atI_nat (j := 0) rfl, ?_⟩
          refine ⟨_, rfl, _, rfl, c, _, -1, .ref v, rfl, rfl, SqL.of ec, atI_last _ _, v, _, 1, .int u.2, rfl, rfl, SqT.of ev, atI_nat (j := 1) rfl, _, rfl, _, _, rfl, (by show 2 ≤ sizeLine; decide), fun t nt => ?_⟩
          refine ⟨_, rfl, _, rfl, c, _, _, _, rfl, rfl, (by rw [upd_ne (ne_of_none ec nt)]; exact ec), ixN_last _ _, ?_⟩
          have ta := tidy_add td (here u (by simp)) e1' okr.2.1 okr.2.2
          show ∃ (ts : Prs) (y2 y3 : Option V), _
          rw [set_last]
          refine ⟨_, _, _, rfl, g1.setLast ec nt, ta.1, by simp at hlt ⊢; omega, fun n => ?_, next _ fun w mw => ?_⟩
          · rw [ta.2 n, hm n, take_snoc hr1, memR_append]
            refine or_congr Iff.rfl ?_
            exact (memR_one (b := r.1) (e := r.2)).symm
          · rcases List.mem_append.mp mw with z | z
            · exact here w (List.mem_append.mpr (.inl z))
            · rcases List.mem_cons.mp z with z | z
              · rw [z]; exact here u (by simp)
              · cases z
        · have e1' : ¬ r.1 ≤ u.2 := fun z => e1 (decide_eq_true z)
          refine ⟨_, rfl, .inl ⟨rfl, _, SqL.of ec⟩, _, rfl, _, rfl, (by show 2 ≤ sizeLine; decide), fun t nt => ?_⟩
          refine ⟨c, _, _, rfl, rfl, (by rw [upd_ne (ne_of_none ec nt)]; exact ec), hzl, app (fun w mw => ?_) t nt⟩
          rcases List.mem_append.mp mw with z | z
          · have := hul w z
            unfold Okr at oku
            omega
          · rcases List.mem_cons.mp z with z | z
            · rw [z]; omega
            · cases z
    · obtain ⟨ts, y2, y3, rfl, g, td, hlt, hm, hb⟩ := hW
      refine ⟨_, rfl, q c H' ts g td fun n => ?_⟩
      rw [hm n, pr.len, List.take_length]

/-! ### runs_of, runs_by -/
def TupAt (H : Hp) (a : Addr) (rs : Prs) : Prop := ∃ xs, H a = some (.tup xs) ∧ PrsAt H xs rs
theorem TupAt.same {H H' : Hp} {a : Addr} {rs : Prs} (h : TupAt H a rs) (s : Same H H') : TupAt H' a rs := by
  obtain ⟨xs, e, p⟩ := h
  exact ⟨xs, s _ _ e, p.same s⟩
theorem TupAt.dp {K : PySem.W.Frag} {H : Hp} {a : Addr} {rs : Prs} (h : TupAt H a rs) : Dp K H (.ref a) (.tuple (rs.map pairD)) := by
  obtain ⟨xs, e, p⟩ := h
  exact .tup (SqT.of e) p.dp
theorem pair_flat {H : Hp} {p : Addr} {r : Int × Int} (h : H p = some (.tup [.int r.1, .int r.2])) : Flat H (.ref p) := fun v zs ev ez z mz => by
  cases ev
  rw [h] at ez
  cases ez
  rcases List.mem_cons.mp mz with z | z
  · exact z ▸ ⟨_, .int _⟩
  · rcases List.mem_cons.mp z with z | z
    · exact z ▸ ⟨_, .int _⟩
    · cases z
theorem pair_strB {H : Hp} {p : Addr} {r : Int × Int} (h : H p = some (.tup [.int r.1, .int r.2])) (o : Okr r) : strB H (.ref p) = true := by
  unfold Okr at o
  simp [strB, h, o]
def spRunsOf : Sp := fun vs H Q _ => ∃ (a : Addr) (rs : Prs), vs = [.ref a] ∧ (RunsAt H a rs ∨ TupAt H a rs) ∧ (∀ r ∈ rs, Okr r) ∧ rs.length ≤ 1000 ∧ ∀ c H' ts, Gro H H' c ts → Tidy ts → (∀ n, MemR n ts ↔ MemR n rs) → Q (.ref c) H'
theorem ok_runsof {f : Addr} {fd : FuncData} (T : Tx mg) (G_is_stretch : Ok P w K mg base CX0 "is_stretch" 2 ["thing"] spStretch) (G_tidied : Ok P w K mg base CX0 "tidied" 1 ["stretches"] spTidied) (F : Fun K "runs_of" "runs_of" sruns_of f fd) : FnOk P w K mg base CX0 3 f fd ["stretches"] spRunsOf := by
  refine F.ok scruns_of (fun vs H Q E h => ?_) (fun cdv A outer s H vs Q E hr h => ?_)
  · obtain ⟨a, rs, rfl, _⟩ := h
    rfl
  · obtain ⟨a, rs, rfl, hh, ok, hlen, q⟩ := h
    have last : ∀ (H1 : Hp) (xs : List V), PrsAt H1 xs rs → Same H H1 → ∀ ys p, SrtO.Srtd (ltP (pairOf H1)) ys → SrtO.Stb (ltP (pairOf H1)) ys xs → H1 p = none → spTidied [.ref p] (upd H1 p (.lst ys)) Q E0 := by
      intro H1 xs px s1 ys p srt stb np
      have s2 := same_upd np (o := .lst ys)
      have hp : (ys.map (pairOf H1)).Perm rs := by
        have := stb.perm.map (pairOf H1)
        rwa [← px.map] at this
      refine ⟨p, ys.map (pairOf H1), rfl, ⟨ys, upd_same, (px.perm stb.perm).same s2⟩, ?_, fun r m => ok r (hp.mem_iff.mp m), by rw [hp.length_eq]; exact hlen, fun c H' ts g td hm => ?_⟩
      · refine List.pairwise_map.mpr (srt.imp fun {x y} h => ?_)
        have z := SrtO.lexB_no.mp h
        omega
      · refine q c H' ts (g.back (s1.trans s2)) td fun n => ?_
        rw [hm n, memR_perm hp]
    rcases hh with ⟨xs, ea, px⟩ | ⟨xs, ea, px⟩
    · refine ⟨_, (pss_cons (ps_if (pt_not (pt_val (pe_callB call_isiT (by rfl) T.b_isinstance PyProof.Rows.boot_isinstance (pa_cons (pv 0) (pa_cons (pe_tup (pa_cons (pe_bltn (v := .ty "list") (by rfl) T.b_list PyProof.Rows.boot_list rfl) (pa_cons (pe_bltn (v := .ty "tuple") (by rfl) T.b_tuple PyProof.Rows.boot_tuple rfl) pa_nil))) pa_nil))))) (pss_one ps_never) pss_nil)
      (pss_cons (ps_for PassesOwn.never rfl (pi_list (pv 0)) (pg_name (i := 1) scruns_of.nd rfl (.inl rfl)) (pss_one (ps_if (pt_not (pt_val (pe_callO G_is_stretch (hr.mono (by decide)) (by rfl) pass0 (pa_cons (pv 1) pa_nil)))) (pss_one ps_never) pss_nil)))
      (pss_one (ps_ret (pe_callO G_tidied (hr.mono (by decide)) (by rfl) pass0 (pa_cons (pe_callB cr_sortedPO (by rfl) T.b_sorted PyProof.Rows.boot_sorted (pa_cons (pv 0) pa_nil)) pa_nil)))))), ?_⟩
      refine ⟨_, rfl, by decide, fun p hp => ?_⟩
      have s1 : Same H (upd H p (.tup [.ty "list", .ty "tuple"])) := same_upd hp
      have h1 := s1 _ _ ea
      have px1 := px.same s1
      refine ⟨.ref a, p, _, _, [.type "list", .type "tuple"], _, rfl, upd_same, .cons (.ty _) (.cons (.ty _) .nil), (Thing.lst h1).tyx, kit_seq .lst, true, rfl, ?_⟩
      generalize upd H p (.tup [.ty "list", .ty "tuple"]) = H1 at s1 h1 px1 ⊢
      refine ⟨_, rfl, a, rfl, ⟨_, SqL.of h1⟩, for_list (K := K) (a := a) (xs := xs) (fun i σ H' => (∃ y, σ = [some (.ref a), y]) ∧ H' = H1) ⟨⟨_, rfl⟩, rfl⟩ (fun i σ H' _ hW => hW.2 ▸ SqL.of h1) (fun i x σ H' hi hW => ?_) (fun σ H' hW => ?_)⟩
      · obtain ⟨⟨y, rfl⟩, rfl⟩ := hW
        obtain ⟨t, r, rfl, hr1, et⟩ := px1.get hi
        refine ⟨_, rfl, .ref t, .tup, rfl, .tup et, pair_flat et, true, by rw [pair_strB et (ok r (List.mem_of_getElem? hr1))], ?_⟩
        exact ⟨⟨_, rfl⟩, rfl⟩
      · obtain ⟨⟨y, rfl⟩, rfl⟩ := hW
        exact ⟨_, rfl, a, xs, pairOf H', rfl, SqL.of h1, fun x m => px1.pair m, last H' xs px1 s1⟩
    · refine ⟨_, (pss_cons (ps_if (pt_not (pt_val (pe_callB call_isiT (by rfl) T.b_isinstance PyProof.Rows.boot_isinstance (pa_cons (pv 0) (pa_cons (pe_tup (pa_cons (pe_bltn (v := .ty "list") (by rfl) T.b_list PyProof.Rows.boot_list rfl) (pa_cons (pe_bltn (v := .ty "tuple") (by rfl) T.b_tuple PyProof.Rows.boot_tuple rfl) pa_nil))) pa_nil))))) (pss_one ps_never) pss_nil)
      (pss_cons (ps_for PassesOwn.never rfl (pi_tup (pv 0)) (pg_name (i := 1) scruns_of.nd rfl (.inl rfl)) (pss_one (ps_if (pt_not (pt_val (pe_callO G_is_stretch (hr.mono (by decide)) (by rfl) pass0 (pa_cons (pv 1) pa_nil)))) (pss_one ps_never) pss_nil)))
      (pss_one (ps_ret (pe_callO G_tidied (hr.mono (by decide)) (by rfl) pass0 (pa_cons (pe_callB cr_sortedTP (by rfl) T.b_sorted PyProof.Rows.boot_sorted (pa_cons (pv 0) pa_nil)) pa_nil)))))), ?_⟩
      refine ⟨_, rfl, by decide, fun p hp => ?_⟩
      have s1 : Same H (upd H p (.tup [.ty "list", .ty "tuple"])) := same_upd hp
      have h1 := s1 _ _ ea
      have px1 := px.same s1
      refine ⟨.ref a, p, _, _, [.type "list", .type "tuple"], _, rfl, upd_same, .cons (.ty _) (.cons (.ty _) .nil), (Thing.tup h1).tyx, kit_seq .tup, true, rfl, ?_⟩
      generalize upd H p (.tup [.ty "list", .ty "tuple"]) = H1 at s1 h1 px1 ⊢
      refine ⟨_, rfl, a, rfl, ⟨_, SqT.of h1⟩, for_tup (K := K) (a := a) (xs := xs) (fun i σ H' => (∃ y, σ = [some (.ref a), y]) ∧ H' = H1) ⟨⟨_, rfl⟩, rfl⟩ (fun i σ H' _ hW => hW.2 ▸ SqT.of h1) (fun i x σ H' hi hW => ?_) (fun σ H' hW => ?_)⟩
      · obtain ⟨⟨y, rfl⟩, rfl⟩ := hW
        obtain ⟨t, r, rfl, hr1, et⟩ := px1.get hi
        refine ⟨_, rfl, .ref t, .tup, rfl, .tup et, pair_flat et, true, by rw [pair_strB et (ok r (List.mem_of_getElem? hr1))], ?_⟩
        exact ⟨⟨_, rfl⟩, rfl⟩
      · obtain ⟨⟨y, rfl⟩, rfl⟩ := hW
        exact ⟨_, rfl, a, xs, pairOf H', rfl, SqT.of h1, fun x m => px1.pair m, last H' xs px1 s1⟩
/-- a comprehension of stretches (n, n + 1) over a list of numbers -/
theorem lc_onesL {σ : L2.St} {H1 : Hp} {D a : Addr} {ns : List Int} {vs : List Nat} {j : Nat} {te : TE} {Qd : Hp → Prop} (ea : H1 a = some (.lst (ns.map V.int))) (hD : H1 D = none) (hw : ∀ v, wipe ((wipe σ vs).set j v) vs = wipe σ vs) (hn : ns.length ≤ 1000)
    (hte : ∀ (k : Int) (H : Hp) (Q : VK), (∀ t, H t = none → Q (.ref t) (upd H t (.tup [.int k, .int (k + 1)]))) → te ((wipe σ vs).set j (some (.int k))) H Q) (hd : ∀ H', Gro H1 H' D (ns.map fun n => (n, n + 1)) → Qd H') :
    ∃ W : Nat → Nat → Hp → Prop, (∃ m, W 0 m (upd H1 D (.lst []))) ∧ ∀ i m H, W i m H →
      ((Itl K a).stop i H ∧ Qd H) ∨ ((Itl K a).go i H ∧ ∃ Nx : Hp → Prop, (∀ H', Nx H' → ∃ m', m' < m ∧ W (i + 1) m' H') ∧ ∀ x H', (Itl K a).yld i H x H' → gName j x (wipe σ vs) H' fun σ2 H2 => wipe σ2 vs = wipe σ vs ∧ tYes σ2 H2 fun b H3 =>
        if b = true then te σ2 H3 fun y H4 => ∃ acc, H4 D = some (.lst acc) ∧ acc.length < sizeLine ∧ Nx (upd H4 D (.lst (acc ++ [y]))) else Nx H3) := by
  refine lc_list (K := K) (a := a) (xs := ns.map V.int) (fun i H' => Gro H1 H' D ((ns.take i).map fun n => (n, n + 1))) (gro_new hD) (fun i H _ hP => SqL.of (hP.old _ _ ea)) ?_ ?_
  · intro i x H hi hP
    rw [List.getElem?_map] at hi
    obtain ⟨n, hn1, rfl⟩ := Option.map_eq_some_iff.mp hi
    refine ⟨hw _, ?_⟩
    refine hte _ _ _ fun t nt => ?_
    obtain ⟨xs, e, p⟩ := hP.at'
    refine ⟨xs, by rw [upd_ne (ne_of_none e nt)]; exact e, ?_, ?_⟩
    · rw [p.len]
      simp only [List.length_map, List.length_take]
      exact Nat.lt_of_le_of_lt (show min i ns.length ≤ 1000 by omega) (by decide)
    · rw [take_snoc hn1, List.map_append]
      exact hP.push e nt
  · intro H hP
    rw [List.length_map, List.take_length] at hP
    exact hd H hP
theorem mem_ones {n : Int} {ns : List Int} : MemR n (ns.map fun n => (n, n + 1)) ↔ n ∈ ns := by
  constructor
  · rintro ⟨r, m, q⟩
    obtain ⟨k, mk, rfl⟩ := List.mem_map.mp m
    have : n = k := by simp only at q; omega
    rw [this]
    exact mk
  · intro m
    exact ⟨(n, n + 1), List.mem_map.mpr ⟨n, m, rfl⟩, by simp only; omega, by simp only; omega⟩
def spRunsBy : Sp := fun vs H Q _ => ∃ (a : Addr) (ns : List Int), vs = [.ref a] ∧ (H a = some (.lst (ns.map V.int)) ∨ H a = some (.tup (ns.map V.int))) ∧ (∀ n ∈ ns, 0 ≤ n ∧ n < 400) ∧ ns.length ≤ 1000 ∧ ∀ c H' ts, Gro H H' c ts → Tidy ts → (∀ n, MemR n ts ↔ n ∈ ns) → Q (.ref c) H'
theorem ok_runsby {f : Addr} {fd : FuncData} (T : Tx mg) (G_is_within : Ok P w K mg base CX0 "is_within" 2 ["thing", "low", "high"] spWithin) (G_tidied : Ok P w K mg base CX0 "tidied" 1 ["stretches"] spTidied) (F : Fun K "runs_by" "runs_by" sruns_by f fd) : FnOk P w K mg base CX0 3 f fd ["numbers"] spRunsBy := by
  refine F.ok scruns_by (fun vs H Q E h => ?_) (fun cdv A outer s H vs Q E hr h => ?_)
  · obtain ⟨a, rs, rfl, _⟩ := h
    rfl
  · obtain ⟨a, ns, rfl, hh, ok, hlen, q⟩ := h
    obtain ⟨tM, c_MOST⟩ := T.c_MOST
    have last : ∀ (H1 : Hp), Same H H1 → ∀ (ns' : List Int) (D : Addr) (H2 : Hp), ns'.Perm ns → ns'.Pairwise (· ≤ ·) → Gro H1 H2 D (ns'.map fun n => (n, n + 1)) → spTidied [.ref D] H2 Q E0 := by
      intro H1 s1 ns' D H2 hp srt g
      refine ⟨D, _, rfl, g.at', List.pairwise_map.mpr (srt.imp fun {x y} h => h), fun r m => ?_, by rw [List.length_map, hp.length_eq]; exact hlen, fun c H' ts g' td hm => ?_⟩
      · obtain ⟨n, mn, rfl⟩ := List.mem_map.mp m
        have := ok n (hp.mem_iff.mp mn)
        unfold Okr
        simp only
        omega
      · refine q c H' ts (g'.back (s1.trans g.old)) td fun n => ?_
        rw [hm n, mem_ones, hp.mem_iff]
    rcases hh with ea | ea
    · refine ⟨_, (pss_cons (ps_if (pt_not (pt_val (pe_callB call_isiT (by rfl) T.b_isinstance PyProof.Rows.boot_isinstance (pa_cons (pv 0) (pa_cons (pe_tup (pa_cons (pe_bltn (v := .ty "list") (by rfl) T.b_list PyProof.Rows.boot_list rfl) (pa_cons (pe_bltn (v := .ty "tuple") (by rfl) T.b_tuple PyProof.Rows.boot_tuple rfl) pa_nil))) pa_nil))))) (pss_one ps_never) pss_nil)
      (pss_cons (ps_for PassesOwn.never rfl (pi_list (pv 0)) (pg_name (i := 1) scruns_by.nd rfl (.inl rfl)) (pss_one (ps_if (pt_not (pt_val (pe_callO G_is_within (hr.mono (by decide)) (by rfl) pass0 (pa_cons (pv 1) (pa_cons pe_int (pa_cons (pe_op op_sub (pe_glob (v := .int 400) (by rfl) c_MOST ⟨_, rfl⟩) pe_int) pa_nil)))))) (pss_one ps_never) pss_nil)))
      (pss_one (ps_ret (pe_callO G_tidied (hr.mono (by decide)) (by rfl) pass0 (pa_cons (pe_lc (own := [("number", 1)]) (g := gName 1) (tt := tYes) rfl scruns_by.nd (pi_list (pe_callB cr_sortedI (by rfl) T.b_sorted PyProof.Rows.boot_sorted (pa_cons (pv 0) pa_nil))) (blkOk_by (own := [("number", 1)]) (N := ["numbers", "number"]) (sc := defScope sruns_by) (by decide +kernel)) (fun _ _ _ _ _ => pg_name (i := 1) scruns_by.nd rfl (Or.inl rfl)) (fun _ _ _ _ _ => pts_nil) (fun _ _ _ _ _ => (pe_tup (pa_cons (pv 1) (pa_cons (pe_op op_add (pv 1) pe_int) pa_nil))))) pa_nil)))))), ?_⟩
      refine ⟨_, rfl, by decide, fun p hp => ?_⟩
      have s1 : Same H (upd H p (.tup [.ty "list", .ty "tuple"])) := same_upd hp
      have h1 := s1 _ _ ea
      refine ⟨.ref a, p, _, _, [.type "list", .type "tuple"], _, rfl, upd_same, .cons (.ty _) (.cons (.ty _) .nil), (Thing.lst h1).tyx, kit_seq .lst, true, rfl, ?_⟩
      generalize upd H p (.tup [.ty "list", .ty "tuple"]) = H1 at s1 h1 ⊢
      refine ⟨_, rfl, a, rfl, ⟨_, SqL.of h1⟩, for_list (K := K) (a := a) (xs := ns.map V.int) (fun i σ H' => (∃ y, σ = [some (.ref a), y]) ∧ H' = H1) ⟨⟨_, rfl⟩, rfl⟩ (fun i σ H' _ hW => hW.2 ▸ SqL.of h1) (fun i x σ H' hi hW => ?_) (fun σ H' hW => ?_)⟩
      · obtain ⟨⟨y, rfl⟩, rfl⟩ := hW
        rw [List.getElem?_map] at hi
        obtain ⟨n, hn1, rfl⟩ := Option.map_eq_some_iff.mp hi
        have on := ok n (List.mem_of_getElem? hn1)
        refine ⟨_, rfl, _, _, rfl, rfl, .int n, .int, 0, 400 - 1, rfl, .int n, true, by simp only [wi]; rw [decide_eq_true (by omega)], ?_⟩
        exact ⟨⟨_, rfl⟩, rfl⟩
      · obtain ⟨⟨y, rfl⟩, rfl⟩ := hW
        refine ⟨_, rfl, a, ns, rfl, SqL.of h1, fun ns' u perm srt nu => ⟨u, rfl, ⟨_, SqL.of upd_same⟩, fun D hD => ?_⟩⟩
        exact lc_onesL (ns := ns') upd_same hD (fun _ => rfl) (by rw [perm.length_eq]; exact hlen) (fun k H2 Q' q' => ⟨_, rfl, _, rfl, _, _, rfl, rfl, (by show 2 ≤ sizeLine; decide), q'⟩) (fun H2 g => last _ (s1.trans (same_upd nu)) ns' D H2 perm srt g)
    · refine ⟨_, (pss_cons (ps_if (pt_not (pt_val (pe_callB call_isiT (by rfl) T.b_isinstance PyProof.Rows.boot_isinstance (pa_cons (pv 0) (pa_cons (pe_tup (pa_cons (pe_bltn (v := .ty "list") (by rfl) T.b_list PyProof.Rows.boot_list rfl) (pa_cons (pe_bltn (v := .ty "tuple") (by rfl) T.b_tuple PyProof.Rows.boot_tuple rfl) pa_nil))) pa_nil))))) (pss_one ps_never) pss_nil)
      (pss_cons (ps_for PassesOwn.never rfl (pi_tup (pv 0)) (pg_name (i := 1) scruns_by.nd rfl (.inl rfl)) (pss_one (ps_if (pt_not (pt_val (pe_callO G_is_within (hr.mono (by decide)) (by rfl) pass0 (pa_cons (pv 1) (pa_cons pe_int (pa_cons (pe_op op_sub (pe_glob (v := .int 400) (by rfl) c_MOST ⟨_, rfl⟩) pe_int) pa_nil)))))) (pss_one ps_never) pss_nil)))
      (pss_one (ps_ret (pe_callO G_tidied (hr.mono (by decide)) (by rfl) pass0 (pa_cons (pe_lc (own := [("number", 1)]) (g := gName 1) (tt := tYes) rfl scruns_by.nd (pi_list (pe_callB cr_sortedTI (by rfl) T.b_sorted PyProof.Rows.boot_sorted (pa_cons (pv 0) pa_nil))) (blkOk_by (own := [("number", 1)]) (N := ["numbers", "number"]) (sc := defScope sruns_by) (by decide +kernel)) (fun _ _ _ _ _ => pg_name (i := 1) scruns_by.nd rfl (Or.inl rfl)) (fun _ _ _ _ _ => pts_nil) (fun _ _ _ _ _ => (pe_tup (pa_cons (pv 1) (pa_cons (pe_op op_add (pv 1) pe_int) pa_nil))))) pa_nil)))))), ?_⟩
      refine ⟨_, rfl, by decide, fun p hp => ?_⟩
      have s1 : Same H (upd H p (.tup [.ty "list", .ty "tuple"])) := same_upd hp
      have h1 := s1 _ _ ea
      refine ⟨.ref a, p, _, _, [.type "list", .type "tuple"], _, rfl, upd_same, .cons (.ty _) (.cons (.ty _) .nil), (Thing.tup h1).tyx, kit_seq .tup, true, rfl, ?_⟩
      generalize upd H p (.tup [.ty "list", .ty "tuple"]) = H1 at s1 h1 ⊢
      refine ⟨_, rfl, a, rfl, ⟨_, SqT.of h1⟩, for_tup (K := K) (a := a) (xs := ns.map V.int) (fun i σ H' => (∃ y, σ = [some (.ref a), y]) ∧ H' = H1) ⟨⟨_, rfl⟩, rfl⟩ (fun i σ H' _ hW => hW.2 ▸ SqT.of h1) (fun i x σ H' hi hW => ?_) (fun σ H' hW => ?_)⟩
      · obtain ⟨⟨y, rfl⟩, rfl⟩ := hW
        rw [List.getElem?_map] at hi
        obtain ⟨n, hn1, rfl⟩ := Option.map_eq_some_iff.mp hi
        have on := ok n (List.mem_of_getElem? hn1)
        refine ⟨_, rfl, _, _, rfl, rfl, .int n, .int, 0, 400 - 1, rfl, .int n, true, by simp only [wi]; rw [decide_eq_true (by omega)], ?_⟩
        exact ⟨⟨_, rfl⟩, rfl⟩
      · obtain ⟨⟨y, rfl⟩, rfl⟩ := hW
        refine ⟨_, rfl, a, ns, rfl, SqT.of h1, fun ns' u perm srt nu => ⟨u, rfl, ⟨_, SqL.of upd_same⟩, fun D hD => ?_⟩⟩
        exact lc_onesL (ns := ns') upd_same hD (fun _ => rfl) (by rw [perm.length_eq]; exact hlen) (fun k H2 Q' q' => ⟨_, rfl, _, rfl, _, _, rfl, rfl, (by show 2 ≤ sizeLine; decide), q'⟩) (fun H2 g => last _ (s1.trans (same_upd nu)) ns' D H2 perm srt g)
/-! ### how_many, numbers_in, has_number -/
/-- a comprehension over the stretches of a row -/
theorem lc_overR {σ : L2.St} {H1 : Hp} {D a : Addr} {rs : Prs} {vs : List Nat} {i1 i2 : Nat} {te : TE} {f : Int × Int → V} {Qd : Hp → Prop} (ra : RunsAt H1 a rs) (hD : H1 D = none) (hw : ∀ v u, wipe (((wipe σ vs).set i1 v).set i2 u) vs = wipe σ vs) (hn : rs.length ≤ 1000)
    (hte : ∀ (r : Int × Int) (H : Hp) (Q : VK), Q (f r) H → te (((wipe σ vs).set i1 (some (.int r.1))).set i2 (some (.int r.2))) H Q) (hd : ∀ H', Same H1 H' → H' D = some (.lst (rs.map f)) → Qd H') :
    ∃ W : Nat → Nat → Hp → Prop, (∃ m, W 0 m (upd H1 D (.lst []))) ∧ ∀ i m H, W i m H →
      ((Itl K a).stop i H ∧ Qd H) ∨ ((Itl K a).go i H ∧ ∃ Nx : Hp → Prop, (∀ H', Nx H' → ∃ m', m' < m ∧ W (i + 1) m' H') ∧ ∀ x H', (Itl K a).yld i H x H' → gTup K 2 (gCons (gName i1) (gCons (gName i2) gNil)) x (wipe σ vs) H' fun σ2 H2 => wipe σ2 vs = wipe σ vs ∧ tYes σ2 H2 fun b H3 =>
        if b = true then te σ2 H3 fun y H4 => ∃ acc, H4 D = some (.lst acc) ∧ acc.length < sizeLine ∧ Nx (upd H4 D (.lst (acc ++ [y]))) else Nx H3) := by
  obtain ⟨xs, ea, px⟩ := ra
  refine lc_list (K := K) (a := a) (xs := xs) (fun i H' => Same H1 H' ∧ H' D = some (.lst ((rs.take i).map f))) ⟨Same.wr (Same.refl _) hD, upd_same⟩ (fun i H _ hP => SqL.of (hP.1 _ _ ea)) ?_ ?_
  · intro i x H hi hP
    obtain ⟨s, h⟩ := hP
    obtain ⟨t, r, rfl, hr1, et⟩ := px.get hi
    refine ⟨t, _, rfl, SqT.of (s _ _ et), rfl, _, _, rfl, _, _, rfl, rfl, hw _ _, ?_⟩
    refine hte _ _ _ ⟨_, h, ?_, Same.wr s hD, ?_⟩
    · simp only [List.length_map, List.length_take]
      exact Nat.lt_of_le_of_lt (show min i rs.length ≤ 1000 by omega) (by decide)
    · rw [upd_same, take_snoc hr1, List.map_append]
      rfl
  · intro H hP
    rw [px.len, List.take_length] at hP
    exact hd H hP.1 hP.2
def spHowMany : Sp := fun vs H Q _ => ∃ (a : Addr) (rs : Prs), vs = [.ref a] ∧ RunsAt H a rs ∧ Tidy rs ∧ ∀ H', Same H H' → Q (.int (numsOf rs).length) H'
theorem ok_howmany {f : Addr} {fd : FuncData} (T : Tx mg) (G_need_runs : Ok P w K mg base CX0 "need_runs" 4 ["thing"] spNeed) (F : Fun K "how_many" "how_many" show_many f fd) : FnOk P w K mg base CX0 5 f fd ["runs"] spHowMany := by
  refine F.ok schow_many (fun vs H Q E h => ?_) (fun cdv A outer s H vs Q E hr h => ?_)
  · obtain ⟨a, rs, rfl, _⟩ := h
    rfl
  · obtain ⟨a, rs, rfl, ra, td, q⟩ := h
    refine ⟨_, (pss_one (ps_ret (pe_callB (cr_sum rfl) (by rfl) T.b_sum PyProof.Rows.boot_sum (pa_cons (pe_lc (own := [("begin", 1), ("end", 2)]) (g := gTup K 2 (gCons (gName 1) (gCons (gName 2) gNil))) (tt := tYes) rfl schow_many.nd (pi_list (pe_callO G_need_runs (hr.mono (by decide)) (by rfl) pass0 (pa_cons (pv 0) pa_nil))) (blkOk_by (own := [("begin", 1), ("end", 2)]) (N := ["runs", "begin", "end"]) (sc := defScope show_many) (by decide +kernel)) (fun _ _ _ _ _ => (pg_tupK (K := K) (n := 2) rfl rfl (pgs_cons (pg_name (i := 1) schow_many.nd rfl (.inl rfl)) (pgs_cons (pg_name (i := 2) schow_many.nd rfl (.inl rfl)) pgs_nil)))) (fun _ _ _ _ _ => pts_nil) (fun _ _ _ _ _ => (pe_op op_sub (pv 2) (pv 1)))) pa_nil)))), ?_⟩
    have hl := td.len
    refine ⟨_, rfl, a, rs, rfl, ra, td, a, rfl, (by obtain ⟨xs, e, _⟩ := ra; exact ⟨xs, SqL.of e⟩), fun D hD => lc_overR (i1 := 1) (i2 := 2) (f := fun r => .int (r.2 - r.1)) ra hD (fun _ _ => rfl) (by omega) (fun r H2 Q' q' => ⟨_, rfl, _, rfl, _, _, rfl, rfl, q'⟩) (fun H2 s2 e2 => ?_)⟩
    refine ⟨D, rs.map fun r => r.2 - r.1, rfl, SqL.of (by rw [e2, List.map_map]; rfl), ?_⟩
    rw [nums_len td.2]
    exact q H2 s2
def spNumbersIn : Sp := fun vs H Q _ => ∃ (a : Addr) (rs : Prs), vs = [.ref a] ∧ RunsAt H a rs ∧ Tidy rs ∧ ∀ c H', H c = none → Same H H' → H' c = some (.lst ((numsOf rs).map V.int)) → Q (.ref c) H'
theorem ok_numbersin {f : Addr} {fd : FuncData} (T : Tx mg) (G_need_runs : Ok P w K mg base CX0 "need_runs" 4 ["thing"] spNeed) (F : Fun K "numbers_in" "numbers_in" snumbers_in f fd) : FnOk P w K mg base CX0 5 f fd ["runs"] spNumbersIn := by
  refine F.ok scnumbers_in (fun vs H Q E h => ?_) (fun cdv A outer s H vs Q E hr h => ?_)
  · obtain ⟨a, rs, rfl, _⟩ := h
    rfl
  · obtain ⟨a, rs, rfl, ra, td, q⟩ := h
    refine ⟨_, (pss_cons (ps_set (i := 1) scnumbers_in.nd rfl (.inl rfl) (pe_lst pa_nil))
      (pss_cons (ps_for PassesOwn.never rfl (pi_list (pe_callO G_need_runs (hr.mono (by decide)) (by rfl) pass0 (pa_cons (pv 0) pa_nil))) (pg_tup rfl (pgs_cons (pg_name (i := 2) scnumbers_in.nd rfl (.inl rfl)) (pgs_cons (pg_name (i := 3) scnumbers_in.nd rfl (.inl rfl)) pgs_nil))) (pss_one (ps_expr (pe_bm PySem.F.plainAttrs_list PySem.F.slot_list_extend PySem.F.type_list_extend mt_extend (pv 1) (pa_cons (pe_listR rfl (by rfl) T.b_list (by rfl) T.b_range (pa_cons (pv 2) (pa_cons (pv 3) pa_nil))) pa_nil)))))
      (pss_one (ps_ret (pv 1))))), ?_⟩
    refine ⟨(by show 0 ≤ sizeLine; decide), fun c nc => ?_⟩
    have s0 := same_upd nc (o := .lst [])
    refine ⟨_, rfl, a, rs, rfl, ra.same s0, td, ?_⟩
    obtain ⟨xs, ea, px⟩ := ra
    have hl := td.len
    refine ⟨a, rfl, ⟨_, SqL.of (s0 _ _ ea)⟩, for_list (K := K) (a := a) (xs := xs) (fun i σ H' => (∃ y2 y3, σ = [some (.ref a), some (.ref c), y2, y3]) ∧ Same H H' ∧ H' c = some (.lst ((numsOf (rs.take i)).map V.int))) ⟨⟨_, _, rfl⟩, s0, upd_same⟩ (fun i σ H' _ hW => SqL.of (hW.2.1 _ _ ea)) (fun i x σ H' hi hW => ?_) (fun σ H' hW => ?_)⟩
    · obtain ⟨⟨y2, y3, rfl⟩, s1, ec⟩ := hW
      obtain ⟨t, r, rfl, hr1, et⟩ := px.get hi
      have okr := td.2 r (List.mem_of_getElem? hr1)
      unfold Okr at okr
      refine ⟨t, _, rfl, SqT.of (s1 _ _ et), rfl, _, _, rfl, _, _, rfl, rfl, ?_⟩
      refine ⟨_, rfl, .inl ⟨rfl, _, SqL.of ec⟩, _, rfl, _, rfl, r.1, 1, (r.2 - r.1).toNat, .inr (.inl ⟨r.2, rfl, rfl, by omega, by omega, by omega, by omega, rfl⟩), by omega, fun p np => ?_⟩
      have ecp : c ≠ p := ne_of_none ec np
      refine ⟨c, p, _, _, rfl, rfl, (by rw [upd_ne ecp]; exact ec), upd_same, ?_, ?_⟩
      · rw [rgL_rng1, List.length_map, List.length_map]
        have tt : Tidy (rs.take (i + 1)) := ⟨td.1.take, fun r m => td.2 r (List.mem_of_mem_take m)⟩
        have := nums_le tt
        rw [take_snoc hr1, numsOf_append, numsOf_one, List.length_append] at this
        exact Nat.le_trans this (by decide)
      · refine ⟨⟨_, _, rfl⟩, Same.wr (s1.trans (same_upd np)) nc, ?_⟩
        rw [upd_same, rgL_rng1, take_snoc hr1, numsOf_append, numsOf_one, List.map_append]
    · obtain ⟨⟨y2, y3, rfl⟩, s1, ec⟩ := hW
      rw [px.len, List.take_length] at ec
      exact ⟨_, rfl, q c H' nc s1 ec⟩
def hasB (x : V) (rs : Prs) : Bool := match x with | .int n => decide (n ∈ numsOf rs) | _ => false
def spHas : Sp := fun vs H Q _ => ∃ (a : Addr) (rs : Prs) (x : V) (k : Kd), vs = [.ref a, x] ∧ RunsAt H a rs ∧ Tidy rs ∧ Thing H x k ∧ ∀ H', Same H H' → Q (.bl (hasB x rs)) H'
theorem ok_has {f : Addr} {fd : FuncData} (T : Tx mg) (G_is_whole : Ok P w K mg base CX0 "is_whole" 1 ["thing"] spWhole) (G_need_runs : Ok P w K mg base CX0 "need_runs" 4 ["thing"] spNeed) (F : Fun K "has_number" "has_number" shas_number f fd) : FnOk P w K mg base CX0 5 f fd ["runs", "thing"] spHas := by
  refine F.ok schas_number (fun vs H Q E h => ?_) (fun cdv A outer s H vs Q E hr h => ?_)
  · obtain ⟨a, rs, x, k, rfl, _⟩ := h
    rfl
  · obtain ⟨a, rs, x, k, rfl, ra, td, t, q⟩ := h
    refine ⟨_, (pss_cons (ps_expr (pe_callO G_need_runs (hr.mono (by decide)) (by rfl) pass0 (pa_cons (pv 0) pa_nil)))
      (pss_cons (ps_if (pt_not (pt_val (pe_callO G_is_whole (hr.mono (by decide)) (by rfl) pass0 (pa_cons (pv 1) pa_nil)))) (pss_one (ps_ret pe_bl)) pss_nil)
      (pss_one (ps_ret (pe_callB (cr_any rfl) (by rfl) T.b_any PyProof.Rows.boot_any (pa_cons (pe_lc (own := [("begin", 2), ("end", 3)]) (g := gTup K 2 (gCons (gName 2) (gCons (gName 3) gNil))) (tt := tYes) rfl schas_number.nd (pi_list (pv 0)) (blkOk_by (own := [("begin", 2), ("end", 3)]) (N := ["runs", "thing", "begin", "end"]) (sc := defScope shas_number) (by decide +kernel)) (fun _ _ _ _ _ => (pg_tupK (K := K) (n := 2) rfl rfl (pgs_cons (pg_name (i := 2) schas_number.nd rfl (.inl rfl)) (pgs_cons (pg_name (i := 3) schas_number.nd rfl (.inl rfl)) pgs_nil)))) (fun _ _ _ _ _ => pts_nil) (fun _ _ _ _ _ => (pe_chain op_le op_lt (pv 2) (pv 1) (pv 3)))) pa_nil)))))), ?_⟩
    have hl := td.len
    refine ⟨_, rfl, a, rs, rfl, ra, td, _, rfl, x, k, rfl, t, _, rfl, ?_⟩
    cases hx : isI x with
    | false =>
      have e : hasB x rs = false := by cases x <;> first | rfl | cases hx
      have := q H (Same.refl _)
      rw [e] at this
      exact this
    | true =>
      obtain ⟨n, rfl⟩ : ∃ n, x = V.int n := by
        cases x <;> first | exact ⟨_, rfl⟩ | cases hx
      refine ⟨_, rfl, a, rfl, (by obtain ⟨xs, e, _⟩ := ra; exact ⟨xs, SqL.of e⟩), fun D hD => lc_overR (i1 := 2) (i2 := 3) (f := fun r => .bl (decide (r.1 ≤ n ∧ n < r.2))) ra hD (fun _ _ => rfl) (by omega) (fun r H2 Q' q' => ?_) (fun H2 s2 e2 => ?_)⟩
      · refine ⟨_, rfl, _, rfl, _, _, rfl, rfl, _, rfl, ite2 (fun e => ?_) (fun e => ?_)⟩
        · refine ⟨_, rfl, _, _, rfl, rfl, ?_⟩
          have e' : r.1 ≤ n := of_decide_eq_true e
          have e2 : decide (r.1 ≤ n ∧ n < r.2) = decide (n < r.2) := by
            rw [decide_eq_decide]
            exact ⟨fun z => z.2, fun z => ⟨e', z⟩⟩
          rw [e2] at q'
          exact q'
        · have e2 : decide (r.1 ≤ n ∧ n < r.2) = false := decide_eq_false fun z => e (decide_eq_true z.1)
          rw [e2] at q'
          exact q'
      · refine ⟨D, rs.map fun r => decide (r.1 ≤ n ∧ n < r.2), rfl, SqL.of (by rw [e2, List.map_map]; rfl), ?_⟩
        have e3 : ((rs.map fun r => decide (r.1 ≤ n ∧ n < r.2)).any id) = hasB (.int n) rs := by
          rw [Bool.eq_iff_iff]
          simp only [hasB, decide_eq_true_eq, mem_numsOf, List.any_map, List.any_eq_true, Function.comp, id]
          rfl
        rw [e3]
        exact q H2 s2

/-! ### the law's draws -/
def spCell (K : PySem.W.Frag) : Sp := fun vs H Q _ => ∃ (a : Addr) (ns : List Int) (k : Nat), vs = [.ref a, .int k] ∧ SqL K H a (ns.map V.int) ∧ ∀ c : Int, Q (.int c) H
theorem ok_cell {f : Addr} {fd : FuncData} (T : Tx mg) (F : Fun K "_law_cell_at" "_law_cell_at" s_law_cell_at f fd) : FnOk P w K mg base CX0 1 f fd ["_law_script", "_law_k"] (spCell K) := by
  refine F.ok sc_law_cell_at (fun vs H Q E h => ?_) (fun cdv A outer s H vs Q E hr h => ?_)
  · obtain ⟨a, ns, k, rfl, _⟩ := h
    rfl
  · obtain ⟨a, ns, k, rfl, ha, q⟩ := h
    refine ⟨_, (pss_cons (ps_if (pt_cmpR op_lt (pv 1) (pe_callB call_len_seq (by rfl) T.b_len PySem.boot_len (pa_cons (pv 0) pa_nil)) (nomark _)) (pss_one (ps_ret (pe_ix ix_list (pv 0) (pv 1) (fun _ _ => rfl)))) pss_nil)
      (pss_one (ps_ret (pe_op op_add (pe_op op_mul pe_int (pv 1)) pe_int)))), ?_⟩
    refine ⟨_, rfl, _, rfl, a, _, rfl, .inl ha, _, _, rfl, rfl, _, rfl, ite2 (fun e => ?_) (fun e => ?_)⟩
    · have e2 : (k : Int) < ((ns.map V.int).length : Int) := of_decide_eq_true e
      rw [List.length_map] at e2
      have e3 : k < ns.length := by omega
      refine ⟨_, rfl, _, rfl, a, _, k, .int ns[k], rfl, rfl, ha, atI_nat (j := k) ?_, q _⟩
      rw [List.getElem?_map, List.getElem?_eq_getElem e3]
      rfl
    · exact ⟨_, rfl, _, _, rfl, rfl, .inl ⟨by decide, by decide⟩, _, _, rfl, rfl, q _⟩
def spBox : Sp := fun vs H Q _ => ∃ c : Int, vs = [.int c] ∧ ∀ b H', H b = none → Box H' b → Same H H' → Q (.ref b) H'
theorem ok_box {f : Addr} {fd : FuncData} (T : Tx mg) (F : Fun K "_law_box" "_law_box" s_law_box f fd) : FnOk P w K mg base CX0 1 f fd ["_law_cell"] spBox := by
  refine F.ok sc_law_box (fun vs H Q E h => ?_) (fun cdv A outer s H vs Q E hr h => ?_)
  · obtain ⟨c, rfl, _⟩ := h
    rfl
  · obtain ⟨c, rfl, q⟩ := h
    refine ⟨_, (pss_cons (ps_if (pt_cmpR op_ge (pv 0) (pe_op op_pow pe_int pe_int) (nomark _)) (pss_one (ps_ret (pe_lst (pa_cons (pv 0) (pa_cons (pe_op op_mod (pv 0) pe_int) (pa_cons pe_int pa_nil)))))) pss_nil)
      (pss_one (ps_ret (pe_lst (pa_cons pe_int (pa_cons (pe_op op_mod (pv 0) pe_int) (pa_cons pe_int pa_nil))))))), ?_⟩
    refine ⟨_, rfl, _, _, rfl, rfl, ⟨by decide, by decide, by decide⟩, _, _, rfl, rfl, _, rfl, ite2 (fun e => ?_) (fun e => ?_)⟩
    · refine ⟨_, rfl, _, rfl, _, _, rfl, rfl, (by show (0 : Int) < 2147483629; decide), (by show 3 ≤ sizeLine; decide), fun p hp => ?_⟩
      exact q p _ hp ⟨_, _, _, upd_same⟩ (same_upd hp)
    · refine ⟨_, rfl, _, _, rfl, rfl, (by show (0 : Int) < 2147483629; decide), (by show 3 ≤ sizeLine; decide), fun p hp => ?_⟩
      exact q p _ hp ⟨_, _, _, upd_same⟩ (same_upd hp)
def spTake : Sp := fun vs H Q _ => ∃ (b : Addr) (m : Int), vs = [.ref b, .int m] ∧ Box H b ∧ 0 < m ∧ m ≤ 4294967296 ∧ ∀ r H', 0 ≤ r → r < m → Keep b H H' → Q (.int r) H'
theorem ok_take {f : Addr} {fd : FuncData} (T : Tx mg) (F : Fun K "_law_take" "_law_take" s_law_take f fd) : FnOk P w K mg base CX0 1 f fd ["_law_box_here", "_law_many"] spTake := by
  refine F.ok sc_law_take (fun vs H Q E h => ?_) (fun cdv A outer s H vs Q E hr h => ?_)
  · obtain ⟨b, m, rfl, _⟩ := h
    rfl
  · obtain ⟨b, m, rfl, ⟨d, x, c, hb⟩, h0, h1, q⟩ := h
    have hdW : CDivW d m := wide_div (b := 33) h0 (by have : m.natAbs ≤ 4294967296 := by omega
                                                      exact Nat.lt_of_le_of_lt this (by decide)) (by decide) (by decide)
    refine ⟨_, (pss_cons (ps_if (pt_cmpR op_gt (pe_ix ix_list (pv 0) pe_int (fun _ _ => rfl)) pe_int (nomark _)) (pss_cons (ps_set (i := 2) sc_law_take.nd rfl (.inl rfl) (pe_op op_mod (pe_ix ix_list (pv 0) pe_int (fun _ _ => rfl)) (pv 1)))
      (pss_cons (ps_asg (pe_op op_fdivW (pe_ix ix_list (pv 0) pe_int (fun _ _ => rfl)) (pv 1)) (pg_sub (pv 0) pe_int set_list))
      (pss_one (ps_ret (pv 2))))) pss_nil)
      (pss_cons (ps_asg (pe_op op_add (pe_ix ix_list (pv 0) pe_int (fun _ _ => rfl)) pe_int) (pg_sub (pv 0) pe_int set_list))
      (pss_cons (ps_set (i := 2) sc_law_take.nd rfl (.inl rfl) (pe_op op_mod (pe_op op_add (pe_op op_add (pe_op op_mul (pe_ix ix_list (pv 0) pe_int (fun _ _ => rfl)) pe_int) (pe_op op_mul pe_int (pe_ix ix_list (pv 0) pe_int (fun _ _ => rfl)))) pe_int) pe_int))
      (pss_cons (ps_set (i := 2) sc_law_take.nd rfl (.inl rfl) (pe_op op_mod (pe_op op_add (pe_op op_add (pe_op op_mul (pv 2) (pv 2)) (pe_op op_mul pe_int (pe_ix ix_list (pv 0) pe_int (fun _ _ => rfl)))) pe_int) pe_int))
      (pss_one (ps_ret (pe_op op_mod (pe_op op_mod (pe_op op_mul (pv 2) (pv 2)) pe_int) (pv 1)))))))), ?_⟩
    refine ⟨_, rfl, b, _, 0, .int d, rfl, rfl, SqL.of hb, atI_nat (j := 0) rfl, _, _, rfl, rfl, _, rfl, ite2 (fun e => ?_) (fun e => ?_)⟩
    · refine ⟨_, rfl, b, _, 0, .int d, rfl, rfl, SqL.of hb, atI_nat (j := 0) rfl, _, rfl, _, _, rfl, rfl, h0, ?_⟩
      refine ⟨_, rfl, b, _, 0, .int d, rfl, rfl, SqL.of hb, atI_nat (j := 0) rfl, _, rfl, _, _, rfl, rfl, hdW, ?_⟩
      refine ⟨_, rfl, b, _, 0, 0, rfl, rfl, hb, rfl, _, rfl, ?_⟩
      refine q _ _ (Int.emod_nonneg _ (by omega)) (Int.emod_lt_of_pos _ h0) ⟨⟨_, _, _, upd_same⟩, fun a o na e => ?_⟩
      rw [upd_ne na]
      exact e
    · refine ⟨_, rfl, b, _, 2, .int c, rfl, rfl, SqL.of hb, atI_nat (j := 2) rfl, _, _, rfl, rfl, ?_⟩
      refine ⟨_, rfl, b, _, 2, 2, rfl, rfl, hb, rfl, ?_⟩
      have hb2 : (upd H b (.lst [.int d, .int x, .int (c + 1)])) b = some (.lst [.int d, .int x, .int (c + 1)]) := upd_same
      refine ⟨_, rfl, b, _, 1, .int x, rfl, rfl, SqL.of hb2, atI_nat (j := 1) rfl, _, _, rfl, rfl, .inr ⟨by decide, by decide⟩, ?_⟩
      refine ⟨_, rfl, b, _, 2, .int (c + 1), rfl, rfl, SqL.of hb2, atI_nat (j := 2) rfl, _, _, rfl, rfl, .inl ⟨by decide, by decide⟩, _, _, rfl, rfl, _, _, rfl, rfl, _, _, rfl, rfl, (by show (0 : Int) < 2147483647; decide), ?_⟩
      generalize hu : (x * 48271 + 7919 * (c + 1) + 101) % 2147483647 = u
      have u0 : 0 ≤ u ∧ u < 2147483647 := by omega
      refine ⟨_, rfl, _, rfl, _, _, rfl, rfl, .inr ⟨by omega, by omega⟩, _, rfl, b, _, 2, .int (c + 1), rfl, rfl, SqL.of hb2, atI_nat (j := 2) rfl, _, _, rfl, rfl, .inl ⟨by decide, by decide⟩, _, _, rfl, rfl, _, _, rfl, rfl, _, _, rfl, rfl, (by show (0 : Int) < 2147483629; decide), ?_⟩
      generalize hv : (u * u + 104729 * (c + 1) + 7) % 2147483629 = v
      have v0 : 0 ≤ v ∧ v < 2147483629 := by
        rw [← hv]
        exact ⟨Int.emod_nonneg _ (by decide), Int.emod_lt_of_pos _ (by decide)⟩
      refine ⟨_, rfl, _, rfl, _, _, rfl, rfl, .inr ⟨by omega, by omega⟩, _, _, rfl, rfl, (by show (0 : Int) < 2147483587; decide), _, rfl, _, _, rfl, rfl, h0, ?_⟩
      refine q _ _ (Int.emod_nonneg _ (by omega)) (Int.emod_lt_of_pos _ h0) ⟨⟨_, _, _, upd_same⟩, fun a o na e => ?_⟩
      rw [upd_ne na]
      exact e
theorem pick {xs : List Int} {r : Int} (h0 : 0 ≤ r) (h1 : r < xs.length) : ∃ v, v ∈ xs ∧ atI (xs.map V.int) r = some (.int v) := by
  obtain ⟨n, rfl⟩ := Int.eq_ofNat_of_zero_le h0
  have hl : n < xs.length := by omega
  refine ⟨xs[n], List.getElem_mem hl, atI_nat (j := n) ?_⟩
  rw [List.getElem?_map, List.getElem?_eq_getElem hl]
  rfl
theorem pickA {α : Type} {xs : List α} {r : Int} (h0 : 0 ≤ r) (h1 : r < xs.length) : ∃ v, v ∈ xs ∧ atI xs r = some v := by
  obtain ⟨n, rfl⟩ := Int.eq_ofNat_of_zero_le h0
  have hl : n < xs.length := by omega
  exact ⟨xs[n], List.getElem_mem hl, atI_nat (j := n) (List.getElem?_eq_getElem hl)⟩
theorem len_small {n : Nat} (h : n ≤ 1000) : n ≤ sizeLine := Nat.le_of_lt (small1000 h)

/-! ### the law's own rows: marks, number by number -/
def On (bs : List Bool) (n : Int) : Prop := 0 ≤ n ∧ bs[n.toNat]? = some true
theorem on_set {bs : List Bool} {k : Nat} (h : k < bs.length) (n : Int) : On (bs.set k true) n ↔ On bs n ∨ n = k := by
  unfold On
  by_cases e : n = k
  · subst e
    simp [h]
  · by_cases h0 : 0 ≤ n
    · have : k ≠ n.toNat := by omega
      simp [e, List.getElem?_set_ne this]
    · simp [h0, e]
theorem on_none {n : Int} : ¬ On (List.replicate 400 false) n := by
  rintro ⟨_, h⟩
  rw [List.getElem?_replicate] at h
  split at h <;> cases h
theorem on_map {f : Nat → Bool} {m : Nat} {n : Int} : On ((List.range m).map f) n ↔ 0 ≤ n ∧ n < m ∧ f n.toNat = true := by
  unfold On
  by_cases h0 : 0 ≤ n
  · by_cases h : n.toNat < m
    · rw [List.getElem?_map, List.getElem?_range h]
      simp
      omega
    · rw [List.getElem?_eq_none (by simp; omega)]
      simp
      omega
  · simp [h0]
theorem RunsAt.gro {H : Hp} {a : Addr} {rs : Prs} (h : RunsAt H a rs) : Gro (fun _ => none) H a rs := ⟨rfl, fun _ _ e => by (cases e), h⟩
theorem RunsAt.push {H : Hp} {a p : Addr} {rs : Prs} {xs : List V} {b e : Int} (h : RunsAt H a rs) (ha : H a = some (.lst xs)) (np : H p = none) : RunsAt (upd (upd H p (.tup [.int b, .int e])) a (.lst (xs ++ [.ref p]))) a (rs ++ [(b, e)]) := (h.gro.push ha np).at'
theorem runs_new {H : Hp} {a : Addr} : RunsAt (upd H a (.lst [])) a [] := ⟨[], upd_same, .nil⟩
theorem Keep.push {H H' : Hp} {a b p : Addr} {o o' : HO} (k : Keep b H H') (n : H a = none) (na : a ≠ b) (np : H' p = none) : Keep b H (upd (upd H' p o) a o') := by
  constructor
  · obtain ⟨d, m, c, e⟩ := k.box
    exact ⟨d, m, c, by rw [upd_ne na.symm, upd_ne (ne_of_none e np)]; exact e⟩
  · intro q u nq e
    have e1 : q ≠ a := fun z => by rw [z, n] at e; cases e
    have e3 := k.old q u nq e
    have e2 : q ≠ p := fun z => by rw [← z, e3] at np; cases np
    rw [upd_ne e1, upd_ne e2]
    exact e3
def spStretches : Sp := fun vs H Q _ => ∃ (b : Addr) (m : Int), vs = [.ref b, .int m] ∧ Box H b ∧ 0 < m ∧ m ≤ 400 ∧ ∀ c H' rs, H c = none → Keep b H H' → RunsAt H' c rs → (∀ r ∈ rs, Okr r) → rs.length ≤ 30 → Q (.ref c) H'
theorem ok_stretches {f : Addr} {fd : FuncData} (T : Tx mg) (G__law_take : Ok P w K mg base CX0 "_law_take" 1 ["_law_box_here", "_law_many"] spTake) (F : Fun K "_law_stretches" "_law_stretches" s_law_stretches f fd) : FnOk P w K mg base CX0 2 f fd ["_law_box_here", "_law_most"] spStretches := by
  refine F.ok sc_law_stretches (fun vs H Q E h => ?_) (fun cdv A outer s H vs Q E hr h => ?_)
  · obtain ⟨b, m, rfl, _⟩ := h
    rfl
  · obtain ⟨b, m, rfl, hb, m0, m1, q⟩ := h
    refine ⟨_, (pss_cons (ps_set (i := 2) sc_law_stretches.nd rfl (.inl rfl) (pe_lst pa_nil))
      (pss_cons (ps_for PassesOwn.never rfl (pi_range1 (by rfl) T.b_range (pa_cons (pe_callO G__law_take (hr.mono (by decide)) (by rfl) pass0 (pa_cons (pv 0) (pa_cons (pe_ix ix_list (pe_lst (pa_cons pe_int (pa_cons pe_int (pa_cons pe_int pa_nil)))) (pe_callO G__law_take (hr.mono (by decide)) (by rfl) pass0 (pa_cons (pv 0) (pa_cons pe_int pa_nil))) (fun _ _ => rfl)) pa_nil))) pa_nil)) (pg_name (i := 3) sc_law_stretches.nd rfl (.inl rfl)) (pss_cons (ps_set (i := 4) sc_law_stretches.nd rfl (.inl rfl) (pe_ix ix_list (pe_lst (pa_cons pe_int (pa_cons (pe_callO G__law_take (hr.mono (by decide)) (by rfl) pass0 (pa_cons (pv 0) (pa_cons (pv 1) pa_nil))) (pa_cons (pe_callO G__law_take (hr.mono (by decide)) (by rfl) pass0 (pa_cons (pv 0) (pa_cons (pv 1) pa_nil))) (pa_cons pe_int pa_nil))))) (pe_callO G__law_take (hr.mono (by decide)) (by rfl) pass0 (pa_cons (pv 0) (pa_cons pe_int pa_nil))) (fun _ _ => rfl)))
      (pss_cons (ps_set (i := 5) sc_law_stretches.nd rfl (.inl rfl) (pe_ix ix_list (pe_lst (pa_cons pe_int (pa_cons pe_int (pa_cons pe_int (pa_cons pe_int pa_nil))))) (pe_callO G__law_take (hr.mono (by decide)) (by rfl) pass0 (pa_cons (pv 0) (pa_cons pe_int pa_nil))) (fun _ _ => rfl)))
      (pss_one (ps_expr (pe_bm PySem.F.plainAttrs_list PySem.F.slot_list_append PySem.F.type_list_append mt_append (pv 2) (pa_cons (pe_tup (pa_cons (pv 4) (pa_cons (pe_callB (call_min2 rfl) (by rfl) T.b_min PyProof.Rows.boot_min (pa_cons pe_int (pa_cons (pe_op op_add (pe_op op_add (pv 4) pe_int) (pe_callO G__law_take (hr.mono (by decide)) (by rfl) pass0 (pa_cons (pv 0) (pa_cons (pv 5) pa_nil)))) pa_nil))) pa_nil))) pa_nil)))))))
      (pss_one (ps_ret (pv 2))))), ?_⟩
    refine ⟨(by show 0 ≤ sizeLine; decide), fun c nc => ?_⟩
    have ncb : c ≠ b := by
      obtain ⟨o, e⟩ := hb.some
      exact (ne_of_none e nc).symm
    refine ⟨_, rfl, (by show 3 ≤ sizeLine; decide), fun p np => ?_⟩
    have hb1 := (hb.new nc (o := .lst [])).new np (o := .lst [.int 4, .int 9, .int 30])
    refine ⟨_, rfl, b, 3, rfl, hb1, by decide, by decide, fun r H1 r0 r1 k1 => ?_⟩
    have ep := k1.old p (.lst [.int 4, .int 9, .int 30]) (by obtain ⟨o, e⟩ := (hb.new nc (o := .lst [])).some; exact (ne_of_none e np).symm) upd_same
    obtain ⟨v, mv, ev⟩ := pick (xs := [4, 9, 30]) r0 r1
    have mv' : v = 4 ∨ v = 9 ∨ v = 30 := by simpa using mv
    refine ⟨p, _, r, .int v, rfl, rfl, SqL.of ep, ev, b, v, rfl, k1.box, by omega, by omega, fun N H2 N0 N1 k2 => ?_⟩
    have kk0 : Keep b H H2 := ((Keep.refl hb).new nc).new np |>.trans k1 |>.trans k2
    have ru0 : RunsAt H2 c [] := ((runs_new.same (same_upd np)).keep hb1 k1 ncb).keep k1.box k2 ncb
    refine ⟨N, rfl, by omega, by omega, for_range (lo := 0) (n := N.toNat) (fun i σ H' => ∃ (y3 y4 y5 : Option V) (rs : Prs), σ = [some (.ref b), some (.int m), some (.ref c), y3, y4, y5] ∧ Keep b H H' ∧ RunsAt H' c rs ∧ (∀ r ∈ rs, Okr r) ∧ rs.length = i) ⟨_, _, _, [], rfl, kk0, ru0, fun r m => (by cases m), rfl⟩ (fun i σ H' hi hW => ?_) (fun σ H' hW => ?_)⟩
    · obtain ⟨y3, y4, y5, rs, rfl, kk, ru, ok, hl⟩ := hW
      refine ⟨_, rfl, _, rfl, b, m, rfl, kk.box, m0, by omega, fun x1 H3 x10 x11 k3 => ?_⟩
      refine ⟨_, rfl, _, rfl, b, m, rfl, k3.box, m0, by omega, fun x2 H4 x20 x21 k4 => ?_⟩
      refine ⟨(by show 4 ≤ sizeLine; decide), fun p4 n4 => ?_⟩
      refine ⟨_, rfl, b, 4, rfl, k4.box.new n4, by decide, by decide, fun x3 H5 x30 x31 k5 => ?_⟩
      have ru5 := (((ru.keep kk.box k3 ncb).keep k3.box k4 ncb).same (same_upd n4 (o := .lst [.int 0, .int x1, .int x2, .int 399]))).keep (k4.box.new n4) k5 ncb
      have kk5 := (((kk.trans k3).trans k4).new n4 (o := .lst [.int 0, .int x1, .int x2, .int 399])).trans k5
      have e4 := k5.old p4 (.lst [.int 0, .int x1, .int x2, .int 399]) (by obtain ⟨o, e⟩ := k4.box.some; exact (ne_of_none e n4).symm) upd_same
      obtain ⟨vb, mvb, evb⟩ := pick (xs := [0, x1, x2, 399]) x30 x31
      have vb0 : 0 ≤ vb ∧ vb ≤ 399 := by
        have : vb = 0 ∨ vb = x1 ∨ vb = x2 ∨ vb = 399 := by simpa using mvb
        omega
      refine ⟨p4, _, x3, .int vb, rfl, rfl, SqL.of e4, evb, ?_⟩
      clear k3 k4 k5 kk ru e4 evb mvb
      refine ⟨(by show 4 ≤ sizeLine; decide), fun p5 n5 => ?_⟩
      refine ⟨_, rfl, b, 4, rfl, kk5.box.new n5, by decide, by decide, fun x4 H6 x40 x41 k6 => ?_⟩
      have ru6 := (ru5.same (same_upd n5 (o := .lst [.int 1, .int 2, .int 5, .int 400]))).keep (kk5.box.new n5) k6 ncb
      have kk6 := (kk5.new n5 (o := .lst [.int 1, .int 2, .int 5, .int 400])).trans k6
      have e5 := k6.old p5 (.lst [.int 1, .int 2, .int 5, .int 400]) (by obtain ⟨o, e⟩ := kk5.box.some; exact (ne_of_none e n5).symm) upd_same
      obtain ⟨vw, mvw, evw⟩ := pick (xs := [1, 2, 5, 400]) x40 x41
      have vw0 : 1 ≤ vw ∧ vw ≤ 400 := by
        have : vw = 1 ∨ vw = 2 ∨ vw = 5 ∨ vw = 400 := by simpa using mvw
        omega
      refine ⟨p5, _, x4, .int vw, rfl, rfl, SqL.of e5, evw, ?_⟩
      obtain ⟨zs, ec, pz⟩ := ru6
      refine ⟨_, rfl, .inl ⟨rfl, _, SqL.of ec⟩, _, rfl, _, rfl, _, _, rfl, rfl, _, rfl, _, rfl, b, vw, rfl, kk6.box, by omega, by omega, fun x5 H7 x50 x51 k7 => ?_⟩
      have ru7 := RunsAt.keep ⟨zs, ec, pz⟩ kk6.box k7 ncb
      have ec7 := k7.old _ _ ncb ec
      have kk7 := kk6.trans k7
      refine ⟨_, _, rfl, rfl, _, _, rfl, (by show 2 ≤ sizeLine; decide), fun t nt => ?_⟩
      refine ⟨c, _, _, rfl, rfl, (by rw [upd_ne (ne_of_none ec7 nt)]; exact ec7), ?_, ?_⟩
      · rw [pz.len]; exact Nat.lt_of_le_of_lt (show rs.length ≤ 1000 by omega) (by decide)
      · refine ⟨_, _, _, _, rfl, kk7.push nc ncb nt, ru7.push ec7 nt, fun r mr => ?_, by simp [hl]⟩
        rcases List.mem_append.mp mr with z | z
        · exact ok r z
        · rcases List.mem_cons.mp z with z | z
          · rw [z]
            unfold Okr
            simp only
            split <;> omega
          · cases z
    · obtain ⟨y3, y4, y5, rs, rfl, kk, ru, ok, hl⟩ := hW
      exact ⟨_, rfl, q c H' rs nc kk ru ok (by omega)⟩
def spMarks : Sp := fun vs H Q _ => ∃ (a : Addr) (rs : Prs), vs = [.ref a] ∧ RunsAt H a rs ∧ (∀ r ∈ rs, Okr r) ∧ ∀ c H' bs, H c = none → Same H H' → H' c = some (.lst (bs.map V.bl)) → bs.length = 400 → (∀ n, On bs n ↔ MemR n rs) → Q (.ref c) H'
theorem ok_marks {f : Addr} {fd : FuncData} (T : Tx mg) (F : Fun K "_law_marks" "_law_marks" s_law_marks f fd) : FnOk P w K mg base CX0 1 f fd ["_law_stretches_here"] spMarks := by
  refine F.ok sc_law_marks (fun vs H Q E h => ?_) (fun cdv A outer s H vs Q E hr h => ?_)
  · obtain ⟨a, rs, rfl, _⟩ := h
    rfl
  · obtain ⟨a, rs, rfl, ⟨xs, ea, px⟩, ok, q⟩ := h
    refine ⟨_, (pss_cons (ps_set (i := 1) sc_law_marks.nd rfl (.inl rfl) (pe_op op_rep (pe_lst (pa_cons pe_bl pa_nil)) pe_int))
      (pss_cons (ps_for PassesOwn.never rfl (pi_list (pv 0)) (pg_tup rfl (pgs_cons (pg_name (i := 2) sc_law_marks.nd rfl (.inl rfl)) (pgs_cons (pg_name (i := 3) sc_law_marks.nd rfl (.inl rfl)) pgs_nil))) (pss_one (ps_for PassesOwn.never rfl (pi_range2 (by rfl) T.b_range (pa_cons (pv 2) (pa_cons (pv 3) pa_nil))) (pg_name (i := 4) sc_law_marks.nd rfl (.inl rfl)) (pss_one (ps_asg pe_bl (pg_sub (pv 1) (pv 4) set_list))))))
      (pss_one (ps_ret (pv 1))))), ?_⟩
    refine ⟨(by show 1 ≤ sizeLine; decide), fun p np => ⟨p, 400, _, rfl, rfl, upd_same, by decide, by decide, (by show 1 * (400 : Int).toNat ≤ sizeLine; decide), fun c nc => ?_⟩⟩
    have s0 : Same H (upd (upd H p (.lst [.bl false])) c (.lst (List.replicate (400 : Int).toNat [V.bl false]).flatten)) := (same_upd np).trans (same_upd nc)
    have e0 : (List.replicate (400 : Int).toNat [V.bl false]).flatten = (List.replicate 400 false).map V.bl := by
      show (List.replicate 400 [V.bl false]).flatten = (List.replicate 400 false).map V.bl
      simp
    have nc0 : H c = none := Same.none (same_upd np) nc
    refine ⟨_, rfl, a, rfl, ⟨_, SqL.of (s0 _ _ ea)⟩, for_list (K := K) (a := a) (xs := xs) (fun i σ H' => ∃ (y2 y3 y4 : Option V) (bs : List Bool), σ = [some (.ref a), some (.ref c), y2, y3, y4] ∧ Same H H' ∧ H' c = some (.lst (bs.map V.bl)) ∧ bs.length = 400 ∧ ∀ n, On bs n ↔ MemR n (rs.take i))
      ⟨_, _, _, List.replicate 400 false, rfl, s0, (by rw [← e0]; exact upd_same), by simp, fun n => ⟨fun z => absurd z on_none, fun z => absurd z memR_nil⟩⟩ (fun i σ H' _ hW => ?_) (fun i x σ H' hi hW => ?_) (fun σ H' hW => ?_)⟩
    · obtain ⟨_, _, _, bs, _, s1, _⟩ := hW
      exact SqL.of (s1 _ _ ea)
    · obtain ⟨y2, y3, y4, bs, rfl, s1, ec, hl, hon⟩ := hW
      obtain ⟨t, r, rfl, hr1, et⟩ := px.get hi
      have okr := ok r (List.mem_of_getElem? hr1)
      unfold Okr at okr
      refine ⟨t, _, rfl, SqT.of (s1 _ _ et), rfl, _, _, rfl, _, _, rfl, rfl, ?_⟩
      refine ⟨_, rfl, _, rfl, r.1, r.2, rfl, ⟨by omega, by omega, by omega, by omega⟩, for_range (lo := r.1) (n := (r.2 - r.1).toNat) (fun j σ H2 => ∃ (y4 : Option V) (bs : List Bool), σ = [some (.ref a), some (.ref c), some (.int r.1), some (.int r.2), y4] ∧ Same H H2 ∧ H2 c = some (.lst (bs.map V.bl)) ∧ bs.length = 400 ∧ ∀ n, On bs n ↔ MemR n (rs.take i) ∨ (r.1 ≤ n ∧ n < r.1 + j))
        ⟨_, bs, rfl, s1, ec, hl, fun n => by rw [hon n]; exact ⟨.inl, fun z => z.elim id fun z => by omega⟩⟩ (fun j σ H2 hj hW => ?_) (fun σ H2 hW => ?_)⟩
      · obtain ⟨y4, bs, rfl, s2, ec2, hl2, hon2⟩ := hW
        have hk : (r.1 + (j : Int)) = ((r.1 + j).toNat : Int) := by omega
        have hk2 : (r.1 + (j : Int)).toNat < bs.length := by omega
        refine ⟨_, rfl, _, rfl, c, _, _, (r.1 + (j : Int)).toNat, rfl, rfl, ec2, ?_, ?_⟩
        · unfold ixN
          rw [if_pos (by omega), if_pos (by rw [List.length_map]; omega)]
        · refine ⟨_, bs.set (r.1 + (j : Int)).toNat true, rfl, Same.wr s2 nc0, ?_, by rw [List.length_set]; exact hl2, fun n => ?_⟩
          · rw [upd_same, List.map_set]
          · rw [on_set hk2, hon2 n, ← hk]
            constructor
            · rintro ((z | z) | z)
              · exact .inl z
              · exact .inr ⟨by omega, by omega⟩
              · exact .inr ⟨by omega, by omega⟩
            · rintro (z | z)
              · exact .inl (.inl z)
              · by_cases z2 : n = r.1 + j
                · exact .inr z2
                · exact .inl (.inr ⟨by omega, by omega⟩)
      · obtain ⟨y4, bs, rfl, s2, ec2, hl2, hon2⟩ := hW
        refine ⟨_, _, _, bs, rfl, s2, ec2, hl2, fun n => ?_⟩
        rw [hon2 n, take_snoc hr1, memR_append, memR_one (b := r.1) (e := r.2)]
        refine or_congr Iff.rfl ?_
        omega
    · obtain ⟨y2, y3, y4, bs, rfl, s1, ec, hl, hon⟩ := hW
      refine ⟨_, rfl, q c H' bs nc0 s1 ec hl fun n => ?_⟩
      rw [hon n, px.len, List.take_length]
def spRising : Sp := fun vs H Q _ => ∃ (a : Addr) (bs : List Bool), vs = [.ref a] ∧ H a = some (.lst (bs.map V.bl)) ∧ bs.length = 400 ∧ ∀ c H' ts, Gro H H' c ts → Tidy ts → (∀ n, MemR n ts ↔ On bs n) → Q (.ref c) H'
theorem ok_rising {f : Addr} {fd : FuncData} (T : Tx mg) (F : Fun K "_law_rising" "_law_rising" s_law_rising f fd) : FnOk P w K mg base CX0 1 f fd ["_law_marks_here"] spRising := by
  refine F.ok sc_law_rising (fun vs H Q E h => ?_) (fun cdv A outer s H vs Q E hr h => ?_)
  · obtain ⟨a, bs, rfl, _⟩ := h
    rfl
  · obtain ⟨a, bs, rfl, ea, hl, q⟩ := h
    refine ⟨_, (pss_cons (ps_set (i := 1) sc_law_rising.nd rfl (.inl rfl) (pe_lst pa_nil))
      (pss_cons (ps_for PassesOwn.never rfl (pi_range1 (by rfl) T.b_range (pa_cons pe_int pa_nil)) (pg_name (i := 2) sc_law_rising.nd rfl (.inl rfl)) (pss_one (ps_if (PW.pt (pw_and (pt_val (pe_ix ix_list (pv 0) (pv 2) (fun _ _ => rfl))) (pw_and1 (PW.pt (pw_or (pt_cmpR (op_eqD hr.units) (pv 1) (pe_lst pa_nil) (nomark _)) (pw_or1 (pt_cmpR op_ne (pe_ix ix_tup (pe_ix ix_list (pv 1) (pe_un un_neg pe_int) (fun _ _ => rfl)) pe_int (fun _ _ => rfl)) (pv 2) (nomark _)))))))) (pss_one (ps_expr (pe_bm PySem.F.plainAttrs_list PySem.F.slot_list_append PySem.F.type_list_append mt_append (pv 1) (pa_cons (pe_tup (pa_cons (pv 2) (pa_cons (pe_op op_add (pv 2) pe_int) pa_nil))) pa_nil)))) (pss_one (ps_if (pt_val (pe_ix ix_list (pv 0) (pv 2) (fun _ _ => rfl))) (pss_one (ps_asg (pe_tup (pa_cons (pe_ix ix_tup (pe_ix ix_list (pv 1) (pe_un un_neg pe_int) (fun _ _ => rfl)) pe_int (fun _ _ => rfl)) (pa_cons (pe_op op_add (pv 2) pe_int) pa_nil))) (pg_sub (pv 1) (pe_un un_neg pe_int) set_list))) pss_nil)))))
      (pss_one (ps_ret (pv 1))))), ?_⟩
    refine ⟨(by show 0 ≤ sizeLine; decide), fun c nc => ?_⟩
    refine ⟨400, rfl, by decide, by decide, for_range (lo := 0) (n := 400) (fun i σ H' => ∃ (y2 : Option V) (ts : Prs), σ = [some (.ref a), some (.ref c), y2] ∧ Gro H H' c ts ∧ Tidy ts ∧ (∀ r ∈ ts, r.2 ≤ i) ∧ ∀ n, MemR n ts ↔ On bs n ∧ n < i)
      ⟨_, [], rfl, gro_new nc, tidy_nil, fun r m => (by cases m), fun n => ⟨fun z => absurd z memR_nil, fun z => absurd z.2 (by have := z.1.1; omega)⟩⟩ (fun i σ H' hi hW => ?_) (fun σ H' hW => ?_)⟩
    · obtain ⟨y2, ts, rfl, g, td, hle, hm⟩ := hW
      have hib : i < bs.length := by omega
      have eb : (bs.map V.bl)[i]? = some (.bl bs[i]) := by rw [List.getElem?_map, List.getElem?_eq_getElem hib]; rfl
      have e0 : (0 : Int) + (i : Nat) = ((i : Nat) : Int) := by omega
      refine ⟨_, rfl, _, rfl, a, _, _, _, rfl, rfl, SqL.of (g.old _ _ ea), (by rw [e0]; exact atI_nat eb), _, rfl, ?_⟩
      have on1 : ∀ n, (On bs n ∧ n < ((i + 1 : Nat) : Int)) ↔ (On bs n ∧ n < (i : Int)) ∨ (n = i ∧ bs[i] = true) := by
        intro n
        constructor
        · rintro ⟨z1, z2⟩
          by_cases z : n < (i : Int)
          · exact .inl ⟨z1, z⟩
          · refine .inr ⟨by omega, ?_⟩
            have e1 : n.toNat = i := by omega
            have := z1.2
            rw [e1, List.getElem?_eq_getElem hib] at this
            simpa using this
        · rintro (z | ⟨z1, z2⟩)
          · exact ⟨z.1, by omega⟩
          · refine ⟨⟨by omega, ?_⟩, by omega⟩
            have e1 : n.toNat = i := by omega
            rw [e1, List.getElem?_eq_getElem hib, z2]
      cases hbi : bs[i] with
      | false =>
        rw [hbi] at on1 eb
        refine ⟨_, rfl, _, rfl, a, _, _, _, rfl, rfl, SqL.of (g.old _ _ ea), (by rw [e0]; exact atI_nat eb), _, rfl, ?_⟩
        refine ⟨_, ts, rfl, g, td, fun r m => by have := hle r m; omega, fun n => ?_⟩
        rw [hm n, on1 n]
        simp
      | true =>
        rw [hbi] at on1 eb
        refine ⟨_, rfl, (by show 0 ≤ sizeLine; decide), fun pe ne => ?_⟩
        have g1 := g.new ne (o := .lst [])
        generalize hH1 : upd H' pe (.lst []) = H1 at g1 ⊢
        have epe : H1 pe = some (.lst []) := by rw [← hH1]; exact upd_same
        obtain ⟨zs, ec, prz⟩ := g1.at'
        have hzl : zs.length < sizeLine := by
          rw [prz.len]
          have := td.len
          exact Nat.lt_of_le_of_lt (show ts.length ≤ 1000 by omega) (by decide)
        refine ⟨runsD ts, .list [], g1.at'.dp, .lst (SqL.of epe) .nil, (td.nice.shaped (by decide)), rfl, _, rfl, ?_⟩
        have app : (∀ u ∈ ts, u.2 < (i : Int)) → ∀ t, H1 t = none → ∃ (y2 : Option V) (ts' : Prs), [some (.ref a), some (.ref c), some (.int (0 + (i : Nat)))] = [some (.ref a), some (.ref c), y2] ∧ Gro H (upd (upd H1 t (.tup [.int (0 + (i : Nat)), .int (0 + (i : Nat) + 1)])) c (.lst (zs ++ [.ref t]))) c ts' ∧ Tidy ts' ∧ (∀ r ∈ ts', r.2 ≤ ((i + 1 : Nat) : Int)) ∧ ∀ n, MemR n ts' ↔ On bs n ∧ n < ((i + 1 : Nat) : Int) := by
          intro hlt t nt
          refine ⟨_, _, rfl, g1.push ec nt, tidy_snoc td (fun u m => by have := hlt u m; omega) (by omega) (by omega) (by omega), fun r m => ?_, fun n => ?_⟩
          · rcases List.mem_append.mp m with z | z
            · have := hle r z; omega
            · rcases List.mem_cons.mp z with z | z
              · rw [z]; simp only; omega
              · cases z
          · rw [memR_append, memR_one, hm n, on1 n]
            refine or_congr Iff.rfl ?_
            simp only [and_true]
            omega
        rcases nil_or_snoc ts with e | ⟨us, u, e⟩
        · refine iteY (by rw [e]; rfl) ?_
          refine ⟨_, rfl, .inl ⟨rfl, _, SqL.of ec⟩, _, rfl, _, rfl, _, _, rfl, rfl, (by show 2 ≤ sizeLine; decide), fun t nt => ?_⟩
          refine ⟨c, _, _, rfl, rfl, (by rw [upd_ne (ne_of_none ec nt)]; exact ec), hzl, app (by rw [e]; intro u mu; cases mu) t nt⟩
        · subst e
          obtain ⟨ys, v, ez, pry, ev⟩ := prz.unsnoc
          subst ez
          obtain ⟨tdu, hul, oku⟩ := tidy_init td
          unfold Okr at oku
          have hu := hle u (by simp)
          refine iteN (by rw [runsD_nil (by simp)]) ?_
          refine ⟨_, rfl, _, rfl, c, _, -1, .ref v, rfl, rfl, SqL.of ec, atI_last _ _, v, _, 1, .int u.2, rfl, rfl, SqT.of ev, atI_nat (j := 1) rfl, _, rfl, rfl, _, rfl, ite2 (fun e1 => ?_) (fun e1 => ?_)⟩
          · have e1' : u.2 ≠ (i : Int) := by
              intro z
              rw [z] at e1
              simp at e1
            refine ⟨_, rfl, .inl ⟨rfl, _, SqL.of ec⟩, _, rfl, _, rfl, _, _, rfl, rfl, (by show 2 ≤ sizeLine; decide), fun t nt => ?_⟩
            refine ⟨c, _, _, rfl, rfl, (by rw [upd_ne (ne_of_none ec nt)]; exact ec), hzl, app (fun w mw => ?_) t nt⟩
            rcases List.mem_append.mp mw with z | z
            · have := hul w z
              omega
            · rcases List.mem_cons.mp z with z | z
              · rw [z]; omega
              · cases z
          · have e1' : u.2 = (i : Int) := by
              by_cases z : u.2 = (i : Int)
              · exact z
              · exact absurd (by simpa using z) e1
            refine ⟨_, rfl, _, rfl, a, _, _, _, rfl, rfl, SqL.of (g1.old _ _ ea), (by rw [e0]; exact atI_nat eb), _, rfl, ?_⟩
            refine ⟨_, rfl, _, rfl, c, _, -1, .ref v, rfl, rfl, SqL.of ec, atI_last _ _, v, _, 0, .int u.1, rfl, rfl, SqT.of ev, atI_nat (j := 0) rfl, _, rfl, _, _, rfl, rfl, (by show 2 ≤ sizeLine; decide), fun t nt => ?_⟩
            refine ⟨_, rfl, _, rfl, c, _, _, _, rfl, rfl, (by rw [upd_ne (ne_of_none ec nt)]; exact ec), ixN_last _ _, ?_⟩
            show ∃ (y2 : Option V) (ts : Prs), _
            rw [set_last]
            refine ⟨_, _, rfl, g1.setLast ec nt, tidy_snoc tdu hul (by omega) (by omega) (by omega), fun r m => ?_, fun n => ?_⟩
            · rcases List.mem_append.mp m with z | z
              · have := hul r z; omega
              · rcases List.mem_cons.mp z with z | z
                · rw [z]; simp only; omega
                · cases z
            · have hmn := hm n
              rw [memR_append, memR_one (b := u.1) (e := u.2)] at hmn
              rw [memR_append, memR_one, on1 n, ← hmn]
              simp only [and_true]
              constructor
              · rintro (z | z)
                · exact .inl (.inl z)
                · by_cases z2 : n < u.2
                  · exact .inl (.inr ⟨z.1, z2⟩)
                  · exact .inr (by omega)
              · rintro ((z | z) | z)
                · exact .inl z
                · exact .inr ⟨z.1, by omega⟩
                · exact .inr ⟨by omega, by omega⟩
    · obtain ⟨y2, ts, rfl, g, td, hle, hm⟩ := hW
      refine ⟨_, rfl, q c H' ts g td fun n => ?_⟩
      rw [hm n]
      refine ⟨fun z => z.1, fun z => ⟨z, ?_⟩⟩
      have h2 := (List.getElem?_eq_some_iff.mp z.2).1
      have := z.1
      omega

/-! ### rows of rows -/
inductive RowsAt (H : Hp) : List V → List Prs → Prop
  | nil : RowsAt H [] []
  | cons {p : Addr} {r : Prs} {xs : List V} {rs : List Prs} (h : RunsAt H p r) (t : RowsAt H xs rs) : RowsAt H (.ref p :: xs) (r :: rs)
theorem RunsAt.wr {H : Hp} {a d : Addr} {rs : Prs} {ys : List V} {o : HO} (h : RunsAt H a rs) (ed : H d = some (.lst ys)) (n : a ≠ d) : RunsAt (upd H d o) a rs := by
  obtain ⟨xs, e, p⟩ := h
  refine ⟨xs, by rw [upd_ne n]; exact e, p.mono fun q ts z => ?_⟩
  rw [upd_ne]
  · exact z
  · rintro rfl
    rw [ed] at z
    cases z
theorem RowsAt.same {H H' : Hp} {xs : List V} {rs : List Prs} (h : RowsAt H xs rs) (s : Same H H') : RowsAt H' xs rs := by
  induction h with
  | nil => exact .nil
  | cons e _ ih => exact .cons (e.same s) ih
theorem RowsAt.wr {H : Hp} {xs ys : List V} {rs : List Prs} {d : Addr} {o : HO} (h : RowsAt H xs rs) (ed : H d = some (.lst ys)) (n : V.ref d ∉ xs) : RowsAt (upd H d o) xs rs := by
  induction h with
  | nil => exact .nil
  | cons e _ ih => exact .cons (e.wr ed fun z => n (by rw [z]; exact List.mem_cons_self)) (ih fun z => n (List.mem_cons_of_mem _ z))
theorem RowsAt.append {H : Hp} {xs ys : List V} {rs ss : List Prs} (h : RowsAt H xs rs) (g : RowsAt H ys ss) : RowsAt H (xs ++ ys) (rs ++ ss) := by
  induction h with
  | nil => exact g
  | cons e _ ih => exact .cons e ih
theorem RowsAt.dp {K : PySem.W.Frag} {H : Hp} {xs : List V} {rs : List Prs} (h : RowsAt H xs rs) : DpAll K H xs (rs.map runsD) := by
  induction h with
  | nil => exact .nil
  | cons e _ ih => exact .cons e.dp ih
def rowsD (rs : List Prs) : PyData := .list (rs.map runsD)
theorem nice_rows {rs : List Prs} (h : ∀ r ∈ rs, Tidy r) : Nice (rowsD rs) 3 (rs.length * 601) := by
  have z : NiceAll (rs.map runsD) 2 ((rs.map runsD).length * 601) := niceAll_of fun d m => by
    obtain ⟨r, mr, rfl⟩ := List.mem_map.mp m
    exact (h r mr).nice
  rw [List.length_map] at z
  exact z.list
structure Due (H2 H : Hp) (dl : Addr) (xs : List V) (rss : List Prs) : Prop where
  fr : H2 dl = none
  old : Same H2 H
  at' : H dl = some (.lst xs)
  rows : RowsAt H xs rss
  ne : V.ref dl ∉ xs
theorem Due.grow {H2 H H' : Hp} {dl d : Addr} {xs : List V} {rss : List Prs} {t : Prs} (D : Due H2 H dl xs rss) (g : Gro H H' d t) : Due H2 (upd H' dl (.lst (xs ++ [.ref d]))) dl (xs ++ [.ref d]) (rss ++ [t]) := by
  have nd : d ≠ dl := fun z => by have := g.fr; rw [z, D.at'] at this; cases this
  have e1 := g.old _ _ D.at'
  refine ⟨D.fr, Same.wr (D.old.trans g.old) D.fr, upd_same, ?_, ?_⟩
  · exact ((D.rows.same g.old).wr e1 D.ne).append (.cons (g.at'.wr e1 nd) .nil)
  · intro m
    rcases List.mem_append.mp m with z | z
    · exact D.ne z
    · rcases List.mem_cons.mp z with z | z
      · cases z; exact nd rfl
      · cases z
theorem due_one {H2 H : Hp} {dl d : Addr} {t : Prs} (g : Gro H2 H d t) (n : H dl = none) : Due H2 (upd H dl (.lst [.ref d])) dl [.ref d] [t] := by
  obtain ⟨xs, e, p⟩ := g.at'
  refine ⟨Same.none g.old n, g.old.trans (same_upd n), upd_same, .cons (g.at'.same (same_upd n)) .nil, ?_⟩
  intro m
  rcases List.mem_cons.mp m with z | z
  · cases z
    rw [e] at n
    cases n
  · cases z
theorem Due.same {H2 H H' : Hp} {dl : Addr} {xs : List V} {rss : List Prs} (D : Due H2 H dl xs rss) (s : Same H H') : Due H2 H' dl xs rss := ⟨D.fr, D.old.trans s, s _ _ D.at', D.rows.same s, D.ne⟩
theorem Due.back {H2 H1 H : Hp} {dl : Addr} {xs : List V} {rss : List Prs} (D : Due H2 H dl xs rss) (s : Same H1 H2) : Due H1 H dl xs rss := ⟨Same.none s D.fr, s.trans D.old, D.at', D.rows, D.ne⟩
/-- a comprehension of truths over range(n) -/
theorem lc_bools {σ : L2.St} {H1 : Hp} {D : Addr} {n : Nat} {vs : List Nat} {j : Nat} {te : TE} {f : Nat → Bool} {Qd : Hp → Prop} (hD : H1 D = none) (hw : ∀ v, wipe ((wipe σ vs).set j v) vs = wipe σ vs) (hn : n ≤ 1000)
    (hte : ∀ (k : Nat) (H : Hp) (Q : VK), k < n → Same H1 H → Q (.bl (f k)) H → te ((wipe σ vs).set j (some (.int (0 + (k : Nat))))) H Q) (hd : ∀ H', Same H1 H' → H' D = some (.lst (((List.range n).map f).map V.bl)) → Qd H') :
    ∃ W : Nat → Nat → Hp → Prop, (∃ m, W 0 m (upd H1 D (.lst []))) ∧ ∀ i m H, W i m H →
      ((Itr 0 n).stop i H ∧ Qd H) ∨ ((Itr 0 n).go i H ∧ ∃ Nx : Hp → Prop, (∀ H', Nx H' → ∃ m', m' < m ∧ W (i + 1) m' H') ∧ ∀ x H', (Itr 0 n).yld i H x H' → gName j x (wipe σ vs) H' fun σ2 H2 => wipe σ2 vs = wipe σ vs ∧ tYes σ2 H2 fun b H3 =>
        if b = true then te σ2 H3 fun y H4 => ∃ acc, H4 D = some (.lst acc) ∧ acc.length < sizeLine ∧ Nx (upd H4 D (.lst (acc ++ [y]))) else Nx H3) := by
  refine lc_range (lo := 0) (n := n) (fun i H' => Same H1 H' ∧ H' D = some (.lst (((List.range i).map f).map V.bl))) ⟨Same.wr (Same.refl _) hD, upd_same⟩ ?_ ?_
  · intro i H hi hP
    obtain ⟨s, h⟩ := hP
    refine ⟨hw _, ?_⟩
    refine hte i _ _ hi s ⟨_, h, ?_, Same.wr s hD, ?_⟩
    · simp only [List.length_map, List.length_range]
      exact Nat.lt_of_le_of_lt (show i ≤ 1000 by omega) (by decide)
    · rw [upd_same, List.range_succ, List.map_append, List.map_append]
      rfl
  · intro H hP
    exact hd H hP.1 hP.2

/-! ### the law's own mixing of numbers -/
theorem dp_ints {K : PySem.W.Frag} {H : Hp} {a : Addr} {ns : List Int} (h : H a = some (.lst (ns.map V.int))) : Dp K H (.ref a) (.list (ns.map PyData.int)) := .lst (SqL.of h) (dpInts ns)
theorem Keep.wr {H H' : Hp} {a b : Addr} {o : HO} (k : Keep b H H') (n : H a = none) (na : a ≠ b) : Keep b H (upd H' a o) := by
  constructor
  · obtain ⟨d, m, c, e⟩ := k.box
    exact ⟨d, m, c, by rw [upd_ne na.symm]; exact e⟩
  · intro q u nq e
    have e1 : q ≠ a := fun z => by rw [z, n] at e; cases e
    rw [upd_ne e1]
    exact k.old q u nq e
theorem Box.ne {H : Hp} {b p : Addr} (h : Box H b) (n : H p = none) : p ≠ b := by
  obtain ⟨o, e⟩ := h.some
  exact (ne_of_none e n).symm
theorem map_erase {f : Int → V} : ∀ (ls : List Int) (k : Nat), (ls.map f).eraseIdx k = (ls.eraseIdx k).map f
  | [], _ => rfl
  | _ :: _, 0 => rfl
  | a :: ls, k + 1 => by simp [List.eraseIdx, map_erase ls k]
theorem erase_perm : ∀ {ls : List Int} {k : Nat} (h : k < ls.length), (ls[k] :: ls.eraseIdx k).Perm ls
  | a :: ls, 0, _ => .refl _
  | a :: ls, k + 1, h => by
    have ih := erase_perm (ls := ls) (k := k) (by simpa using h)
    simp only [List.getElem_cons_succ, List.eraseIdx_cons_succ]
    exact (List.Perm.swap a _ _).trans (ih.cons a)
def spMixed : Sp := fun vs H Q _ => ∃ (b e : Addr) (ns : List Int), vs = [.ref b, .ref e] ∧ Box H b ∧ H e = some (.lst (ns.map V.int)) ∧ (∀ n ∈ ns, n.natAbs < 10 ^ 12) ∧ ns.length ≤ 1000 ∧ ∀ (c : Addr) (H' : Hp) (ms : List Int), H c = none → Keep b H H' → H' c = some (.lst (ms.map V.int)) → ms.Perm ns → Q (.ref c) H'
theorem ok_mixed {f : Addr} {fd : FuncData} (T : Tx mg) (G__law_take : Ok P w K mg base CX0 "_law_take" 1 ["_law_box_here", "_law_many"] spTake) (F : Fun K "_law_mixed" "_law_mixed" s_law_mixed f fd) : FnOk P w K mg base CX0 2 f fd ["_law_box_here", "_law_some"] spMixed := by
  refine F.ok sc_law_mixed (fun vs H Q E h => ?_) (fun cdv A outer s H vs Q E hr h => ?_)
  · obtain ⟨b, e, ns, rfl, _⟩ := h
    rfl
  · obtain ⟨b, e, ns, rfl, hb, ee, hn, hlen, q⟩ := h
    refine ⟨_, (pss_cons (ps_set (i := 2) sc_law_mixed.nd rfl (.inl rfl) (pe_callTy call_list_of (by rfl) T.b_list PyProof.Rows.boot_list (pa_cons (pv 1) pa_nil)))
      (pss_cons (ps_set (i := 3) sc_law_mixed.nd rfl (.inl rfl) (pe_lst pa_nil))
      (pss_cons (ps_while PassesOwn.never (pt_cmpR (op_neD hr.units) (pv 2) (pe_lst pa_nil) (nomark _)) (pss_one (ps_expr (pe_bm PySem.F.plainAttrs_list PySem.F.slot_list_append PySem.F.type_list_append mt_append (pv 3) (pa_cons (pe_bm PySem.F.plainAttrs_list PySem.F.slot_list_pop PySem.F.type_list_pop mt_popAt (pv 2) (pa_cons (pe_callO G__law_take (hr.mono (by decide)) (by rfl) pass0 (pa_cons (pv 0) (pa_cons (pe_callB call_len_seq (by rfl) T.b_len PySem.boot_len (pa_cons (pv 2) pa_nil)) pa_nil))) pa_nil)) pa_nil)))))
      (pss_one (ps_ret (pv 3)))))), ?_⟩
    refine ⟨_, rfl, e, _, rfl, .inl (SqL.of ee), fun l nl => ?_⟩
    refine ⟨(by show 0 ≤ sizeLine; decide), fun c nc => ?_⟩
    have s1 := same_upd nl (o := .lst (ns.map V.int))
    have nc0 := Same.none s1 nc
    have nlb := hb.ne nl
    have ncb := hb.ne nc0
    have ncl : c ≠ l := fun z => by rw [z, upd_same] at nc; cases nc
    refine ⟨fun m σ H' => ∃ (ls fs : List Int), m = ls.length ∧ σ = [some (.ref b), some (.ref e), some (.ref l), some (.ref c)] ∧ H' l = some (.lst (ls.map V.int)) ∧ H' c = some (.lst (fs.map V.int)) ∧ (fs ++ ls).Perm ns ∧ Keep b H H',
      ⟨_, ns, [], rfl, rfl, (by rw [upd_ne ncl.symm]; exact upd_same), upd_same, .refl _, ((Keep.refl hb).new nl).new nc⟩, ?_⟩
    rintro m σ H' ⟨ls, fs, rfl, rfl, el, ec, pm, kk⟩
    refine ⟨_, rfl, (by show 0 ≤ sizeLine; decide), fun pe ne => ?_⟩
    have s2 := same_upd ne (o := .lst [])
    have el2 := s2 _ _ el
    have ec2 := s2 _ _ ec
    have kk2 := kk.new ne (o := .lst [])
    have epe : upd H' pe (.lst []) pe = some (.lst []) := upd_same
    generalize upd H' pe (.lst []) = H2 at s2 el2 ec2 kk2 epe ⊢
    have ln : fs.length + ls.length = ns.length := by rw [← List.length_append]; exact pm.length_eq
    have nn : Nice (.list (ls.map PyData.int)) 1 ls.length := nice_ints fun n mn => hn n (pm.mem_iff.mp (List.mem_append.mpr (.inr mn)))
    refine ⟨.list (ls.map PyData.int), .list [], dp_ints el2, .lst (SqL.of epe) .nil, nn.shaped (by decide), rfl, _, rfl, ?_⟩
    cases hls : ls with
    | nil =>
      subst hls
      rw [List.append_nil] at pm
      exact ⟨_, rfl, q c H2 fs nc0 kk2 ec2 pm⟩
    | cons y ys =>
      rw [← hls]
      have hpos : 0 < ls.length := by rw [hls]; simp
      refine iteY (by rw [hls]; rfl) ⟨_, fun _ _ z => z, ?_⟩
      refine ⟨_, rfl, .inl ⟨rfl, _, SqL.of ec2⟩, _, rfl, .inl ⟨rfl, _, SqL.of el2⟩, _, rfl, _, rfl, l, _, rfl, .inl (SqL.of el2), b, _, rfl, kk2.box, (by rw [List.length_map]; omega), (by rw [List.length_map]; omega), fun r H3 r0 r1 k3 => ?_⟩
      rw [List.length_map] at r1
      have el3 := k3.old _ _ nlb el2
      have ec3 := k3.old _ _ ncb ec2
      have hk : r.toNat < ls.length := by omega
      have hix : ixN (ls.map V.int).length r = some r.toNat := by
        unfold ixN
        rw [if_pos r0, if_pos (by rw [List.length_map]; omega)]
      refine ⟨l, _, r, r.toNat, .int ls[r.toNat], rfl, rfl, el3, by omega, by omega, (ixN_seq hix).1, (by rw [List.getElem?_map, List.getElem?_eq_getElem hk]; rfl), ?_⟩
      refine ⟨c, _, _, rfl, rfl, (by rw [upd_ne ncl]; exact ec3), (by rw [List.length_map]; exact Nat.lt_of_le_of_lt (show fs.length ≤ 1000 by omega) (by decide)), ?_⟩
      refine ⟨(ls.eraseIdx r.toNat).length, ?_, ls.eraseIdx r.toNat, fs ++ [ls[r.toNat]], rfl, rfl, ?_, ?_, ?_, ((kk2.trans k3).wr nl nlb).wr nc0 ncb⟩
      · rw [List.length_eraseIdx_of_lt hk]
        omega
      · rw [upd_ne ncl.symm, upd_same, map_erase]
      · rw [upd_same, List.map_append]
        rfl
      · refine .trans ?_ pm
        rw [List.append_assoc]
        exact (erase_perm hk).append_left fs

/-- a list that stands whatever becomes of the objects at bs -/
def SqB (K : PySem.W.Frag) (H : Hp) (bs : List Addr) (a : Addr) (xs : List V) : Prop := SqL K H a xs ∧ (a ∈ bs → ∀ H', SqL K H' a xs)
theorem SqB.nil {a : Addr} {xs : List V} {H : Hp} (h : SqL K H a xs) : SqB K H [] a xs := ⟨h, fun e => by cases e⟩
theorem SqB.add {a b : Addr} {bs : List Addr} {xs : List V} {H : Hp} (h : SqB K H bs a xs) (n : H b = none) : SqB K H (b :: bs) a xs := ⟨h.1, fun e H' => by
  rcases List.mem_cons.mp e with e | e
  · subst e
    rcases h.1 with (h | ⟨o, h⟩) | h
    · rw [n] at h; cases h
    · rw [n] at h; cases h
    · exact .inr h
  · exact h.2 e H'⟩
theorem SqB.drop {a b : Addr} {bs : List Addr} {xs : List V} {H : Hp} (h : SqB K H (b :: bs) a xs) : SqB K H bs a xs := ⟨h.1, fun e => h.2 (List.mem_cons_of_mem _ e)⟩
theorem SqB.step {a : Addr} {bs : List Addr} {xs : List V} {H H' : Hp} (h : SqB K H bs a xs) (k : ∀ o, a ∉ bs → H a = some o → H' a = some o) : SqB K H' bs a xs := ⟨by
  by_cases e : a ∈ bs
  · exact h.2 e H'
  · rcases h.1 with (z | ⟨o, z⟩) | z
    · exact .inl (.inl (k _ e z))
    · exact .inl (.inr ⟨o, k _ e z⟩)
    · exact .inr z, h.2⟩
theorem SqB.keep {a b : Addr} {bs : List Addr} {xs : List V} {H H' : Hp} (h : SqB K H bs a xs) (hb : b ∈ bs) (k : Keep b H H') : SqB K H' bs a xs := h.step fun o n e => k.old a o (fun z => n (z ▸ hb)) e
theorem SqB.same {a : Addr} {bs : List Addr} {xs : List V} {H H' : Hp} (h : SqB K H bs a xs) (k : Same H H') : SqB K H' bs a xs := h.step fun o _ e => k a o e
theorem SqB.wr {a b : Addr} {bs : List Addr} {xs : List V} {H : Hp} {o : HO} (h : SqB K H bs a xs) (hb : b ∈ bs) : SqB K (upd H b o) bs a xs := h.step fun o n e => by
  have na : a ≠ b := fun z => n (by rw [z]; exact hb)
  rw [upd_ne na]
  exact e

/-! ### stretches of one number each -/
/-- a comprehension of stretches of one number -/
theorem lc_ones {σ : L2.St} {H1 : Hp} {D : Addr} {lo c : Int} {n : Nat} {vs : List Nat} {j : Nat} {te : TE} {Qd : Hp → Prop} (hD : H1 D = none) (hw : ∀ v, wipe ((wipe σ vs).set j v) vs = wipe σ vs) (hn : n ≤ 1000)
    (hte : ∀ (k : Int) (H : Hp) (Q : VK), (∀ t, H t = none → Q (.ref t) (upd H t (.tup [.int k, .int (k + 1)]))) → te ((wipe σ vs).set j (some (.int k))) H Q) (hd : ∀ H', Gro H1 H' D ((List.range n).map fun i : Nat => (lo + (i : Int) * c, lo + (i : Int) * c + 1)) → Qd H') :
    ∃ W : Nat → Nat → Hp → Prop, (∃ m, W 0 m (upd H1 D (.lst []))) ∧ ∀ i m H, W i m H →
      ((Itc lo c n).stop i H ∧ Qd H) ∨ ((Itc lo c n).go i H ∧ ∃ Nx : Hp → Prop, (∀ H', Nx H' → ∃ m', m' < m ∧ W (i + 1) m' H') ∧ ∀ x H', (Itc lo c n).yld i H x H' → gName j x (wipe σ vs) H' fun σ2 H2 => wipe σ2 vs = wipe σ vs ∧ tYes σ2 H2 fun b H3 =>
        if b = true then te σ2 H3 fun y H4 => ∃ acc, H4 D = some (.lst acc) ∧ acc.length < sizeLine ∧ Nx (upd H4 D (.lst (acc ++ [y]))) else Nx H3) := by
  refine lc_it walk_rangeC (fun i H' => Gro H1 H' D ((List.range i).map fun i : Nat => (lo + (i : Int) * c, lo + (i : Int) * c + 1))) (gro_new hD) (fun _ _ _ _ => trivial) ?_ ?_
  · intro i x H H' hi hP hY
    obtain ⟨rfl, rfl⟩ := hY
    refine ⟨hw _, ?_⟩
    refine hte _ _ _ fun t nt => ?_
    obtain ⟨xs, e, p⟩ := hP.at'
    refine ⟨xs, by rw [upd_ne (ne_of_none e nt)]; exact e, ?_, ?_⟩
    · rw [p.len]
      simp only [List.length_map, List.length_range]
      exact Nat.lt_of_le_of_lt (show i ≤ 1000 by omega) (by decide)
    · rw [List.range_succ, List.map_append]
      exact hP.push e nt
  · intro H hP
    exact hd H hP

def spRight : Sp := fun vs H Q _ => ∃ (b c d e : Addr) (ts : Prs), vs = [.ref b, .ref c, .ref d, .ref e] ∧ Box H b ∧ RunsAt H c ts ∧ RunsAt H d ts ∧ Tidy ts ∧ H e = some (.lst ((numsOf ts).map V.int)) ∧ c ≠ b ∧ d ≠ b ∧ e ≠ b ∧ ∀ H', Keep b H H' → Q (.bl true) H'
theorem nums_nat {ts : Prs} (t : Tidy ts) : ∀ n ∈ numsOf ts, n.natAbs < 10 ^ 12 := fun n m => by
  have := t.bnd (mem_numsOf.mp m)
  omega
theorem ok_right {f : Addr} {fd : FuncData} (T : Tx mg) (G_is_runs : Ok P w K mg base CX0 "is_runs" 3 ["thing"] spRuns) (G_how_many : Ok P w K mg base CX0 "how_many" 5 ["runs"] spHowMany) (G_numbers_in : Ok P w K mg base CX0 "numbers_in" 5 ["runs"] spNumbersIn)
    (G_has_number : Ok P w K mg base CX0 "has_number" 5 ["runs", "thing"] spHas) (G__law_take : Ok P w K mg base CX0 "_law_take" 1 ["_law_box_here", "_law_many"] spTake)
    (F : Fun K "_law_right" "_law_right" s_law_right f fd) : FnG P w K mg base CX0 6 f fd ["_law_box_here", "_law_found", "_law_due", "_law_numbers"] spRight := by
  refine okG F sc_law_right (fun vs H Q E h => ?_) (fun cdv A outer s H vs Q E hgd hr h => ?_)
  · obtain ⟨b, c, d, e, ts, rfl, _⟩ := h
    rfl
  · obtain ⟨b, c, d, e, ts, rfl, hb, rc, rd, td, ee, ncb, ndb, neb, q⟩ := h
    have hu : (A.deeper (envOfC "_law_right" (defScope s_law_right) s.heap.objs.size f cdv)).units + 64 < cLine := hr.units
    refine ⟨_, (pss_cons (ps_if (PW.pt (pw_or (pt_not (pt_val (pe_callB call_isi (by rfl) T.b_isinstance PyProof.Rows.boot_isinstance (pa_cons (pv 1) (pa_cons (pe_bltn (v := .ty "list") (by rfl) T.b_list PyProof.Rows.boot_list rfl) pa_nil))))) (pw_or (pt_cmpR op_ne (pe_callB (call_reprD hgd hu) (by rfl) T.b_repr PyProof.Rows.boot_repr (pa_cons (pv 1) pa_nil)) (pe_callB (call_reprD hgd hu) (by rfl) T.b_repr PyProof.Rows.boot_repr (pa_cons (pv 2) pa_nil)) (nomark _)) (pw_or1 (pt_cmpR op_notBl (pe_callO G_is_runs (hr.mono (by decide)) (by rfl) pass0 (pa_cons (pv 1) pa_nil)) pe_bl (nomark _)))))) (pss_one (ps_ret pe_bl)) pss_nil)
      (pss_cons (ps_if (PW.pt (pw_or (pt_cmpR op_ne (pe_callO G_how_many (hr.mono (by decide)) (by rfl) pass0 (pa_cons (pv 1) pa_nil)) (pe_callB call_len_seq (by rfl) T.b_len PySem.boot_len (pa_cons (pv 3) pa_nil)) (nomark _)) (pw_or (pt_val (pe_callB call_isi (by rfl) T.b_isinstance PyProof.Rows.boot_isinstance (pa_cons (pe_callO G_how_many (hr.mono (by decide)) (by rfl) pass0 (pa_cons (pv 1) pa_nil)) (pa_cons (pe_bltn (v := .ty "bool") (by rfl) T.b_bool PyProof.Rows.boot_bool rfl) pa_nil)))) (pw_or1 (pt_cmpR (op_neD hr.units) (pe_callO G_numbers_in (hr.mono (by decide)) (by rfl) pass0 (pa_cons (pv 1) pa_nil)) (pv 3) (nomark _)))))) (pss_one (ps_ret pe_bl)) pss_nil)
      (pss_cons (ps_for PassesOwn.never rfl (pi_range1 (by rfl) T.b_range (pa_cons pe_int pa_nil)) (pg_name (i := 4) sc_law_right.nd rfl (.inl rfl)) (pss_cons (ps_set (i := 5) sc_law_right.nd rfl (.inl rfl) (pe_ix ix_list (pe_lst (pa_cons (pe_callO G__law_take (hr.mono (by decide)) (by rfl) pass0 (pa_cons (pv 0) (pa_cons pe_int pa_nil))) (pa_cons (pe_callO G__law_take (hr.mono (by decide)) (by rfl) pass0 (pa_cons (pv 0) (pa_cons pe_int pa_nil))) (pa_cons pe_int (pa_cons pe_int (pa_cons (pe_un un_neg pe_int) (pa_cons pe_bl (pa_cons pe_non (pa_cons pe_str pa_nil))))))))) (pe_callO G__law_take (hr.mono (by decide)) (by rfl) pass0 (pa_cons (pv 0) (pa_cons pe_int pa_nil))) (fun _ _ => rfl)))
      (pss_cons (ps_set (i := 2) sc_law_right.nd rfl (.inl rfl) (pe_and (pe_callB call_isi (by rfl) T.b_isinstance PyProof.Rows.boot_isinstance (pa_cons (pv 5) (pa_cons (pe_bltn (v := .ty "int") (by rfl) T.b_int PyProof.Rows.boot_int rfl) pa_nil))) (pe_and (pe_not (pe_callB call_isi (by rfl) T.b_isinstance PyProof.Rows.boot_isinstance (pa_cons (pv 5) (pa_cons (pe_bltn (v := .ty "bool") (by rfl) T.b_bool PyProof.Rows.boot_bool rfl) pa_nil)))) (pe_one (pe_cmpR op_in_seq (pv 5) (pv 3) (by rfl))))))
      (pss_cons (ps_set (i := 6) sc_law_right.nd rfl (.inl rfl) (pe_callO G_has_number (hr.mono (by decide)) (by rfl) pass0 (pa_cons (pv 1) (pa_cons (pv 5) pa_nil))))
      (pss_one (ps_if (PW.pt (pw_or (pt_not (pt_val (pe_callB call_isi (by rfl) T.b_isinstance PyProof.Rows.boot_isinstance (pa_cons (pv 6) (pa_cons (pe_bltn (v := .ty "bool") (by rfl) T.b_bool PyProof.Rows.boot_bool rfl) pa_nil))))) (pw_or1 (pt_cmpR op_ne (pv 6) (pv 2) (nomark _))))) (pss_one (ps_ret pe_bl)) pss_nil))))))
      (pss_one (ps_ret pe_bl))))), ?_⟩
    refine ⟨_, rfl, _, _, _, _, true, rfl, .ty _, rc.thing.tyx, kit_ty (kit_list .lst), true, rfl, ?_⟩
    refine ⟨_, rfl, _, runsD ts, rfl, rc.dp, td.nice.sh, Nat.le_trans td.nice.dp (by decide), td.nice.fits (by decide), ?_⟩
    refine ⟨_, rfl, _, runsD ts, rfl, rd.dp, td.nice.sh, Nat.le_trans td.nice.dp (by decide), td.nice.fits (by decide), rfl, _, rfl, iteN (by simp) ?_⟩
    refine ⟨_, rfl, .ref c, .lst, rfl, rc.thing, rc.flat, _, _, rfl, rfl, _, rfl, iteN (by rw [rc.row td]; rfl) ?_⟩
    refine ⟨_, rfl, c, ts, rfl, rc, td, fun H1 s1 => ?_⟩
    refine ⟨_, rfl, e, _, rfl, .inl (SqL.of (s1 _ _ ee)), rfl, _, rfl, iteN (by simp) ?_⟩
    refine ⟨_, rfl, c, ts, rfl, rc.same s1, td, fun H2 s2 => ?_⟩
    refine ⟨_, _, _, _, false, rfl, .ty _, (Thing.int _).tyx, kit_ty (kit_bool .int), false, rfl, ?_⟩
    have s12 := s1.trans s2
    refine ⟨_, rfl, c, ts, rfl, rc.same s12, td, fun c3 H3 n3 s3 e3 => ?_⟩
    have s13 := s12.trans s3
    have nn : Nice (.list ((numsOf ts).map PyData.int)) 1 (numsOf ts).length := nice_ints (nums_nat td)
    refine ⟨_, rfl, _, _, dp_ints e3, dp_ints (s13 _ _ ee), nn.shaped (by decide), nn.shaped (by decide), _, rfl, iteN (by rw [SeqAt.eqv_refl _ nn.lay]; rfl) ?_⟩
    have kk0 : Keep b H H3 := Same.keep hb s13
    refine ⟨3, rfl, by decide, by decide, for_range (lo := 0) (n := 3) (fun i σ H' => (∃ y2 y4 y5 y6, σ = [some (.ref b), some (.ref c), y2, some (.ref e), y4, y5, y6]) ∧ Keep b H H') ⟨⟨_, _, _, _, rfl⟩, kk0⟩ (fun i σ H' hi hW => ?_) (fun σ H' hW => ?_)⟩
    · obtain ⟨⟨y2, y4, y5, y6, rfl⟩, kk⟩ := hW
      refine ⟨_, rfl, b, 400, rfl, kk.box, by decide, by decide, fun x1 H4 x10 x11 k4 => ?_⟩
      refine ⟨_, rfl, b, 15, rfl, k4.box, by decide, by decide, fun x2 H5 x20 x21 k5 => ?_⟩
      refine ⟨_, rfl, (by show 8 ≤ sizeLine; decide), fun p np => ?_⟩
      refine ⟨_, rfl, b, 8, rfl, k5.box.new np, by decide, by decide, fun x3 H6 x30 x31 k6 => ?_⟩
      have ep := k6.old p (.lst [.int x1, .int x2, .int 399, .int 400, .int (-1), .bl true, .non, .str "3"]) (k5.box.ne np) upd_same
      obtain ⟨v, mv, ev⟩ := pickA (xs := [V.int x1, .int x2, .int 399, .int 400, .int (-1), .bl true, .non, .str "3"]) x30 x31
      refine ⟨p, _, x3, v, rfl, rfl, SqL.of ep, ev, ?_⟩
      have kk6 := (((kk.trans k4).trans k5).new np).trans k6
      clear k4 k5 k6 ep ev kk
      have rc6 := rc.keep hb kk6 ncb
      have ee6 := kk6.old _ _ neb ee
      have tv : ∃ k, Thing H6 v k ∧ ∀ z, v = .str z → True := by
        simp only [List.mem_cons, List.not_mem_nil, or_false] at mv
        rcases mv with rfl | rfl | rfl | rfl | rfl | rfl | rfl | rfl
        · exact ⟨_, .int _, fun _ _ => trivial⟩
        · exact ⟨_, .int _, fun _ _ => trivial⟩
        · exact ⟨_, .int _, fun _ _ => trivial⟩
        · exact ⟨_, .int _, fun _ _ => trivial⟩
        · exact ⟨_, .int _, fun _ _ => trivial⟩
        · exact ⟨_, .bl _, fun _ _ => trivial⟩
        · exact ⟨_, .non, fun _ _ => trivial⟩
        · exact ⟨_, .str _, fun _ _ => trivial⟩
      obtain ⟨k, t, _⟩ := tv
      cases t with
      | int n =>
        refine ⟨_, rfl, _, _, _, _, true, rfl, .ty _, (Thing.int n).tyx, kit_ty (kit_int .int), true, rfl, ?_⟩
        refine ⟨_, rfl, _, _, _, _, false, rfl, .ty _, (Thing.int n).tyx, kit_ty (kit_bool .int), false, rfl, _, rfl, ?_⟩
        refine ⟨_, rfl, _, rfl, e, _, rfl, .inl (SqL.of ee6), rfl, flat_ints _, ?_⟩
        refine ⟨_, rfl, _, rfl, c, ts, .int n, .int, rfl, rc6, td, .int n, fun H7 s7 => ?_⟩
        refine ⟨_, rfl, _, _, _, _, true, rfl, .ty _, (Thing.bl _).tyx, kit_ty (kit_bool .bl), true, rfl, ?_⟩
        refine ⟨_, rfl, _, rfl, rfl, _, rfl, iteN (by rw [show (if false = true then !inV (.int n) ((numsOf ts).map V.int) else inV (.int n) ((numsOf ts).map V.int)) = hasB (.int n) ts from inV_ints]; simp) ?_⟩
        exact ⟨⟨_, _, _, _, rfl⟩, kk6.trans (Same.keep kk6.box s7)⟩
      | bl z =>
        refine ⟨_, rfl, _, _, _, _, true, rfl, .ty _, (Thing.bl z).tyx, kit_ty (kit_int .bl), true, rfl, ?_⟩
        refine ⟨_, rfl, _, _, _, _, true, rfl, .ty _, (Thing.bl z).tyx, kit_ty (kit_bool .bl), true, rfl, _, rfl, ?_⟩
        refine ⟨_, rfl, _, rfl, c, ts, .bl z, .bl, rfl, rc6, td, .bl z, fun H7 s7 => ?_⟩
        refine ⟨_, rfl, _, _, _, _, true, rfl, .ty _, (Thing.bl _).tyx, kit_ty (kit_bool .bl), true, rfl, ?_⟩
        refine ⟨_, rfl, _, rfl, rfl, _, rfl, iteN (by simp [hasB]) ?_⟩
        exact ⟨⟨_, _, _, _, rfl⟩, kk6.trans (Same.keep kk6.box s7)⟩
      | non =>
        refine ⟨_, rfl, _, _, _, _, false, rfl, .ty _, Thing.non.tyx, kit_ty (kit_int .non), false, rfl, ?_⟩
        refine ⟨_, rfl, _, rfl, c, ts, .non, .non, rfl, rc6, td, .non, fun H7 s7 => ?_⟩
        refine ⟨_, rfl, _, _, _, _, true, rfl, .ty _, (Thing.bl _).tyx, kit_ty (kit_bool .bl), true, rfl, ?_⟩
        refine ⟨_, rfl, _, rfl, rfl, _, rfl, iteN (by simp [hasB]) ?_⟩
        exact ⟨⟨_, _, _, _, rfl⟩, kk6.trans (Same.keep kk6.box s7)⟩
      | str z =>
        refine ⟨_, rfl, _, _, _, _, false, rfl, .ty _, (Thing.str z).tyx, kit_ty (kit_int .str), false, rfl, ?_⟩
        refine ⟨_, rfl, _, rfl, c, ts, .str z, .str, rfl, rc6, td, .str z, fun H7 s7 => ?_⟩
        refine ⟨_, rfl, _, _, _, _, true, rfl, .ty _, (Thing.bl _).tyx, kit_ty (kit_bool .bl), true, rfl, ?_⟩
        refine ⟨_, rfl, _, rfl, rfl, _, rfl, iteN (by simp [hasB]) ?_⟩
        exact ⟨⟨_, _, _, _, rfl⟩, kk6.trans (Same.keep kk6.box s7)⟩
      | lst h => simp at mv
      | tup h => simp at mv
      | dic h => simp at mv
    · obtain ⟨⟨y2, y4, y5, y6, rfl⟩, kk⟩ := hW
      exact q H' kk

theorem PrsAt.reverse {H : Hp} {xs : List V} {rs : Prs} (h : PrsAt H xs rs) : PrsAt H xs.reverse rs.reverse := by
  induction h with
  | nil => exact .nil
  | cons e _ ih =>
    rw [List.reverse_cons, List.reverse_cons]
    exact ih.append (.cons e .nil)
theorem TupAt.keep {H H' : Hp} {a b : Addr} {rs : Prs} (h : TupAt H a rs) (hb : Box H b) (k : Keep b H H') : TupAt H' a rs := by
  obtain ⟨d, m, c, e2⟩ := hb
  have z : ∀ p ts, H p = some (.tup ts) → H' p = some (.tup ts) := fun p ts e => k.old _ _ (fun z => by rw [z, e2] at e; cases e) e
  obtain ⟨xs, e, p⟩ := h
  exact ⟨xs, z _ _ e, p.mono z⟩
/-- a row handed in, as a list or as a tuple -/
def Hand (H : Hp) (x : Addr) (rs : Prs) (d : PyData) : Prop := (RunsAt H x rs ∧ d = runsD rs) ∨ (TupAt H x rs ∧ d = .tuple (rs.map pairD))
theorem Hand.keep {H H' : Hp} {a b : Addr} {rs : Prs} {d : PyData} (h : Hand H a rs d) (hb : Box H b) (k : Keep b H H') (n : a ≠ b) : Hand H' a rs d := h.elim (fun z => .inl ⟨z.1.keep hb k n, z.2⟩) (fun z => .inr ⟨z.1.keep hb k, z.2⟩)
theorem Hand.same {H H' : Hp} {a : Addr} {rs : Prs} {d : PyData} (h : Hand H a rs d) (s : Same H H') : Hand H' a rs d := h.elim (fun z => .inl ⟨z.1.same s, z.2⟩) (fun z => .inr ⟨z.1.same s, z.2⟩)
theorem Hand.dp {K : PySem.W.Frag} {H : Hp} {a : Addr} {rs : Prs} {d : PyData} (h : Hand H a rs d) : Dp K H (.ref a) d := by
  rcases h with ⟨h, rfl⟩ | ⟨h, rfl⟩
  · exact h.dp
  · exact h.dp
theorem Hand.row {H : Hp} {a : Addr} {rs : Prs} {d : PyData} (h : Hand H a rs d) : RunsAt H a rs ∨ TupAt H a rs := h.elim (fun z => .inl z.1) (fun z => .inr z.1)
theorem Hand.nice {H : Hp} {a : Addr} {rs : Prs} {d : PyData} (h : Hand H a rs d) (ok : ∀ r ∈ rs, Okr r) : Nice d 2 (rs.length * 3) := by
  have z : NiceAll (rs.map pairD) 1 ((rs.map pairD).length * 3) := niceAll_of fun d m => by
    obtain ⟨r, mr, rfl⟩ := List.mem_map.mp m
    exact nice_pair (ok r mr)
  rw [List.length_map] at z
  rcases h with ⟨h, rfl⟩ | ⟨h, rfl⟩
  · exact z.list
  · exact z.tup
theorem cut_to (xs : List V) (m : Nat) : cutV xs none (some (m : Int)) = xs.take m := by
  unfold cutV HT.sIx
  simp only [List.drop_zero, Nat.sub_zero]
  by_cases h : m ≤ xs.length
  · rw [if_neg (by omega)]
    congr 1
    omega
  · rw [if_neg (by omega), List.take_of_length_le (by omega), List.take_of_length_le (by omega)]
def oddN : List Int := (List.range 200).map fun k : Nat => 1 + (k : Int) * 2
theorem rgL_odd : rgL 1 2 200 = oddN.map V.int := by
  unfold rgL oddN
  rw [List.map_map]
  rfl
theorem odd_bnd : ∀ n ∈ oddN, 0 ≤ n ∧ n < 400 := fun n m => by
  obtain ⟨k, mk, rfl⟩ := List.mem_map.mp m
  have := List.mem_range.mp mk
  omega
theorem odd_len : oddN.length = 200 := by simp [oddN]
theorem mem_oddN (n : Int) : n ∈ oddN ↔ 0 ≤ n ∧ n < 400 ∧ n % 2 = 1 := by
  unfold oddN
  rw [List.mem_map]
  constructor
  · rintro ⟨k, mk, rfl⟩
    have := List.mem_range.mp mk
    omega
  · intro h
    exact ⟨(n / 2).toNat, List.mem_range.mpr (by omega), by omega⟩
theorem tidy_oddN : Tidy (oddN.map fun n => (n, n + 1)) := by
  constructor
  · unfold oddN
    rw [List.map_map]
    refine List.pairwise_map.mpr (List.pairwise_lt_range.imp fun {a b} h => ?_)
    simp only [Function.comp]
    omega
  · intro r m
    obtain ⟨n, mn, rfl⟩ := List.mem_map.mp m
    have := odd_bnd n mn
    unfold Okr
    simp only
    omega
def numsOn (bs : List Bool) (i : Nat) : List Int := ((List.range i).filter fun k => bs[k]?.getD false).map fun k : Nat => 0 + (k : Int)
theorem on_nums {bs : List Bool} {ts : Prs} (hl : bs.length = 400) (td : Tidy ts) (hm : ∀ n, MemR n ts ↔ On bs n) : numsOn bs 400 = numsOf ts := by
  refine up_uniq ?_ (nums_up td) fun n => ?_
  · refine List.pairwise_map.mpr ((List.pairwise_lt_range.filter _).imp fun {a b} h => ?_)
    omega
  · rw [mem_numsOf, hm n]
    unfold numsOn On
    rw [List.mem_map]
    constructor
    · rintro ⟨k, mk, rfl⟩
      obtain ⟨h1, h2⟩ := List.mem_filter.mp mk
      have h3 := List.mem_range.mp h1
      have e : (0 + (k : Int)).toNat = k := by omega
      rw [e]
      refine ⟨by omega, ?_⟩
      have h4 : k < bs.length := by omega
      rw [List.getElem?_eq_getElem h4] at h2 ⊢
      simpa using h2
    · rintro ⟨h1, h2⟩
      have h3 := (List.getElem?_eq_some_iff.mp h2).1
      refine ⟨n.toNat, List.mem_filter.mpr ⟨List.mem_range.mpr (by omega), ?_⟩, by omega⟩
      rw [h2]
      rfl
theorem tAll : Tidy [(0, 400)] := ⟨List.pairwise_singleton _ _, fun r m => by
  rcases List.mem_cons.mp m with z | z
  · rw [z]; exact ⟨by decide, by decide, by decide⟩
  · cases z⟩
theorem eqvR {rs : Prs} (t : Tidy rs) : PyData.eqv (runsD rs) (runsD rs) = true := SeqAt.eqv_refl _ t.nice.lay
def spLaw (K : PySem.W.Frag) : Sp := fun vs H Q _ => ∃ (a : Addr) (ns : List Int), vs = [.ref a] ∧ SqL K H a (ns.map V.int) ∧ ns.length ≤ 63 ∧ ∀ H', Q (.bl true) H'
theorem ok_law {f : Addr} {fd : FuncData} (T : Tx mg) (G__law_cell_at : Ok P w K mg base CX0 "_law_cell_at" 1 ["_law_script", "_law_k"] (spCell K)) (G__law_box : Ok P w K mg base CX0 "_law_box" 1 ["_law_cell"] spBox) (G__law_take : Ok P w K mg base CX0 "_law_take" 1 ["_law_box_here", "_law_many"] spTake)
    (G__law_stretches : Ok P w K mg base CX0 "_law_stretches" 2 ["_law_box_here", "_law_most"] spStretches) (G__law_marks : Ok P w K mg base CX0 "_law_marks" 1 ["_law_stretches_here"] spMarks) (G__law_rising : Ok P w K mg base CX0 "_law_rising" 1 ["_law_marks_here"] spRising)
    (G_is_stretch : Ok P w K mg base CX0 "is_stretch" 2 ["thing"] spStretch) (G_runs_of : Ok P w K mg base CX0 "runs_of" 3 ["stretches"] spRunsOf) (G_runs_by : Ok P w K mg base CX0 "runs_by" 3 ["numbers"] spRunsBy)
    (G__law_mixed : Ok P w K mg base CX0 "_law_mixed" 2 ["_law_box_here", "_law_some"] spMixed) (G__law_right : OkG P w K mg base CX0 "_law_right" 6 ["_law_box_here", "_law_found", "_law_due", "_law_numbers"] spRight)
    (F : Fun K "law" "law" slaw f fd) : FnG P w K mg base CX0 7 f fd ["_law_script"] (spLaw K) := by
  refine okG F sclaw (fun vs H Q E h => ?_) (fun cdv A outer s H vs Q E hgd hr h => ?_)
  · obtain ⟨a, ns, rfl, _⟩ := h
    rfl
  · obtain ⟨a, ns, rfl, ha, hlen, q⟩ := h
    have hu : (A.deeper (envOfC "law" (defScope slaw) s.heap.objs.size f cdv)).units + 64 < cLine := hr.units
    refine ⟨_, (pss_cons (ps_for PassesOwn.never rfl (pi_range1 (by rfl) T.b_range (pa_cons (pe_callB (call_max2 rfl) (by rfl) T.b_max PyProof.Rows.boot_max (pa_cons pe_int (pa_cons (pe_callB (call_min2 rfl) (by rfl) T.b_min PyProof.Rows.boot_min (pa_cons (pe_callB call_len_seq (by rfl) T.b_len PySem.boot_len (pa_cons (pv 0) pa_nil)) (pa_cons pe_int pa_nil))) pa_nil))) pa_nil)) (pg_name (i := 1) sclaw.nd rfl (.inl rfl)) (pss_cons (ps_set (i := 4) sclaw.nd rfl (.inl rfl) (pe_callO G__law_box (hr.mono (by decide)) (by rfl) pass0 (pa_cons (pe_callO G__law_cell_at (hr.mono (by decide)) (by rfl) pass0 (pa_cons (pv 0) (pa_cons (pv 1) pa_nil))) pa_nil)))
      (pss_cons (ps_set (i := 5) sclaw.nd rfl (.inl rfl) (pe_callO G__law_stretches (hr.mono (by decide)) (by rfl) pass0 (pa_cons (pv 4) (pa_cons (pe_ix ix_list (pe_lst (pa_cons pe_int (pa_cons pe_int (pa_cons pe_int pa_nil)))) (pe_callO G__law_take (hr.mono (by decide)) (by rfl) pass0 (pa_cons (pv 4) (pa_cons pe_int pa_nil))) (fun _ _ => rfl)) pa_nil))))
      (pss_cons (ps_set (i := 6) sclaw.nd rfl (.inr rfl) (pe_callO G__law_marks (hr.mono (by decide)) (by rfl) pass0 (pa_cons (pv 5) pa_nil)))
      (pss_cons (ps_set (i := 7) sclaw.nd rfl (.inl rfl) (pe_callO G__law_rising (hr.mono (by decide)) (by rfl) pass0 (pa_cons (pv 6) pa_nil)))
      (pss_cons (ps_setLc (i := 8) (own := [("_law_number", 14)]) (g := gName 14) rfl sclaw.nd rfl rfl (sw_true rfl rfl rfl (by decide +kernel)) (pi_range1 (by rfl) T.b_range (pa_cons pe_int pa_nil)) (blkOk_by (own := [("_law_number", 14)]) (N := ["_law_script", "_law_k", "_law_odd", "_law_singles", "_law_box_here", "_law_some", "_law_marks_here", "_law_due", "_law_numbers", "_law_handed", "_law_each", "_law_short", "_law_kept", "_law_found", "_law_number", "_law_one"]) (sc := defScope slaw) (by decide +kernel)) (fun _ _ _ _ _ => pg_name (i := 14) sclaw.nd rfl (Or.inl rfl)) (fun _ _ _ _ _ => pts_one (pt_val (pe_ix (ix_listK (K := K) rfl) (pv 6) (pv 14) (fun _ _ => rfl)))) (fun _ _ _ _ _ => (pv 14)))
      (pss_cons (ps_for PassesOwn.never rfl (pi_list (pe_lst (pa_cons (pe_callTy call_list_of (by rfl) T.b_list PyProof.Rows.boot_list (pa_cons (pv 5) pa_nil)) (pa_cons (pe_callTy call_tuple_of (by rfl) T.b_tuple PyProof.Rows.boot_tuple (pa_cons (pv 5) pa_nil)) (pa_cons (pe_listRev rfl (by rfl) T.b_list (by rfl) T.b_reversed (pv 5)) pa_nil))))) (pg_name (i := 9) sclaw.nd rfl (.inl rfl)) (pss_cons (ps_set (i := 12) sclaw.nd rfl (.inl rfl) (pe_callB (call_reprD hgd hu) (by rfl) T.b_repr PyProof.Rows.boot_repr (pa_cons (pv 9) pa_nil)))
      (pss_cons (ps_set (i := 13) sclaw.nd rfl (.inl rfl) (pe_callO G_runs_of (hr.mono (by decide)) (by rfl) pass0 (pa_cons (pv 9) pa_nil)))
      (pss_cons (ps_if (PW.pt (pw_or (pt_cmpR op_ne (pe_callB (call_reprD hgd hu) (by rfl) T.b_repr PyProof.Rows.boot_repr (pa_cons (pv 9) pa_nil)) (pv 12) (nomark _)) (pw_or1 (pt_not (pt_val (pe_callG G__law_right (hr.mono (by decide)) hgd (by rfl) pass0 (pa_cons (pv 4) (pa_cons (pv 13) (pa_cons (pv 7) (pa_cons (pv 8) pa_nil)))))))))) (pss_one (ps_ret pe_bl)) pss_nil)
      (pss_one (ps_expr (pe_bm PySem.F.plainAttrs_list PySem.F.slot_list_append PySem.F.type_list_append mt_append (pv 13) (pa_cons (pe_tup (pa_cons pe_int (pa_cons pe_int pa_nil))) pa_nil))))))))
      (pss_cons (ps_if (PW.pt (pw_or (pt_cmpR (op_neD hr.units) (pe_lc (own := [("_law_one", 15)]) (g := gName 15) rfl sclaw.nd (pi_list (pv 5)) (blkOk_by (own := [("_law_one", 15)]) (N := ["_law_script", "_law_k", "_law_odd", "_law_singles", "_law_box_here", "_law_some", "_law_marks_here", "_law_due", "_law_numbers", "_law_handed", "_law_each", "_law_short", "_law_kept", "_law_found", "_law_number", "_law_one"]) (sc := defScope slaw) (by decide +kernel)) (fun _ _ _ _ _ => pg_name (i := 15) sclaw.nd rfl (Or.inl rfl)) (fun _ _ _ _ _ => pts_one (pt_cmpR op_notBl (pe_callO G_is_stretch (hr.mono (by decide)) (by rfl) pass0 (pa_cons (pv 15) pa_nil)) pe_bl (nomark _))) (fun _ _ _ _ _ => (pv 15))) (pe_lst pa_nil) (nomark _)) (pw_or1 (pt_cmpR op_ne (pe_callB (call_reprD hgd hu) (by rfl) T.b_repr PyProof.Rows.boot_repr (pa_cons (pe_callO G_runs_of (hr.mono (by decide)) (by rfl) pass0 (pa_cons (pv 7) pa_nil)) pa_nil)) (pe_callB (call_reprD hgd hu) (by rfl) T.b_repr PyProof.Rows.boot_repr (pa_cons (pv 7) pa_nil)) (nomark _))))) (pss_one (ps_ret pe_bl)) pss_nil)
      (pss_cons (ps_set (i := 10) sclaw.nd rfl (.inr rfl) (pe_callO G__law_mixed (hr.mono (by decide)) (by rfl) pass0 (pa_cons (pv 4) (pa_cons (pe_op op_cat (pe_slice sl_list (pv 8) po_none (po_some pe_int)) (pe_slice sl_list (pv 8) po_none (po_some pe_int))) pa_nil))))
      (pss_cons (ps_set (i := 11) sclaw.nd rfl (.inl rfl) (pe_callO G__law_rising (hr.mono (by decide)) (by rfl) pass0 (pa_cons (pe_lc (own := [("_law_number", 14)]) (g := gName 14) (tt := tYes) rfl sclaw.nd (pi_range1 (by rfl) T.b_range (pa_cons pe_int pa_nil)) (blkOk_by (own := [("_law_number", 14)]) (N := ["_law_script", "_law_k", "_law_odd", "_law_singles", "_law_box_here", "_law_some", "_law_marks_here", "_law_due", "_law_numbers", "_law_handed", "_law_each", "_law_short", "_law_kept", "_law_found", "_law_number", "_law_one"]) (sc := defScope slaw) (by decide +kernel)) (fun _ _ _ _ _ => pg_name (i := 14) sclaw.nd rfl (Or.inl rfl)) (fun _ _ _ _ _ => pts_nil) (fun _ _ _ _ _ => (pe_cmpR (op_in_seqK (K := K) rfl) (pv 14) (pv 10) (by rfl)))) pa_nil)))
      (pss_one (ps_if (PW.pt (pw_or (pt_cmpR op_ne (pe_callB (call_reprD hgd hu) (by rfl) T.b_repr PyProof.Rows.boot_repr (pa_cons (pe_callO G_runs_by (hr.mono (by decide)) (by rfl) pass0 (pa_cons (pv 10) pa_nil)) pa_nil)) (pe_callB (call_reprD hgd hu) (by rfl) T.b_repr PyProof.Rows.boot_repr (pa_cons (pv 11) pa_nil)) (nomark _)) (pw_or1 (pt_cmpR op_ne (pe_callB (call_reprD hgd hu) (by rfl) T.b_repr PyProof.Rows.boot_repr (pa_cons (pe_callO G_runs_by (hr.mono (by decide)) (by rfl) pass0 (pa_cons (pe_callTy call_tuple_of (by rfl) T.b_tuple PyProof.Rows.boot_tuple (pa_cons (pv 10) pa_nil)) pa_nil)) pa_nil)) (pe_callB (call_reprD hgd hu) (by rfl) T.b_repr PyProof.Rows.boot_repr (pa_cons (pv 11) pa_nil)) (nomark _))))) (pss_one (ps_ret pe_bl)) pss_nil))))))))))))
      (pss_cons (ps_set (i := 2) sclaw.nd rfl (.inl rfl) (pe_listR rfl (by rfl) T.b_list (by rfl) T.b_range (pa_cons pe_int (pa_cons pe_int (pa_cons pe_int pa_nil)))))
      (pss_cons (ps_if (PW.pt (pw_or (pt_cmpR (op_neD hr.units) (pe_callO G_runs_by (hr.mono (by decide)) (by rfl) pass0 (pa_cons (pe_op op_cat (pv 2) (pe_slice sl_list (pv 2) po_none (po_some pe_int))) pa_nil)) (pe_lc (own := [("_law_number", 14)]) (g := gName 14) (tt := tYes) rfl sclaw.nd (pi_list (pv 2)) (blkOk_by (own := [("_law_number", 14)]) (N := ["_law_script", "_law_k", "_law_odd", "_law_singles", "_law_box_here", "_law_some", "_law_marks_here", "_law_due", "_law_numbers", "_law_handed", "_law_each", "_law_short", "_law_kept", "_law_found", "_law_number", "_law_one"]) (sc := defScope slaw) (by decide +kernel)) (fun _ _ _ _ _ => pg_name (i := 14) sclaw.nd rfl (Or.inl rfl)) (fun _ _ _ _ _ => pts_nil) (fun _ _ _ _ _ => (pe_tup (pa_cons (pv 14) (pa_cons (pe_op op_add (pv 14) pe_int) pa_nil))))) (nomark _)) (pw_or1 (pt_cmpR (op_neD hr.units) (pe_callO G_runs_by (hr.mono (by decide)) (by rfl) pass0 (pa_cons (pe_listR rfl (by rfl) T.b_list (by rfl) T.b_range (pa_cons pe_int pa_nil)) pa_nil)) (pe_lst (pa_cons (pe_tup (pa_cons pe_int (pa_cons pe_int pa_nil))) pa_nil)) (nomark _))))) (pss_one (ps_ret pe_bl)) pss_nil)
      (pss_cons (ps_set (i := 3) sclaw.nd rfl (.inl rfl) (pe_op op_cat (pe_lc (own := [("_law_number", 14)]) (g := gName 14) (tt := tYes) rfl sclaw.nd (pi_list (pv 2)) (blkOk_by (own := [("_law_number", 14)]) (N := ["_law_script", "_law_k", "_law_odd", "_law_singles", "_law_box_here", "_law_some", "_law_marks_here", "_law_due", "_law_numbers", "_law_handed", "_law_each", "_law_short", "_law_kept", "_law_found", "_law_number", "_law_one"]) (sc := defScope slaw) (by decide +kernel)) (fun _ _ _ _ _ => pg_name (i := 14) sclaw.nd rfl (Or.inl rfl)) (fun _ _ _ _ _ => pts_nil) (fun _ _ _ _ _ => (pe_tup (pa_cons (pv 14) (pa_cons (pe_op op_add (pv 14) pe_int) pa_nil))))) (pe_lc (own := [("_law_number", 14)]) (g := gName 14) (tt := tYes) rfl sclaw.nd (pi_range3 (by rfl) T.b_range (pa_cons pe_int (pa_cons (pe_un un_neg pe_int) (pa_cons (pe_un un_neg pe_int) pa_nil)))) (blkOk_by (own := [("_law_number", 14)]) (N := ["_law_script", "_law_k", "_law_odd", "_law_singles", "_law_box_here", "_law_some", "_law_marks_here", "_law_due", "_law_numbers", "_law_handed", "_law_each", "_law_short", "_law_kept", "_law_found", "_law_number", "_law_one"]) (sc := defScope slaw) (by decide +kernel)) (fun _ _ _ _ _ => pg_name (i := 14) sclaw.nd rfl (Or.inl rfl)) (fun _ _ _ _ _ => pts_nil) (fun _ _ _ _ _ => (pe_tup (pa_cons (pv 14) (pa_cons (pe_op op_add (pv 14) pe_int) pa_nil)))))))
      (pss_cons (ps_if (PW.pt (pw_or (pt_cmpR op_ne (pe_callB call_len_seq (by rfl) T.b_len PySem.boot_len (pa_cons (pv 3) pa_nil)) pe_int (nomark _)) (pw_or (pt_cmpR (op_neD hr.units) (pe_callO G_runs_of (hr.mono (by decide)) (by rfl) pass0 (pa_cons (pv 3) pa_nil)) (pe_lst (pa_cons (pe_tup (pa_cons pe_int (pa_cons pe_int pa_nil))) pa_nil)) (nomark _)) (pw_or1 (pt_cmpR (op_neD hr.units) (pe_callO G_runs_by (hr.mono (by decide)) (by rfl) pass0 (pa_cons (pe_revL (pv 2)) pa_nil)) (pe_callO G_runs_by (hr.mono (by decide)) (by rfl) pass0 (pa_cons (pv 2) pa_nil)) (nomark _)))))) (pss_one (ps_ret pe_bl)) pss_nil)
      (pss_one (ps_ret (pe_and (pe_cmpR (op_eqD hr.units) (pe_callO G_runs_of (hr.mono (by decide)) (by rfl) pass0 (pa_cons (pe_lst pa_nil) pa_nil)) (pe_lst pa_nil) (nomark _)) (pe_one (pe_cmpR (op_eqD hr.units) (pe_callO G_runs_by (hr.mono (by decide)) (by rfl) pass0 (pa_cons (pe_tup pa_nil) pa_nil)) (pe_lst pa_nil) (nomark _))))))))))), ?_⟩
    refine ⟨_, rfl, a, _, rfl, .inl ha, _, _, rfl, _, _, rfl, ?_⟩
    generalize hN : (if (if (8 : Int) < ((ns.map V.int).length : Int) then (8 : Int) else ((ns.map V.int).length : Int)) > 1 then (if (8 : Int) < ((ns.map V.int).length : Int) then (8 : Int) else ((ns.map V.int).length : Int)) else 1) = N
    have hN2 : 0 ≤ N ∧ N ≤ 8 := by
      rw [← hN]
      split <;> split <;> omega
    refine ⟨N, rfl, by omega, by omega, for_range (lo := 0) (n := N.toNat) (fun i σ H' => (∃ x1 x2 x3 x4 x5 x6 x7 x8 x9 x10 x11 x12 x13, σ = [some (.ref a), x1, x2, x3, x4, x5, x6, x7, x8, x9, x10, x11, x12, x13, none, none]) ∧ SqL K H' a (ns.map V.int)) ⟨⟨_, _, _, _, _, _, _, _, _, _, _, _, _, rfl⟩, ha⟩ (fun k σ H' hk hW => ?_) (fun σ H' hW => ?_)⟩
    · obtain ⟨⟨x1, x2, x3, x4, x5, x6, x7, x8, x9, x10, x11, x12, x13, rfl⟩, hs⟩ := hW
      rw [Int.zero_add]
      refine ⟨_, rfl, _, rfl, a, ns, k, rfl, hs, fun c => ⟨c, rfl, fun b H1 nb hb s1 => ?_⟩⟩
      have sb1 : SqB K H1 [b] a (ns.map V.int) := ((SqB.nil hs).add nb).same s1
      refine ⟨_, rfl, (by show 3 ≤ sizeLine; decide), fun p np => ?_⟩
      refine ⟨_, rfl, b, 3, rfl, hb.new np, by decide, by decide, fun r H2 r0 r1 k2 => ?_⟩
      have ep := k2.old p (.lst [.int 12, .int 40, .int 400]) (hb.ne np) upd_same
      obtain ⟨m, mm, em⟩ := pick (xs := [12, 40, 400]) r0 r1
      have mm' : m = 12 ∨ m = 40 ∨ m = 400 := by simpa using mm
      refine ⟨p, _, r, .int m, rfl, rfl, SqL.of ep, em, ?_⟩
      have sb2 : SqB K H2 [b] a (ns.map V.int) := (sb1.same (same_upd np)).keep List.mem_cons_self k2
      have hb2 := k2.box
      clear k2 ep em mm np sb1 hb s1 r0 r1
      refine ⟨b, m, rfl, hb2, by omega, by omega, fun c3 H3 rs n3 k3 ru3 ok3 l3 => ?_⟩
      have sb3 := sb2.keep List.mem_cons_self k3
      have hb3 := k3.box
      have nc3 : c3 ≠ b := hb2.ne n3
      refine ⟨_, rfl, c3, rs, rfl, ru3, ok3, fun cm H4 bs n4 s4 e4 l4 on4 => ?_⟩
      refine ⟨_, rfl, cm, bs, rfl, e4, l4, fun cd H5 ts g5 td5 m5 => ?_⟩
      have mts : ∀ n, MemR n ts ↔ MemR n rs := fun n => (m5 n).trans (on4 n)
      have s35 := s4.trans g5.old
      have sb5 := sb3.same s35
      have hb5 := hb3.same s35
      have ru5 := ru3.same s35
      have e5 := g5.old _ _ e4
      have ncd : cd ≠ b := (hb3.same s4).ne g5.fr
      have rd5 := g5.at'
      clear sb2 sb3 g5 k3 hb3 ru3 s35 s4 hb2 n3 n4
      -- the numbers
      refine ⟨400, rfl, by decide, by decide, fun D hD => ?_⟩
      refine lc_range (lo := 0) (n := 400) (fun i H' => Same H5 H' ∧ H' D = some (.lst ((numsOn bs i).map V.int))) ⟨Same.wr (Same.refl _) hD, upd_same⟩ (fun i H6 hi hP => ?_) (fun H6 hP => ?_)
      · obtain ⟨s6, h6⟩ := hP
        have hib : i < bs.length := by omega
        refine ⟨rfl, ?_⟩
        refine ⟨_, rfl, _, rfl, cm, _, _, .bl (bs[i]?.getD false), rfl, rfl, SqL.of (s6 _ _ e5), (by rw [Int.zero_add]; refine atI_nat ?_; rw [List.getElem?_map, List.getElem?_eq_getElem hib]; rfl), _, rfl, ?_⟩
        have en : numsOn bs (i + 1) = numsOn bs i ++ (if bs[i]?.getD false = true then [0 + (i : Int)] else []) := by
          unfold numsOn
          rw [List.range_succ, List.filter_append, List.map_append]
          congr 1
          rw [List.filter_cons]
          split <;> rfl
        have hln : (numsOn bs i).length ≤ 400 := by
          unfold numsOn
          rw [List.length_map]
          exact Nat.le_trans (List.length_filter_le _ _) (by rw [List.length_range]; omega)
        cases hbi : bs[i]?.getD false with
        | true =>
          refine ⟨_, rfl, _, h6, (by rw [List.length_map]; exact Nat.lt_of_le_of_lt (show (numsOn bs i).length ≤ 1000 by omega) (by decide)), Same.wr s6 hD, ?_⟩
          rw [upd_same, en, hbi, if_pos rfl, List.map_append]
          rfl
        | false =>
          refine ⟨s6, ?_⟩
          rw [h6, en, hbi, if_neg (by decide), List.append_nil]
      obtain ⟨s6, eD⟩ := hP
      rw [on_nums l4 td5 m5] at eD
      have nDb : D ≠ b := hb5.ne hD
      have sb6 := sb5.same s6
      have hb6 := hb5.same s6
      have ru6 := ru5.same s6
      have rd6 := rd5.same s6
      clear sb5 hb5 ru5 rd5 e5 s6 hD
      -- the rows handed in
      obtain ⟨xs, ec, px⟩ := id ru6
      have hxl : xs.length ≤ 30 := by rw [px.len]; exact l3
      refine ⟨_, rfl, c3, _, rfl, .inl (SqL.of ec), fun l1 nl1 => ?_⟩
      have w1 := same_upd nl1 (o := .lst xs)
      have el1 : RunsAt (upd H6 l1 (.lst xs)) l1 rs := ⟨xs, upd_same, px.same w1⟩
      generalize upd H6 l1 (.lst xs) = U1 at w1 el1 ⊢
      refine ⟨_, rfl, c3, _, rfl, .inl ⟨SqL.of (w1 _ _ ec), fun l2 nl2 => ?_⟩⟩
      have w2 := same_upd nl2 (o := .tup xs)
      have el2 : TupAt (upd U1 l2 (.tup xs)) l2 rs := ⟨xs, upd_same, (px.same w1).same w2⟩
      generalize upd U1 l2 (.tup xs) = U2 at w2 el2 ⊢
      have v2 := w1.trans w2
      refine ⟨_, rfl, c3, _, rfl, SqL.of (v2 _ _ ec), fun l4' nl4 => ?_⟩
      have w3 := same_upd nl4 (o := .lst xs.reverse)
      have el3 : RunsAt (upd U2 l4' (.lst xs.reverse)) l4' rs.reverse := ⟨xs.reverse, upd_same, ((px.same v2).same w3).reverse⟩
      generalize upd U2 l4' (.lst xs.reverse) = U3 at w3 el3 ⊢
      refine ⟨(by show 3 ≤ sizeLine; decide), fun pl npl => ?_⟩
      have w4 := same_upd npl (o := .lst [.ref l1, .ref l2, .ref l4'])
      have epl : upd U3 pl (.lst [.ref l1, .ref l2, .ref l4']) pl = some (.lst [.ref l1, .ref l2, .ref l4']) := upd_same
      have v4 := (v2.trans w3).trans w4
      have npb : pl ≠ b := (hb6.same (v2.trans w3)).ne npl
      have nl1b : l1 ≠ b := hb6.ne nl1
      have nl2b : l2 ≠ b := (hb6.same w1).ne nl2
      have nl3b : l4' ≠ b := (hb6.same v2).ne nl4
      generalize upd U3 pl (.lst [.ref l1, .ref l2, .ref l4']) = U at w4 epl v4 ⊢
      have h1 : Hand U l1 rs (runsD rs) := .inl ⟨((el1.same w2).same w3).same w4, rfl⟩
      have h2 : Hand U l2 rs (.tuple (rs.map pairD)) := .inr ⟨(el2.same w3).same w4, rfl⟩
      have h3 : Hand U l4' rs.reverse (runsD rs.reverse) := .inl ⟨el3.same w4, rfl⟩
      have sbU := sb6.same v4
      have hbU := hb6.same v4
      have ruU := ru6.same v4
      have rdU := rd6.same v4
      have eDU := v4 _ _ eD
      clear el1 el2 el3 w1 w2 w3 w4 v2 v4 sb6 hb6 ru6 rd6 eD nl1 nl2 nl4 npl ec px
      refine ⟨pl, rfl, ⟨_, SqL.of epl⟩, for_list (K := K) (a := pl) (xs := [.ref l1, .ref l2, .ref l4']) (fun i σ H' => (∃ y9 y12 y13, σ = [some (.ref a), some (.int k), x2, x3, some (.ref b), some (.ref c3), some (.ref cm), some (.ref cd), some (.ref D), y9, x10, x11, y12, y13, none, none]) ∧ Keep b U H') ⟨⟨_, _, _, rfl⟩, Keep.refl hbU⟩ (fun i σ H' _ hW => SqL.of (hW.2.old _ _ npb epl)) (fun i x σ H' hi hW => ?_) (fun σ H' hW => ?_)⟩
      · obtain ⟨⟨y9, y12, y13, rfl⟩, kk⟩ := hW
        obtain ⟨x', rs', d, rfl, hd, nx, pm⟩ : ∃ (x' : Addr) (rs' : Prs) (d : PyData), x = V.ref x' ∧ Hand U x' rs' d ∧ x' ≠ b ∧ rs'.Perm rs := by
          have mx := List.mem_of_getElem? hi
          simp only [List.mem_cons, List.not_mem_nil, or_false] at mx
          rcases mx with rfl | rfl | rfl
          · exact ⟨_, _, _, rfl, h1, nl1b, .refl _⟩
          · exact ⟨_, _, _, rfl, h2, nl2b, .refl _⟩
          · exact ⟨_, _, _, rfl, h3, nl3b, List.reverse_perm _⟩
        have ok' : ∀ r ∈ rs', Okr r := fun r mr => ok3 r (pm.mem_iff.mp mr)
        have l' : rs'.length ≤ 30 := by rw [pm.length_eq]; exact l3
        have nd := hd.nice ok'
        have hd1 := hd.keep hbU kk nx
        refine ⟨_, rfl, _, d, rfl, hd1.dp, nd.sh, Nat.le_trans nd.dp (by decide), nd.fits (by omega), ?_⟩
        refine ⟨_, rfl, x', rs', rfl, hd1.row, ok', by omega, fun cf Hf tf gf tdf mf => ?_⟩
        have etf : tf = ts := tidy_uniq tdf td5 fun n => by rw [mf n, mts n, memR_perm pm]
        subst etf
        have kf := kk.trans (Same.keep kk.box gf.old)
        have ncf : cf ≠ b := kk.box.ne gf.fr
        have ncfU : U cf = none := by
          cases eU : U cf with
          | none => rfl
          | some o => have := gf.fr; rw [kk.old _ _ ncf eU] at this; cases this
        refine ⟨_, rfl, _, d, rfl, (hd1.same gf.old).dp, nd.sh, Nat.le_trans nd.dp (by decide), nd.fits (by omega), _, rfl, rfl, _, rfl, iteN (by simp) ?_⟩
        refine ⟨_, rfl, _, rfl, _, rfl, _, rfl, b, cf, cd, D, tf, rfl, kf.box, gf.at', (rdU.keep hbU kf ncd), td5, kf.old _ _ nDb eDU, ncf, ncd, nDb, fun H7 k7 => ⟨true, rfl, ?_⟩⟩
        obtain ⟨zs, ez, pz⟩ := gf.at'
        have ez7 := k7.old _ _ ncf ez
        refine ⟨_, rfl, .inl ⟨rfl, _, SqL.of ez7⟩, (by show 2 ≤ sizeLine; decide), fun t nt => ?_⟩
        refine ⟨cf, _, _, rfl, rfl, (by rw [upd_ne (ne_of_none ez7 nt)]; exact ez7), (by rw [pz.len]; have := tdf.len; exact Nat.lt_of_le_of_lt (show tf.length ≤ 1000 by omega) (by decide)), ?_⟩
        exact ⟨⟨_, _, _, rfl⟩, (kf.trans k7).push ncfU ncf nt⟩
      · obtain ⟨⟨y9, y12, y13, rfl⟩, kk⟩ := hW
        have ru := ruU.keep hbU kk nc3
        have rd := rdU.keep hbU kk ncd
        have eD := kk.old _ _ nDb eDU
        have sb := sbU.keep List.mem_cons_self kk
        have hb := kk.box
        clear h1 h2 h3 kk sbU hbU ruU rdU eDU epl
        -- none that is no stretch
        obtain ⟨xs, ec, px⟩ := id ru
        refine ⟨_, rfl, c3, rfl, ⟨_, SqL.of ec⟩, fun D2 hD2 => ?_⟩
        refine lc_list (K := K) (a := c3) (xs := xs) (fun i H'' => Same H' H'' ∧ H'' D2 = some (.lst [])) ⟨Same.wr (Same.refl _) hD2, upd_same⟩ (fun i H'' _ hP => SqL.of (hP.1 _ _ ec)) (fun i x H7 hi hP => ?_) (fun H7 hP => ?_)
        · obtain ⟨s7, e7⟩ := hP
          obtain ⟨t, r, rfl, hr1, et⟩ := px.get hi
          have et7 := s7 _ _ et
          refine ⟨rfl, ?_⟩
          refine ⟨_, rfl, .ref t, .tup, rfl, .tup et7, pair_flat et7, _, _, rfl, rfl, _, rfl, iteN (by rw [pair_strB et7 (ok3 r (List.mem_of_getElem? hr1))]; rfl) ?_⟩
          exact ⟨s7, e7⟩
        obtain ⟨s7, e7⟩ := hP
        refine ⟨(by show 0 ≤ sizeLine; decide), fun pe npe => ?_⟩
        have s8 := same_upd npe (o := .lst [])
        refine ⟨.list [], .list [], .lst (SqL.of (s8 _ _ e7)) .nil, .lst (SqL.of upd_same) .nil, rfl, rfl, _, rfl, iteN rfl ?_⟩
        have s78 := s7.trans s8
        generalize upd H7 pe (.lst []) = H8 at s78 ⊢
        clear s8 e7 s7
        refine ⟨_, rfl, cd, ts, rfl, .inl (rd.same s78), td5.2, (by have := td5.len; omega), fun ce He te ge tde me => ?_⟩
        have ete : te = ts := tidy_uniq tde td5 me
        subst ete
        refine ⟨_, runsD te, rfl, ge.at'.dp, tde.nice.sh, Nat.le_trans tde.nice.dp (by decide), tde.nice.fits (by decide), ?_⟩
        have s9 := s78.trans ge.old
        refine ⟨_, rfl, _, runsD te, rfl, (rd.same s9).dp, tde.nice.sh, Nat.le_trans tde.nice.dp (by decide), tde.nice.fits (by decide), rfl, _, rfl, iteN (by simp) ?_⟩
        have eD9 := s9 _ _ eD
        have sb9 := sb.same s9
        have hb9 := hb.same s9
        clear ge s9 s78 eD sb hb rd ru ec px
        -- mixed
        refine ⟨_, rfl, _, rfl, _, rfl, D, _, rfl, SqL.of eD9, fun q1 nq1 => ?_⟩
        have t1 := same_upd nq1 (o := .lst (cutV ((numsOf te).map V.int) none (some 60)))
        have eq1 : upd He q1 (.lst (cutV ((numsOf te).map V.int) none (some 60))) q1 = some (.lst (((numsOf te).take 60).map V.int)) := by
          rw [upd_same, show (some 60 : Option Int) = some ((60 : Nat) : Int) from rfl, cut_to, List.map_take]
        generalize upd He q1 (.lst (cutV ((numsOf te).map V.int) none (some 60))) = He1 at t1 eq1 ⊢
        refine ⟨_, rfl, _, rfl, D, _, rfl, SqL.of (t1 _ _ eD9), fun q2 nq2 => ?_⟩
        have t2 := same_upd nq2 (o := .lst (cutV ((numsOf te).map V.int) none (some 3)))
        have eq2 : upd He1 q2 (.lst (cutV ((numsOf te).map V.int) none (some 3))) q2 = some (.lst (((numsOf te).take 3).map V.int)) := by
          rw [upd_same, show (some 3 : Option Int) = some ((3 : Nat) : Int) from rfl, cut_to, List.map_take]
        generalize upd He1 q2 (.lst (cutV ((numsOf te).map V.int) none (some 3))) = He2 at t2 eq2 ⊢
        refine ⟨_, _, _, _, rfl, rfl, t2 _ _ eq1, eq2, (by rw [List.length_map, List.length_map, List.length_take, List.length_take]; exact len_le (by omega)), fun q3 nq3 => ?_⟩
        have t3 := same_upd nq3 (o := .lst (((numsOf te).take 60).map V.int ++ ((numsOf te).take 3).map V.int))
        have eq3 : upd He2 q3 (.lst (((numsOf te).take 60).map V.int ++ ((numsOf te).take 3).map V.int)) q3 = some (.lst (((numsOf te).take 60 ++ (numsOf te).take 3).map V.int)) := by
          rw [upd_same, List.map_append]
        generalize upd He2 q3 (.lst (((numsOf te).take 60).map V.int ++ ((numsOf te).take 3).map V.int)) = He3 at t3 eq3 ⊢
        have t13 := (t1.trans t2).trans t3
        have mem60 : ∀ n ∈ (numsOf te).take 60 ++ (numsOf te).take 3, n ∈ numsOf te := fun n mn => by
          rcases List.mem_append.mp mn with z | z
          · exact List.mem_of_mem_take z
          · exact List.mem_of_mem_take z
        refine ⟨b, q3, (numsOf te).take 60 ++ (numsOf te).take 3, rfl, hb9.same t13, eq3, fun n mn => nums_nat td5 n (mem60 n mn), (by rw [List.length_append, List.length_take, List.length_take]; omega), fun cx Hx ms ncx kx ex pmx => ?_⟩
        have bms : ∀ n ∈ ms, 0 ≤ n ∧ n < 400 := fun n mn => td5.bnd (mem_numsOf.mp (mem60 n (pmx.mem_iff.mp mn)))
        have lms : ms.length ≤ 63 := by rw [pmx.length_eq, List.length_append, List.length_take, List.length_take]; omega
        have sbx := (sb9.same t13).keep List.mem_cons_self kx
        clear kx t13 t1 t2 t3 eq1 eq2 eq3 sb9 hb9 eD9
        -- short
        refine ⟨400, rfl, by decide, by decide, fun D3 hD3 => lc_bools (n := 400) (f := fun k => decide ((0 + (k : Int)) ∈ ms)) hD3 (fun _ => rfl) (by decide) (fun k H' Q' hk sH q' => ?_) (fun Hy sy ey => ?_)⟩
        · refine ⟨_, rfl, _, rfl, cx, _, rfl, .inl (SqL.of (sH _ _ ex)), rfl, flat_ints _, ?_⟩
          rw [show (if false = true then !inV (.int (0 + (k : Int))) (ms.map V.int) else inV (.int (0 + (k : Int))) (ms.map V.int)) = decide ((0 + (k : Int)) ∈ ms) from inV_ints]
          exact q'
        refine ⟨D3, _, rfl, ey, by simp, fun cz Hz tz gz tdz mz => ?_⟩
        have mz' : ∀ n, MemR n tz ↔ n ∈ ms := fun n => by
          rw [mz n, on_map]
          constructor
          · rintro ⟨z1, z2, z3⟩
            have z4 := of_decide_eq_true z3
            have e0 : 0 + (n.toNat : Int) = n := by omega
            rwa [e0] at z4
          · intro z
            have := bms n z
            have e0 : 0 + (n.toNat : Int) = n := by omega
            exact ⟨by omega, by omega, by rw [e0]; exact decide_eq_true z⟩
        have sz := sy.trans gz.old
        have exz := sz _ _ ex
        refine ⟨_, rfl, cx, ms, rfl, .inl exz, bms, by omega, fun c1 G1 u1 o1 ud1 m1 => ?_⟩
        have eu1 : u1 = tz := tidy_uniq ud1 tdz fun n => by rw [m1 n, mz' n]
        subst eu1
        refine ⟨_, runsD u1, rfl, o1.at'.dp, ud1.nice.sh, Nat.le_trans ud1.nice.dp (by decide), ud1.nice.fits (by decide), ?_⟩
        refine ⟨_, rfl, _, runsD u1, rfl, (gz.at'.same o1.old).dp, ud1.nice.sh, Nat.le_trans ud1.nice.dp (by decide), ud1.nice.fits (by decide), rfl, _, rfl, iteN (by simp) ?_⟩
        refine ⟨_, rfl, cx, _, rfl, .inl ⟨SqL.of (o1.old _ _ exz), fun lt nlt => ?_⟩⟩
        refine ⟨lt, ms, rfl, .inr upd_same, bms, by omega, fun c2 G2 u2 o2 ud2 m2 => ?_⟩
        have eu2 : u2 = u1 := tidy_uniq ud2 ud1 fun n => by rw [m2 n, mz' n]
        subst eu2
        refine ⟨_, runsD u2, rfl, o2.at'.dp, ud1.nice.sh, Nat.le_trans ud1.nice.dp (by decide), ud1.nice.fits (by decide), ?_⟩
        have s12 := (o1.old.trans (same_upd nlt)).trans o2.old
        refine ⟨_, rfl, _, runsD u2, rfl, (gz.at'.same s12).dp, ud1.nice.sh, Nat.le_trans ud1.nice.dp (by decide), ud1.nice.fits (by decide), rfl, _, rfl, iteN (by simp) ?_⟩
        exact ⟨⟨_, _, _, _, _, _, _, _, _, _, _, _, _, rfl⟩, ((sbx.same sz).same s12).1⟩
    · obtain ⟨⟨x1, x2, x3, x4, x5, x6, x7, x8, x9, x10, x11, x12, x13, rfl⟩, hs⟩ := hW
      have rg1 : RgC 1 400 2 200 := ⟨by decide, by decide, by decide +kernel, by decide +kernel⟩
      have rg2 : RgC 398 (-1) (-2) 200 := ⟨by decide, by decide, by decide +kernel, by decide +kernel⟩
      refine ⟨1, 2, 200, .inr (.inr ⟨400, rfl, rg1⟩), by decide, fun o no => ?_⟩
      rw [rgL_odd]
      have eo : upd H' o (.lst (oddN.map V.int)) o = some (.lst (oddN.map V.int)) := upd_same
      generalize upd H' o (.lst (oddN.map V.int)) = V0 at eo ⊢
      -- runs_by(odd + odd[:9])
      refine ⟨_, rfl, _, rfl, _, rfl, o, _, rfl, SqL.of eo, fun q1 nq1 => ?_⟩
      have t1 := same_upd nq1 (o := .lst (cutV (oddN.map V.int) none (some 9)))
      have eq1 : upd V0 q1 (.lst (cutV (oddN.map V.int) none (some 9))) q1 = some (.lst ((oddN.take 9).map V.int)) := by
        rw [upd_same, show (some 9 : Option Int) = some ((9 : Nat) : Int) from rfl, cut_to, List.map_take]
      generalize upd V0 q1 (.lst (cutV (oddN.map V.int) none (some 9))) = V1 at t1 eq1 ⊢
      refine ⟨_, _, _, _, rfl, rfl, t1 _ _ eo, eq1, (by rw [List.length_map, List.length_map, List.length_take, odd_len]; exact len_le (by omega)), fun q3 nq3 => ?_⟩
      have t2 := same_upd nq3 (o := .lst (oddN.map V.int ++ (oddN.take 9).map V.int))
      have eq3 : upd V1 q3 (.lst (oddN.map V.int ++ (oddN.take 9).map V.int)) q3 = some (.lst ((oddN ++ oddN.take 9).map V.int)) := by
        rw [upd_same, List.map_append]
      generalize upd V1 q3 (.lst (oddN.map V.int ++ (oddN.take 9).map V.int)) = V2 at t2 eq3 ⊢
      have m9 : ∀ n, n ∈ oddN ++ oddN.take 9 ↔ n ∈ oddN := fun n => by
        rw [List.mem_append]
        exact ⟨fun z => z.elim id List.mem_of_mem_take, .inl⟩
      refine ⟨q3, oddN ++ oddN.take 9, rfl, .inl eq3, fun n mn => odd_bnd n ((m9 n).mp mn), (by rw [List.length_append, List.length_take, odd_len]; omega), fun c1 V3 u1 o1 ud1 m1 => ?_⟩
      have eu1 : u1 = oddN.map fun n => (n, n + 1) := tidy_uniq ud1 tidy_oddN fun n => by rw [m1 n, m9 n, mem_ones]
      subst eu1
      have t13 := (t1.trans t2).trans o1.old
      refine ⟨_, rfl, o, rfl, ⟨_, SqL.of (t13 _ _ eo)⟩, fun D hD => lc_onesL (ns := oddN) (t13 _ _ eo) hD (fun _ => rfl) (by rw [odd_len]; decide) (fun k H2 Q' q' => ⟨_, rfl, _, rfl, _, _, rfl, rfl, (by show 2 ≤ sizeLine; decide), q'⟩) (fun V4 g4 => ?_)⟩
      refine ⟨_, _, (o1.at'.same g4.old).dp, g4.at'.dp, ud1.nice.shaped (by decide), ud1.nice.shaped (by decide), _, rfl, iteN (by rw [eqvR ud1]; rfl) ?_⟩
      have eo4 := g4.old _ _ (t13 _ _ eo)
      clear g4 o1 t13 t1 t2 eq1 eq3 m1
      -- runs_by(list(range(400)))
      refine ⟨0, 1, 400, .inl ⟨400, rfl, rfl, rfl, by decide, by decide, rfl⟩, by decide, fun l nl => ?_⟩
      have el : upd V4 l (.lst (rgL 0 1 400)) l = some (.lst ((rng1 (0, 400)).map V.int)) := by
        rw [upd_same]
        exact congrArg (fun z => some (HO.lst z)) (rgL_rng1 (0, 400))
      have t1 := same_upd nl (o := .lst (rgL 0 1 400))
      generalize upd V4 l (.lst (rgL 0 1 400)) = V5 at el t1 ⊢
      refine ⟨l, rng1 (0, 400), rfl, .inl el, fun n mn => by have := mem_rng1.mp mn; simpa using this, (by simp [rng1]), fun c1 V6 u1 o1 ud1 m1 => ?_⟩
      have eu1 : u1 = [(0, 400)] := tidy_uniq ud1 tAll fun n => by rw [m1 n, mem_rng1, memR_one]
      subst eu1
      refine ⟨(by show 2 ≤ sizeLine; decide), fun t nt => ?_⟩
      refine ⟨(by show 1 ≤ sizeLine; decide), fun l1 nl1 => ?_⟩
      have w2 := same_upd nt (o := .tup [.int 0, .int 400])
      have et : upd V6 t (.tup [.int 0, .int 400]) t = some (.tup [.int 0, .int 400]) := upd_same
      generalize upd V6 t (.tup [.int 0, .int 400]) = V7 at w2 et nl1 ⊢
      have w3 := same_upd nl1 (o := .lst [.ref t])
      have el1 : RunsAt (upd V7 l1 (.lst [.ref t])) l1 [(0, 400)] := ⟨[.ref t], upd_same, .cons (w3 _ _ et) .nil⟩
      generalize upd V7 l1 (.lst [.ref t]) = V8 at w3 el1 ⊢
      refine ⟨_, _, (o1.at'.same (w2.trans w3)).dp, el1.dp, ud1.nice.shaped (by decide), ud1.nice.shaped (by decide), _, rfl, iteN (by rw [eqvR ud1]; rfl) ?_⟩
      have eo8 := w3 _ _ (w2 _ _ (o1.old _ _ (t1 _ _ eo4)))
      clear w2 w3 el1 o1 t1 el et m1 eo4 nl1
      -- singles
      refine ⟨_, rfl, o, rfl, ⟨_, SqL.of eo8⟩, fun D hD => lc_onesL (ns := oddN) eo8 hD (fun _ => rfl) (by rw [odd_len]; decide) (fun k H2 Q' q' => ⟨_, rfl, _, rfl, _, _, rfl, rfl, (by show 2 ≤ sizeLine; decide), q'⟩) (fun V9 g9 => ?_)⟩
      refine ⟨_, rfl, _, rfl, 398, -1, -2, 200, rfl, rg2, fun D2 hD2 => lc_ones (n := 200) hD2 (fun _ => rfl) (by decide) (fun k H2 Q' q' => ⟨_, rfl, _, rfl, _, _, rfl, rfl, (by show 2 ≤ sizeLine; decide), q'⟩) (fun V10 g10 => ?_)⟩
      obtain ⟨xa, ea, pa⟩ := g9.at'.same g10.old
      obtain ⟨xb, eb, pb⟩ := g10.at'
      have la : xa.length = 200 := by rw [pa.len, List.length_map, odd_len]
      have lb : xb.length = 200 := by rw [pb.len, List.length_map, List.length_range]
      refine ⟨_, _, _, _, rfl, rfl, ea, eb, (by rw [la, lb]; decide), fun ps nps => ?_⟩
      have w1 := same_upd nps (o := .lst (xa ++ xb))
      have eps : upd V10 ps (.lst (xa ++ xb)) ps = some (.lst (xa ++ xb)) := upd_same
      generalize upd V10 ps (.lst (xa ++ xb)) = V11 at w1 eps ⊢
      have rps : RunsAt V11 ps ((oddN.map fun n => (n, n + 1)) ++ ((List.range 200).map fun i : Nat => (398 + (i : Int) * -2, 398 + (i : Int) * -2 + 1))) := ⟨_, eps, (pa.same w1).append (pb.same w1)⟩
      have eo11 := w1 _ _ (g10.old _ _ (g9.old _ _ eo8))
      refine ⟨_, rfl, ps, _, rfl, .inl (SqL.of eps), rfl, _, rfl, iteN (by simp [la, lb]) ?_⟩
      refine ⟨_, rfl, ps, _, rfl, .inl rps, fun r mr => ?_, (by simp [odd_len]), fun c1 V12 u1 o1 ud1 m1 => ?_⟩
      · rcases List.mem_append.mp mr with z | z
        · exact tidy_oddN.2 r z
        · obtain ⟨i, mi, rfl⟩ := List.mem_map.mp z
          have := List.mem_range.mp mi
          unfold Okr
          simp only
          omega
      have eu1 : u1 = [(0, 400)] := tidy_uniq ud1 tAll fun n => by
        rw [m1 n, memR_append, mem_ones, mem_oddN, memR_one]
        constructor
        · rintro (z | ⟨r, mr, z⟩)
          · omega
          · obtain ⟨i, mi, rfl⟩ := List.mem_map.mp mr
            have := List.mem_range.mp mi
            simp only at z
            omega
        · intro z
          by_cases zo : n % 2 = 1
          · exact .inl ⟨by omega, by omega, zo⟩
          · refine .inr ⟨_, List.mem_map.mpr ⟨((398 - n) / 2).toNat, List.mem_range.mpr (by omega), rfl⟩, ?_, ?_⟩ <;> simp only <;> omega
      subst eu1
      refine ⟨(by show 2 ≤ sizeLine; decide), fun t nt => ?_⟩
      refine ⟨(by show 1 ≤ sizeLine; decide), fun l1 nl1 => ?_⟩
      have w2 := same_upd nt (o := .tup [.int 0, .int 400])
      have et : upd V12 t (.tup [.int 0, .int 400]) t = some (.tup [.int 0, .int 400]) := upd_same
      generalize upd V12 t (.tup [.int 0, .int 400]) = V13 at w2 et nl1 ⊢
      have w3 := same_upd nl1 (o := .lst [.ref t])
      have el1 : RunsAt (upd V13 l1 (.lst [.ref t])) l1 [(0, 400)] := ⟨[.ref t], upd_same, .cons (w3 _ _ et) .nil⟩
      generalize upd V13 l1 (.lst [.ref t]) = V14 at w3 el1 ⊢
      refine ⟨_, _, (o1.at'.same (w2.trans w3)).dp, el1.dp, ud1.nice.shaped (by decide), ud1.nice.shaped (by decide), _, rfl, iteN (by rw [eqvR ud1]; rfl) ?_⟩
      have eo14 := w3 _ _ (w2 _ _ (o1.old _ _ eo11))
      clear w2 w3 el1 o1 et m1 nl1 rps eps w1 ea eb pa pb g9 g10 la lb
      -- odd[::-1]
      refine ⟨_, rfl, o, _, rfl, SqL.of eo14, fun pr npr => ?_⟩
      have w1 := same_upd npr (o := .lst (oddN.map V.int).reverse)
      have epr : upd V14 pr (.lst (oddN.map V.int).reverse) pr = some (.lst (oddN.reverse.map V.int)) := by
        rw [upd_same, List.map_reverse]
      generalize upd V14 pr (.lst (oddN.map V.int).reverse) = V15 at w1 epr ⊢
      refine ⟨pr, oddN.reverse, rfl, .inl epr, fun n mn => odd_bnd n (List.mem_reverse.mp mn), (by rw [List.length_reverse, odd_len]; decide), fun c1 V16 u1 o1 ud1 m1 => ?_⟩
      refine ⟨_, rfl, o, oddN, rfl, .inl (o1.old _ _ (w1 _ _ eo14)), odd_bnd, (by rw [odd_len]; decide), fun c2 V17 u2 o2 ud2 m2 => ?_⟩
      have eu : u1 = u2 := tidy_uniq ud1 ud2 fun n => by rw [m1 n, m2 n, List.mem_reverse]
      subst eu
      refine ⟨_, _, (o1.at'.same o2.old).dp, o2.at'.dp, ud1.nice.shaped (by decide), ud1.nice.shaped (by decide), _, rfl, iteN (by rw [eqvR ud1]; rfl) ?_⟩
      clear o1 o2 m1 m2 w1 epr
      -- the last answers
      refine ⟨(by show 0 ≤ sizeLine; decide), fun e1 ne1 => ?_⟩
      refine ⟨e1, [], rfl, .inl runs_new, fun r m => (by cases m), by decide, fun c1 V18 u1 o1 ud1 m1 => ?_⟩
      have eu1 : u1 = [] := tidy_uniq ud1 tidy_nil m1
      subst eu1
      refine ⟨(by show 0 ≤ sizeLine; decide), fun e2 ne2 => ?_⟩
      refine ⟨runsD [], .list [], (o1.at'.same (same_upd ne2)).dp, .lst (SqL.of upd_same) .nil, rfl, rfl, true, rfl, ?_⟩
      refine ⟨(by show 0 ≤ sizeLine; decide), fun e3 ne3 => ?_⟩
      refine ⟨e3, [], rfl, .inr upd_same, fun r m => (by cases m), by decide, fun c2 V19 u2 o2 ud2 m2 => ?_⟩
      have eu2 : u2 = [] := tidy_uniq ud2 tidy_nil fun n => by rw [m2 n]; exact ⟨fun z => (by cases z), fun z => absurd z memR_nil⟩
      subst eu2
      refine ⟨(by show 0 ≤ sizeLine; decide), fun e4 ne4 => ?_⟩
      exact ⟨runsD [], .list [], (o2.at'.same (same_upd ne4)).dp, .lst (SqL.of upd_same) .nil, rfl, rfl, q _⟩

end
/-! ### the end -/
theorem tx_mk {K : PySem.W.Frag} {h : Heap} {mg : Str → Option Value} (X : K.In h) (G : h.Ns mainGlobals mg)
    (b_any : PySem.W.nsIn K mainGlobals "any" = some none)
    (b_bool : PySem.W.nsIn K mainGlobals "bool" = some none)
    (b_int : PySem.W.nsIn K mainGlobals "int" = some none)
    (b_isinstance : PySem.W.nsIn K mainGlobals "isinstance" = some none)
    (b_len : PySem.W.nsIn K mainGlobals "len" = some none)
    (b_list : PySem.W.nsIn K mainGlobals "list" = some none)
    (b_max : PySem.W.nsIn K mainGlobals "max" = some none)
    (b_min : PySem.W.nsIn K mainGlobals "min" = some none)
    (b_range : PySem.W.nsIn K mainGlobals "range" = some none)
    (b_repr : PySem.W.nsIn K mainGlobals "repr" = some none)
    (b_reversed : PySem.W.nsIn K mainGlobals "reversed" = some none)
    (b_sorted : PySem.W.nsIn K mainGlobals "sorted" = some none)
    (b_sum : PySem.W.nsIn K mainGlobals "sum" = some none)
    (b_tuple : PySem.W.nsIn K mainGlobals "tuple" = some none)
    {t_MOST : Nat} (c_MOST : PySem.W.nsIn K mainGlobals "MOST" = some (some (.int 400 t_MOST))) : Tx mg :=
  { b_any := PySem.W.mg_none_of X G b_any, b_bool := PySem.W.mg_none_of X G b_bool, b_int := PySem.W.mg_none_of X G b_int, b_isinstance := PySem.W.mg_none_of X G b_isinstance, b_len := PySem.W.mg_none_of X G b_len, b_list := PySem.W.mg_none_of X G b_list, b_max := PySem.W.mg_none_of X G b_max, b_min := PySem.W.mg_none_of X G b_min, b_range := PySem.W.mg_none_of X G b_range, b_repr := PySem.W.mg_none_of X G b_repr, b_reversed := PySem.W.mg_none_of X G b_reversed, b_sorted := PySem.W.mg_none_of X G b_sorted, b_sum := PySem.W.mg_none_of X G b_sum, b_tuple := PySem.W.mg_none_of X G b_tuple, c_MOST := ⟨_, PySem.W.mg_of X G c_MOST⟩ }
theorem all_mk {l : PySem.W.OpenLaw} {w : World} {K : PySem.W.Frag} {h : Heap} {mg : Str → Option Value} {fa  : Addr}  (X : K.In h) (G : h.Ns mainGlobals mg) (hfa : mg "law" = some (.ref fa)) (T : Tx mg)
    (d_is_whole : At K "is_whole" sis_whole)
    (d_is_within : At K "is_within" sis_within)
    (d_is_stretch : At K "is_stretch" sis_stretch)
    (d_is_runs : At K "is_runs" sis_runs)
    (d_need_runs : At K "need_runs" sneed_runs)
    (d_tidied : At K "tidied" stidied)
    (d_runs_of : At K "runs_of" sruns_of)
    (d_runs_by : At K "runs_by" sruns_by)
    (d_how_many : At K "how_many" show_many)
    (d_numbers_in : At K "numbers_in" snumbers_in)
    (d_has_number : At K "has_number" shas_number)
    (d__law_cell_at : At K "_law_cell_at" s_law_cell_at)
    (d__law_box : At K "_law_box" s_law_box)
    (d__law_take : At K "_law_take" s_law_take)
    (d__law_stretches : At K "_law_stretches" s_law_stretches)
    (d__law_rising : At K "_law_rising" s_law_rising)
    (d__law_marks : At K "_law_marks" s_law_marks)
    (d__law_mixed : At K "_law_mixed" s_law_mixed)
    (d__law_right : At K "_law_right" s_law_right)
    (d_law : At K "law" slaw) :
    ∃ fd : FuncData, (∀ (s : Shared) (v : Value), BindsTo s fd ⟨[v], []⟩ [("_law_script", v)]) ∧ ∀ base : Heap, K.In base → base.Ns mainGlobals mg → FnG l.prog w K mg base CX0 7 fa fd ["_law_script"] (spLaw K) := by
  obtain ⟨f, fd, a, F⟩ := d_law.ex
  have e := hfa.symm.trans (PySem.W.mg_of X G a)
  cases e
  have F' := F
  obtain ⟨oc, od, kV, doc, pm, an, cdv, ct, osl, rfl, lk, hcd⟩ := F'.ex
  refine ⟨PySem.W.fnOf "law" "law" (defArgs slaw) (defBody slaw) (defScope slaw) .none kV doc pm an cdv ct, fun s v => .of_eq rfl, fun base _ _ => ?_⟩
  have g_is_whole : Ok l.prog w K mg base CX0 "is_whole" 1 ["thing"] spWhole := d_is_whole.ok X G (fun _ _ _ _ _ _ us hl => match us, hl with | [_], _ => rfl) fun _ _ F => ok_whole T F
  have g_is_within : Ok l.prog w K mg base CX0 "is_within" 2 ["thing", "low", "high"] spWithin := d_is_within.ok X G (fun _ _ _ _ _ _ us hl => match us, hl with | [_, _, _], _ => rfl) fun _ _ F => ok_within T g_is_whole F
  have g_is_stretch : Ok l.prog w K mg base CX0 "is_stretch" 2 ["thing"] spStretch := d_is_stretch.ok X G (fun _ _ _ _ _ _ us hl => match us, hl with | [_], _ => rfl) fun _ _ F => ok_stretch T g_is_whole F
  have g_is_runs : Ok l.prog w K mg base CX0 "is_runs" 3 ["thing"] spRuns := d_is_runs.ok X G (fun _ _ _ _ _ _ us hl => match us, hl with | [_], _ => rfl) fun _ _ F => ok_runs T g_is_stretch F
  have g_need_runs : Ok l.prog w K mg base CX0 "need_runs" 4 ["thing"] spNeed := d_need_runs.ok X G (fun _ _ _ _ _ _ us hl => match us, hl with | [_], _ => rfl) fun _ _ F => ok_need T g_is_runs F
  have g_tidied : Ok l.prog w K mg base CX0 "tidied" 1 ["stretches"] spTidied := d_tidied.ok X G (fun _ _ _ _ _ _ us hl => match us, hl with | [_], _ => rfl) fun _ _ F => ok_tidied T F
  have g_runs_of : Ok l.prog w K mg base CX0 "runs_of" 3 ["stretches"] spRunsOf := d_runs_of.ok X G (fun _ _ _ _ _ _ us hl => match us, hl with | [_], _ => rfl) fun _ _ F => ok_runsof T g_is_stretch g_tidied F
  have g_runs_by : Ok l.prog w K mg base CX0 "runs_by" 3 ["numbers"] spRunsBy := d_runs_by.ok X G (fun _ _ _ _ _ _ us hl => match us, hl with | [_], _ => rfl) fun _ _ F => ok_runsby T g_is_within g_tidied F
  have g_how_many : Ok l.prog w K mg base CX0 "how_many" 5 ["runs"] spHowMany := d_how_many.ok X G (fun _ _ _ _ _ _ us hl => match us, hl with | [_], _ => rfl) fun _ _ F => ok_howmany T g_need_runs F
  have g_numbers_in : Ok l.prog w K mg base CX0 "numbers_in" 5 ["runs"] spNumbersIn := d_numbers_in.ok X G (fun _ _ _ _ _ _ us hl => match us, hl with | [_], _ => rfl) fun _ _ F => ok_numbersin T g_need_runs F
  have g_has_number : Ok l.prog w K mg base CX0 "has_number" 5 ["runs", "thing"] spHas := d_has_number.ok X G (fun _ _ _ _ _ _ us hl => match us, hl with | [_, _], _ => rfl) fun _ _ F => ok_has T g_is_whole g_need_runs F
  have g__law_cell_at : Ok l.prog w K mg base CX0 "_law_cell_at" 1 ["_law_script", "_law_k"] (spCell K) := d__law_cell_at.ok X G (fun _ _ _ _ _ _ us hl => match us, hl with | [_, _], _ => rfl) fun _ _ F => ok_cell T F
  have g__law_box : Ok l.prog w K mg base CX0 "_law_box" 1 ["_law_cell"] spBox := d__law_box.ok X G (fun _ _ _ _ _ _ us hl => match us, hl with | [_], _ => rfl) fun _ _ F => ok_box T F
  have g__law_take : Ok l.prog w K mg base CX0 "_law_take" 1 ["_law_box_here", "_law_many"] spTake := d__law_take.ok X G (fun _ _ _ _ _ _ us hl => match us, hl with | [_, _], _ => rfl) fun _ _ F => ok_take T F
  have g__law_stretches : Ok l.prog w K mg base CX0 "_law_stretches" 2 ["_law_box_here", "_law_most"] spStretches := d__law_stretches.ok X G (fun _ _ _ _ _ _ us hl => match us, hl with | [_, _], _ => rfl) fun _ _ F => ok_stretches T g__law_take F
  have g__law_rising : Ok l.prog w K mg base CX0 "_law_rising" 1 ["_law_marks_here"] spRising := d__law_rising.ok X G (fun _ _ _ _ _ _ us hl => match us, hl with | [_], _ => rfl) fun _ _ F => ok_rising T F
  have g__law_marks : Ok l.prog w K mg base CX0 "_law_marks" 1 ["_law_stretches_here"] spMarks := d__law_marks.ok X G (fun _ _ _ _ _ _ us hl => match us, hl with | [_], _ => rfl) fun _ _ F => ok_marks T F
  have g__law_mixed : Ok l.prog w K mg base CX0 "_law_mixed" 2 ["_law_box_here", "_law_some"] spMixed := d__law_mixed.ok X G (fun _ _ _ _ _ _ us hl => match us, hl with | [_, _], _ => rfl) fun _ _ F => ok_mixed T g__law_take F
  have g__law_right : OkG l.prog w K mg base CX0 "_law_right" 6 ["_law_box_here", "_law_found", "_law_due", "_law_numbers"] spRight := d__law_right.okG X G (fun _ _ _ _ _ _ us hl => match us, hl with | [_, _, _, _], _ => rfl) fun _ _ F => ok_right T g_is_runs g_how_many g_numbers_in g_has_number g__law_take F
  exact ok_law T g__law_cell_at g__law_box g__law_take g__law_stretches g__law_marks g__law_rising g_is_stretch g_runs_of g_runs_by g__law_mixed g__law_right F
end My
open PySem PySem.W PyProof.Rows
set_option maxHeartbeats 0 in
theorem PySem.Challenge.cw_leastlore_k14_tidy_rows_made_holds : PySem.Challenge.rw_leastlore_k14_tidy_rows_made.Holds := by
  w_on; o_law; k_head; (case hw => w_witness2)
  k_fill
  refine My.walk_ofG (l := PySem.Challenge.rw_leastlore_k14_tidy_rows_made) (n := 63) (k := 7) (x := "_law_script") (CX := fun _ => L2.CX0) (sp := fun w => My.spLaw _) rfl (by decide) rfl ⟨rfl, by decide, by decide⟩ (fun w h Y => PySem.W.kIn_of Y) ?F (fun _ _ a ns hl _ _ hS => ⟨a, ns, rfl, hS, hl, fun _ => rfl⟩) (fun _ _ _ _ _ h => h)
  case F =>
    intro w mg fa h KX G hmg
    refine' My.all_mk KX G hmg ?T ?d_is_whole ?d_is_within ?d_is_stretch ?d_is_runs ?d_need_runs ?d_tidied ?d_runs_of ?d_runs_by ?d_how_many ?d_numbers_in ?d_has_number ?d__law_cell_at ?d__law_box ?d__law_take ?d__law_stretches ?d__law_rising ?d__law_marks ?d__law_mixed ?d__law_right ?d_law
    (case T =>
      refine' My.tx_mk KX G ?b_any ?b_bool ?b_int ?b_isinstance ?b_len ?b_list ?b_max ?b_min ?b_range ?b_repr ?b_reversed ?b_sorted ?b_sum ?b_tuple ?c_MOST
      (case b_any => k_is)
      (case b_bool => k_is)
      (case b_int => k_is)
      (case b_isinstance => k_is)
      (case b_len => k_is)
      (case b_list => k_is)
      (case b_max => k_is)
      (case b_min => k_is)
      (case b_range => k_is)
      (case b_repr => k_is)
      (case b_reversed => k_is)
      (case b_sorted => k_is)
      (case b_sum => k_is)
      (case b_tuple => k_is)
      (case c_MOST => k_is))
    (case d_is_whole => refine' My.at_mk ?a ?l ?c ?k; (case a => k_is); (case l => k_is); (case c => k_is); (case k => k_is))
    (case d_is_within => refine' My.at_mk ?a ?l ?c ?k; (case a => k_is); (case l => k_is); (case c => k_is); (case k => k_is))
    (case d_is_stretch => refine' My.at_mk ?a ?l ?c ?k; (case a => k_is); (case l => k_is); (case c => k_is); (case k => k_is))
    (case d_is_runs => refine' My.at_mk ?a ?l ?c ?k; (case a => k_is); (case l => k_is); (case c => k_is); (case k => k_is))
    (case d_need_runs => refine' My.at_mk ?a ?l ?c ?k; (case a => k_is); (case l => k_is); (case c => k_is); (case k => k_is))
    (case d_tidied => refine' My.at_mk ?a ?l ?c ?k; (case a => k_is); (case l => k_is); (case c => k_is); (case k => k_is))
    (case d_runs_of => refine' My.at_mk ?a ?l ?c ?k; (case a => k_is); (case l => k_is); (case c => k_is); (case k => k_is))
    (case d_runs_by => refine' My.at_mk ?a ?l ?c ?k; (case a => k_is); (case l => k_is); (case c => k_is); (case k => k_is))
    (case d_how_many => refine' My.at_mk ?a ?l ?c ?k; (case a => k_is); (case l => k_is); (case c => k_is); (case k => k_is))
    (case d_numbers_in => refine' My.at_mk ?a ?l ?c ?k; (case a => k_is); (case l => k_is); (case c => k_is); (case k => k_is))
    (case d_has_number => refine' My.at_mk ?a ?l ?c ?k; (case a => k_is); (case l => k_is); (case c => k_is); (case k => k_is))
    (case d__law_cell_at => refine' My.at_mk ?a ?l ?c ?k; (case a => k_is); (case l => k_is); (case c => k_is); (case k => k_is))
    (case d__law_box => refine' My.at_mk ?a ?l ?c ?k; (case a => k_is); (case l => k_is); (case c => k_is); (case k => k_is))
    (case d__law_take => refine' My.at_mk ?a ?l ?c ?k; (case a => k_is); (case l => k_is); (case c => k_is); (case k => k_is))
    (case d__law_stretches => refine' My.at_mk ?a ?l ?c ?k; (case a => k_is); (case l => k_is); (case c => k_is); (case k => k_is))
    (case d__law_rising => refine' My.at_mk ?a ?l ?c ?k; (case a => k_is); (case l => k_is); (case c => k_is); (case k => k_is))
    (case d__law_marks => refine' My.at_mk ?a ?l ?c ?k; (case a => k_is); (case l => k_is); (case c => k_is); (case k => k_is))
    (case d__law_mixed => refine' My.at_mk ?a ?l ?c ?k; (case a => k_is); (case l => k_is); (case c => k_is); (case k => k_is))
    (case d__law_right => refine' My.at_mk ?a ?l ?c ?k; (case a => k_is); (case l => k_is); (case c => k_is); (case k => k_is))
    (case d_law => refine' My.at_mk ?a ?l ?c ?k; (case a => k_is); (case l => k_is); (case c => k_is); (case k => k_is))
