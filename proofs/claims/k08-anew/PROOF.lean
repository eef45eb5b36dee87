import PyProof.Rows.All
import Wide.All
import OpenK.AllK
import Wide.FinOn
import KE.KStateDown
import Lean
import HandS.ForMost
import HandS.EndBits
import HandS.IsInst
import HandS.Style
import HandS.Deep
import HandS.WideBits
import HandS.Zip
import HandS.Defaults
import PyProof.ReprRoads
import PyProof.StrOps2
import HandS.TupSets
import HandS.HeadHook1
import HandS.HeadHook2
import HandS.WordsExc
import HandS.ExcIs
import HandS.Walk
import PyProof.Rows.SortShellAny
import HandS.Lambda
import HandS.Nested
import HandS.HotCalls
import PyProof.P3Eq
import HandS.Head0
import HandS.Head1
import HandS.Head2
import HandS.HeadEnd
import PySem.Challenge.RW_lettersnake_k08_whole_anew
set_option Elab.async false
set_option linter.all false
set_option maxRecDepth 100000
set_option maxHeartbeats 8000000
/-! A layer of my own over HandS: calls that know that no repr runs (guards), str of data, texts backwards. -/
namespace Sk
open PySem PySem.Spec PyProof.Rows L2

/-! ### a def's promise where no guard is on the stack -/
structure FnG (P : Program) (w : World) (K : PySem.W.Frag) (mg : Str → Option Value) (base : Heap) (CX : CXT) (k : Nat) (f : Addr) (fd : FuncData) (ps : List Str) (sp : Sp) : Prop where
  len : ∀ vs H Q E, sp vs H Q E → vs.length = ps.length
  run : ∀ (A : Around) (outer : List Env) (s : Shared) (H : Hp) (args : Args) (us : List Value) (vs : List V) (Q : VK) (E : XK), Room k A → A.guards = some [] →
    Env0 P w K mg base A outer s H → BindsTo s fd args (ps.zip us) → Vals vs us → sp vs H Q E → codeAny (model P w) A (.call (.ref f) args) (CR CX outer P w H s Q E) s
section
variable {P : Program} {w : World} {K : PySem.W.Frag} {mg : Str → Option Value} {base : Heap} {CX : CXT} {k : Nat} {f : Addr} {fd : FuncData} {ps : List Str} {sp : Sp}
theorem toG (F : FnOk P w K mg base CX k f fd ps sp) : FnG P w K mg base CX k f fd ps sp :=
  ⟨F.len, fun A outer s H args us vs Q E hr _ e hb hv hs => F.run A outer s H args us vs Q E hr e hb hv hs⟩
theorem FnG.mono {j : Nat} (F : FnG P w K mg base CX j f fd ps sp) (h : j ≤ k) : FnG P w K mg base CX k f fd ps sp :=
  ⟨F.len, fun A outer s H args us vs Q E hr g => F.run A outer s H args us vs Q E (hr.mono h) g⟩
/-- a def by its body, the guards known -/
theorem fnG_of {x qual : Str} {params : Arguments} {body : List Stmt} {scope : Scope} {dvs : List V} {kws : List (Str × V)} {N : List Str}
    (F : FunD K x qual params body scope dvs kws f fd) (S : FnScope N ps scope) (len : ∀ vs H Q E, sp vs H Q E → vs.length = ps.length)
    (hbody : ∀ (cdv : Value) (A : Around) (outer : List Env) (s : Shared) (H : Hp) (vs : List V) (Q : VK) (E : XK), Room k (A.deeper (envOfC qual scope s.heap.objs.size f cdv)) → A.guards = some [] → sp vs H Q E →
      ∃ t, PSs (cxOf CX P w K mg base N qual scope f cdv A outer s H E) body t ∧ t { nx := fun _ H' => Q .non H', rt := Q } (start N vs) H) : FnG P w K mg base CX (k + 1) f fd ps sp := by
  obtain ⟨oc, od, dV, kV, doc, pm, an, cdv, ct, osl, rfl, lk, hcd, _, _⟩ := F.ex
  refine ⟨len, fun A outer s H args us vs Q E hr hgd e0 hb r hsp => ?_⟩
  have hl := len _ _ _ _ hsp
  have stays : ∀ b o, base.get? b = some o → s.heap.get? b = some o := fun b o e => (e0.bs b o e).1
  have KX := e0.mod.kin.keeps stays
  have lim := e0.mod.nolimit.keeps stays
  have hkind : ∀ y ∈ ps.zip us, scope.names.lookup y.1 = some .local ∨ (scope.names.lookup y.1 = some .cell ∧ ((cellsFrom (s.heap.objs.size + 1) scope.names []).lookup y.1).isSome = true) := by
    rintro ⟨n, v⟩ hy
    cases S.par n (List.of_mem_zip hy).1 with
    | inl q => exact Or.inl q
    | inr q => exact Or.inr ⟨q, PySem.W.cellsFrom_some _ _ _ (Or.inl q)⟩
  refine codeAny_call_function hr.depth (KX _ _ lk) rfl S.co S.gen rfl (PySem.W.codeRec_of KX hcd) (hb _ _ _ _ ?_)
  refine wpAny_newFunctionEnv_cells S.kind hkind fun env he s1 x => ?_
  subst he
  refine ⟨lim.keeps x.toInCall.keep, codeAny_func ?_⟩
  obtain ⟨t, ht, hq⟩ := hbody cdv A outer s H vs Q E (hr.deeper _) hgd hsp
  have I := inv_start (CX := CX) (qual := qual) (f := f) (cd := cdv) (E := E) S hr.hd e0 hl r x
  refine wpAny_mono (ht.run [] s1 (start N vs) H _ I hq) (fun fl s' hs => ?_) fun e s' hs => hs
  cases fl with
  | ret u =>
    obtain ⟨v, σ', H', J, rv, q⟩ := hs
    exact ⟨v, H', J.os, J.bare, J.base, J.hok, rv, q⟩
  | next =>
    obtain ⟨σ', H', J, q⟩ := hs
    exact ⟨V.non, H', J.os, J.bare, J.base, J.hok, rfl, q⟩
  | brk => obtain ⟨_, _, _, q⟩ := hs; exact q.elim
  | cont => obtain ⟨_, _, _, q⟩ := hs; exact q.elim
end

theorem _root_.L2.FunD.look {K : PySem.W.Frag} {x qual : Str} {params : Arguments} {body : List Stmt} {scope : Scope} {dvs : List V} {kws : List (Str × V)} {f : Addr} {fd : FuncData} (F : FunD K x qual params body scope dvs kws f fd) : ∃ oc od osl, K.lookup f = some ⟨oc, od, .func fd, osl⟩ := by
  obtain ⟨oc, od, _, _, _, _, _, _, _, osl, _, l, _⟩ := F.ex
  exact ⟨oc, od, osl, l⟩
/-! ### a def of the text by its global name -/
/-- the def st stands under the name x -/
def Dfn (K : PySem.W.Frag) (mg : Str → Option Value) (x : Str) (st : Stmt) : Prop :=
  ∃ f fd, FunD K x x (defArgs st) (defBody st) (defScope st) [] [] f fd ∧ mg x = some (.ref f)
/-- what a caller of the global name x needs -/
def Cal (P : Program) (w : World) (K : PySem.W.Frag) (mg : Str → Option Value) (base : Heap) (CX : CXT) (k : Nat) (x : Str) (ps : List Str) (sp : Sp) : Prop :=
  ∃ f fd, FnOk P w K mg base CX k f fd ps sp ∧ mg x = some (.ref f) ∧ PySem.W.keepIn K (.ref f) = true ∧ Binds K fd ps [] ∧ ∃ oc od osl, K.lookup f = some ⟨oc, od, .func fd, osl⟩
def CalG (P : Program) (w : World) (K : PySem.W.Frag) (mg : Str → Option Value) (base : Heap) (CX : CXT) (k : Nat) (x : Str) (ps : List Str) (sp : Sp) : Prop :=
  ∃ f fd, FnG P w K mg base CX k f fd ps sp ∧ mg x = some (.ref f) ∧ PySem.W.keepIn K (.ref f) = true ∧ Binds K fd ps [] ∧ ∃ oc od osl, K.lookup f = some ⟨oc, od, .func fd, osl⟩
/-- how its arguments bind -/
def Bnd (st : Stmt) (x : Str) (ps : List Str) : Prop :=
  ∀ (kV doc pm : Value) (an : Option Addr) (cdv ct : Value) (us : List Value), us.length = ps.length → bindArgs (PySem.W.fnOf x x (defArgs st) (defBody st) (defScope st) .none kV doc pm an cdv ct) ⟨us, []⟩ = pure (ps.zip us)
section
variable {P : Program} {w : World} {K : PySem.W.Frag} {mg : Str → Option Value} {base : Heap} {k : Nat} {x : Str} {ps N : List Str} {sp : Sp} {st : Stmt} {CX : CXT}
theorem Dfn.cal (D : Dfn K mg x st) (S : FnScope N ps (defScope st)) (hb : Bnd st x ps) (len : ∀ vs H Q E, sp vs H Q E → vs.length = ps.length)
    (hbody : ∀ (f : Addr) (cdv : Value) (A : Around) (outer : List Env) (s : Shared) (H : Hp) (vs : List V) (Q : VK) (E : XK), Room k (A.deeper (envOfC x (defScope st) s.heap.objs.size f cdv)) → sp vs H Q E →
      ∃ t, PSs (cxOf CX0 P w K mg base N x (defScope st) f cdv A outer s H E).nox (defBody st) t ∧ t { nx := fun _ H' => Q .non H', rt := Q } (start N vs) H) : Cal P w K mg base CX0 (k + 1) x ps sp := by
  obtain ⟨f, fd, F, g⟩ := D
  refine ⟨f, fd, F.ok S len fun cdv A outer s H vs Q E hr h => ?_, g, F.kp, F.bindsN hb, F.look⟩
  obtain ⟨t, ht, q⟩ := hbody f cdv A outer s H vs Q E hr h
  exact ⟨t, ht.nox, q⟩
theorem Dfn.calX (D : Dfn K mg x st) (S : FnScope N ps (defScope st)) (hb : Bnd st x ps) (len : ∀ vs H Q E, sp vs H Q E → vs.length = ps.length)
    (hbody : ∀ (f : Addr) (cdv : Value) (A : Around) (outer : List Env) (s : Shared) (H : Hp) (vs : List V) (Q : VK) (E : XK), Room k (A.deeper (envOfC x (defScope st) s.heap.objs.size f cdv)) → sp vs H Q E →
      ∃ t, PSs (cxOf CX P w K mg base N x (defScope st) f cdv A outer s H E) (defBody st) t ∧ t { nx := fun _ H' => Q .non H', rt := Q } (start N vs) H) : Cal P w K mg base CX (k + 1) x ps sp := by
  obtain ⟨f, fd, F, g⟩ := D
  exact ⟨f, fd, F.ok S len fun cdv A outer s H vs Q E hr h => hbody f cdv A outer s H vs Q E hr h, g, F.kp, F.bindsN hb, F.look⟩
theorem Dfn.calG (D : Dfn K mg x st) (S : FnScope N ps (defScope st)) (hb : Bnd st x ps) (len : ∀ vs H Q E, sp vs H Q E → vs.length = ps.length)
    (hbody : ∀ (f : Addr) (cdv : Value) (A : Around) (outer : List Env) (s : Shared) (H : Hp) (vs : List V) (Q : VK) (E : XK), Room k (A.deeper (envOfC x (defScope st) s.heap.objs.size f cdv)) → (A.deeper (envOfC x (defScope st) s.heap.objs.size f cdv)).guards = some [] → sp vs H Q E →
      ∃ t, PSs (cxOf CX0 P w K mg base N x (defScope st) f cdv A outer s H E).nox (defBody st) t ∧ t { nx := fun _ H' => Q .non H', rt := Q } (start N vs) H) : CalG P w K mg base CX0 (k + 1) x ps sp := by
  obtain ⟨f, fd, F, g⟩ := D
  refine ⟨f, fd, fnG_of F S len fun cdv A outer s H vs Q E hr hg h => ?_, g, F.kp, F.bindsN hb, F.look⟩
  obtain ⟨t, ht, q⟩ := hbody f cdv A outer s H vs Q E hr hg h
  exact ⟨t, ht.nox, q⟩
theorem Cal.toG (c : Cal P w K mg base CX k x ps sp) : CalG P w K mg base CX k x ps sp := by
  obtain ⟨f, fd, F, g, kp, b⟩ := c
  exact ⟨f, fd, Sk.toG F, g, kp, b⟩
/-- the law's own def, for the end -/
theorem law_end {x' : Str} (D : Dfn K mg x st) (hb : Bnd st x [x']) (h : ∀ base : Heap, K.In base → base.Ns mainGlobals mg → CalG P w K mg base CX0 k x [x'] sp) :
    ∃ fa fd, mg x = some (.ref fa) ∧ (∀ (s : Shared) (u : Value), BindsTo s fd ⟨[u], []⟩ [(x', u)]) ∧ ∀ base : Heap, K.In base → base.Ns mainGlobals mg → FnG P w K mg base CX0 k fa fd [x'] sp := by
  obtain ⟨f, fd, F, g⟩ := D
  have b := FunD.bindsA (ps := [x']) F hb
  refine ⟨f, fd, g, fun s u => b s [u] rfl, fun base h1 h2 => ?_⟩
  obtain ⟨f2, fd2, G, g2, _, _, oc, od, osl, l2⟩ := h base h1 h2
  obtain ⟨oc1, od1, osl1, l1⟩ := F.look
  have e : f2 = f := by
    have z := g2.symm.trans g
    cases z
    rfl
  subst e
  rw [l1] at l2
  cases l2
  exact G
end
/-! ### calls of such -/
def tCal (sp : Sp) (E : XK) (t : TA) : TE := fun σ H Q => t σ H fun vs H1 => sp vs H1 Q E
section
variable {X : Cx} {CX : CXT} {k : Nat} {ps : List Str} {sp : Sp} {E : XK} {x : Str} {p pos : Pos} {e : Expr} {es : List Expr} {t : TA}
theorem pcall (C : Cal X.prog X.w X.K X.mg X.base CX k x ps sp) (hr : Room k X.A) (hg : Gl X x) (hx : Passes CX X E) (ha : PA X (e :: es) t)
    (hdb : (x == ("__debug__" : Str)) = false := by decide) (he : starEach (e :: es) X.env = (false, eval e X.env) :: starEach es X.env := by rfl) (hpl : (backTo pos (starEach es X.env)).any (·.1) = false := by rfl) :
    PE X (.Call (.Name x p) (e :: es) [] pos) (tCal sp E t) := by
  obtain ⟨f, fd, F, g, kp, b, _⟩ := C
  have q := pe_call (p := p) (pos := pos) F hr hg g kp b .nil hx ha hdb he hpl
  refine ⟨fun pins s σ H Q I h => q.run pins s σ H Q I ?_⟩
  have h2 : t σ H fun vs H1 => sp vs H1 Q E := h
  show t σ H fun vs H1 => sp (vs ++ []) H1 Q E
  simpa only [List.append_nil] using h2
theorem pcall0 (C : Cal X.prog X.w X.K X.mg X.base CX k x ps sp) (hr : Room k X.A) (hg : Gl X x) (hx : Passes CX X E)
    (hdb : (x == ("__debug__" : Str)) = false := by decide) : PE X (.Call (.Name x p) [] [] pos) (tCal sp E tNil) := by
  obtain ⟨f, fd, F, g, kp, b, _⟩ := C
  exact pe_call0 (p := p) (pos := pos) F hr hg g kp b .nil hx hdb
theorem run_fnG {f : Addr} {fd : FuncData} {pins : List (Addr × Obj)} {σ : L2.St} {H : Hp} {s : Shared} {Q : VK} {us : List Value} {vs : List V} (F : FnG X.prog X.w X.K X.mg X.base CX k f fd ps sp) (hr : Room k X.A) (gd : X.A.guards = some []) (hb : Binds X.K fd ps []) (hx : Passes CX X E)
    (I : Inv X pins σ H s) (r : Vals vs us) (h : sp vs H Q E) : wpAny (model X.prog X.w) X.A (call (.ref f) us) (EP X pins σ Q) X.xe s := by
  have hl : us.length = ps.length := by rw [← r.length]; exact F.len _ _ _ _ h
  have hb1 := hb s us I.kIn (by simpa using hl)
  rw [List.append_nil] at hb1
  refine wpAny_call (codeAny_mono (F.run X.A X.stack s H ⟨us, []⟩ us vs Q E hr gd I.env0 hb1 r h) fun res s' hq => ?_)
  cases res with
  | error e => exact hx pins σ H s e s' I hq
  | ok fl =>
    cases fl with
    | ret u => exact I.after hq
    | next => exact hq.elim
    | brk => exact hq.elim
    | cont => exact hq.elim
theorem pcallG (C : CalG X.prog X.w X.K X.mg X.base CX k x ps sp) (hr : Room k X.A) (gd : X.A.guards = some []) (hg : Gl X x) (hx : Passes CX X E) (ha : PA X (e :: es) t)
    (hdb : (x == ("__debug__" : Str)) = false := by decide) (he : starEach (e :: es) X.env = (false, eval e X.env) :: starEach es X.env := by rfl) (hpl : (backTo pos (starEach es X.env)).any (·.1) = false := by rfl) :
    PE X (.Call (.Name x p) (e :: es) [] pos) (tCal sp E t) := by
  obtain ⟨f, fd, F, g, kp, b, _⟩ := C
  refine ⟨fun pins s σ H Q I h => ?_⟩
  refine wpAny_Call_Name_kw (ld_glob I hg g ?_ hdb)
  refine PySem.W.callWith_K (h₀ := X.base) I.ok.mod.kin kp (thn (ha.run pos pins s σ H _ I h) fun us s1 ⟨vs, H1, I1, r, q⟩ => ⟨I1.kIn, ?_⟩) he hpl
  exact run_fnG F hr gd b hx I1 r q
end
theorem hu65 {k : Nat} {A : Around} (hr : Room k A) : A.units + 65 < cLine := by have := hr.un; omega

/-! ### str of data -/
def rStrD (K : PySem.W.Frag) : List V → Hp → VK → Prop := fun xs H Q => ∃ (a : Addr) (d : PyData), xs = [V.ref a] ∧ Dp K H (.ref a) d ∧ d.showable = true ∧ d.hasDict = false ∧ d.depth ≤ 64 ∧ d.shown.length ≤ sizeLine ∧ Q (.str d.shown) H
theorem call_strD {X : Cx} {k : Nat} (gd : X.A.guards = some []) (hr : Room k X.A) : CallR X (.type "str") (rStrD X.K) := by
  intro pins s σ H xs us Q I r h
  obtain ⟨a, d, rfl, hd, h1, h2, h3, h4, q⟩ := h
  obtain ⟨u, rfl, ru⟩ := vals1 r
  cases (show u = Value.ref a from ru)
  obtain ⟨as, rd⟩ := Dp.reads I d (.ref a) (.ref a) hd rfl
  have hu := hr.un
  exact str_of_reads rd h1 (fun z => by rw [h2] at z; cases z) gd (by omega) (fun _ _ e => e) (fun h' t tk hk => ⟨.str d.shown, H, I.kept (t' := tk) hk, ⟨_, rfl⟩, q⟩) h4

/-! ### a text backwards; a text repeated -/
def revS (z : Str) : Str := ⟨z.cps.toList.reverse.toArray⟩
def tRevS (te : TE) : TE := fun σ H Q => te σ H fun x H1 => ∃ z, x = .str z ∧ z.length ≤ sizeLine ∧ Q (.str (revS z)) H1
theorem picked_back (z : Str) (tk : Tok) : (slicePicked z none none (some (-1, tk))).filterMap (z.cps[·]?) = z.cps.toList.reverse := by
  have e : slicePicked z none none (some (-1, tk)) = sliceRange ((z.cps.size : Int) - 1) (-1) (-1) := rfl
  rw [e, PySem.W.krv_sliceRange, PySem.W.krv_range, List.filterMap_reverse, PySem.W.krv_all]
theorem pe_revS {X : Cx} {e : Expr} {te : TE} {k : Nat} {p1 p2 p3 pos : Pos} (he : PE X e te) :
    PE X (.Subscript e (.Slice none none (some (.UnaryOp .USub (.Constant (.int 1) k p1) p2)) p3) pos) (tRevS te) := by
  refine ⟨fun pins s σ H Q I h => ?_⟩
  refine Subscript_ (thn (he.run pins s σ H _ I h) fun v s1 ⟨x, H1, I1, r1, q1⟩ => ?_)
  obtain ⟨z, rfl, hz, q⟩ := q1
  obtain ⟨tz, rfl⟩ := r1
  have hst : PE X (.UnaryOp .USub (.Constant (.int 1) k p1) p2) (tUn (rU fun i => .int (-i)) (tC (.int 1))) := pe_un un_neg pe_int
  refine wpAny_Slice ?_
  rw [evalPart_none]
  refine wpAny_pure (wpAny_pure ?_)
  refine thn (hst.run pins s1 σ H1 (fun y H2 => y = .int (-1) ∧ H2 = H1) I1 ⟨1, rfl, rfl, rfl⟩) fun vs s4 ⟨y, H4, I4, ry, ey, e4⟩ => ?_
  subst ey e4
  obtain ⟨tk, rfl⟩ := ry
  refine tail_any (T := "str") (typeIs_str _ z tz) F.slot_str_getitem.lookup ?_ (by with_unfolding_all rfl)
  refine wpAny_getItem_str_slice (l := none) (u := none) (st := some (-1, tk)) ⟨_, Heap.get?_push_size _ rfl, rfl, rfl⟩ rfl ?_
  unfold sliceMade
  rw [if_neg (by show ¬ ((-1 : Int) == 1 && _) = true; simp), picked_back]
  refine ⟨?_, .str (revS z), H4, ?_, ⟨_, rfl⟩, q⟩
  · show (z.cps.toList.reverse.toArray).size ≤ sizeLine
    rw [List.size_toArray, List.length_reverse, Array.length_toList]
    exact hz
  · exact (I4.kept (t' := s4.toks) (fun b o e => Heap.get?_push_of_some _ e)).tok _
/-- x * n, n small and positive -/
def repS (z : Str) (n : Nat) : Str := ⟨(List.replicate n z.cps.toList).flatten.toArray⟩
def rRepS : R2 := fun x y H Q => ∃ (z : Str) (n : Nat), x = .str z ∧ y = .int (n : Int) ∧ 2 ≤ n ∧ n ≤ 1000 ∧ 1 ≤ z.length ∧ z.length ≤ 1000 ∧ Q (.str (repS z n)) H
theorem fold_app (x : Array Nat) : ∀ (n : Nat) (acc : Array Nat), ((List.replicate n x).foldl (· ++ ·) acc).toList = acc.toList ++ (List.replicate n x.toList).flatten
  | 0, acc => by simp
  | n + 1, acc => by
    rw [List.replicate_succ, List.foldl_cons, fold_app x n, List.replicate_succ, List.flatten_cons]
    simp
theorem flat_len (x : List Nat) : ∀ n : Nat, (List.replicate n x).flatten.length = n * x.length
  | 0 => by simp
  | n + 1 => by rw [List.replicate_succ, List.flatten_cons, List.length_append, flat_len x n, Nat.succ_mul]; omega
theorem op_repS {X : Cx} : OpR X (binaryOp .Mult) rRepS := by
  intro pins s σ H x y v u Q I rx ry h
  obtain ⟨z, n, rfl, rfl, h2, h3, h4, h5, q⟩ := h
  obtain ⟨t, rfl⟩ := rx
  obtain ⟨t', rfl⟩ := ry
  have hm : z.length * n ≤ 1000000 := by
    calc z.length * n ≤ 1000 * n := Nat.mul_le_mul_right _ h5
      _ ≤ 1000 * 1000 := Nat.mul_le_mul_left _ h3
  have hs : 1000000 ≤ sizeLine := by rw [sizeLine_eq]; decide
  have e1 : (decide ((n : Int) < -(2 ^ 63 : Int)) || decide ((n : Int) ≥ 2 ^ 63)) = false := by
    rw [decide_eq_false (by omega), decide_eq_false (by omega)]; rfl
  have e2 : (((n : Int) == 1) || z.length == 0) = false := by
    have a : ((n : Int) == 1) = false := beq_eq_false_iff_ne.mpr (by omega)
    have b : (z.length == 0) = false := beq_eq_false_iff_ne.mpr (by omega)
    rw [a, b]; rfl
  refine P.mul_str e1 (fun _ _ => ?_) (fun _ _ => ?_) ?_
  · have : (1000 : Int) ≤ (2 ^ 63 - 1) / n := by
      rw [Int.le_ediv_iff_mul_le (by omega)]
      omega
    omega
  · rw [Int.toNat_natCast]
    unfold Builtin.Str.tooLong
    exact decide_eq_false (by omega)
  · rw [if_neg (by omega), if_neg (by rw [e2]; exact Bool.false_ne_true), Int.toNat_natCast]
    have e3 : ((List.replicate n z.cps).foldl (· ++ ·) #[] : Array Nat) = (List.replicate n z.cps.toList).flatten.toArray := by
      apply Array.toList_inj.mp
      rw [fold_app]
      simp
    rw [e3]
    refine ⟨?_, .str (repS z n), H, I.tok _, ⟨_, rfl⟩, q⟩
    show ((List.replicate n z.cps.toList).flatten.toArray).size ≤ sizeLine
    rw [List.size_toArray, flat_len, Array.length_toList]
    have e4 : n * z.cps.size = z.length * n := Nat.mul_comm _ _
    omega

/-! ### the law's call, the guards told -/
theorem law_callG {P : Program} {w : World} {K : PySem.W.Frag} {mg mb : Str → Option Value} {k : Nat} {fa a : Addr} {fd : FuncData} {x : Str} {sp : Sp} {s₁ : Shared} {vs : List Value} {ns : List Int}
    (KX : K.In s₁.heap) (hns : s₁.heap.Ns mainGlobals mg) (hb : s₁.heap.Ns builtinsNs mb) (hbb : ∀ x : Str, x ≠ "__name__" → mb x = bootBuiltins x) (hlim : s₁.heap.NoLimit) (hg : s₁.gens = #[])
    (ha : s₁.heap.get? a = some { cls := .type "list", data := .seq vs.toArray }) (hi : IntsAre vs ns) (hl : ns.length ≤ sizeLine) (hr : Room k callerA)
    (F : ∀ base : Heap, K.In base → base.Ns mainGlobals mg → FnG P w K mg base CX0 k fa fd [x] sp) (hbind : ∀ (s : Shared) (u : Value), BindsTo s fd ⟨[u], []⟩ [(x, u)])
    (hsp : ∀ H : Hp, Only H → SqL K H a (ns.map V.int) → sp [.ref a] H (fun v _ => v = .bl true) fun _ _ _ => False) :
    codeAny (model P w) callerA (.call (.ref fa) ⟨[.ref a], []⟩) (fun r s' => r = .ok (.ret (.bool true)) ∧ OldK s₁.heap s'.heap ∧ s'.os = s₁.os ∧ AllBare s'.gens) s₁ := by
  have rv := vals_ints hi
  have lenV := hi.length
  have core : ∀ H : Hp, Only H → SqL K H a (ns.map V.int) → HOk P w H s₁.heap → (∀ b, H b ≠ none → b = a) → (H a ≠ none → K.lookup a = none) →
      codeAny (model P w) callerA (.call (.ref fa) ⟨[.ref a], []⟩) (fun r s' => r = .ok (.ret (.bool true)) ∧ OldK s₁.heap s'.heap ∧ s'.os = s₁.os ∧ AllBare s'.gens) s₁ := by
    intro H hO hS hok hA hK
    have isA : ∀ {b : Addr} {u : HO}, H b = some u → b = a := fun {b u} q => hA b (by rw [q]; exact fun z => nomatch z)
    have noA : ∀ {b : Addr} {o : Obj} {es : Array DictEntry} {ep : Nat}, s₁.heap.get? b = some o → o.data = .dict es ep → H b = none := by
      intro b o es ep e d
      cases q : H b with
      | none => rfl
      | some u =>
        cases isA q
        rw [ha] at e
        cases e
        exact nomatch (show Data.seq vs.toArray _ = Data.dict es ep from d)
    have nsK : ∀ {b : Addr} {m : Str → Option Value}, s₁.heap.Ns b m → (hidT s₁.heap H).Ns b m := by
      rintro b m ⟨o, es, ep, e, d, r⟩
      exact ⟨o, es, ep, hidT_get e (noA e d), d, r⟩
    have hKb : K.In (hidT s₁.heap H) := by
      intro b o e
      refine hidT_get (KX b o e) ?_
      cases q : H b with
      | none => rfl
      | some u =>
        cases isA q
        rw [hK (by rw [q]; exact fun z => nomatch z)] at e
        cases e
    have hM : Mod K mg (hidT s₁.heap H) := by
      obtain ⟨mc, h1, h2⟩ := hlim
      exact ⟨hKb, nsK hns, ⟨mb, nsK hb, hbb⟩, ⟨mc, nsK h1, h2⟩⟩
    have e0 : Env0 P w K mg (hidT s₁.heap H) callerA [] s₁ H :=
      ⟨rfl, hM, fun b o e => of_hidT e, Nat.le_of_eq (hidT_size _ _), trivial, fun b hb => (nomatch (show b ∈ ([] : List Addr) from hb)), hok, .of_eq hg⟩
    refine codeAny_mono ((F _ hKb (nsK hns)).run callerA [] s₁ H ⟨[.ref a], []⟩ [.ref a] [.ref a] _ _ hr rfl e0 (hbind s₁ (.ref a)) (.cons rfl .nil) (hsp H hO hS)) fun r s' h => ?_
    cases r with
    | error e => exact False.elim h
    | ok fl =>
      cases fl with
      | next => exact h.elim
      | brk => exact h.elim
      | cont => exact h.elim
      | ret u =>
        obtain ⟨v, H', os, bare, un, hok', r', q⟩ := h
        cases (show v = .bl true from q)
        cases (show u = Value.bool true from r')
        refine ⟨rfl, OldK.of_keep fun b o e => ?_, os, bare⟩
        cases q : H b with
        | none => exact un.keep b o e q (fun z => (nomatch (show b ∈ ([] : List Addr) from z))) (fun z => (nomatch z))
        | some u =>
          cases hO b with
          | inl z => rw [q] at z; cases z
          | inr z =>
            obtain ⟨ob, xs, z⟩ := z
            obtain ⟨e1, _⟩ := hok b _ z
            obtain ⟨e2, _⟩ := hok' b _ (un.frzs b ob _ z)
            rw [e] at e1
            cases e1
            exact e2
  cases hk : K.lookup a with
  | some o =>
    have e := KX a o hk
    rw [ha] at e
    cases e
    refine core (fun _ => none) (fun _ => .inl rfl) (.inr ⟨_, vs.toArray, _, hk, rfl, rfl, rfl, ?_, by simpa using rv⟩) (fun b u z => (nomatch (show (none : Option HO) = some u from z))) (fun b z => absurd rfl z) fun z => absurd rfl z
    rw [List.size_toArray, lenV]
    exact hl
  | none =>
    refine core (fun b => if b = a then some (.frz { cls := .type "list", data := .seq vs.toArray } (.lst (ns.map V.int))) else none) (fun b => ?_) (.inl (.inr ⟨_, if_pos rfl⟩)) (fun b u z => ?_) (fun b z => ?_) fun _ => hk
    · by_cases hb : b = a
      · exact .inr ⟨_, _, if_pos hb⟩
      · exact .inl (if_neg hb)
    · by_cases hb : b = a
      · cases (if_pos hb).symm.trans z
        subst hb
        exact ⟨ha, by rw [List.length_map]; exact hl, vs, _, rv, ha⟩
      · cases (if_neg hb).symm.trans z
    · by_cases hb : b = a
      · exact hb
      · exact absurd (if_neg hb) z
/-- the law's end over a head by facts, the script's bits and the guards told -/
theorem walk_G {l : PySem.W.OpenLaw} {n k : Nat} {q : Program} {loose : List Str} {XP : (Str → Option Value) → Heap → Prop} {YP : World → Heap → Prop} {d : DefRec} {x : Str}
    (hn : l.most = some n) (hn2 : n ≤ sizeLine) (hdf : d.params.defaults = []) (hr : Room k callerA)
    (F : ∀ (w : World) (mg : Str → Option Value) (fa : Addr) (h : Heap), YP w h → h.Ns mainGlobals mg → mg d.name = some (.ref fa) →
      ∃ (K : PySem.W.Frag) (fd : FuncData) (sp : Sp), K.In h ∧ (∀ (s : Shared) (u : Value), BindsTo s fd ⟨[u], []⟩ [(x, u)]) ∧
        (∀ (H : Hp) (a : Addr) (ns : List Int), ns.length ≤ n → (∀ z ∈ ns, Builtin.Int.intBits z ≤ 1048576) → Only H → SqL K H a (ns.map V.int) → sp [.ref a] H (fun v _ => v = .bl true) fun _ _ _ => False) ∧
        ∀ base : Heap, K.In base → base.Ns mainGlobals mg → FnG l.prog w K mg base CX0 k fa fd [x] sp) :
    PySem.W.WalkO q loose XP YP l.row.toRowW d [] (fun f vs => PySem.call f vs) := by
  refine Att.attach_callB hn hdf fun w s₀ s₁ mg mb fa o pm cd doc a vs ns G Y ho hd hcd hmg hobj hints hlen hbits hg => ?_
  obtain ⟨K, fd, sp, KX, hb, hsp, hF⟩ := F w mg fa _ Y G.T.g hmg
  exact law_callG KX G.T.g G.T.b G.T.builtins G.T.nolimit hg hobj hints (Nat.le_trans hlen hn2) hr hF hb fun H hO hS => hsp H a ns hlen hbits hO hS

/-! ### rules with the written part named: for use inside comprehensions -/
section
variable {X : Cx} {e o : Expr} {te to : TE} {pos : Pos} {tg : Expr}
theorem ixL (K : PySem.W.Frag) (h : X.K = K := by rfl) : IxR X (rIxL K) := by subst h; exact ix_list
theorem ixT (K : PySem.W.Frag) (h : X.K = K := by rfl) : IxR X (rIxT K) := by subst h; exact ix_tup
def rLenSq (K : PySem.W.Frag) : List V → Hp → VK → Prop := fun xs H Q => ∃ p ys, xs = [.ref p] ∧ (SqL K H p ys ∨ SqT K H p ys) ∧ Q (.int ys.length) H
theorem lenSq (K : PySem.W.Frag) (h : X.K = K := by rfl) : CallR X (.builtin "len") (rLenSq K) := by subst h; exact call_len_seq
theorem isiK (K : PySem.W.Frag) (h : X.K = K := by rfl) : CallR X (.builtin "isinstance") (rIsi K) := by subst h; exact call_isi
theorem eqDK (K : PySem.W.Frag) (hu : X.A.units + 64 < cLine) (h : X.K = K := by rfl) : OpR X (compareOp .Eq) (rEqD K) := by subst h; exact op_eqD hu
theorem neDK (K : PySem.W.Frag) (hu : X.A.units + 64 < cLine) (h : X.K = K := by rfl) : OpR X (compareOp .NotEq) (rNeD K) := by subst h; exact op_neD hu
theorem inDK (K : PySem.W.Frag) (hu : X.A.units + 65 < cLine) (h : X.K = K := by rfl) : OpR X (compareOp .In) (rInD K) := by subst h; exact op_inD hu
theorem notInDK (K : PySem.W.Frag) (hu : X.A.units + 65 < cLine) (h : X.K = K := by rfl) : OpR X (compareOp .NotIn) (rNotInD K) := by subst h; exact op_notInD hu
theorem allK (K : PySem.W.Frag) (hc : X.calm = true) (h : X.K = K := by rfl) : CallR X (.builtin "all") (rAll K) := by subst h; exact cr_all hc
theorem anyK (K : PySem.W.Frag) (hc : X.calm = true) (h : X.K = K := by rfl) : CallR X (.builtin "any") (rAny K) := by subst h; exact cr_any hc
def rListOf (K : PySem.W.Frag) : List V → Hp → VK → Prop := fun xs H Q => ∃ p ys, xs = [.ref p] ∧ (SqL K H p ys ∨ SqT K H p ys) ∧ ∀ l, H l = none → Q (.ref l) (upd H l (.lst ys))
theorem listOf (K : PySem.W.Frag) (h : X.K = K := by rfl) : CallR X (.type "list") (rListOf K) := by subst h; exact call_list_of
theorem slL (K : PySem.W.Frag) (h : X.K = K := by rfl) : SlR X (rSlL K) := by subst h; exact sl_list
theorem piL (K : PySem.W.Frag) (hl : PE X e te) (h : X.K = K := by rfl) : PI X tg e (iList K te) := by subst h; exact pi_list hl
theorem piT (K : PySem.W.Frag) (hl : PE X e te) (h : X.K = K := by rfl) : PI X tg e (iTup K te) := by subst h; exact pi_tup hl
theorem revL (K : PySem.W.Frag) {k : Nat} {p1 p2 p3 : Pos} (he : PE X e te) (h : X.K = K := by rfl) : PE X (.Subscript e (.Slice none none (some (.UnaryOp .USub (.Constant (.int 1) k p1) p2)) p3) pos) (tRevL K te) := by subst h; exact pe_revL he
def tJoin (K : PySem.W.Frag) (to te : TE) : TE := tM1 (fun x xs H Q => ∃ a p, ∃ ys : List Str, x = .str a ∧ xs = [.ref p] ∧ (SqL K H p (ys.map V.str) ∨ SqT K H p (ys.map V.str)) ∧ (ys.map (·.length)).sum + ys.length * a.length ≤ 16777216 ∧ Q (.str (Txt.join a ys)) H) to te
theorem joinK (K : PySem.W.Frag) {apos : Pos} (ho : PE X o to) (he : PE X e te) (h : X.K = K := by rfl) (hs : starEach [e] X.env = [(false, eval e X.env)] := by rfl) (hbase : attributeBase o "join" X.env (eval o X.env) = eval o X.env := by rfl) (hline : (apos.endLine == pos.line) = true := by rfl) :
    PE X (.Call (.Attribute o "join" apos) [e] [] pos) (tJoin K to te) := by subst h; exact pe_join ho he hs hbase hline
end
end Sk
/-! Own classes: methods and makers by their promises; a choice of two readings; len of a set of tuples. -/
namespace Sk
open PySem PySem.Spec PyProof.Rows L2
theorem PE.or {X : Cx} {e : Expr} {t u : TE} (a : PE X e t) (b : PE X e u) : PE X e (fun σ H Q => t σ H Q ∨ u σ H Q) :=
  ⟨fun pins s σ H Q I h => h.elim (fun q => a.run pins s σ H Q I q) fun q => b.run pins s σ H Q I q⟩
/-! ### methods -/
def DfnM (K : PySem.W.Frag) (C : Addr) (m qual : Str) (st : Stmt) : Prop := ∃ f fd, FunD K m qual (defArgs st) (defBody st) (defScope st) [] [] f fd ∧ Meth K C m f
def DfnI (K : PySem.W.Frag) (C : Addr) (qual : Str) (st : Stmt) : Prop := ∃ f fd, FunD K "__init__" qual (defArgs st) (defBody st) (defScope st) [] [] f fd ∧ Mk K C f
def CalM (P : Program) (w : World) (K : PySem.W.Frag) (mg : Str → Option Value) (base : Heap) (CX : CXT) (k : Nat) (C : Addr) (m : Str) (ps : List Str) (sp : Sp) : Prop :=
  ∃ f fd, FnOk P w K mg base CX k f fd ps sp ∧ Meth K C m f ∧ Binds K fd ps []
def CalI (P : Program) (w : World) (K : PySem.W.Frag) (mg : Str → Option Value) (base : Heap) (CX : CXT) (k : Nat) (C : Addr) (ps : List Str) (sp : Sp) : Prop :=
  ∃ f fd, FnOk P w K mg base CX k f fd ps sp ∧ Mk K C f ∧ Binds K fd ps []
def BndM (st : Stmt) (x qual : Str) (ps : List Str) : Prop :=
  ∀ (kV doc pm : Value) (an : Option Addr) (cdv ct : Value) (us : List Value), us.length = ps.length → bindArgs (PySem.W.fnOf x qual (defArgs st) (defBody st) (defScope st) .none kV doc pm an cdv ct) ⟨us, []⟩ = pure (ps.zip us)
section
variable {P : Program} {w : World} {K : PySem.W.Frag} {mg : Str → Option Value} {base : Heap} {k : Nat} {x qual : Str} {ps N : List Str} {sp : Sp} {st : Stmt} {C : Addr}
theorem DfnM.cal (D : DfnM K C x qual st) (S : FnScope N ps (defScope st)) (hb : BndM st x qual ps) (len : ∀ vs H Q E, sp vs H Q E → vs.length = ps.length)
    (hbody : ∀ (f : Addr) (cdv : Value) (A : Around) (outer : List Env) (s : Shared) (H : Hp) (vs : List V) (Q : VK) (E : XK), Room k (A.deeper (envOfC qual (defScope st) s.heap.objs.size f cdv)) → sp vs H Q E →
      ∃ t, PSs (cxOf CX0 P w K mg base N qual (defScope st) f cdv A outer s H E).nox (defBody st) t ∧ t { nx := fun _ H' => Q .non H', rt := Q } (start N vs) H) : CalM P w K mg base CX0 (k + 1) C x ps sp := by
  obtain ⟨f, fd, F, g⟩ := D
  refine ⟨f, fd, F.ok S len fun cdv A outer s H vs Q E hr h => ?_, g, F.bindsN hb⟩
  obtain ⟨t, ht, q⟩ := hbody f cdv A outer s H vs Q E hr h
  exact ⟨t, ht.nox, q⟩
theorem DfnI.cal (D : DfnI K C qual st) (S : FnScope N ps (defScope st)) (hb : BndM st "__init__" qual ps) (len : ∀ vs H Q E, sp vs H Q E → vs.length = ps.length)
    (hbody : ∀ (f : Addr) (cdv : Value) (A : Around) (outer : List Env) (s : Shared) (H : Hp) (vs : List V) (Q : VK) (E : XK), Room k (A.deeper (envOfC qual (defScope st) s.heap.objs.size f cdv)) → sp vs H Q E →
      ∃ t, PSs (cxOf CX0 P w K mg base N qual (defScope st) f cdv A outer s H E).nox (defBody st) t ∧ t { nx := fun _ H' => Q .non H', rt := Q } (start N vs) H) : CalI P w K mg base CX0 (k + 1) C ps sp := by
  obtain ⟨f, fd, F, g⟩ := D
  refine ⟨f, fd, F.ok S len fun cdv A outer s H vs Q E hr h => ?_, g, F.bindsN hb⟩
  obtain ⟨t, ht, q⟩ := hbody f cdv A outer s H vs Q E hr h
  exact ⟨t, ht.nox, q⟩
/-- a promise that is never asked, for the bottom of a recursion -/
theorem Dfn.cal0 {CX : CXT} (D : Dfn K mg x st) (hb : Bnd st x ps) : Cal P w K mg base CX k x ps (fun _ _ _ _ => False) := by
  obtain ⟨f, fd, F, g⟩ := D
  exact ⟨f, fd, ⟨fun _ _ _ _ h => h.elim, fun _ _ _ _ _ _ _ _ _ _ _ _ _ h => h.elim⟩, g, F.kp, F.bindsN hb, F.look⟩
end
def tMth (C : Addr) (m : Str) (sp : Sp) (E : XK) (ta : TE) (t : TA) : TE := fun σ H Q => ta σ H fun x H1 => ∃ a dx fs, x = .ref a ∧ H1 a = some (.ins C dx fs) ∧ fs.lookup m = none ∧ t σ H1 fun vs H2 => sp (x :: vs) H2 Q E
def tMk (C : Addr) (sp : Sp) (E : XK) (t : TA) : TE := fun σ H Q => t σ H fun vs H1 => ∀ x dx, H1 x = none → H1 dx = none → dx ≠ x → sp (.ref x :: vs) (upd (upd H1 dx (.own x)) x (.ins C dx [])) (fun v H2 => v = .non ∧ Q (.ref x) H2) E
section
variable {X : Cx} {CX : CXT} {k : Nat} {ps : List Str} {sp : Sp} {E : XK} {x m : Str} {p pos apos : Pos} {e o : Expr} {es : List Expr} {ta : TE} {t : TA} {C : Addr}
theorem pmeth {pl : Sem Bool} (c : CalM X.prog X.w X.K X.mg X.base CX k C m ps sp) (cl : Cls X.K C) (hr : Room k X.A) (hx : Passes CX X E) (he : PE X o ta) (ha : PA X (e :: es) t)
    (hst : starEach (e :: es) X.env = (false, eval e X.env) :: starEach es X.env := by rfl) (hpl : (backTo pos (starEach es X.env)).any (·.1) = false := by rfl)
    (ht : eval (.Call (.Attribute o m apos) (e :: es) [] pos) X.env = (do
      let ov ← eval o X.env
      standAt apos.atName
      let (f, first) ← holding [ov] (getMethod ov m pl)
      callWith pos f first (backTo pos (starEach (e :: es) X.env)) (backToKw pos (keywordEach [] X.env))) := by rfl) : PE X (.Call (.Attribute o m apos) (e :: es) [] pos) (tMth C m sp E ta t) := by
  obtain ⟨f, fd, F, g, b⟩ := c
  have q := pe_meth (pl := pl) he cl g F hr b .nil hx ha hst hpl ht
  refine ⟨fun pins s σ H Q I h => q.run pins s σ H Q I ?_⟩
  have h2 : ta σ H fun x H1 => ∃ a dx fs, x = .ref a ∧ H1 a = some (.ins C dx fs) ∧ fs.lookup m = none ∧ t σ H1 fun vs H2 => sp (x :: vs) H2 Q E := h
  show ta σ H fun x H1 => ∃ a dx fs, x = .ref a ∧ H1 a = some (.ins C dx fs) ∧ fs.lookup m = none ∧ t σ H1 fun vs H2 => sp (x :: (vs ++ [])) H2 Q E
  simpa only [List.append_nil] using h2
theorem pmake (c : CalI X.prog X.w X.K X.mg X.base CX k C ps sp) (hr : Room (k + 1) X.A) (hg : Gl X x) (hm : X.mg x = some (.ref C)) (hx : Passes CX X E) (ha : PA X (e :: es) t)
    (hdb : (x == ("__debug__" : Str)) = false := by decide) (he : starEach (e :: es) X.env = (false, eval e X.env) :: starEach es X.env := by rfl) (hpl : (backTo pos (starEach es X.env)).any (·.1) = false := by rfl) :
    PE X (.Call (.Name x p) (e :: es) [] pos) (tMk C sp E t) := by
  obtain ⟨f, fd, F, g, b⟩ := c
  have q := pe_make (p := p) (pos := pos) g F hr hg hm b .nil hx ha hdb he hpl
  refine ⟨fun pins s σ H Q I h => q.run pins s σ H Q I ?_⟩
  have h2 : t σ H fun vs H1 => ∀ x dx, H1 x = none → H1 dx = none → dx ≠ x → sp (.ref x :: vs) (upd (upd H1 dx (.own x)) x (.ins C dx [])) (fun v H2 => v = .non ∧ Q (.ref x) H2) E := h
  show t σ H fun vs H1 => ∀ x dx, H1 x = none → H1 dx = none → dx ≠ x → sp (.ref x :: (vs ++ [])) (upd (upd H1 dx (.own x)) x (.ins C dx [])) (fun v H2 => v = .non ∧ Q (.ref x) H2) E
  simpa only [List.append_nil] using h2
theorem fldK (K : PySem.W.Frag) {f : Str} (he : PE X e ta) (hb : attributeBase e f X.env (eval e X.env) = eval e X.env) (h : X.K = K := by rfl) : PE X (.Attribute e f pos) (tFld K ta f) := by subst h; exact pe_fld he hb
end
/-! ### a class of the text -/
structure Kls (K : PySem.W.Frag) (mg : Str → Option Value) (x : Str) (C : Addr) : Prop where
  g : mg x = some (.ref C)
  cl : Cls K C
  ha : PySem.W.findIn K (.ref C) "__class__" = some (some (.builtin "object.__class__"))
  hm : PySem.W.mroIn K C (.type "object") = some true
structure KlG (K : PySem.W.Frag) : Prop where
  hn : PySem.W.specialIn K (.builtin "object.__class__") "__get__" = some (some (.builtin "getset_descriptor.__get__"))
  htk : PySem.W.takesIn K (.builtin "object.__class__") = some true
theorem Kls.ty {K : PySem.W.Frag} {mg : Str → Option Value} {x : Str} {C : Addr} {H : Hp} {a dx : Addr} {fs : List (Str × V)} (k : Kls K mg x C) (G : KlG K) (e : H a = some (.ins C dx fs)) : TyX K H (.ref a) (.ref C) :=
  .base (.ins e k.cl k.ha G.hn G.htk k.hm)
/-! ### the head with one more Bool -/
def hookX (n : Nat) (fa : List He.Fa) (fn : List He.DefD) (ex : PySem.W.Frag → Bool) : PySem.W.Hook where
  α := Bool × He.AlD
  obs := fun s => (ex (He.frG s.heap.get? (He.asD s.heap.get? n)), He.obsDG n fa fn s.heap.get?)
  val := fun _ => (true, He.valD fn)
  says := fun _ h => ∃ K : PySem.W.Frag, K.In h ∧ He.SaysD fa fn K ∧ ex K = true
  of := fun _ _ e => ⟨_, He.frG_in, congrArg (fun z : Bool × He.AlD => z.2) e, congrArg (fun z : Bool × He.AlD => z.1) e⟩
  keeps := fun _ _ _ ⟨K, hK, c⟩ k => ⟨K, PySem.W.Frag.In.keeps hK k, c⟩
def obX (n : Nat) (fa : List He.Fa) (fn : List He.DefD) (ex : PySem.W.Frag → Bool) (g : Addr → Option Obj) : Bool × He.AlD := (ex (He.frG g (He.asD g n)), He.obsDG n fa fn g)
theorem obX_eq {n : Nat} {fa : List He.Fa} {fn : List He.DefD} {ex : PySem.W.Frag → Bool} {g : Addr → Option Obj} {s : Shared} (h : ∀ a, g a = s.heap.get? a) : obX n fa fn ex g = (hookX n fa fn ex).obs s := by
  have e : g = s.heap.get? := funext h
  rw [e] <;> rfl
def clsB (K : PySem.W.Frag) (x : Str) : Bool := He.eqO (PySem.W.findIn K (.ref (He.ga K x)) "__class__") (some (some (.builtin "object.__class__"))) && decide (PySem.W.mroIn K (He.ga K x) (.type "object") = some true)
def klgB (K : PySem.W.Frag) : Bool := He.eqO (PySem.W.specialIn K (.builtin "object.__class__") "__get__") (some (some (.builtin "getset_descriptor.__get__"))) && decide (PySem.W.takesIn K (.builtin "object.__class__") = some true)
def kitB2 (K : PySem.W.Frag) (x y : Str) (b : Bool) : Bool := decide (PySem.W.kitOne K (.ref (He.ga K x)) (.ref (He.ga K y)) = some b)
theorem klgB_ok {K : PySem.W.Frag} (h : klgB K = true) : KlG K := by
  obtain ⟨h1, h2⟩ := He.ba h
  exact ⟨He.eqO_ok h1, of_decide_eq_true h2⟩
theorem clsB_ok {K : PySem.W.Frag} {mg : Str → Option Value} {x : Str} (g : mg x = some (.ref (He.ga K x))) (cl : Cls K (He.ga K x)) (h : clsB K x = true) : Kls K mg x (He.ga K x) := by
  obtain ⟨h1, h2⟩ := He.ba h
  exact ⟨g, cl, He.eqO_ok h1, of_decide_eq_true h2⟩
/-! ### len(set(..)) of tuples of ints -/
theorem erase_sub {α : Type} [DecidableEq α] {l m : List α} {a : α} (hl : a ∉ l) (h : ∀ b ∈ l, b ∈ m) : ∀ b ∈ l, b ∈ m.erase a := fun b hb =>
  (List.mem_erase_of_ne (fun z : b = a => hl (z ▸ hb))).mpr (h b hb)
theorem nodup_sub_len {α : Type} [DecidableEq α] : ∀ {l m : List α}, l.Nodup → (∀ a ∈ l, a ∈ m) → l.length ≤ m.length
  | [], _, _, _ => Nat.zero_le _
  | a :: l, m, nd, h => by
    obtain ⟨h1, h2⟩ := List.nodup_cons.mp nd
    have hm := h a List.mem_cons_self
    have ih := nodup_sub_len (m := m.erase a) h2 (erase_sub h1 fun b hb => h b (List.mem_cons_of_mem _ hb))
    rw [List.length_erase_of_mem hm] at ih
    have : 0 < m.length := List.length_pos_of_mem hm
    rw [List.length_cons]
    omega
theorem twice_of {α : Type} [DecidableEq α] : ∀ {m : List α}, ¬ m.Nodup → ∃ a, a ∈ m ∧ a ∈ m.erase a
  | [], h => absurd List.nodup_nil h
  | x :: m, h => by
    by_cases hx : x ∈ m
    · exact ⟨x, List.mem_cons_self, by rw [List.erase_cons_head]; exact hx⟩
    · have h2 : ¬ m.Nodup := fun z => h (List.nodup_cons.mpr ⟨hx, z⟩)
      obtain ⟨a, ha, hb⟩ := twice_of h2
      have ne : a ≠ x := fun z => hx (z ▸ ha)
      refine ⟨a, List.mem_cons_of_mem _ ha, ?_⟩
      rw [List.erase_cons_tail (by simpa using fun z : x = a => ne z.symm)]
      exact List.mem_cons_of_mem _ hb
/-- a list without repeats of the same members is as long iff there is no repeat -/
theorem dedup_len {α : Type} [DecidableEq α] {l m : List α} (nd : l.Nodup) (h1 : ∀ a ∈ l, a ∈ m) (h2 : ∀ a ∈ m, a ∈ l) : decide (l.length = m.length) = decide m.Nodup := by
  by_cases hm : m.Nodup
  · have a := nodup_sub_len nd h1
    have b := nodup_sub_len hm h2
    rw [decide_eq_true hm, decide_eq_true (by omega)]
  · obtain ⟨a, ha, hb⟩ := twice_of hm
    have c := nodup_sub_len (l := l) (m := m.erase a) nd fun b hb' => by
      by_cases e : b = a
      · rw [e]; exact hb
      · exact (List.mem_erase_of_ne e).mpr (h1 b hb')
    rw [List.length_erase_of_mem ha] at c
    have : 0 < m.length := List.length_pos_of_mem ha
    rw [decide_eq_false hm, decide_eq_false (by omega)]
def rLenT (K : PySem.W.Frag) (P : Program) (w : World) : List V → Hp → VK → Prop := fun vs H Q => ∃ (a : Addr) (L : List (Addr × List Int)), vs = [V.ref a] ∧ H a = some (SetTO P w a L) ∧ (∀ p ∈ L, SqT K H p.1 (p.2.map V.int)) ∧ ((L.map (·.2)).Nodup → Q (.int L.length) H)
theorem call_lenT {X : Cx} : CallR X (.builtin "len") (rLenT X.K X.prog X.w) := by
  intro pins s σ H vs us Q I r h
  obtain ⟨a, L, rfl, ha, hk, q⟩ := h
  have R0 : SetT0 X.prog X.w s.heap a L := (I.hok a _ ha).1
  obtain ⟨es, ep, t, R⟩ := R0.full fun p hp => I.isT (hk p hp)
  rw [Vals.ref1 r]
  obtain ⟨o, ho, hex, hd⟩ := R.ob
  have hn := R.size
  have few := R.few
  refine call_len_set ho hex hd R.fits (by omega) ⟨.int L.length, H, I.tok _, ⟨_, by rw [hn]⟩, q R.nd⟩
end Sk
/-! Own errors: raised, caught, asked for their class. -/
namespace Sk
open PySem PySem.Spec PyProof.Rows L2
/-- an own class over ValueError -/
structure ExK (K : PySem.W.Frag) (mg : Str → Option Value) (x : Str) (C : Addr) : Prop where
  g : mg x = some (.ref C)
  xP : PySem.W.excIn K C He.veBase "ValueError.__new__" = true
  kP : PySem.W.keepIn K (.ref C) = true
  bP : PySem.W.subIn K (.ref C) (.type "BaseException") = some true
  tP : PySem.W.typeIn K (.ref C) = some (.type "type")
def excB (K : PySem.W.Frag) (x : Str) : Bool := He.eqO (PySem.W.findIn K (.ref (He.ga K x)) "__getattribute__") (some (some (.builtin "BaseException.__getattribute__"))) && (He.eqO (PySem.W.findIn K (.ref (He.ga K x)) "__getattr__") (some none) && (PySem.W.hasDictIn K (He.ga K x) && (He.eqO (PySem.W.findIn K (.ref (He.ga K x)) "__class__") (some (some (.builtin "object.__class__"))) && decide (PySem.W.mroIn K (He.ga K x) (.type "object") = some true))))
theorem excB_ok {K : PySem.W.Frag} {mg : Str → Option Value} {x : Str} (k : ExK K mg x (He.ga K x)) (G : KlG K) (h : excB K x = true) : ExcC K (He.ga K x) := by
  obtain ⟨h1, h⟩ := He.ba h
  obtain ⟨h2, h⟩ := He.ba h
  obtain ⟨h3, h⟩ := He.ba h
  obtain ⟨h4, h5⟩ := He.ba h
  exact ⟨He.eqO_ok h1, He.eqO_ok h2, k.bP, h3, He.eqO_ok h4, G.hn, G.htk, of_decide_eq_true h5⟩
section
variable {X : Cx} {k : Nat} {ps : List Str} {sp : Sp} {x : Str} {p pos : Pos} {e : Expr} {es : List Expr} {t : TA} {W : WX}
/-- the call of a def that may raise, in a try -/
theorem pcallX (C : Cal X.prog X.w X.K X.mg X.base (L2.CX X.prog X.w) k x ps sp) (hr : Room k X.A) (hg : Gl X x) (tk : Takes X W) (ha : PA X (e :: es) t)
    (hdb : (x == ("__debug__" : Str)) = false := by decide) (he : starEach (e :: es) X.env = (false, eval e X.env) :: starEach es X.env := by rfl) (hpl : (backTo pos (starEach es X.env)).any (·.1) = false := by rfl) :
    PE X (.Call (.Name x p) (e :: es) [] pos) (tCallS sp (WE W) t) := by
  obtain ⟨f, fd, F, g, kp, b, _⟩ := C
  exact pe_callS (p := p) (pos := pos) F hr hg g kp b (fun σ => passAt tk σ) ha hdb he hpl
end
/-- isinstance(error, c) in the suite: the error is of the own class D -/
def rIsX (K : PySem.W.Frag) (cls : Value) (d : Option Addr) (a : Addr) : List V → Hp → VK → Prop := fun xs H Q => ∃ (D C : Addr) (b : Bool), cls = .ref D ∧ d = none ∧ ExcC K D ∧ xs = [.ref a, .ref C] ∧ PySem.W.kitOne K (.ref D) (.ref C) = some b ∧ Q (.bl b) H
theorem isX {X : Cx} {a : Addr} {oe : Obj} {cls : Value} {d : Option Addr} {pn : List (Addr × Obj)} (K : PySem.W.Frag) (hz : Zc cls d oe) (hf : ∃ vs, oe.data = .fields vs) (h : X.K = K := by rfl) : CallR (X.suite a ((a, oe) :: pn)) (.builtin "isinstance") (rIsX K cls d a) := by
  subst h
  intro pins s σ H xs us Q I r h
  obtain ⟨D, C, b, rfl, rfl, hC, rfl, e, q⟩ := h
  exact call_isE hC hz hf pins s σ H _ us Q I r ⟨.ref C, .ref C, b, rfl, fun u ru => by cases ru; rfl, e, q⟩
/-- x * n, n positive -/
def rRepN : R2 := fun x y H Q => ∃ (z : Str) (n : Nat), x = .str z ∧ y = .int (n : Int) ∧ 1 ≤ n ∧ n ≤ 1000 ∧ 1 ≤ z.length ∧ z.length ≤ 1000 ∧ Q (.str (repS z n)) H
theorem repS_one (z : Str) : repS z 1 = z := by
  unfold repS
  cases z
  simp
theorem op_repN {X : Cx} : OpR X (binaryOp .Mult) rRepN := by
  intro pins s σ H x y v u Q I rx ry h
  obtain ⟨z, n, rfl, rfl, h2, h3, h4, h5, q⟩ := h
  by_cases h1 : n = 1
  · subst h1
    rw [repS_one] at q
    obtain ⟨t, rfl⟩ := rx
    obtain ⟨t', rfl⟩ := ry
    refine P.mul_str (by decide) (fun _ h => ?_) (fun _ h => ?_) ?_
    · cases h
    · cases h
    · rw [if_neg (by decide), if_pos (show (((1 : Nat) : Int) == 1 || z.length == 0) = true from rfl)]
      exact ⟨.str z, H, I, ⟨_, rfl⟩, q⟩
  · exact op_repS pins s σ H _ _ v u Q I rx ry ⟨z, n, rfl, rfl, by omega, h3, h4, h5, q⟩
end Sk
/-! The mathematics of fields, cells and snakes: plain Lean, no program. -/
namespace Sn
/-- a row: its letters' codes; a field: its rows -/
abbrev Row := List Nat
abbrev Cel := Int × Int
def letter (c : Nat) : Prop := 97 ≤ c ∧ c ≤ 122
structure FieldOk (F : List Row) (h w : Nat) : Prop where
  high : F.length = h
  h1 : 1 ≤ h
  h5 : h ≤ 5
  w1 : 1 ≤ w
  w5 : w ≤ 5
  wide : ∀ r ∈ F, r.length = w
  let_ : ∀ r ∈ F, ∀ c ∈ r, letter c
/-- lo, lo + 1, .. : n of them -/
def rng (lo : Int) (n : Nat) : List Int := (List.range n).map fun (i : Nat) => lo + (i : Int)
theorem rng_length (lo : Int) (n : Nat) : (rng lo n).length = n := by simp [rng]
theorem rng_succ (lo : Int) (n : Nat) : rng lo (n + 1) = rng lo n ++ [lo + (n : Int)] := by
  unfold rng; rw [List.range_succ, List.map_append]; rfl
theorem mem_rng {lo x : Int} {n : Nat} : x ∈ rng lo n ↔ lo ≤ x ∧ x < lo + n := by
  unfold rng
  rw [List.mem_map]
  constructor
  · rintro ⟨i, hi, rfl⟩
    have := List.mem_range.mp hi
    omega
  · rintro ⟨h1, h2⟩
    exact ⟨(x - lo).toNat, List.mem_range.mpr (by omega), by omega⟩
def iabs (x : Int) : Int := if x < 0 then -x else x
def beside (a b : Cel) : Bool := (!decide (a = b)) && decide (iabs (a.1 - b.1) < 2) && decide (iabs (a.2 - b.2) < 2)
def cellsL (h w : Nat) : List Cel := (rng 0 h).flatMap fun r => (rng 0 w).map fun p => (r, p)
theorem mem_cellsL {h w : Nat} {c : Cel} : c ∈ cellsL h w ↔ (0 ≤ c.1 ∧ c.1 < h) ∧ (0 ≤ c.2 ∧ c.2 < w) := by
  unfold cellsL
  rw [List.mem_flatMap]
  constructor
  · rintro ⟨r, hr, hc⟩
    obtain ⟨p, hp, rfl⟩ := List.mem_map.mp hc
    have h1 := mem_rng.mp hr
    have h2 := mem_rng.mp hp
    exact ⟨by simpa using h1, by simpa using h2⟩
  · rintro ⟨h1, h2⟩
    refine ⟨c.1, mem_rng.mpr (by simpa using h1), List.mem_map.mpr ⟨c.2, mem_rng.mpr (by simpa using h2), rfl⟩⟩
/-- what near_of goes through: rows from max(0, r - 1) to min(h, r + 2), places alike -/
def loN (x : Int) : Int := if x - 1 > 0 then x - 1 else 0
def hiN (n : Nat) (x : Int) : Int := if x + 2 < (n : Int) then x + 2 else (n : Int)
def nearRow (w : Nat) (c : Cel) (row : Int) : List Cel := ((rng (loN c.2) (hiN w c.2 - loN c.2).toNat).filter fun p => !decide ((row, p) = c)).map fun p => (row, p)
def nearL (h w : Nat) (c : Cel) : List Cel := (rng (loN c.1) (hiN h c.1 - loN c.1).toNat).flatMap fun row => nearRow w c row
def nearChk (h w r p : Nat) : Bool := decide (nearL h w ((r : Int), (p : Int)) = (cellsL h w).filter (beside ((r : Int), (p : Int))))
set_option maxRecDepth 100000 in
theorem nearChk_all : ((List.range 6).all fun h => (List.range 6).all fun w => (List.range h).all fun r => (List.range w).all fun p => nearChk h w r p) = true := by decide +kernel
theorem near_eq {h w : Nat} (h5 : h ≤ 5) (w5 : w ≤ 5) {c : Cel} (hc : c ∈ cellsL h w) : nearL h w c = (cellsL h w).filter (beside c) := by
  obtain ⟨⟨a1, a2⟩, a3, a4⟩ := mem_cellsL.mp hc
  have k := nearChk_all
  rw [List.all_eq_true] at k
  have k1 := k h (List.mem_range.mpr (by omega))
  rw [List.all_eq_true] at k1
  have k2 := k1 w (List.mem_range.mpr (by omega))
  rw [List.all_eq_true] at k2
  have k3 := k2 c.1.toNat (List.mem_range.mpr (by omega))
  rw [List.all_eq_true] at k3
  have k4 := k3 c.2.toNat (List.mem_range.mpr (by omega))
  have k5 : nearL h w ((c.1.toNat : Int), (c.2.toNat : Int)) = (cellsL h w).filter (beside ((c.1.toNat : Int), (c.2.toNat : Int))) := of_decide_eq_true k4
  have e : (((c.1.toNat : Int), (c.2.toNat : Int)) : Cel) = c := by
    apply Prod.ext
    · show ((c.1.toNat : Int)) = c.1; omega
    · show ((c.2.toNat : Int)) = c.2; omega
  rw [e] at k5
  exact k5
theorem near_mem {h w : Nat} (h5 : h ≤ 5) (w5 : w ≤ 5) {c d : Cel} (hc : c ∈ cellsL h w) : d ∈ nearL h w c ↔ d ∈ cellsL h w ∧ beside c d = true := by
  rw [near_eq h5 w5 hc, List.mem_filter]
theorem getD_of {α : Type} {l : List α} {i : Nat} {x d : α} (h : l[i]? = some x) : l.getD i d = x := by
  rw [List.getD_eq_getElem?_getD, h]; rfl
/-- the field's letter at a cell -/
def at_ (F : List Row) (c : Cel) : Nat := (F.getD c.1.toNat []).getD c.2.toNat 0
/-! ### turned, mirrored -/
def col (F : List Row) (p : Nat) : Row := F.reverse.map fun r => r.getD p 0
def turnedL (F : List Row) (w : Nat) : List Row := (List.range w).map fun p => col F p
def mirroredL (F : List Row) : List Row := F.map List.reverse
theorem FieldOk.turned {F : List Row} {h w : Nat} (o : FieldOk F h w) : FieldOk (turnedL F w) w h := by
  refine ⟨by simp [turnedL], o.w1, o.w5, o.h1, o.h5, fun r hr => ?_, fun r hr c hc => ?_⟩
  · obtain ⟨p, _, rfl⟩ := List.mem_map.mp hr
    simp [col, o.high]
  · obtain ⟨p, hp, rfl⟩ := List.mem_map.mp hr
    obtain ⟨q, hq, rfl⟩ := List.mem_map.mp hc
    have hq' : q ∈ F := List.mem_reverse.mp hq
    have hl : p < q.length := by rw [o.wide q hq']; exact List.mem_range.mp hp
    rw [List.getD_eq_getElem?_getD, List.getElem?_eq_getElem hl]
    exact o.let_ q hq' _ (List.getElem_mem hl)
theorem FieldOk.mirrored {F : List Row} {h w : Nat} (o : FieldOk F h w) : FieldOk (mirroredL F) h w := by
  refine ⟨by simp [mirroredL, o.high], o.h1, o.h5, o.w1, o.w5, fun r hr => ?_, fun r hr c hc => ?_⟩
  · obtain ⟨p, hp, rfl⟩ := List.mem_map.mp hr
    rw [List.length_reverse]; exact o.wide p hp
  · obtain ⟨p, hp, rfl⟩ := List.mem_map.mp hr
    exact o.let_ p hp c (List.mem_reverse.mp hc)
theorem mirrored_twice (F : List Row) : mirroredL (mirroredL F) = F := by
  unfold mirroredL
  rw [List.map_map]
  conv => rhs; rw [← List.map_id F]
  apply List.map_congr_left
  intro r _
  simp
theorem turned_get {F : List Row} {w : Nat} {p : Nat} (hp : p < w) : (turnedL F w)[p]? = some (col F p) := by
  unfold turnedL
  rw [List.getElem?_map, List.getElem?_range hp]; rfl
theorem col_get {F : List Row} {h w : Nat} (o : FieldOk F h w) {p r : Nat} (hr : r < h) : (col F p)[h - 1 - r]? = some ((F.getD r []).getD p 0) := by
  unfold col
  rw [List.getElem?_map, List.getElem?_reverse (by rw [o.high]; omega)]
  have e : F.length - 1 - (h - 1 - r) = r := by rw [o.high]; omega
  have hl : r < F.length := by rw [o.high]; exact hr
  rw [e, List.getElem?_eq_getElem hl]
  simp [List.getD_eq_getElem?_getD, List.getElem?_eq_getElem hl]
theorem row_len {F : List Row} {h w : Nat} (o : FieldOk F h w) {r : Nat} (hr : r < h) : (F.getD r []).length = w := by
  have hl : r < F.length := by rw [o.high]; exact hr
  rw [List.getD_eq_getElem?_getD, List.getElem?_eq_getElem hl]
  exact o.wide _ (List.getElem_mem hl)
theorem turned_at {F : List Row} {h w : Nat} (o : FieldOk F h w) {i j : Nat} (hi : i < w) (hj : j < h) : ((turnedL F w).getD i []).getD j 0 = (F.getD (h - 1 - j) []).getD i 0 := by
  have h1 := turned_get (F := F) hi
  have h2 := col_get o (p := i) (r := h - 1 - j) (by omega)
  have e : h - 1 - (h - 1 - j) = j := by omega
  rw [e] at h2
  rw [getD_of h1, getD_of h2]
/-- two fields are the same if all their letters are -/
theorem field_ext {F G : List Row} {h w : Nat} (o : FieldOk F h w) (q : FieldOk G h w) (e : ∀ i j, i < h → j < w → (F.getD i []).getD j 0 = (G.getD i []).getD j 0) : F = G := by
  apply List.ext_getElem (by rw [o.high, q.high])
  intro i h1 h2
  have hi : i < h := by rw [← o.high]; exact h1
  apply List.ext_getElem
  · rw [o.wide _ (List.getElem_mem h1), q.wide _ (List.getElem_mem h2)]
  intro j k1 k2
  have hj : j < w := by rw [← o.wide _ (List.getElem_mem h1)]; exact k1
  have z := e i j hi hj
  rw [getD_of (List.getElem?_eq_getElem h1), getD_of (List.getElem?_eq_getElem h2), getD_of (List.getElem?_eq_getElem k1), getD_of (List.getElem?_eq_getElem k2)] at z
  exact z
theorem turned_four {F : List Row} {h w : Nat} (o : FieldOk F h w) : turnedL (turnedL (turnedL (turnedL F w) h) w) h = F := by
  have o1 := o.turned
  have o2 := o1.turned
  have o3 := o2.turned
  have o4 := o3.turned
  refine field_ext o4 o fun i j hi hj => ?_
  rw [turned_at o3 hi hj, turned_at o2 (by omega) hi, turned_at o1 (by omega) (by omega), turned_at o (by omega) (by omega)]
  have e1 : h - 1 - (h - 1 - i) = i := by omega
  have e2 : w - 1 - (w - 1 - j) = j := by omega
  rw [e1, e2]
end Sn
/-! The mathematics of snakes: plain Lean, no program. -/
namespace Sn
/-- where a snake may go on -/
def nextL (h w : Nat) (cs : List Cel) : List Cel := match cs.getLast? with
  | none => cellsL h w
  | some c => (nearL h w c).filter fun d => !decide (d ∈ cs)
/-- all snakes that begin with cs and then spell the rest -/
def snakesOn (F : List (List Nat)) (h w : Nat) : List Nat → List Cel → List (List Cel)
  | [], cs => [cs]
  | l :: r, cs => (nextL h w cs).flatMap fun c => if at_ F c = l then snakesOn F h w r (cs ++ [c]) else []
def Vld (h w : Nat) (cs : List Cel) : Prop := ∀ c ∈ cs, c ∈ cellsL h w
theorem Vld.snoc {h w : Nat} {cs : List Cel} {c : Cel} (v : Vld h w cs) (hc : c ∈ cellsL h w) : Vld h w (cs ++ [c]) := fun d hd => by
  rcases List.mem_append.mp hd with hd | hd
  · exact v d hd
  · rw [List.mem_singleton.mp hd]; exact hc
theorem Vld.last {h w : Nat} {cs : List Cel} {c : Cel} (v : Vld h w cs) (e : cs.getLast? = some c) : c ∈ cellsL h w := v c (List.mem_of_getLast? e)
def nearLen (h w r p : Nat) : Bool := decide ((nearL h w ((r : Int), (p : Int))).length ≤ 8)
set_option maxRecDepth 100000 in
theorem nearLen_all : ((List.range 6).all fun h => (List.range 6).all fun w => (List.range h).all fun r => (List.range w).all fun p => nearLen h w r p) = true := by decide +kernel
theorem near_len {h w : Nat} (h5 : h ≤ 5) (w5 : w ≤ 5) {c : Cel} (hc : c ∈ cellsL h w) : (nearL h w c).length ≤ 8 := by
  obtain ⟨⟨a1, a2⟩, a3, a4⟩ := mem_cellsL.mp hc
  have k := nearLen_all
  rw [List.all_eq_true] at k
  have k1 := k h (List.mem_range.mpr (by omega))
  rw [List.all_eq_true] at k1
  have k2 := k1 w (List.mem_range.mpr (by omega))
  rw [List.all_eq_true] at k2
  have k3 := k2 c.1.toNat (List.mem_range.mpr (by omega))
  rw [List.all_eq_true] at k3
  have k4 := k3 c.2.toNat (List.mem_range.mpr (by omega))
  have e : (((c.1.toNat : Int), (c.2.toNat : Int)) : Cel) = c := by
    apply Prod.ext
    · show ((c.1.toNat : Int)) = c.1; omega
    · show ((c.2.toNat : Int)) = c.2; omega
  unfold nearLen at k4
  rw [e] at k4
  exact of_decide_eq_true k4
theorem next_mem {h w : Nat} (h5 : h ≤ 5) (w5 : w ≤ 5) {cs : List Cel} (v : Vld h w cs) {c : Cel} (hc : c ∈ nextL h w cs) : c ∈ cellsL h w := by
  unfold nextL at hc
  split at hc
  · exact hc
  · rename_i d e
    exact ((near_mem h5 w5 (v.last e)).mp (List.mem_filter.mp hc).1).1
theorem next_len {h w : Nat} (h5 : h ≤ 5) (w5 : w ≤ 5) {cs : List Cel} (v : Vld h w cs) : (nextL h w cs).length ≤ if cs = [] then 25 else 8 := by
  unfold nextL
  split
  · rename_i e
    rw [if_pos (List.getLast?_eq_none_iff.mp e)]
    have : (cellsL h w).length = h * w := by
      unfold cellsL
      clear e v
      induction h with
      | zero => simp [rng]
      | succ h ih => rw [rng_succ, List.flatMap_append, List.length_append, ih (by omega), List.flatMap_cons, List.flatMap_nil, List.append_nil, List.length_map, rng_length, Nat.succ_mul]
    rw [this]
    exact Nat.mul_le_mul h5 w5
  · rename_i d e
    have hne : cs ≠ [] := fun z => by rw [z] at e; cases e
    rw [if_neg hne]
    exact Nat.le_trans (List.length_filter_le _ _) (near_len h5 w5 (v.last e))
theorem flat_le {α β : Type} (f : α → List β) (m : Nat) : ∀ l : List α, (∀ a ∈ l, (f a).length ≤ m) → (l.flatMap f).length ≤ l.length * m
  | [], _ => by simp
  | a :: l, h => by
    rw [List.flatMap_cons, List.length_append, List.length_cons, Nat.succ_mul]
    have := flat_le f m l fun b hb => h b (List.mem_cons_of_mem _ hb)
    have := h a List.mem_cons_self
    omega
theorem snakes_len8 {F : List (List Nat)} {h w : Nat} (h5 : h ≤ 5) (w5 : w ≤ 5) : ∀ (r : List Nat) (cs : List Cel), cs ≠ [] → Vld h w cs → (snakesOn F h w r cs).length ≤ 8 ^ r.length
  | [], cs, _, _ => by simp [snakesOn]
  | l :: r, cs, hn, v => by
    show ((nextL h w cs).flatMap _).length ≤ _
    have h1 := next_len h5 w5 v
    rw [if_neg hn] at h1
    refine Nat.le_trans (flat_le _ (8 ^ r.length) _ fun c hc => ?_) ?_
    · show (if at_ F c = l then snakesOn F h w r (cs ++ [c]) else []).length ≤ _
      split
      · exact snakes_len8 h5 w5 r (cs ++ [c]) (by simp) (v.snoc (next_mem h5 w5 v hc))
      · exact Nat.zero_le _
    · rw [List.length_cons, Nat.pow_succ, Nat.mul_comm]
      exact Nat.mul_le_mul_left _ h1
theorem snakes_len {F : List (List Nat)} {h w : Nat} (h5 : h ≤ 5) (w5 : w ≤ 5) {r : List Nat} {cs : List Cel} (v : Vld h w cs) (hr : r.length ≤ 6) : (snakesOn F h w r cs).length ≤ 1000000 := by
  by_cases hn : cs = []
  · subst hn
    cases r with
    | nil => simp [snakesOn]
    | cons l r =>
      show ((nextL h w []).flatMap _).length ≤ _
      have h1 := next_len h5 w5 v
      rw [if_pos rfl] at h1
      refine Nat.le_trans (flat_le _ (8 ^ 5) _ fun c hc => ?_) (Nat.le_trans (Nat.mul_le_mul_right _ h1) (by decide))
      show (if at_ F c = l then snakesOn F h w r ([] ++ [c]) else []).length ≤ _
      split
      · exact Nat.le_trans (snakes_len8 h5 w5 r ([] ++ [c]) (by simp) (v.snoc (next_mem h5 w5 v hc))) (Nat.pow_le_pow_right (by decide) (by rw [List.length_cons] at hr; omega))
      · exact Nat.zero_le _
  · exact Nat.le_trans (snakes_len8 h5 w5 r cs hn v) (Nat.le_trans (Nat.pow_le_pow_right (by decide) hr) (by decide))
/-! ### letter by letter, all snakes at once -/
def stepB (F : List (List Nat)) (l : Nat) (cs : List Cel) (c : Cel) : Bool := (decide (at_ F c = l) && !decide (c ∈ cs)) && (decide (cs = []) || (match cs.getLast? with | none => false | some d => beside d c))
def stepL (F : List (List Nat)) (h w l : Nat) (cs : List Cel) : List (List Cel) := ((cellsL h w).filter (stepB F l cs)).map fun c => cs ++ [c]
def bfs (F : List (List Nat)) (h w : Nat) (word : List Nat) : List (List Cel) := word.foldl (fun fs l => fs.flatMap (stepL F h w l)) [[]]
theorem flat_if {α β : Type} (p : α → Bool) (f : α → List β) : ∀ l : List α, (l.flatMap fun a => if p a = true then f a else []) = (l.filter p).flatMap f
  | [] => rfl
  | a :: l => by
    rw [List.flatMap_cons, flat_if p f l, List.filter_cons]
    split
    · rw [List.flatMap_cons]
    · rfl
theorem step_eq {F : List (List Nat)} {h w : Nat} (h5 : h ≤ 5) (w5 : w ≤ 5) {l : Nat} {cs : List Cel} (v : Vld h w cs) : (cellsL h w).filter (stepB F l cs) = (nextL h w cs).filter fun c => decide (at_ F c = l) := by
  unfold nextL
  split
  · rename_i e
    have hn := List.getLast?_eq_none_iff.mp e
    subst hn
    apply List.filter_congr
    intro c _
    simp [stepB]
  · rename_i d e
    have hne : cs ≠ [] := fun z => by rw [z] at e; cases e
    rw [near_eq h5 w5 (v.last e), List.filter_filter, List.filter_filter]
    apply List.filter_congr
    intro c _
    unfold stepB
    rw [e, decide_eq_false hne, Bool.false_or, Bool.and_assoc]
theorem snakes_cons {F : List (List Nat)} {h w : Nat} (h5 : h ≤ 5) (w5 : w ≤ 5) {l : Nat} {r : List Nat} {cs : List Cel} (v : Vld h w cs) : snakesOn F h w (l :: r) cs = (stepL F h w l cs).flatMap (snakesOn F h w r) := by
  have e : snakesOn F h w (l :: r) cs = (nextL h w cs).flatMap fun c => if decide (at_ F c = l) = true then snakesOn F h w r (cs ++ [c]) else [] := by
    show (nextL h w cs).flatMap _ = _
    congr 1
    funext c
    simp only [decide_eq_true_eq]
  rw [e, flat_if, ← step_eq h5 w5 v]
  unfold stepL
  rw [List.flatMap_map]
theorem step_vld {F : List (List Nat)} {h w l : Nat} {cs s : List Cel} (v : Vld h w cs) (hs : s ∈ stepL F h w l cs) : Vld h w s := by
  obtain ⟨c, hc, rfl⟩ := List.mem_map.mp hs
  exact v.snoc (List.mem_filter.mp hc).1
theorem bfs_from {F : List (List Nat)} {h w : Nat} (h5 : h ≤ 5) (w5 : w ≤ 5) : ∀ (word : List Nat) (fs : List (List Cel)), (∀ s ∈ fs, Vld h w s) → word.foldl (fun fs l => fs.flatMap (stepL F h w l)) fs = fs.flatMap (snakesOn F h w word)
  | [], fs, _ => by
    show fs = fs.flatMap fun s => [s]
    simp
  | l :: r, fs, hv => by
    rw [List.foldl_cons, bfs_from h5 w5 r _ fun s hs => ?_, List.flatMap_assoc]
    · apply flatMap_congr_left
      intro s hs
      exact (snakes_cons h5 w5 (hv s hs)).symm
    · obtain ⟨t, ht, hs⟩ := List.mem_flatMap.mp hs
      exact step_vld (hv t ht) hs
where
  flatMap_congr_left {α β : Type} {f g : α → List β} {l : List α} (h : ∀ a ∈ l, f a = g a) : l.flatMap f = l.flatMap g := by
    induction l with
    | nil => rfl
    | cons a l ih => rw [List.flatMap_cons, List.flatMap_cons, h a List.mem_cons_self, ih fun b hb => h b (List.mem_cons_of_mem _ hb)]
theorem vld_nil (h w : Nat) : Vld h w [] := fun _ z => nomatch z
theorem bfs_eq {F : List (List Nat)} {h w : Nat} (h5 : h ≤ 5) (w5 : w ≤ 5) (word : List Nat) : bfs F h w word = snakesOn F h w word [] := by
  unfold bfs
  rw [bfs_from h5 w5 word [[]] fun s hs => by rw [List.mem_singleton.mp hs]; exact vld_nil h w]
  simp
/-! ### what snakes are -/
def adjB (cs : List Cel) : Bool := (cs.zip (cs.drop 1)).all fun p => beside p.1 p.2
def snakeB (h w : Nat) (cs : List Cel) : Bool := !decide (cs = []) && (decide cs.Nodup && ((cs.all fun c => decide (c ∈ cellsL h w)) && adjB cs))
def spell (F : List (List Nat)) (cs : List Cel) : List Nat := cs.map (at_ F)
theorem adj_snoc : ∀ {cs : List Cel} {c : Cel}, adjB cs = true → (∀ d, cs.getLast? = some d → beside d c = true) → adjB (cs ++ [c]) = true
  | [], c, _, _ => rfl
  | [a], c, _, h => by
    have := h a rfl
    simp [adjB, this]
  | a :: b :: r, c, h, hl => by
    have h' : beside a b = true ∧ adjB (b :: r) = true := by
      simpa [adjB] using h
    have ih := adj_snoc (cs := b :: r) (c := c) h'.2 (fun d hd => hl d (by rw [List.getLast?_cons_cons]; exact hd))
    have : adjB (a :: b :: r ++ [c]) = (beside a b && adjB (b :: r ++ [c])) := by simp [adjB]
    rw [this, h'.1, ih]; rfl
structure Snk (h w : Nat) (cs : List Cel) : Prop where
  vld : Vld h w cs
  nd : cs.Nodup
  adj : adjB cs = true
theorem snk_nil (h w : Nat) : Snk h w [] := ⟨vld_nil h w, List.nodup_nil, rfl⟩
theorem snakeB_iff {h w : Nat} {cs : List Cel} : snakeB h w cs = true ↔ cs ≠ [] ∧ Snk h w cs := by
  unfold snakeB
  simp only [Bool.and_eq_true, Bool.not_eq_true', decide_eq_false_iff_not, decide_eq_true_eq, List.all_eq_true]
  constructor
  · rintro ⟨a, b, c, d⟩
    exact ⟨a, c, b, d⟩
  · rintro ⟨a, c, b, d⟩
    exact ⟨a, b, c, d⟩
theorem Snk.snoc {F : List (List Nat)} {h w l : Nat} {cs : List Cel} {c : Cel} (k : Snk h w cs) (hc : c ∈ cellsL h w) (hb : stepB F l cs c = true) : Snk h w (cs ++ [c]) := by
  unfold stepB at hb
  simp only [Bool.and_eq_true, Bool.or_eq_true, decide_eq_true_eq, Bool.not_eq_true', decide_eq_false_iff_not] at hb
  obtain ⟨⟨_, hn⟩, hb⟩ := hb
  refine ⟨k.vld.snoc hc, ?_, adj_snoc k.adj fun d hd => ?_⟩
  · rw [List.nodup_append]
    refine ⟨k.nd, by simp, fun a ha b hb' z => ?_⟩
    rw [List.mem_singleton.mp hb'] at z
    exact hn (z ▸ ha)
  · rcases hb with hb | hb
    · rw [hb] at hd; cases hd
    · rw [hd] at hb; exact hb
theorem snakes_are {F : List (List Nat)} {h w : Nat} (h5 : h ≤ 5) (w5 : w ≤ 5) : ∀ (r : List Nat) (cs s : List Cel), Snk h w cs → s ∈ snakesOn F h w r cs → Snk h w s ∧ ∃ t, s = cs ++ t ∧ spell F t = r
  | [], cs, s, k, hs => by
    rw [List.mem_singleton.mp hs]
    exact ⟨k, [], by simp, rfl⟩
  | l :: r, cs, s, k, hs => by
    rw [snakes_cons h5 w5 k.vld] at hs
    obtain ⟨cs', hc', hs⟩ := List.mem_flatMap.mp hs
    obtain ⟨c, hc, rfl⟩ := List.mem_map.mp hc'
    obtain ⟨hc1, hc2⟩ := List.mem_filter.mp hc
    obtain ⟨k2, t, rfl, ht⟩ := snakes_are h5 w5 r _ s (k.snoc hc1 hc2) hs
    refine ⟨k2, c :: t, by simp, ?_⟩
    have hl : at_ F c = l := by
      unfold stepB at hc2
      simp only [Bool.and_eq_true, decide_eq_true_eq] at hc2
      exact hc2.1.1
    show at_ F c :: spell F t = _
    rw [hl, ht]
theorem snakes_mem {F : List (List Nat)} {h w : Nat} (h5 : h ≤ 5) (w5 : w ≤ 5) {word : List Nat} {s : List Cel} (hs : s ∈ snakesOn F h w word []) : Snk h w s ∧ spell F s = word := by
  obtain ⟨k, t, rfl, ht⟩ := snakes_are h5 w5 word [] s (snk_nil h w) hs
  exact ⟨k, by simpa using ht⟩
/-! ### how far snakes come -/
def ne_ (F : List (List Nat)) (h w : Nat) (word : List Nat) (m : Nat) : Bool := !decide (snakesOn F h w (word.take m) [] = [])
theorem bfs_snoc (F : List (List Nat)) (h w : Nat) (word : List Nat) (l : Nat) : bfs F h w (word ++ [l]) = (bfs F h w word).flatMap (stepL F h w l) := by
  unfold bfs
  rw [List.foldl_append]; rfl
theorem ne_down {F : List (List Nat)} {h w : Nat} (h5 : h ≤ 5) (w5 : w ≤ 5) {word : List Nat} {m : Nat} (hm : m < word.length) (h1 : ne_ F h w word (m + 1) = true) : ne_ F h w word m = true := by
  unfold ne_ at h1 ⊢
  rw [Bool.not_eq_true', decide_eq_false_iff_not] at h1 ⊢
  intro z
  apply h1
  rw [← bfs_eq h5 w5] at z ⊢
  rw [List.take_add_one, List.getElem?_eq_getElem hm]
  show bfs F h w (word.take m ++ [word[m]]) = []
  rw [bfs_snoc, z]
  rfl
theorem ne_le {F : List (List Nat)} {h w : Nat} (h5 : h ≤ 5) (w5 : w ≤ 5) {word : List Nat} : ∀ {k m : Nat}, m ≤ k → k ≤ word.length → ne_ F h w word k = true → ne_ F h w word m = true
  | 0, m, h1, _, h => by
    have : m = 0 := by omega
    rw [this]; exact h
  | k + 1, m, h1, h2, h => by
    by_cases e : m = k + 1
    · rw [e]; exact h
    · exact ne_le h5 w5 (by omega) (by omega) (ne_down h5 w5 (by omega) h)
/-- m letters are spelled by some snake, no more are -/
structure Lgst (F : List (List Nat)) (h w : Nat) (word : List Nat) (m : Nat) : Prop where
  le : m ≤ word.length
  ne : ne_ F h w word m = true
  most : ∀ k, m < k → k ≤ word.length → ne_ F h w word k = false
theorem Lgst.inj {F : List (List Nat)} {h w : Nat} {word : List Nat} {m k : Nat} (a : Lgst F h w word m) (b : Lgst F h w word k) : m = k := by
  rcases Nat.lt_trichotomy m k with c | c | c
  · have := a.most k c b.le
    rw [b.ne] at this; cases this
  · exact c
  · have := b.most m c a.le
    rw [a.ne] at this; cases this
theorem lgst_of {F : List (List Nat)} {h w : Nat} (h5 : h ≤ 5) (w5 : w ≤ 5) {word : List Nat} {m : Nat} (le : m ≤ word.length) (ne : ne_ F h w word m = true) (st : m < word.length → ne_ F h w word (m + 1) = false) : Lgst F h w word m := by
  refine ⟨le, ne, fun k h1 h2 => ?_⟩
  cases e : ne_ F h w word k with
  | false => rfl
  | true =>
    have := ne_le h5 w5 (show m + 1 ≤ k by omega) h2 e
    rw [st (by omega)] at this
    cases this
theorem ne_zero (F : List (List Nat)) (h w : Nat) (word : List Nat) : ne_ F h w word 0 = true := by simp [ne_, snakesOn]
end Sn
/-! No snake is told twice. -/
namespace Sn
theorem cells_nodB : ((List.range 6).all fun h => (List.range 6).all fun w => decide (cellsL h w).Nodup) = true := by decide +kernel
theorem cells_nd {h w : Nat} (h5 : h ≤ 5) (w5 : w ≤ 5) : (cellsL h w).Nodup := by
  have a := List.all_eq_true.mp cells_nodB h (List.mem_range.mpr (by omega))
  exact of_decide_eq_true (List.all_eq_true.mp a w (List.mem_range.mpr (by omega)))
theorem snakes_pre {F : List (List Nat)} {h w : Nat} : ∀ (r : List Nat) (cs s : List Cel), s ∈ snakesOn F h w r cs → ∃ t, s = cs ++ t
  | [], cs, s, hs => ⟨[], by rw [List.append_nil]; exact List.mem_singleton.mp hs⟩
  | l :: r, cs, s, hs => by
    obtain ⟨c, _, h2⟩ := List.mem_flatMap.mp hs
    by_cases e : at_ F c = l
    · rw [if_pos e] at h2
      obtain ⟨t, rfl⟩ := snakes_pre r _ _ h2
      exact ⟨c :: t, by simp⟩
    · rw [if_neg e] at h2
      exact nomatch h2
theorem snakes_nd {F : List (List Nat)} {h w : Nat} (h5 : h ≤ 5) (w5 : w ≤ 5) : ∀ (r : List Nat) (cs : List Cel), Vld h w cs → (snakesOn F h w r cs).Nodup
  | [], cs, _ => List.pairwise_singleton _ _
  | l :: r, cs, v => by
    rw [snakes_cons h5 w5 v]
    unfold List.Nodup
    rw [List.pairwise_flatMap]
    refine ⟨fun s hs => snakes_nd h5 w5 r s (step_vld v hs), ?_⟩
    unfold stepL
    rw [List.pairwise_map]
    refine (List.Pairwise.filter _ (cells_nd h5 w5)).imp ?_
    intro a b ne x hx y hy e
    subst e
    obtain ⟨t1, e1⟩ := snakes_pre r _ _ hx
    obtain ⟨t2, e2⟩ := snakes_pre r _ _ hy
    rw [e1, List.append_assoc, List.append_assoc] at e2
    exact ne (List.cons.inj (List.append_cancel_left e2)).1
end Sn
/-! How fields, cells and snakes stand in the heap; comprehensions by one lemma. -/
namespace Sk
open PySem PySem.Spec PyProof.Rows L2 Sn

/-! ### heaps -/
theorem same_new {H : Hp} {p : Addr} {o : HO} (h : H p = none) : Same H (upd H p o) := fun b x e => by
  rw [upd_ne (ne_of_none e h)]; exact e
theorem same_upd {H0 H : Hp} {p : Addr} {o : HO} (s : Same H0 H) (h : H0 p = none) : Same H0 (upd H p o) := fun b x e => by
  rw [upd_ne (ne_of_none e h)]; exact s b x e
/-- all but D stays -/
def Kb (D : Addr) (H H' : Hp) : Prop := ∀ b o, b ≠ D → H b = some o → H' b = some o
theorem Kb.of {D : Addr} {H H' : Hp} (s : Same H H') : Kb D H H' := fun b o _ e => s b o e
theorem Kb.upd {D : Addr} {H H' : Hp} {o : HO} (s : Kb D H H') : Kb D H (upd H' D o) := fun b x n e => by
  rw [upd_ne n]; exact s b x n e
theorem Kb.trans {D : Addr} {H H1 H2 : Hp} (a : Kb D H H1) (b : Kb D H1 H2) : Kb D H H2 := fun c o n e => b c o n (a c o n e)
/-- tuples stay -/
def TupLe (H H' : Hp) : Prop := ∀ a xs, Rd H a (.tup xs) → Rd H' a (.tup xs)
theorem TupLe.refl (H : Hp) : TupLe H H := fun _ _ h => h
theorem TupLe.trans {H H1 H2 : Hp} (a : TupLe H H1) (b : TupLe H1 H2) : TupLe H H2 := fun c xs h => b c xs (a c xs h)
theorem TupLe.of {H H' : Hp} (s : Same H H') : TupLe H H' := fun a xs h => by
  rcases h with h | ⟨o, h⟩
  · exact .inl (s _ _ h)
  · exact .inr ⟨o, s _ _ h⟩
theorem TupLe.kb {D : Addr} {H H' : Hp} {ys : List V} (hD : H D = some (.lst ys)) (s : Kb D H H') : TupLe H H' := fun a xs h => by
  rcases h with h | ⟨o, h⟩
  · exact .inl (s _ _ (ne_of h hD (fun z => by cases z)) h)
  · exact .inr ⟨o, s _ _ (ne_of h hD (fun z => by cases z)) h⟩
theorem TupLe.upd {H H' : Hp} {D : Addr} {ys : List V} {o : HO} (hD : H' D = some (.lst ys)) (s : TupLe H H') : TupLe H (upd H' D o) := fun a xs h => by
  rcases s a xs h with h | ⟨o, h⟩
  · exact .inl (by rw [upd_ne (ne_of h hD (fun z => by cases z))]; exact h)
  · exact .inr ⟨o, by rw [upd_ne (ne_of h hD (fun z => by cases z))]; exact h⟩
theorem TupLe.sqt {K : PySem.W.Frag} {H H' : Hp} {a : Addr} {xs : List V} (s : TupLe H H') (h : SqT K H a xs) : SqT K H' a xs := by
  rcases h with h | h
  · exact .inl (s _ _ h)
  · exact .inr h
theorem Same.sqt {K : PySem.W.Frag} {H H' : Hp} {a : Addr} {xs : List V} (s : Same H H') (h : SqT K H a xs) : SqT K H' a xs := (TupLe.of s).sqt h

/-! ### texts -/
/-- a text by its codes -/
def tx (r : List Nat) : Str := ⟨r.toArray⟩
abbrev tv (r : List Nat) : V := .str (tx r)
theorem tx_len (r : List Nat) : (tx r).length = r.length := by show r.toArray.size = _; simp
theorem tx_cps (r : List Nat) : (tx r).cps.toList = r := by show r.toArray.toList = r; simp
theorem tx_inj {a b : List Nat} (h : tx a = tx b) : a = b := by
  have := congrArg (fun z : Str => z.cps.toList) h
  simpa only [tx_cps] using this
theorem tx_eq (a b : List Nat) : decide (tx a = tx b) = decide (a = b) := by
  by_cases h : a = b
  · subst h; simp
  · rw [decide_eq_false h, decide_eq_false (fun z => h (tx_inj z))]
theorem str_tx (z : Str) : ∃ r, z = tx r := ⟨z.cps.toList, by cases z; simp [tx]⟩
theorem revS_tx (r : List Nat) : revS (tx r) = tx r.reverse := by unfold revS; rw [tx_cps]; rfl
theorem tx_app (a b : List Nat) : tx a ++ tx b = tx (a ++ b) := by
  show (⟨a.toArray ++ b.toArray⟩ : Str) = ⟨(a ++ b).toArray⟩
  simp
/-! ### cells -/
def CellV (K : PySem.W.Frag) (H : Hp) (v : V) (c : Cel) : Prop := ∃ t, v = .ref t ∧ SqT K H t [.int c.1, .int c.2]
abbrev Cells (K : PySem.W.Frag) (H : Hp) (xs : List V) (cs : List Cel) : Prop := Paired (CellV K H) xs cs
theorem CellV.le {K : PySem.W.Frag} {H H' : Hp} {v : V} {c : Cel} (h : CellV K H v c) (s : TupLe H H') : CellV K H' v c := by
  obtain ⟨t, e, q⟩ := h
  exact ⟨t, e, s.sqt q⟩
theorem Cells.le {K : PySem.W.Frag} {H H' : Hp} {xs : List V} {cs : List Cel} (h : Cells K H xs cs) (s : TupLe H H') : Cells K H' xs cs := Paired.mapP h fun _ _ q => q.le s
theorem Paired.get {α β : Type} {F : α → β → Prop} : ∀ {l₁ : List α} {l₂ : List β} {i : Nat} {a : α}, Paired F l₁ l₂ → l₁[i]? = some a → ∃ b, l₂[i]? = some b ∧ F a b
  | _, _, _, _, .nil, e => by simp at e
  | _, _, 0, _, .cons r _, e => by simp at e; subst e; exact ⟨_, rfl, r⟩
  | _, _, i + 1, a, .cons _ t, e => by
    obtain ⟨u, h1, h2⟩ := Paired.get (i := i) (a := a) t (by simpa using e)
    exact ⟨u, by simpa using h1, h2⟩
theorem Paired.get' {α β : Type} {F : α → β → Prop} : ∀ {l₁ : List α} {l₂ : List β} {i : Nat} {b : β}, Paired F l₁ l₂ → l₂[i]? = some b → ∃ a, l₁[i]? = some a ∧ F a b
  | _, _, _, _, .nil, e => by simp at e
  | _, _, 0, _, .cons r _, e => by simp at e; subst e; exact ⟨_, rfl, r⟩
  | _, _, i + 1, b, .cons _ t, e => by
    obtain ⟨u, h1, h2⟩ := Paired.get' (i := i) (b := b) t (by simpa using e)
    exact ⟨u, by simpa using h1, h2⟩
theorem Paired.app {α β : Type} {F : α → β → Prop} : ∀ {a b : List α} {c d : List β}, Paired F a c → Paired F b d → Paired F (a ++ b) (c ++ d)
  | _, _, _, _, .nil, h => h
  | _, _, _, _, .cons r t, h => .cons r (Paired.app t h)
theorem Paired.mapR {α β γ : Type} {F : α → β → Prop} {G : α → γ → Prop} (f : β → γ) : ∀ {a : List α} {b : List β}, Paired F a b → (∀ x y, F x y → G x (f y)) → Paired G a (b.map f)
  | _, _, .nil, _ => .nil
  | _, _, .cons r t, h => .cons (h _ _ r) (Paired.mapR f t h)
theorem Paired.eqs {α β : Type} {f : β → α} : ∀ {a : List α} {b : List β}, Paired (fun x y => x = f y) a b → a = b.map f
  | _, _, .nil => rfl
  | _, _, .cons r t => by rw [List.map_cons, r, Paired.eqs t]
theorem Paired.drop {α β : Type} {F : α → β → Prop} : ∀ {a : List α} {b : List β} (n : Nat), Paired F a b → Paired F (a.drop n) (b.drop n)
  | _, _, 0, h => h
  | _, _, _ + 1, .nil => .nil
  | _, _, n + 1, .cons _ t => Paired.drop n t
theorem Paired.take {α β : Type} {F : α → β → Prop} : ∀ {a : List α} {b : List β} (n : Nat), Paired F a b → Paired F (a.take n) (b.take n)
  | _, _, 0, _ => .nil
  | _, _, _ + 1, .nil => .nil
  | _, _, n + 1, .cons r t => .cons r (Paired.take n t)
theorem Paired.rev {α β : Type} {F : α → β → Prop} : ∀ {a : List α} {b : List β}, Paired F a b → Paired F a.reverse b.reverse
  | _, _, .nil => .nil
  | _, _, .cons r t => by rw [List.reverse_cons, List.reverse_cons]; exact Paired.snoc (Paired.rev t) r
/-! ### data -/
def cellD (c : Cel) : PyData := .tuple [.int c.1, .int c.2]
def cellsD (cs : List Cel) : PyData := .list (cs.map cellD)
def snakesD (ss : List (List Cel)) : PyData := .list (ss.map cellsD)
def textD (r : List Nat) : PyData := .str (tx r)
def textsD (F : List (List Nat)) : PyData := .list (F.map textD)
section
variable {K : PySem.W.Frag} {H H' : Hp}
theorem CellV.dp {v : V} {c : Cel} (h : CellV K H v c) : Dp K H v (cellD c) := by
  obtain ⟨t, rfl, q⟩ := h
  exact .tup q (.cons (.int _) (.cons (.int _) .nil))
theorem Cells.dp {xs : List V} {cs : List Cel} (h : Cells K H xs cs) : DpAll K H xs (cs.map cellD) := by
  induction h with
  | nil => exact .nil
  | cons r _ ih => exact .cons r.dp ih
theorem cells_dp {a : Addr} {xs : List V} {cs : List Cel} (hs : SqL K H a xs) (h : Cells K H xs cs) : Dp K H (.ref a) (cellsD cs) := .lst hs h.dp
theorem texts_all (F : List (List Nat)) : DpAll K H (F.map tv) (F.map textD) := by
  induction F with
  | nil => exact .nil
  | cons r _ ih => exact .cons (.str _) ih
theorem texts_dp {a : Addr} {F : List (List Nat)} (hs : SqL K H a (F.map tv)) : Dp K H (.ref a) (textsD F) := .lst hs (texts_all F)
mutual
theorem Dp.same (s : Same H H') : ∀ (d : PyData) (v : V), Dp K H v d → Dp K H' v d
  | .none, _, h => by cases h; exact .non
  | .bool b, _, h => by cases h; exact .bl b
  | .int i, _, h => by cases h; exact .int i
  | .str x, _, h => by cases h; exact .str x
  | .list ds, _, h => by
    cases h with
    | lst q r => exact .lst (s.seq q) (DpAll.same s ds _ r)
  | .tuple ds, _, h => by
    cases h with
    | tup q r => exact .tup (Same.sqt s q) (DpAll.same s ds _ r)
  | .dict _, _, h => nomatch h
theorem DpAll.same (s : Same H H') : ∀ (ds : List PyData) (vs : List V), DpAll K H vs ds → DpAll K H' vs ds
  | [], _, h => by cases h; exact .nil
  | d :: ds, _, h => by
    cases h with
    | cons a b => exact .cons (Dp.same s d _ a) (DpAll.same s ds _ b)
end
end

/-! ### equality of data -/
theorem eqv_cell (a b : Cel) : PyData.eqv (cellD a) (cellD b) = decide (a = b) := by
  obtain ⟨a1, a2⟩ := a
  obtain ⟨b1, b2⟩ := b
  have e : PyData.eqv (cellD (a1, a2)) (cellD (b1, b2)) = ((a1 == b1) && ((a2 == b2) && true)) := by simp only [cellD, PyData.eqv, PyData.eqvAll]
  rw [e, Bool.and_true]
  by_cases h1 : a1 = b1
  · by_cases h2 : a2 = b2
    · subst h1 h2; simp
    · rw [decide_eq_false (fun z => h2 (congrArg Prod.snd z)), beq_eq_false_iff_ne.mpr h2, Bool.and_false]
  · rw [decide_eq_false (fun z => h1 (congrArg Prod.fst z)), beq_eq_false_iff_ne.mpr h1, Bool.false_and]
theorem eqv_text (a b : List Nat) : PyData.eqv (textD a) (textD b) = decide (a = b) := by
  have e : PyData.eqv (textD a) (textD b) = (tx a == tx b) := by simp only [textD, PyData.eqv]
  rw [e, ← tx_eq]
  by_cases h : tx a = tx b
  · rw [h]; simp
  · rw [decide_eq_false h, beq_eq_false_iff_ne.mpr h]
theorem eqv_maps {α : Type} [DecidableEq α] {f : α → PyData} (hf : ∀ a b, PyData.eqv (f a) (f b) = decide (a = b)) : ∀ xs ys : List α, PyData.eqvAll (xs.map f) (ys.map f) = decide (xs = ys)
  | [], [] => by simp only [List.map_nil, PyData.eqvAll]; rfl
  | [], y :: ys => by simp only [List.map_nil, List.map_cons, PyData.eqvAll]; rfl
  | x :: xs, [] => by simp only [List.map_nil, List.map_cons, PyData.eqvAll]; rfl
  | x :: xs, y :: ys => by
    simp only [List.map_cons, PyData.eqvAll]
    rw [hf, eqv_maps hf xs ys]
    by_cases h1 : x = y
    · by_cases h2 : xs = ys
      · subst h1 h2; simp
      · rw [decide_eq_false h2, decide_eq_false (fun z => h2 (List.cons.inj z).2), Bool.and_false]
    · rw [decide_eq_false h1, decide_eq_false (fun z => h1 (List.cons.inj z).1), Bool.false_and]
theorem eqv_lists {α : Type} [DecidableEq α] {f : α → PyData} (hf : ∀ a b, PyData.eqv (f a) (f b) = decide (a = b)) (xs ys : List α) : PyData.eqv (.list (xs.map f)) (.list (ys.map f)) = decide (xs = ys) := by
  simp only [PyData.eqv]
  exact eqv_maps hf xs ys
theorem eqv_cells (a b : List Cel) : PyData.eqv (cellsD a) (cellsD b) = decide (a = b) := eqv_lists eqv_cell a b
theorem eqv_snakes (a b : List (List Cel)) : PyData.eqv (snakesD a) (snakesD b) = decide (a = b) := eqv_lists eqv_cells a b
theorem eqv_texts (a b : List (List Nat)) : PyData.eqv (textsD a) (textsD b) = decide (a = b) := eqv_lists eqv_text a b
/-! ### shapes -/
def Shp (n : Nat) (d : PyData) : Prop := d.canLay0 = true ∧ d.depth ≤ n
theorem Shp.ok {n : Nat} {d : PyData} (h : Shp n d) (hn : n ≤ 64 := by decide) : SeqAt.shaped d = true := by
  unfold SeqAt.shaped
  rw [h.1, decide_eq_true (Nat.le_trans h.2 hn)]; rfl
theorem shp_all {n : Nat} : ∀ ds : List PyData, (∀ d ∈ ds, Shp n d) → PyData.canLayAll0 ds = true ∧ PyData.depthAll ds ≤ n
  | [], _ => by simp [PyData.canLayAll0, PyData.depthAll]
  | d :: ds, h => by
    obtain ⟨h1, h2⟩ := shp_all ds fun e he => h e (List.mem_cons_of_mem _ he)
    obtain ⟨h3, h4⟩ := h d List.mem_cons_self
    simp only [PyData.canLayAll0, PyData.depthAll]
    exact ⟨by rw [h3, h1]; rfl, by omega⟩
theorem shp_list {n : Nat} {ds : List PyData} (h : ∀ d ∈ ds, Shp n d) : Shp (n + 1) (.list ds) := by
  obtain ⟨h1, h2⟩ := shp_all ds h
  exact ⟨by simp only [PyData.canLay0]; exact h1, by simp only [PyData.depth]; omega⟩
theorem shp_map {α : Type} {n : Nat} {f : α → PyData} (h : ∀ a, Shp n (f a)) (xs : List α) : Shp (n + 1) (.list (xs.map f)) :=
  shp_list fun d hd => by obtain ⟨a, _, rfl⟩ := List.mem_map.mp hd; exact h a
theorem shp_cell (c : Cel) : Shp 1 (cellD c) := ⟨by simp [cellD, PyData.canLay0, PyData.canLayAll0], by simp [cellD, PyData.depth, PyData.depthAll]⟩
/-- codes that a text may have -/
def Cod (r : List Nat) : Prop := ∀ c ∈ r, c < 0x110000
theorem shp_text {r : List Nat} (h : Cod r) : Shp 1 (textD r) := by
  refine ⟨?_, by simp [textD, PyData.depth]⟩
  simp only [textD, PyData.canLay0]
  unfold PyData.strOk
  rw [Array.all_eq_true']
  intro c hc
  have hc' : c ∈ r := by simpa [tx] using hc
  exact decide_eq_true (h c hc')
theorem shp_cells (cs : List Cel) : Shp 2 (cellsD cs) := shp_map shp_cell cs
theorem shp_texts {F : List (List Nat)} (h : ∀ r ∈ F, Cod r) : Shp 2 (textsD F) := shp_list fun d hd => by
  obtain ⟨r, hr, rfl⟩ := List.mem_map.mp hd
  exact shp_text (h r hr)
theorem letter_cod {r : List Nat} (h : ∀ c ∈ r, letter c) : Cod r := fun c hc => by
  have := h c hc
  unfold letter at this
  omega
theorem shp_field {F : List (List Nat)} {h w : Nat} (o : FieldOk F h w) : Shp 2 (textsD F) := shp_texts fun r hr => letter_cod (o.let_ r hr)
theorem shp_snakes (ss : List (List Cel)) : Shp 3 (snakesD ss) := shp_map shp_cells ss
/-! ### what is shown of few cells of small numbers -/
theorem textFrom_le : ∀ (ts : List Str) (k : Nat) (acc : Str) (m : Nat), (∀ t ∈ ts, t.length ≤ m) → (textFrom k acc ts).length ≤ acc.length + ts.length * (m + 2)
  | [], k, acc, m, _ => by show acc.length ≤ _; simp
  | t :: r, k, acc, m, h => by
    have ih := textFrom_le r (k + 1) (acc ++ (if k > 0 then ", " else "" : String) ++ t) m fun u hu => h u (List.mem_cons_of_mem _ hu)
    have ht := h t List.mem_cons_self
    show (textFrom (k + 1) _ r).length ≤ _
    have e : (acc ++ (if k > 0 then ", " else "" : String) ++ t).length ≤ acc.length + 2 + t.length := by
      rw [strLen_append, strLen_append]
      have : ((if k > 0 then ", " else "" : String) : Str).length ≤ 2 := by split <;> decide +kernel
      omega
    rw [List.length_cons, Nat.succ_mul]
    omega
theorem listText_le {ts : List Str} {m : Nat} (h : ∀ t ∈ ts, t.length ≤ m) : (listText ts).length ≤ 2 + ts.length * (m + 2) := by
  unfold listText
  rw [strLen_append]
  have h1 := textFrom_le ts 0 "[" m h
  have e1 : (("[" : String) : Str).length = 1 := by decide +kernel
  have e2 : (("]" : String) : Str).length = 1 := by decide +kernel
  omega
theorem shownAll_map : ∀ ds : List PyData, PyData.shownAll ds = ds.map PyData.shown
  | [] => by simp only [PyData.shownAll, List.map_nil]
  | d :: ds => by simp only [PyData.shownAll, List.map_cons, shownAll_map ds]
/-- a datum that str may show: few signs -/
def Shw (m : Nat) (d : PyData) : Prop := d.showable = true ∧ d.hasDict = false ∧ d.shown.length ≤ m
theorem shw_all : ∀ ds : List PyData, (∀ d ∈ ds, d.showable = true ∧ d.hasDict = false) → PyData.showableAll ds = true ∧ PyData.hasDictAll ds = false
  | [], _ => by simp only [PyData.showableAll, PyData.hasDictAll, and_self]
  | d :: ds, h => by
    obtain ⟨h1, h2⟩ := shw_all ds fun e he => h e (List.mem_cons_of_mem _ he)
    obtain ⟨h3, h4⟩ := h d List.mem_cons_self
    simp only [PyData.showableAll, PyData.hasDictAll]
    rw [h1, h2, h3, h4]
    exact ⟨rfl, rfl⟩
theorem shw_list {m n : Nat} {ds : List PyData} (h : ∀ d ∈ ds, Shw m d) (hn : ds.length ≤ n) : Shw (2 + n * (m + 2)) (.list ds) := by
  obtain ⟨h1, h2⟩ := shw_all ds fun d hd => ⟨(h d hd).1, (h d hd).2.1⟩
  refine ⟨by simp only [PyData.showable]; exact h1, by simp only [PyData.hasDict]; exact h2, ?_⟩
  simp only [PyData.shown]
  rw [shownAll_map]
  refine Nat.le_trans (listText_le (m := m) fun t ht => ?_) ?_
  · obtain ⟨d, hd, rfl⟩ := List.mem_map.mp ht
    exact (h d hd).2.2
  · rw [List.length_map]
    exact Nat.add_le_add_left (Nat.mul_le_mul_right _ hn) _
def celChk (r p : Nat) : Bool := (cellD ((r : Int), (p : Int))).showable && decide ((cellD ((r : Int), (p : Int))).shown.length ≤ 6)
set_option maxRecDepth 100000 in
theorem celChk_all : ((List.range 10).all fun r => (List.range 10).all fun p => celChk r p) = true := by decide +kernel
theorem shw_cell {c : Cel} (h1 : 0 ≤ c.1 ∧ c.1 < 10) (h2 : 0 ≤ c.2 ∧ c.2 < 10) : Shw 6 (cellD c) := by
  have k := celChk_all
  rw [List.all_eq_true] at k
  have k1 := k c.1.toNat (List.mem_range.mpr (by omega))
  rw [List.all_eq_true] at k1
  have k2 := k1 c.2.toNat (List.mem_range.mpr (by omega))
  have e : (((c.1.toNat : Int), (c.2.toNat : Int)) : Cel) = c := by
    apply Prod.ext
    · show ((c.1.toNat : Int)) = c.1; omega
    · show ((c.2.toNat : Int)) = c.2; omega
  unfold celChk at k2
  rw [e, Bool.and_eq_true] at k2
  exact ⟨k2.1, by simp only [cellD, PyData.hasDict, PyData.hasDictAll]; rfl, of_decide_eq_true k2.2⟩
theorem shw_cells {cs : List Cel} (h : ∀ c ∈ cs, (0 ≤ c.1 ∧ c.1 < 10) ∧ (0 ≤ c.2 ∧ c.2 < 10)) (hn : cs.length ≤ 100) : Shw (2 + 100 * (6 + 2)) (cellsD cs) :=
  shw_list (fun d hd => by
    obtain ⟨c, hc, rfl⟩ := List.mem_map.mp hd
    exact shw_cell (h c hc).1 (h c hc).2) (by rw [List.length_map]; exact hn)
/-- what call_strD asks -/
theorem str_asks {d : PyData} {m n : Nat} (hw : Shw m d) (hs : Shp n d) (hm : m ≤ sizeLine := by first | decide | (rw [sizeLine_eq]; decide)) (hn : n ≤ 64 := by decide) : d.showable = true ∧ d.hasDict = false ∧ d.depth ≤ 64 ∧ d.shown.length ≤ sizeLine :=
  ⟨hw.1, hw.2.1, Nat.le_trans hs.2 hn, Nat.le_trans hw.2.2 hm⟩
/-! ### a comprehension by one lemma -/
section
variable {J : It} {n : Nat} {G : Hp → Prop} {Y : Nat → Hp → V → Hp → Prop}
theorem lc_gen (w : Walk J n G Y) {g : TG} {tt : TT} {te : TE} {vs : List Nat} {σ : L2.St} {H1 : Hp} {Q : Addr → Hp → Prop} (hn : n ≤ sizeLine) (keep : Nat → Bool)
    (R : Addr → Nat → V → Hp → Prop) (hR : ∀ D i v H H' ys, H1 D = none → H D = some (.lst ys) → Kb D H H' → R D i v H → R D i v H')
    (hG : ∀ H, Same H1 H → G H)
    (he : ∀ D i x H H' (Qe : VK) (Qn : Hp → Prop), H1 D = none → i < n → Same H1 H → (∃ ys, H D = some (.lst ys)) → Y i H x H' →
      (∀ y H4, keep i = true → Same H H4 → R D i y H4 → Qe y H4) → (∀ H3, keep i = false → Same H H3 → Qn H3) →
      g x (wipe σ vs) H' fun σ2 H2 => wipe σ2 vs = wipe σ vs ∧ tt σ2 H2 fun b H3 => if b = true then te σ2 H3 Qe else Qn H3)
    (hd : ∀ D ys H, H1 D = none → Same H1 H → H D = some (.lst ys) → Paired (fun v i => R D i v H) ys ((List.range n).filter keep) → Q D H) :
    ∀ D, H1 D = none → ∃ W : Nat → Nat → Hp → Prop, (∃ m, W 0 m (upd H1 D (.lst []))) ∧ ∀ i m H, W i m H →
      (J.stop i H ∧ Q D H) ∨ (J.go i H ∧ ∃ Nx : Hp → Prop, (∀ H', Nx H' → ∃ m', m' < m ∧ W (i + 1) m' H') ∧ ∀ x H', J.yld i H x H' → g x (wipe σ vs) H' fun σ2 H2 => wipe σ2 vs = wipe σ vs ∧ tt σ2 H2 fun b H3 =>
        if b = true then te σ2 H3 fun y H4 => ∃ acc, H4 D = some (.lst acc) ∧ acc.length < sizeLine ∧ Nx (upd H4 D (.lst (acc ++ [y]))) else Nx H3) := by
  intro D nD
  refine lc_it w (fun i H => Same H1 H ∧ ∃ ys, H D = some (.lst ys) ∧ Paired (fun v i => R D i v H) ys ((List.range i).filter keep)) ⟨same_new nD, [], upd_same, .nil⟩ (fun i H _ p => hG H p.1) (fun i x H H' hi p y => ?_) fun H p => ?_
  · obtain ⟨sm, ys, hD, hp⟩ := p
    refine he D i x H H' _ _ nD hi sm ⟨ys, hD⟩ y (fun z H4 hk s4 r4 => ?_) fun H3 hk s3 => ?_
    · have hD4 : H4 D = some (.lst ys) := s4 _ _ hD
      refine ⟨ys, hD4, ?_, same_upd (sm.trans s4) nD, ys ++ [z], upd_same, ?_⟩
      · have e1 := hp.length
        have e2 := List.length_filter_le keep (List.range i)
        rw [List.length_range] at e2
        omega
      · rw [List.range_succ, List.filter_append, List.filter_cons, hk, if_pos rfl, List.filter_nil]
        refine Paired.snoc (Paired.mapP hp fun v j q => ?_) ?_
        · exact hR D j v H _ ys nD hD (Kb.upd (Kb.of s4)) q
        · exact hR D i z H4 _ ys nD hD4 (Kb.upd (Kb.of (Same.refl _))) r4
    · refine ⟨sm.trans s3, ys, s3 _ _ hD, ?_⟩
      rw [List.range_succ, List.filter_append, List.filter_cons, hk, if_neg Bool.false_ne_true, List.filter_nil, List.append_nil]
      exact Paired.mapP hp fun v j q => hR D j v H _ ys nD hD (Kb.of s3) q
  · obtain ⟨sm, ys, hD, hp⟩ := p
    exact hd D ys H nD sm hD hp
/-- no test, the values told by the turn -/
theorem lc_val (w : Walk J n G Y) {g : TG} {te : TE} {vs : List Nat} {σ : L2.St} {H1 : Hp} {Q : Addr → Hp → Prop} (hn : n ≤ sizeLine) (f : Nat → V)
    (hG : ∀ H, Same H1 H → G H)
    (he : ∀ D i x H H' (Qe : VK), H1 D = none → i < n → Same H1 H → (∃ ys, H D = some (.lst ys)) → Y i H x H' → (∀ H4, Same H H4 → Qe (f i) H4) →
      g x (wipe σ vs) H' fun σ2 H2 => wipe σ2 vs = wipe σ vs ∧ te σ2 H2 Qe)
    (hd : ∀ D H, H1 D = none → Same H1 H → H D = some (.lst ((List.range n).map f)) → Q D H) :
    ∀ D, H1 D = none → ∃ W : Nat → Nat → Hp → Prop, (∃ m, W 0 m (upd H1 D (.lst []))) ∧ ∀ i m H, W i m H →
      (J.stop i H ∧ Q D H) ∨ (J.go i H ∧ ∃ Nx : Hp → Prop, (∀ H', Nx H' → ∃ m', m' < m ∧ W (i + 1) m' H') ∧ ∀ x H', J.yld i H x H' → g x (wipe σ vs) H' fun σ2 H2 => wipe σ2 vs = wipe σ vs ∧ tYes σ2 H2 fun b H3 =>
        if b = true then te σ2 H3 fun y H4 => ∃ acc, H4 D = some (.lst acc) ∧ acc.length < sizeLine ∧ Nx (upd H4 D (.lst (acc ++ [y]))) else Nx H3) := by
  refine lc_gen w hn (fun _ => true) (fun _ i v _ => v = f i) (fun _ _ _ _ _ _ _ _ _ q => q) hG (fun D i x H H' Qe Qn nD hi sm hy y qe _ => ?_) fun D ys H nD sm hD hp => ?_
  · exact he D i x H H' _ nD hi sm hy y fun H4 s4 => qe _ H4 rfl s4 rfl
  · rw [Paired.eqs hp, List.filter_eq_self.mpr (fun _ _ => rfl)] at hD
    exact hd D H nD sm hD
/-- cells, with a test -/
theorem lc_cel {K : PySem.W.Frag} (w : Walk J n G Y) {g : TG} {tt : TT} {te : TE} {vs : List Nat} {σ : L2.St} {H1 : Hp} {Q : Addr → Hp → Prop} (hn : n ≤ sizeLine) (keep : Nat → Bool) (c : Nat → Cel)
    (hG : ∀ H, Same H1 H → G H)
    (he : ∀ D i x H H' (Qe : VK) (Qn : Hp → Prop), H1 D = none → i < n → Same H1 H → (∃ ys, H D = some (.lst ys)) → Y i H x H' →
      (∀ y H4, keep i = true → Same H H4 → CellV K H4 y (c i) → Qe y H4) → (∀ H3, keep i = false → Same H H3 → Qn H3) →
      g x (wipe σ vs) H' fun σ2 H2 => wipe σ2 vs = wipe σ vs ∧ tt σ2 H2 fun b H3 => if b = true then te σ2 H3 Qe else Qn H3)
    (hd : ∀ D ys H, H1 D = none → Same H1 H → H D = some (.lst ys) → Cells K H ys (((List.range n).filter keep).map c) → Q D H) :
    ∀ D, H1 D = none → ∃ W : Nat → Nat → Hp → Prop, (∃ m, W 0 m (upd H1 D (.lst []))) ∧ ∀ i m H, W i m H →
      (J.stop i H ∧ Q D H) ∨ (J.go i H ∧ ∃ Nx : Hp → Prop, (∀ H', Nx H' → ∃ m', m' < m ∧ W (i + 1) m' H') ∧ ∀ x H', J.yld i H x H' → g x (wipe σ vs) H' fun σ2 H2 => wipe σ2 vs = wipe σ vs ∧ tt σ2 H2 fun b H3 =>
        if b = true then te σ2 H3 fun y H4 => ∃ acc, H4 D = some (.lst acc) ∧ acc.length < sizeLine ∧ Nx (upd H4 D (.lst (acc ++ [y]))) else Nx H3) :=
  lc_gen w hn keep (fun _ i v H => CellV K H v (c i)) (fun D i v H H' ys _ hD k q => q.le (TupLe.kb hD k)) hG he fun D ys H nD sm hD hp => hd D ys H nD sm hD (Paired.mapR c hp fun _ _ q => q)
end
end Sk
/-! What the defs of fields.py promise. -/
namespace Sk
open PySem PySem.Spec PyProof.Rows L2 Sn
section
variable {X : Cx}
theorem pglobI {x : Str} {i : Int} {pos : Pos} (hg : Gl X x) (h : ∃ t, X.mg x = some (.int i t)) (hd : (x == ("__debug__" : Str)) = false := by decide) : PE X (.Name x pos) (tC (.int i)) := by
  obtain ⟨t, h⟩ := h
  exact pe_glob hg h ⟨t, rfl⟩ hd
theorem pglobS {x z : Str} {pos : Pos} (hg : Gl X x) (h : ∃ t, X.mg x = some (.str z t)) (hd : (x == ("__debug__" : Str)) = false := by decide) : PE X (.Name x pos) (tC (.str z)) := by
  obtain ⟨t, h⟩ := h
  exact pe_glob hg h ⟨t, rfl⟩ hd
end
def lettersS : Str := "abcdefghijklmnopqrstuvwxyz"
theorem mem_letters (c : Nat) : decide (c ∈ lettersS.cps.toList) = decide (97 ≤ c ∧ c ≤ 122) := by
  have e : lettersS.cps.toList = (List.range 26).map (· + 97) := by decide +kernel
  rw [e]
  congr 1
  apply propext
  rw [List.mem_map]
  constructor
  · rintro ⟨i, hi, rfl⟩
    have := List.mem_range.mp hi
    omega
  · rintro ⟨h1, h2⟩
    exact ⟨c - 97, List.mem_range.mpr (by omega), by omega⟩
def letB (c : Nat) : Bool := decide (97 ≤ c ∧ c ≤ 122)
def isTextB (r : List Nat) (n : Int) : Bool := decide (1 ≤ (r.length : Int)) && (decide ((r.length : Int) ≤ n) && r.all letB)
theorem letB_letter {c : Nat} : letB c = true ↔ letter c := by unfold letB letter; exact decide_eq_true_iff
theorem range_map_get {α β : Type} (f : α → β) (l : List α) (g : Nat → β) (h : ∀ i x, l[i]? = some x → g i = f x) : (List.range l.length).map g = l.map f := by
  apply List.ext_getElem
  · simp
  · intro i h1 h2
    have hi : i < l.length := by simpa using h1
    simp only [List.getElem_map, List.getElem_range]
    exact h i _ (List.getElem?_eq_getElem hi)
/-! promises -/
abbrev tyInt : Value := .type "int"
abbrev tyBool : Value := .type "bool"
def spIsWhole (K : PySem.W.Frag) : Sp := fun vs H Q _ => ∃ (x : V) (t : Value) (b c : Bool), vs = [x] ∧ TyX K H x t ∧ PySem.W.kitOne K t tyInt = some b ∧ PySem.W.kitOne K t tyBool = some c ∧ Q (.bl (b && !c)) H
theorem isWhole_int {K : PySem.W.Frag} {H : Hp} {Q : VK} {E : XK} (i : Int) (q : Q (.bl true) H) : spIsWhole K [.int i] H Q E :=
  ⟨.int i, .type "int", true, false, rfl, .base (.int i), kit_ty (by decide +kernel), kit_ty (by decide +kernel), q⟩
def spIsText (K : PySem.W.Frag) : Sp := fun vs H Q _ =>
  (∃ (r : List Nat) (n : Int), vs = [tv r, .int n] ∧ r.length ≤ sizeLine ∧ ∀ H', Same H H' → Q (.bl (isTextB r n)) H') ∨
  ∃ (x : V) (t : Value) (n : Int), vs = [x, .int n] ∧ TyX K H x t ∧ PySem.W.kitOne K t (.type "str") = some false ∧ Q (.bl false) H
/-- a valid field stands at a -/
def FieldAt (K : PySem.W.Frag) (H : Hp) (a : Addr) (F : List (List Nat)) (h w : Nat) : Prop := SqL K H a (F.map tv) ∧ FieldOk F h w
theorem FieldAt.same {K : PySem.W.Frag} {H H' : Hp} {a : Addr} {F : List (List Nat)} {h w : Nat} (o : FieldAt K H a F h w) (s : Same H H') : FieldAt K H' a F h w := ⟨s.seq o.1, o.2⟩
theorem FieldAt.row {K : PySem.W.Frag} {H : Hp} {a : Addr} {F : List (List Nat)} {h w : Nat} (o : FieldAt K H a F h w) {i : Nat} (hi : i < h) : (F.map tv)[i]? = some (tv (F.getD i [])) ∧ (F.getD i []).length = w := by
  have hl : i < F.length := by rw [o.2.high]; exact hi
  refine ⟨?_, row_len o.2 hi⟩
  rw [List.getElem?_map, List.getElem?_eq_getElem hl]
  rw [getD_of (List.getElem?_eq_getElem hl)]
  rfl
def spCheckField (K : PySem.W.Frag) : Sp := fun vs H Q _ => ∃ a F h w, vs = [.ref a] ∧ FieldAt K H a F h w ∧ ∀ H', Same H H' → Q .non H'
def inB (h w : Nat) (c : Cel) : Bool := (decide (0 ≤ c.1) && decide (c.1 < (h : Int))) && (decide (0 ≤ c.2) && decide (c.2 < (w : Int)))
theorem inB_mem {h w : Nat} {c : Cel} : inB h w c = true ↔ c ∈ cellsL h w := by
  unfold inB
  rw [mem_cellsL]
  simp only [Bool.and_eq_true, decide_eq_true_eq]
def spIsCell (K : PySem.W.Frag) : Sp := fun vs H Q _ => ∃ a F h w v c, vs = [.ref a, v] ∧ FieldAt K H a F h w ∧ CellV K H v c ∧ ∀ H', Same H H' → Q (.bl (inB h w c)) H'
def spNear (K : PySem.W.Frag) : Sp := fun vs H Q _ => ∃ a F h w v c, vs = [.ref a, v] ∧ FieldAt K H a F h w ∧ CellV K H v c ∧ c ∈ cellsL h w ∧
  ∀ H' p ys, Same H H' → H p = none → H' p = some (.lst ys) → Cells K H' ys (nearL h w c) → Q (.ref p) H'
def spTurned (K : PySem.W.Frag) : Sp := fun vs H Q _ => ∃ a F h w, vs = [.ref a] ∧ FieldAt K H a F h w ∧ ∀ H' p, Same H H' → H p = none → H' p = some (.lst ((turnedL F w).map tv)) → Q (.ref p) H'
def spMirrored (K : PySem.W.Frag) : Sp := fun vs H Q _ => ∃ a F h w, vs = [.ref a] ∧ FieldAt K H a F h w ∧ ∀ H' p, Same H H' → H p = none → H' p = some (.lst ((mirroredL F).map tv)) → Q (.ref p) H'
theorem small_line {n : Nat} (h : n ≤ 1000000) : n ≤ sizeLine := Nat.le_trans h (by rw [sizeLine_eq]; decide)
theorem atN_of {xs : List Nat} {z : Int} {j : Nat} {v : Nat} (e : z = (j : Int)) (h : xs[j]? = some v) : atI xs z = some v := by
  rw [e]; exact atI_nat h
theorem sum_ones : ∀ r : List Nat, (r.map ((fun z : Str => z.length) ∘ fun c => (⟨#[c]⟩ : Str))).sum = r.length
  | [] => rfl
  | c :: r => by rw [List.map_cons, List.sum_cons, sum_ones r, List.length_cons]; show 1 + r.length = _; omega
theorem join_signs (r : List Nat) : Txt.join (tx []) (r.map fun c => (⟨#[c]⟩ : Str)) = tx r := by
  unfold Txt.join
  rw [StrLaws.glued_eq_join]
  induction r with
  | nil => rfl
  | cons c r ih =>
    cases r with
    | nil => rfl
    | cons d r =>
      show (tx [c]) ++ (tx []) ++ Str.join (tx []) (((d :: r).map fun c => (⟨#[c]⟩ : Str))) = _
      rw [ih, tx_app, tx_app]
      rfl
end Sk
/-! What the laws' own helpers promise: some number below the limit, some field. -/
namespace Sk
open PySem PySem.Spec PyProof.Rows L2 Sn
/-- the script's numbers have at most n bits -/
def Bits (n : Nat) (ns : List Int) : Prop := ∀ z ∈ ns, z.natAbs < 2 ^ n
theorem bits_of {ns : List Int} {n : Nat} (h : ∀ z ∈ ns, Builtin.Int.intBits z ≤ n) : Bits n ns := fun z hz => by
  have h1 := h z hz
  unfold Builtin.Int.intBits at h1
  by_cases h0 : z = 0
  · subst h0; exact Nat.two_pow_pos n
  · rw [if_neg (by simpa using h0)] at h1
    have hp : z.natAbs ≠ 0 := by omega
    have : z.natAbs < 2 ^ (z.natAbs.log2 + 1) := Nat.lt_log2_self
    exact Nat.lt_of_lt_of_le this (Nat.pow_le_pow_right (by decide) h1)
theorem big_add {x y : Int} {n : Nat} (hx : x.natAbs < 2 ^ n) (hy : y.natAbs < 1000000) : (x + y).natAbs < 2 ^ (n + 21) := by
  have h1 : (2 : Nat) ^ n * 2 ^ 20 ≥ 2 ^ n := Nat.le_mul_of_pos_right _ (by decide)
  have h2 : (2 : Nat) ^ n * 2 ^ 20 ≥ 2 ^ 20 := Nat.le_mul_of_pos_left _ (Nat.two_pow_pos n)
  have h3 : (2 : Nat) ^ (n + 21) = 2 ^ n * 2 ^ 20 + 2 ^ n * 2 ^ 20 := by
    rw [Nat.pow_add, show (2 : Nat) ^ 21 = 2 ^ 20 + 2 ^ 20 by decide, Nat.mul_add]
  have h4 : (2 : Nat) ^ 20 = 1048576 := by decide
  have := Int.natAbs_add_le x y
  omega
theorem small_mul {i j : Int} (hi : i.natAbs < 2 ^ 30) (hj : j.natAbs < 2 ^ 30) : CMulX i j := mulx_ok hi hj (by decide)
theorem lt30 {i : Int} (h1 : -1000000 < i) (h2 : i < 1000000) : i.natAbs < 2 ^ 30 := by
  have : (2 : Nat) ^ 30 = 1073741824 := by decide
  omega
def primesL : List Int := [1000003, 1000033, 1000037, 1000039, 1000081, 1000099, 1000117, 1000121, 1000133, 1000151, 1000159, 1000171, 1000183, 1000187, 1000193, 1000199]
theorem primes_at {k : Int} (h : 0 ≤ k) : ∃ p : Int, atI (primesL.map V.int) (k % 16) = some (.int p) ∧ 0 < p := by
  have h1 : 0 ≤ k % 16 := Int.emod_nonneg _ (by decide)
  have h2 : k % 16 < 16 := Int.emod_lt_of_pos _ (by decide)
  have hj : (k % 16).toNat < 16 := by omega
  have all : (List.range 16).all (fun j => match primesL[j]? with | some p => decide (0 < p) | none => false) = true := by decide
  have q := List.all_eq_true.mp all _ (List.mem_range.mpr hj)
  cases e : primesL[(k % 16).toNat]? with
  | none => rw [e] at q; cases q
  | some p =>
    rw [e] at q
    exact ⟨p, at_of (j := (k % 16).toNat) (by omega) (by rw [List.getElem?_map, e]; rfl), of_decide_eq_true q⟩
def sevensL : List Int := [1, 7, 49, 343, 2401]
theorem sevens_at {k : Int} (h : 0 ≤ k) : ∃ p : Int, atI (sevensL.map V.int) (k % 5) = some (.int p) ∧ 0 < p ∧ p < 1073741824 := by
  have h1 : 0 ≤ k % 5 := Int.emod_nonneg _ (by decide)
  have h2 : k % 5 < 5 := Int.emod_lt_of_pos _ (by decide)
  have hj : (k % 5).toNat < 5 := by omega
  have all : (List.range 5).all (fun j => match sevensL[j]? with | some p => decide (0 < p ∧ p < 1073741824) | none => false) = true := by decide
  have q := List.all_eq_true.mp all _ (List.mem_range.mpr hj)
  cases e : sevensL[(k % 5).toNat]? with
  | none => rw [e] at q; cases q
  | some p =>
    rw [e] at q
    exact ⟨p, at_of (j := (k % 5).toNat) (by omega) (by rw [List.getElem?_map, e]; rfl), of_decide_eq_true q⟩
/-! promises -/
def spCellAt (K : PySem.W.Frag) : Sp := fun vs H Q _ => ∃ a ns k n, vs = [.ref a, .int k] ∧ SqL K H a (ns.map V.int) ∧ 0 ≤ k ∧ Bits n ns ∧ ∀ z : Int, z.natAbs < 2 ^ n → Q (.int z) H
def spDraw : Sp := fun vs H Q _ => ∃ (c k m : Int) (n : Nat), vs = [.int c, .int k, .int m] ∧ c.natAbs < 2 ^ n ∧ n ≤ 100000000 ∧ 0 ≤ k ∧ k < 1000 ∧ 0 < m ∧ ∀ z H', 0 ≤ z → z < m → Same H H' → Q (.int z) H'
def spNumber : Sp := fun vs H Q _ => ∃ (c k m : Int) (n : Nat), vs = [.int c, .int k, .int m] ∧ c.natAbs < 2 ^ n ∧ n ≤ 2000000 ∧ 0 ≤ k ∧ k < 1000 ∧ 0 < m ∧ ∀ z H', 0 ≤ z → z < m → Same H H' → Q (.int z) H'
def spField (K : PySem.W.Frag) : Sp := fun vs H Q _ => ∃ a ns k m n, vs = [.ref a, .int k, .int m] ∧ SqL K H a (ns.map V.int) ∧ Bits n ns ∧ n ≤ 1900000 ∧ 0 ≤ k ∧ k ≤ 100 ∧ 1 ≤ m ∧ m ≤ 5 ∧
  ∀ H' p F h w, Same H H' → H p = none → H' p = some (.lst (F.map tv)) → FieldOk F h w → (h : Int) ≤ m → (w : Int) ≤ m → Q (.ref p) H'
def spBeside (K : PySem.W.Frag) : Sp := fun vs H Q _ => ∃ u v a b, vs = [u, v] ∧ CellV K H u a ∧ CellV K H v b ∧ Q (.bl (beside a b)) H
def spCells (K : PySem.W.Frag) : Sp := fun vs H Q _ => ∃ a F h w, vs = [.ref a] ∧ FieldAt K H a F h w ∧ ∀ H' p ys, Same H H' → H p = none → H' p = some (.lst ys) → Cells K H' ys (cellsL h w) → Q (.ref p) H'
theorem range_map_rng (lo : Int) (n : Nat) {β : Type} (f : Int → β) : (List.range n).map (fun i : Nat => f (lo + (i : Int))) = (rng lo n).map f := by
  unfold rng; rw [List.map_map]; rfl
theorem cellsL_succ (h w : Nat) : cellsL (h + 1) w = cellsL h w ++ (rng 0 w).map fun p => ((h : Int), p) := by
  unfold cellsL
  rw [rng_succ, List.flatMap_append, List.flatMap_cons, List.flatMap_nil, List.append_nil, Int.zero_add]
theorem cellsL_len (h w : Nat) : (cellsL h w).length = h * w := by
  induction h with
  | zero => simp [cellsL, rng]
  | succ h ih => rw [cellsL_succ, List.length_append, ih, List.length_map, rng_length, Nat.succ_mul]
/-- four texts of letters -/
def lettL : List (List Nat) := ["ab".toList.map Char.toNat, "abc".toList.map Char.toNat, "aeinrst".toList.map Char.toNat, "abcdefghijklmnopqrstuvwxyz".toList.map Char.toNat]
theorem lett_at {z : Int} (h0 : 0 ≤ z) (h1 : z < 4) : ∃ r, atI (lettL.map tv) z = some (tv r) ∧ 1 ≤ r.length ∧ r.length ≤ 26 ∧ ∀ c ∈ r, letter c := by
  have hj : z.toNat < 4 := by omega
  have all : (List.range 4).all (fun j => match lettL[j]? with | some r => decide (1 ≤ r.length) && decide (r.length ≤ 26) && r.all letB | none => false) = true := by decide +kernel
  have q := List.all_eq_true.mp all _ (List.mem_range.mpr hj)
  cases e : lettL[z.toNat]? with
  | none => rw [e] at q; cases q
  | some r =>
    rw [e] at q
    simp only [Bool.and_eq_true, decide_eq_true_eq] at q
    exact ⟨r, at_of (j := z.toNat) (by omega) (by rw [List.getElem?_map, e]; rfl), q.1.1, q.1.2, fun c hc => letB_letter.mp (List.all_eq_true.mp q.2 c hc)⟩
end Sk
/-! Readings of written lists; the laws' outer loop. -/
namespace Sk
open PySem PySem.Spec PyProof.Rows L2 Sn
/-! ### written data -/
def tLit (K : PySem.W.Frag) (d : PyData) : TE := fun _ H Q => ∀ v H', Same H H' → Dp K H' v d → Q v H'
def tLits (K : PySem.W.Frag) (ds : List PyData) : TA := fun _ H Q => ∀ vs H', Same H H' → DpAll K H' vs ds → Q vs H'
theorem DpAll.len {K : PySem.W.Frag} {H : Hp} : ∀ {vs : List V} {ds : List PyData}, DpAll K H vs ds → vs.length = ds.length
  | _, _, .nil => rfl
  | _, _, .cons _ t => by rw [List.length_cons, List.length_cons, DpAll.len t]
section
variable {X : Cx} {e : Expr} {es : List Expr} {pos : Pos} {d : PyData} {ds : List PyData}
theorem PE.weak {t t' : TE} (h : PE X e t) (hw : ∀ σ H Q, t' σ H Q → t σ H Q) : PE X e t' := ⟨fun pins s σ H Q I q => h.run pins s σ H Q I (hw σ H Q q)⟩
theorem PA.weak {t t' : TA} (h : PA X es t) (hw : ∀ σ H Q, t' σ H Q → t σ H Q) : PA X es t' := ⟨fun pos pins s σ H Q I q => h.run pos pins s σ H Q I (hw σ H Q q)⟩
theorem lit_int (K : PySem.W.Frag) {i : Int} {j} : PE X (.Constant (.int i) j pos) (tLit K (.int i)) := PE.weak pe_int fun _ H Q q => q _ _ (Same.refl _) (.int i)
theorem lit_neg (K : PySem.W.Frag) {i : Int} {j} {p : Pos} : PE X (.UnaryOp .USub (.Constant (.int i) j p) pos) (tLit K (.int (-i))) := PE.weak (pe_un un_neg pe_int) fun _ H Q q => ⟨i, rfl, q _ _ (Same.refl _) (.int _)⟩
theorem lit_str (K : PySem.W.Frag) {x : Str} {j} : PE X (.Constant (.str x) j pos) (tLit K (.str x)) := PE.weak pe_str fun _ H Q q => q _ _ (Same.refl _) (.str x)
theorem lit_bl (K : PySem.W.Frag) {b : Bool} {j} : PE X (.Constant (.bool b) j pos) (tLit K (.bool b)) := PE.weak pe_bl fun _ H Q q => q _ _ (Same.refl _) (.bl b)
theorem lit_non (K : PySem.W.Frag) {j} : PE X (.Constant .none j pos) (tLit K .none) := PE.weak pe_non fun _ H Q q => q _ _ (Same.refl _) .non
theorem lits_nil (K : PySem.W.Frag) : PA X [] (tLits K []) := PA.weak pa_nil fun _ H Q q => q _ _ (Same.refl _) .nil
theorem lits_cons (K : PySem.W.Frag) (h : PE X e (tLit K d)) (t : PA X es (tLits K ds)) (hs : starEach (e :: es) X.env = (false, eval e X.env) :: starEach es X.env := by rfl) : PA X (e :: es) (tLits K (d :: ds)) :=
  PA.weak (pa_cons h t hs) fun σ H Q q v H1 s1 d1 vs H2 s2 d2 => q (v :: vs) H2 (s1.trans s2) (.cons (Dp.same s2 d v d1) d2)
theorem lit_list (K : PySem.W.Frag) (h : PA X es (tLits K ds)) (hl : ds.length ≤ 1000 := by decide) : PE X (.List es pos) (tLit K (.list ds)) :=
  PE.weak (pe_lst h) fun σ H Q q vs H1 s1 d1 => ⟨by rw [DpAll.len d1]; exact small_line (by omega), fun p np => q _ _ (s1.trans (same_new np)) (.lst (SqL.of upd_same) (DpAll.same (same_new np) ds vs d1))⟩
theorem lit_tup (K : PySem.W.Frag) {c} (h : PA X es (tLits K ds)) (hl : ds.length ≤ 1000 := by decide) : PE X (.Tuple es c pos) (tLit K (.tuple ds)) :=
  PE.weak (pe_tup h) fun σ H Q q vs H1 s1 d1 => ⟨by rw [DpAll.len d1]; exact small_line (by omega), fun p np => q _ _ (s1.trans (same_new np)) (.tup (SqT.of upd_same) (DpAll.same (same_new np) ds vs d1))⟩
end
section
variable {K : PySem.W.Frag} {H : Hp}
theorem dp_cell {v : V} {r p : Int} (h : Dp K H v (.tuple [.int r, .int p])) : CellV K H v (r, p) := by
  cases h with
  | tup q t =>
    cases t with
    | cons a t =>
      cases t with
      | cons b t =>
        cases t
        cases a
        cases b
        exact ⟨_, rfl, q⟩
theorem dp_texts_all : ∀ {F : List (List Nat)} {vs : List V}, DpAll K H vs (F.map textD) → vs = F.map tv
  | [], _, h => by cases h; rfl
  | r :: F, _, h => by
    cases h with
    | cons a t =>
      cases a
      rw [dp_texts_all t]
      rfl
theorem dp_texts {v : V} {F : List (List Nat)} (h : Dp K H v (textsD F)) : ∃ a, v = .ref a ∧ SqL K H a (F.map tv) := by
  cases h with
  | lst q t => exact ⟨_, rfl, by rw [← dp_texts_all t]; exact q⟩
theorem dp_cells_all : ∀ {cs : List Cel} {vs : List V}, DpAll K H vs (cs.map cellD) → Cells K H vs cs
  | [], _, h => by cases h; exact .nil
  | c :: cs, _, h => by
    cases h with
    | cons a t => exact .cons (dp_cell a) (dp_cells_all t)
theorem dp_cells {v : V} {cs : List Cel} (h : Dp K H v (cellsD cs)) : ∃ a xs, v = .ref a ∧ SqL K H a xs ∧ Cells K H xs cs := by
  cases h with
  | lst q t => exact ⟨_, _, rfl, q, dp_cells_all t⟩
end
def fieldB (F : List (List Nat)) (h w : Nat) : Bool := decide (F.length = h) && decide (1 ≤ h) && decide (h ≤ 5) && decide (1 ≤ w) && decide (w ≤ 5) && F.all fun r => decide (r.length = w) && r.all letB
theorem fieldB_ok {F : List (List Nat)} {h w : Nat} (e : fieldB F h w = true) : FieldOk F h w := by
  unfold fieldB at e
  simp only [Bool.and_eq_true, decide_eq_true_eq, List.all_eq_true] at e
  obtain ⟨⟨⟨⟨⟨e1, e2⟩, e3⟩, e4⟩, e5⟩, e6⟩ := e
  exact ⟨e1, e2, e3, e4, e5, fun r hr => (e6 r hr).1, fun r hr c hc => letB_letter.mp ((e6 r hr).2 c hc)⟩
/-- range(0, max(1, min(8, n)), 4) -/
theorem range4 {j : Int} (h1 : 1 ≤ j) (h8 : j ≤ 8) : ∃ n : Nat, n ≤ 2 ∧ RgC 0 j 4 n := by
  have : j = 1 ∨ j = 2 ∨ j = 3 ∨ j = 4 ∨ j = 5 ∨ j = 6 ∨ j = 7 ∨ j = 8 := by omega
  rcases this with rfl | rfl | rfl | rfl | rfl | rfl | rfl | rfl
  · exact ⟨1, by decide, by decide, by decide, by decide, by decide⟩
  · exact ⟨1, by decide, by decide, by decide, by decide, by decide⟩
  · exact ⟨1, by decide, by decide, by decide, by decide, by decide⟩
  · exact ⟨1, by decide, by decide, by decide, by decide, by decide⟩
  · exact ⟨2, by decide, by decide, by decide, by decide, by decide⟩
  · exact ⟨2, by decide, by decide, by decide, by decide, by decide⟩
  · exact ⟨2, by decide, by decide, by decide, by decide, by decide⟩
  · exact ⟨2, by decide, by decide, by decide, by decide, by decide⟩
def top8 (n : Nat) : Int := if (if (n : Int) < 8 then (n : Int) else 8) > 1 then (if (n : Int) < 8 then (n : Int) else 8) else 1
theorem top8_bd (n : Nat) : 1 ≤ top8 n ∧ top8 n ≤ 8 := by
  unfold top8
  constructor <;> split <;> split <;> omega
/-- xs[:-1] of a list with one more -/
theorem cut_last (xs : List V) (x : V) : cutV (xs ++ [x]) none (some (-1)) = xs := by
  have e : HT.sIx (xs ++ [x]).length (xs ++ [x]).length (some (-1)) = xs.length := by
    rw [List.length_append]
    unfold HT.sIx
    simp only [List.length_cons, List.length_nil]
    split <;> omega
  unfold cutV
  rw [e, HT.sIx_none, List.drop_zero, Nat.sub_zero, List.take_left']
  rfl
/-- the i-th of n cells -/
theorem range_filter_get {α : Type} (l : List α) (d : α) (p : α → Bool) : ((List.range l.length).filter fun i => p (l.getD i d)).map (fun i => l.getD i d) = l.filter p := by
  have e : l = (List.range l.length).map fun i => l.getD i d := by
    have := range_map_get id l (fun i => l.getD i d) (fun i x hx => getD_of hx)
    rw [this, List.map_id]
  conv => rhs; rw [e]
  rw [List.filter_map]
  rfl
end Sk
/-! What the defs of answers.py and snakes.py promise. -/
namespace Sk
open PySem PySem.Spec PyProof.Rows L2 Sn
structure WordOk (r : List Nat) : Prop where
  l1 : 1 ≤ r.length
  l6 : r.length ≤ 6
  let_ : ∀ c ∈ r, letter c
def spCheckWord : Sp := fun vs H Q _ => ∃ r, vs = [tv r] ∧ WordOk r ∧ ∀ H', Same H H' → Q .non H'
def spLetterAt (K : PySem.W.Frag) : Sp := fun vs H Q _ => ∃ a F h w v c, vs = [.ref a, v] ∧ FieldAt K H a F h w ∧ CellV K H v c ∧ c ∈ cellsL h w ∧ Q (tv [at_ F c]) H
theorem FieldAt.at_cell {K : PySem.W.Frag} {H : Hp} {a : Addr} {F : List (List Nat)} {h w : Nat} (o : FieldAt K H a F h w) {c : Cel} (hc : c ∈ cellsL h w) :
    ∃ r, atI (F.map tv) c.1 = some (tv r) ∧ r.length = w ∧ atI r c.2 = some (at_ F c) := by
  obtain ⟨⟨a1, a2⟩, a3, a4⟩ := mem_cellsL.mp hc
  obtain ⟨g1, g2⟩ := o.row (i := c.1.toNat) (by omega)
  refine ⟨F.getD c.1.toNat [], at_of (j := c.1.toNat) (by omega) g1, g2, ?_⟩
  have hl : c.2.toNat < (F.getD c.1.toNat []).length := by rw [g2]; omega
  refine atN_of (j := c.2.toNat) (by omega) ?_
  unfold at_
  rw [getD_of (List.getElem?_eq_getElem hl)]
  exact List.getElem?_eq_getElem hl
def spIsSnake (K : PySem.W.Frag) : Sp := fun vs H Q _ => ∃ a F h w b xs cs, vs = [.ref a, .ref b] ∧ FieldAt K H a F h w ∧ SqL K H b xs ∧ Cells K H xs cs ∧ cs.length < 64 ∧ ∀ H', Same H H' → Q (.bl (snakeB h w cs)) H'
def spSpelled (K : PySem.W.Frag) : Sp := fun vs H Q _ => ∃ a F h w b xs cs, vs = [.ref a, .ref b] ∧ FieldAt K H a F h w ∧ SqL K H b xs ∧ Cells K H xs cs ∧ Vld h w cs ∧ cs.length ≤ 1000 ∧ ∀ H', Same H H' → Q (tv (spell F cs)) H'
def spNext (K : PySem.W.Frag) : Sp := fun vs H Q _ => ∃ a F h w b xs cs, vs = [.ref a, .ref b] ∧ FieldAt K H a F h w ∧ SqL K H b xs ∧ Cells K H xs cs ∧ Vld h w cs ∧ ∀ H' p ys, Same H H' → H p = none → H' p = some (.lst ys) → Cells K H' ys (nextL h w cs) → Q (.ref p) H'
/-- a list of lists of cells; N tells of each list's address -/
def SnkV (K : PySem.W.Frag) (N : Addr → Prop) (H : Hp) (v : V) (cs : List Cel) : Prop := ∃ q ys, v = .ref q ∧ N q ∧ H q = some (.lst ys) ∧ Cells K H ys cs
abbrev Snks (K : PySem.W.Frag) (N : Addr → Prop) (H : Hp) (xs : List V) (ss : List (List Cel)) : Prop := Paired (SnkV K N H) xs ss
theorem SnkV.same {K : PySem.W.Frag} {N : Addr → Prop} {H H' : Hp} {v : V} {cs : List Cel} (h : SnkV K N H v cs) (s : Same H H') : SnkV K N H' v cs := by
  obtain ⟨q, ys, e, n, hq, hy⟩ := h
  exact ⟨q, ys, e, n, s _ _ hq, hy.le (TupLe.of s)⟩
theorem Snks.same {K : PySem.W.Frag} {N : Addr → Prop} {H H' : Hp} {xs : List V} {ss : List (List Cel)} (h : Snks K N H xs ss) (s : Same H H') : Snks K N H' xs ss := Paired.mapP h fun _ _ q => q.same s
/-- .. where a list that is none of them is changed -/
theorem SnkV.upd {K : PySem.W.Frag} {N : Addr → Prop} {H : Hp} {v : V} {cs : List Cel} {p : Addr} {zs : List V} {o : HO} (h : SnkV K N H v cs) (hp : H p = some (.lst zs)) (hn : ∀ q, N q → q ≠ p) : SnkV K N (upd H p o) v cs := by
  obtain ⟨q, ys, e, n, hq, hy⟩ := h
  exact ⟨q, ys, e, n, by rw [upd_ne (hn q n)]; exact hq, hy.le (TupLe.upd hp (TupLe.refl _))⟩
theorem Snks.upd {K : PySem.W.Frag} {N : Addr → Prop} {H : Hp} {xs : List V} {ss : List (List Cel)} {p : Addr} {zs : List V} {o : HO} (h : Snks K N H xs ss) (hp : H p = some (.lst zs)) (hn : ∀ q, N q → q ≠ p) : Snks K N (upd H p o) xs ss := Paired.mapP h fun _ _ q => q.upd hp hn
theorem Snks.imp {K : PySem.W.Frag} {N N' : Addr → Prop} {H : Hp} {xs : List V} {ss : List (List Cel)} (h : Snks K N H xs ss) (f : ∀ q, N q → N' q) : Snks K N' H xs ss := Paired.mapP h fun _ _ ⟨q, ys, e, n, r⟩ => ⟨q, ys, e, f q n, r⟩
theorem Snks.dp {K : PySem.W.Frag} {N : Addr → Prop} {H : Hp} {xs : List V} {ss : List (List Cel)} (h : Snks K N H xs ss) : DpAll K H xs (ss.map cellsD) := by
  induction h with
  | nil => exact .nil
  | cons r _ ih =>
    obtain ⟨q, ys, rfl, _, hq, hy⟩ := r
    exact .cons (cells_dp (SqL.of hq) hy) ih
theorem snks_dp {K : PySem.W.Frag} {N : Addr → Prop} {H : Hp} {a : Addr} {xs : List V} {ss : List (List Cel)} (hs : SqL K H a xs) (h : Snks K N H xs ss) : Dp K H (.ref a) (snakesD ss) := .lst hs h.dp
def spSnakesOn (K : PySem.W.Frag) (r : Nat) : Sp := fun vs H Q _ => ∃ a F h w wd b xs cs, vs = [.ref a, tv wd, .ref b] ∧ FieldAt K H a F h w ∧ H b = some (.lst xs) ∧ Cells K H xs cs ∧ Vld h w cs ∧ wd.length ≤ 6 ∧ cs.length ≤ wd.length ∧ wd.length ≤ cs.length + r ∧
  ∀ H' p ys, Same H H' → H p = none → H' p = some (.lst ys) → Snks K (fun q => H q = none ∨ (q = b ∧ cs.length = wd.length)) H' ys (snakesOn F h w (wd.drop cs.length) cs) → Q (.ref p) H'
def spLongest (K : PySem.W.Frag) : Sp := fun vs H Q _ => ∃ a F h w wd, vs = [.ref a, tv wd] ∧ FieldAt K H a F h w ∧ wd.length ≤ 6 ∧ ∀ H' m, Same H H' → Lgst F h w wd m → Q (.int m) H'
theorem lgst_ex {F : List (List Nat)} {h w : Nat} (h5 : h ≤ 5) (w5 : w ≤ 5) (wd : List Nat) : ∃ m, Lgst F h w wd m := by
  have go : ∀ n m, n + m = wd.length → ne_ F h w wd m = true → ∃ m, Lgst F h w wd m := by
    intro n
    induction n with
    | zero => intro m e ne; exact ⟨m, by omega, ne, fun k h1 h2 => by omega⟩
    | succ n ih =>
      intro m e ne
      cases e2 : ne_ F h w wd (m + 1) with
      | true => exact ih (m + 1) (by omega) e2
      | false => exact ⟨m, lgst_of h5 w5 (by omega) ne fun _ => e2⟩
  exact go wd.length 0 (by omega) (ne_zero F h w wd)
/-! the classes -/
def spFoundInit (K : PySem.W.Frag) (C : Addr) : Sp := fun vs H Q _ => ∃ x dx l0 xs, vs = [.ref x, .ref l0] ∧ H x = some (.ins C dx []) ∧ SqL K H l0 xs ∧
  ∀ H' l, Kb x H H' → H' x = some (.ins C dx [("cells", .ref l)]) → H l = none → H' l = some (.lst xs) → Q .non H'
def spStopsInit (C : Addr) : Sp := fun vs H Q _ => ∃ x dx m, vs = [.ref x, .int m] ∧ H x = some (.ins C dx []) ∧ ∀ H', Kb x H H' → H' x = some (.ins C dx [("many", .int m)]) → Q .non H'
def foundB (F : List (List Nat)) (h w : Nat) (cs : List Cel) (wd : List Nat) : Bool := snakeB h w cs && decide (spell F cs = wd)
def spFoundShows (K : PySem.W.Frag) (C : Addr) : Sp := fun vs H Q _ => ∃ x dx l xs cs a F h w wd, vs = [.ref x, .ref a, tv wd] ∧ H x = some (.ins C dx [("cells", .ref l)]) ∧ SqL K H l xs ∧ Cells K H xs cs ∧ cs.length < 64 ∧ FieldAt K H a F h w ∧
  ∀ H', Same H H' → Q (.bl (foundB F h w cs wd)) H'
def spStopsShows (K : PySem.W.Frag) (C : Addr) : Sp := fun vs H Q _ => ∃ (x dx : Addr) (m : Int) (a : Addr) (F : List (List Nat)) (h w : Nat) (wd : List Nat), vs = [.ref x, .ref a, tv wd] ∧ H x = some (.ins C dx [("many", .int m)]) ∧ wd.length ≤ 6 ∧ FieldAt K H a F h w ∧
  ∀ H' (k : Nat), Same H H' → Lgst F h w wd k → Q (.bl (decide (m < (wd.length : Int)) && decide (m = (k : Int)))) H'
/-- an answer: a Found, a Stops -/
def FoundAt (K : PySem.W.Frag) (C : Addr) (H : Hp) (p l : Addr) (cs : List Cel) : Prop := ∃ dx xs, H p = some (.ins C dx [("cells", .ref l)]) ∧ H l = some (.lst xs) ∧ Cells K H xs cs
def StopsAt (C : Addr) (H : Hp) (p : Addr) (m : Int) : Prop := ∃ dx, H p = some (.ins C dx [("many", .int m)])
def spJudged (K : PySem.W.Frag) (CF CS : Addr) : Sp := fun vs H Q _ => ∃ a F h w wd, vs = [.ref a, tv wd] ∧ FieldAt K H a F h w ∧ WordOk wd ∧
  (∀ H' p l s r, Same H H' → H p = none → H l = none → snakesOn F h w wd [] = s :: r → FoundAt K CF H' p l s → Q (.ref p) H') ∧
  ∀ H' p (m : Nat), Same H H' → H p = none → snakesOn F h w wd [] = [] → Lgst F h w wd m → StopsAt CS H' p m → Q (.ref p) H'
/-- what is made and its __init__ leave all as it was -/
theorem same_made {H H1 : Hp} {x dx C : Addr} (nx : H x = none) (nd : H dx = none) (k : Kb x (upd (upd H dx (.own x)) x (.ins C dx [])) H1) : Same H H1 := fun b o e => by
  have n1 := ne_of_none e nx
  exact k b o n1 (by rw [upd_ne n1, upd_ne (ne_of_none e nd)]; exact e)
end Sk
/-! What the laws' own helpers about snakes promise. -/
namespace Sk
open PySem PySem.Spec PyProof.Rows L2 Sn
def spBroad (K : PySem.W.Frag) : Sp := fun vs H Q _ => ∃ a ns k n, vs = [.ref a, .int k] ∧ SqL K H a (ns.map V.int) ∧ Bits n ns ∧ n ≤ 1900000 ∧ 0 ≤ k ∧ k ≤ 100 ∧
  ∀ H' p F, Same H H' → H p = none → H' p = some (.lst (F.map tv)) → FieldOk F 5 5 → Q (.ref p) H'
def spLSnakes (K : PySem.W.Frag) : Sp := fun vs H Q _ => ∃ a F h w wd, vs = [.ref a, tv wd] ∧ FieldAt K H a F h w ∧ wd.length ≤ 6 ∧
  ∀ H' p ys, Same H H' → H p = none → H' p = some (.lst ys) → Snks K (fun q => H q = none) H' ys (snakesOn F h w wd []) → Q (.ref p) H'
def spLWord (K : PySem.W.Frag) : Sp := fun vs H Q _ => ∃ a ns k n b F h w m, vs = [.ref a, .int k, .ref b, .int m] ∧ SqL K H a (ns.map V.int) ∧ Bits n ns ∧ n ≤ 1900000 ∧ 0 ≤ k ∧ k ≤ 100 ∧ FieldAt K H b F h w ∧ 1 ≤ m ∧ m ≤ 6 ∧
  ∀ H' r, Same H H' → 1 ≤ r.length → (r.length : Int) ≤ m → (∀ c ∈ r, letter c) → Q (tv r) H'
def spSays : Sp := fun vs H Q _ => ∃ x y : Bool, vs = [.bl x, .bl y] ∧ Q (.bl (decide (x = y))) H
def spDue (K : PySem.W.Frag) (CF CS : Addr) : Sp := fun vs H Q _ => ∃ a F h w wd p, vs = [.ref a, tv wd, .ref p] ∧ FieldAt K H a F h w ∧ wd.length ≤ 6 ∧
  ((∃ l cs, FoundAt K CF H p l cs ∧ cs.length < 64 ∧ ∀ H', Same H H' → Q (.bl (foundB F h w cs wd)) H') ∨
   ∃ m : Int, StopsAt CS H p m ∧ ∀ H' (k : Nat), Same H H' → Lgst F h w wd k → Q (.bl (decide (m < (wd.length : Int)) && decide (m = (k : Int)))) H')
def spNumbers (K : PySem.W.Frag) : Sp := fun vs H Q _ => ∃ l xs cs, vs = [.ref l] ∧ SqL K H l xs ∧ Cells K H xs cs ∧ Q (.bl true) H
def sevenL : List Nat := "aeinrst".toList.map Char.toNat
theorem seven_at {z : Int} (h0 : 0 ≤ z) (h1 : z < 7) : ∃ c, atI sevenL z = some c ∧ letter c := by
  have hj : z.toNat < 7 := by omega
  have all : (List.range 7).all (fun j => match sevenL[j]? with | some c => letB c | none => false) = true := by decide +kernel
  have q := List.all_eq_true.mp all _ (List.mem_range.mpr hj)
  cases e : sevenL[z.toNat]? with
  | none => rw [e] at q; cases q
  | some c => rw [e] at q; exact ⟨c, atN_of (j := z.toNat) (by omega) e, letB_letter.mp q⟩
def abzL : List Nat := "abz".toList.map Char.toNat
theorem abz_at {z : Int} (h0 : 0 ≤ z) (h1 : z < 3) : ∃ c, atI abzL z = some c ∧ letter c := by
  have hj : z.toNat < 3 := by omega
  have all : (List.range 3).all (fun j => match abzL[j]? with | some c => letB c | none => false) = true := by decide +kernel
  have q := List.all_eq_true.mp all _ (List.mem_range.mpr hj)
  cases e : abzL[z.toNat]? with
  | none => rw [e] at q; cases q
  | some c => rw [e] at q; exact ⟨c, atN_of (j := z.toNat) (by omega) e, letB_letter.mp q⟩
theorem cutS_last (r : List Nat) : cutS (tx r) none (some (-1)) = tx r.dropLast := by
  unfold cutS
  rw [HT.sIx_none, tx_cps, tx_len, List.drop_zero, Nat.sub_zero]
  have e : HT.sIx r.length r.length (some (-1)) = r.length - 1 := by
    show (if (-1 : Int) < 0 then (-1 + (r.length : Int)).toNat else min (-1 : Int).toNat r.length) = _
    rw [if_pos (by decide)]
    omega
  rw [e]
  show tx (r.take (r.length - 1)) = _
  rw [List.dropLast_eq_take]
/-- the last of the cells -/
theorem cells_last {K : PySem.W.Frag} {H : Hp} {xs : List V} {cs : List Cel} (hc : Cells K H xs cs) {d : Cel} (hd : cs.getLast? = some d) : ∃ v, atI xs (-1) = some v ∧ CellV K H v d := by
  have hd2 : cs[cs.length - 1]? = some d := by rw [← List.getLast?_eq_getElem?]; exact hd
  have hne : cs ≠ [] := fun z => by rw [z] at hd; cases hd
  have l0 : 0 < cs.length := List.length_pos_iff.mpr hne
  obtain ⟨v, gv, vd⟩ := Paired.get' hc hd2
  refine ⟨v, ?_, vd⟩
  unfold atI ixN
  rw [if_neg (by decide), if_pos (by rw [hc.length]; omega)]
  show xs[(-1 + (xs.length : Int)).toNat]? = some v
  rw [← gv]
  congr 1
  rw [hc.length]
  omega
end Sk
/-! What the laws' last defs share. -/
namespace Sk
open PySem PySem.Spec PyProof.Rows L2 Sn
def spLaw (K : PySem.W.Frag) : Sp := fun vs H Q _ => ∃ a ns n, vs = [.ref a] ∧ SqL K H a (ns.map V.int) ∧ Bits n ns ∧ n ≤ 1900000 ∧ ns.length ≤ 63 ∧ ∀ H', Q (.bl true) H'
theorem cutS_takeL (r : List Nat) (n : Nat) : cutS (tx r) none (some (n : Int)) = tx (r.take n) := by
  unfold cutS
  rw [HT.sIx_none, HT.sIx_nat, tx_cps, tx_len, List.drop_zero, Nat.sub_zero]
  show tx (r.take (min n r.length)) = _
  congr 1
  by_cases hn : n ≤ r.length
  · rw [Nat.min_eq_left hn]
  · rw [Nat.min_eq_right (by omega), List.take_length, List.take_of_length_le (by omega)]
theorem cutS1 (r : List Nat) : cutS (tx r) none (some 1) = tx (r.take 1) := cutS_takeL r 1
theorem cutS2 (r : List Nat) : cutS (tx r) none (some 2) = tx (r.take 2) := cutS_takeL r 2
theorem cutS6 (r : List Nat) : cutS (tx r) none (some 6) = tx (r.take 6) := cutS_takeL r 6
theorem repS_tx (r : List Nat) (n : Nat) : repS (tx r) n = tx (List.replicate n r).flatten := by unfold repS; rw [tx_cps]; rfl
theorem WordOk.rev {r : List Nat} (o : WordOk r) : WordOk r.reverse := ⟨by rw [List.length_reverse]; exact o.l1, by rw [List.length_reverse]; exact o.l6, fun c hc => o.let_ c (List.mem_reverse.mp hc)⟩
theorem WordOk.take {r : List Nat} (h1 : 1 ≤ r.length) (hl : ∀ c ∈ r, letter c) {n : Nat} (hn : 1 ≤ n) (hn6 : n ≤ 6) : WordOk (r.take n) := ⟨by rw [List.length_take]; omega, by rw [List.length_take]; omega, fun c hc => hl c (List.mem_of_mem_take hc)⟩
theorem WordOk.rep3 {r : List Nat} (o : WordOk r) : WordOk (List.replicate 3 (r.take 1)).flatten := by
  have e : (List.replicate 3 (r.take 1)).flatten = r.take 1 ++ (r.take 1 ++ r.take 1) := by simp [List.replicate]
  have l1 := o.l1
  have l : (r.take 1).length = 1 := by rw [List.length_take]; omega
  rw [e]
  refine ⟨?_, ?_, fun c hc => ?_⟩
  · rw [List.length_append, l]; omega
  · rw [List.length_append, List.length_append, l]; omega
  · have : c ∈ r.take 1 := by
      rcases List.mem_append.mp hc with z | z
      · exact z
      · rcases List.mem_append.mp z with z | z <;> exact z
    exact o.let_ c (List.mem_of_mem_take this)
def wordB (r : List Nat) : Bool := decide (1 ≤ r.length) && decide (r.length ≤ 6) && r.all letB
theorem wordB_ok {r : List Nat} (e : wordB r = true) : WordOk r := by
  unfold wordB at e
  simp only [Bool.and_eq_true, decide_eq_true_eq, List.all_eq_true] at e
  exact ⟨e.1.1, e.1.2, fun c hc => letB_letter.mp (e.2 c hc)⟩
theorem dp_cells_tup {K : PySem.W.Frag} {H : Hp} {v : V} {cs : List Cel} (h : Dp K H v (.tuple (cs.map cellD))) : ∃ a xs, v = .ref a ∧ SqT K H a xs ∧ Cells K H xs cs := by
  cases h with
  | tup q t => exact ⟨_, _, rfl, q, dp_cells_all t⟩
theorem dp_tup_texts {K : PySem.W.Frag} {H : Hp} {v : V} {F : List (List Nat)} (h : Dp K H v (.tuple (F.map textD))) : ∃ a, v = .ref a ∧ SqT K H a (F.map tv) := by
  cases h with
  | tup q t => exact ⟨_, rfl, by rw [← dp_texts_all t]; exact q⟩
theorem dp_ints_all {K : PySem.W.Frag} {H : Hp} : ∀ {is : List Int} {vs : List V}, DpAll K H vs (is.map PyData.int) → vs = is.map V.int
  | [], _, h => by cases h; rfl
  | i :: is, _, h => by
    cases h with
    | cons a t =>
      cases a
      rw [dp_ints_all t]
      rfl
theorem dp_tup_ints {K : PySem.W.Frag} {H : Hp} {v : V} {is : List Int} (h : Dp K H v (.tuple (is.map PyData.int))) : ∃ a, v = .ref a ∧ SqT K H a (is.map V.int) := by
  cases h with
  | tup q t => exact ⟨_, rfl, by rw [← dp_ints_all t]; exact q⟩
end Sk
/-! The text of the law: its defs by place, their names. -/
namespace Sk
open PySem PySem.Spec PyProof.Rows L2 Sn
def topS (i : Nat) : Stmt := PySem.Challenge.pw_lettersnake_k08_whole_anew.main.body.getD i (.Pass ⟨0, 0, 0, 0⟩)
abbrev s_is_whole : Stmt := topS 12
theorem sc_is_whole : FnScope ["thing"] ["thing"] (defScope s_is_whole) := ⟨rfl, rfl, rfl, by decide +kernel, rfl, by decide +kernel, by decide +kernel⟩
theorem bn_is_whole : Bnd s_is_whole "is_whole" ["thing"] := fun _ _ _ _ _ _ us hl => match us, hl with | [_], _ => rfl
abbrev s_is_text : Stmt := topS 13
theorem sc_is_text : FnScope ["thing", "most", "one"] ["thing", "most"] (defScope s_is_text) := ⟨rfl, rfl, rfl, by decide +kernel, rfl, by decide +kernel, by decide +kernel⟩
theorem bn_is_text : Bnd s_is_text "is_text" ["thing", "most"] := fun _ _ _ _ _ _ us hl => match us, hl with | [_, _], _ => rfl
abbrev s_check_field : Stmt := topS 14
theorem sc_check_field : FnScope ["field", "row"] ["field"] (defScope s_check_field) := ⟨rfl, rfl, rfl, by decide +kernel, rfl, by decide +kernel, by decide +kernel⟩
theorem bn_check_field : Bnd s_check_field "check_field" ["field"] := fun _ _ _ _ _ _ us hl => match us, hl with | [_], _ => rfl
abbrev s_is_cell : Stmt := topS 15
theorem sc_is_cell : FnScope ["field", "thing", "one"] ["field", "thing"] (defScope s_is_cell) := ⟨rfl, rfl, rfl, by decide +kernel, rfl, by decide +kernel, by decide +kernel⟩
theorem bn_is_cell : Bnd s_is_cell "is_cell" ["field", "thing"] := fun _ _ _ _ _ _ us hl => match us, hl with | [_, _], _ => rfl
abbrev s_check_word : Stmt := topS 16
theorem sc_check_word : FnScope ["word"] ["word"] (defScope s_check_word) := ⟨rfl, rfl, rfl, by decide +kernel, rfl, by decide +kernel, by decide +kernel⟩
theorem bn_check_word : Bnd s_check_word "check_word" ["word"] := fun _ _ _ _ _ _ us hl => match us, hl with | [_], _ => rfl
abbrev s_cells_in : Stmt := topS 17
theorem sc_cells_in : FnScope ["field", "found", "row", "place"] ["field"] (defScope s_cells_in) := ⟨rfl, rfl, rfl, by decide +kernel, rfl, by decide +kernel, by decide +kernel⟩
theorem bn_cells_in : Bnd s_cells_in "cells_in" ["field"] := fun _ _ _ _ _ _ us hl => match us, hl with | [_], _ => rfl
abbrev s_letter_at : Stmt := topS 18
theorem sc_letter_at : FnScope ["field", "cell"] ["field", "cell"] (defScope s_letter_at) := ⟨rfl, rfl, rfl, by decide +kernel, rfl, by decide +kernel, by decide +kernel⟩
theorem bn_letter_at : Bnd s_letter_at "letter_at" ["field", "cell"] := fun _ _ _ _ _ _ us hl => match us, hl with | [_, _], _ => rfl
abbrev s_near_of : Stmt := topS 19
theorem sc_near_of : FnScope ["field", "cell", "found", "row", "place"] ["field", "cell"] (defScope s_near_of) := ⟨rfl, rfl, rfl, by decide +kernel, rfl, by decide +kernel, by decide +kernel⟩
theorem bn_near_of : Bnd s_near_of "near_of" ["field", "cell"] := fun _ _ _ _ _ _ us hl => match us, hl with | [_, _], _ => rfl
abbrev s_near : Stmt := topS 20
theorem sc_near : FnScope ["field", "cell"] ["field", "cell"] (defScope s_near) := ⟨rfl, rfl, rfl, by decide +kernel, rfl, by decide +kernel, by decide +kernel⟩
theorem bn_near : Bnd s_near "near" ["field", "cell"] := fun _ _ _ _ _ _ us hl => match us, hl with | [_, _], _ => rfl
abbrev s_turned : Stmt := topS 21
theorem sc_turned : FnScope ["field", "row", "place"] ["field"] (defScope s_turned) := ⟨rfl, rfl, rfl, by decide +kernel, rfl, by decide +kernel, by decide +kernel⟩
theorem bn_turned : Bnd s_turned "turned" ["field"] := fun _ _ _ _ _ _ us hl => match us, hl with | [_], _ => rfl
abbrev s_mirrored : Stmt := topS 22
theorem sc_mirrored : FnScope ["field", "row"] ["field"] (defScope s_mirrored) := ⟨rfl, rfl, rfl, by decide +kernel, rfl, by decide +kernel, by decide +kernel⟩
theorem bn_mirrored : Bnd s_mirrored "mirrored" ["field"] := fun _ _ _ _ _ _ us hl => match us, hl with | [_], _ => rfl
abbrev s_is_snake : Stmt := topS 25
theorem sc_is_snake : FnScope ["field", "cells", "cell", "one", "other"] ["field", "cells"] (defScope s_is_snake) := ⟨rfl, rfl, rfl, by decide +kernel, rfl, by decide +kernel, by decide +kernel⟩
theorem bn_is_snake : Bnd s_is_snake "is_snake" ["field", "cells"] := fun _ _ _ _ _ _ us hl => match us, hl with | [_, _], _ => rfl
abbrev s_spelled : Stmt := topS 26
theorem sc_spelled : FnScope ["field", "cells", "cell"] ["field", "cells"] (defScope s_spelled) := ⟨rfl, rfl, rfl, by decide +kernel, rfl, by decide +kernel, by decide +kernel⟩
theorem bn_spelled : Bnd s_spelled "spelled" ["field", "cells"] := fun _ _ _ _ _ _ us hl => match us, hl with | [_, _], _ => rfl
abbrev s_next_cells : Stmt := topS 27
theorem sc_next_cells : FnScope ["field", "cells", "cell"] ["field", "cells"] (defScope s_next_cells) := ⟨rfl, rfl, rfl, by decide +kernel, rfl, by decide +kernel, by decide +kernel⟩
theorem bn_next_cells : Bnd s_next_cells "next_cells" ["field", "cells"] := fun _ _ _ _ _ _ us hl => match us, hl with | [_, _], _ => rfl
abbrev s_snakes_on : Stmt := topS 28
theorem sc_snakes_on : FnScope ["field", "word", "cells", "found", "cell"] ["field", "word", "cells"] (defScope s_snakes_on) := ⟨rfl, rfl, rfl, by decide +kernel, rfl, by decide +kernel, by decide +kernel⟩
theorem bn_snakes_on : Bnd s_snakes_on "snakes_on" ["field", "word", "cells"] := fun _ _ _ _ _ _ us hl => match us, hl with | [_, _, _], _ => rfl
abbrev s_longest : Stmt := topS 29
theorem sc_longest : FnScope ["field", "word", "many"] ["field", "word"] (defScope s_longest) := ⟨rfl, rfl, rfl, by decide +kernel, rfl, by decide +kernel, by decide +kernel⟩
theorem bn_longest : Bnd s_longest "longest" ["field", "word"] := fun _ _ _ _ _ _ us hl => match us, hl with | [_, _], _ => rfl
abbrev s_Found___init__ : Stmt := inClass (topS 30) 0
theorem sc_Found___init__ : FnScope ["self", "cells"] ["self", "cells"] (defScope s_Found___init__) := ⟨rfl, rfl, rfl, by decide +kernel, rfl, by decide +kernel, by decide +kernel⟩
theorem bn_Found___init__ : BndM s_Found___init__ "__init__" "Found.__init__" ["self", "cells"] := fun _ _ _ _ _ _ us hl => match us, hl with | [_, _], _ => rfl
abbrev s_Found_shows : Stmt := inClass (topS 30) 1
theorem sc_Found_shows : FnScope ["self", "field", "word"] ["self", "field", "word"] (defScope s_Found_shows) := ⟨rfl, rfl, rfl, by decide +kernel, rfl, by decide +kernel, by decide +kernel⟩
theorem bn_Found_shows : BndM s_Found_shows "shows" "Found.shows" ["self", "field", "word"] := fun _ _ _ _ _ _ us hl => match us, hl with | [_, _, _], _ => rfl
abbrev s_Stops___init__ : Stmt := inClass (topS 31) 0
theorem sc_Stops___init__ : FnScope ["self", "many"] ["self", "many"] (defScope s_Stops___init__) := ⟨rfl, rfl, rfl, by decide +kernel, rfl, by decide +kernel, by decide +kernel⟩
theorem bn_Stops___init__ : BndM s_Stops___init__ "__init__" "Stops.__init__" ["self", "many"] := fun _ _ _ _ _ _ us hl => match us, hl with | [_, _], _ => rfl
abbrev s_Stops_shows : Stmt := inClass (topS 31) 1
theorem sc_Stops_shows : FnScope ["self", "field", "word"] ["self", "field", "word"] (defScope s_Stops_shows) := ⟨rfl, rfl, rfl, by decide +kernel, rfl, by decide +kernel, by decide +kernel⟩
theorem bn_Stops_shows : BndM s_Stops_shows "shows" "Stops.shows" ["self", "field", "word"] := fun _ _ _ _ _ _ us hl => match us, hl with | [_, _, _], _ => rfl
abbrev s_judged : Stmt := topS 34
theorem sc_judged : FnScope ["field", "word", "found"] ["field", "word"] (defScope s_judged) := ⟨rfl, rfl, rfl, by decide +kernel, rfl, by decide +kernel, by decide +kernel⟩
theorem bn_judged : Bnd s_judged "judged" ["field", "word"] := fun _ _ _ _ _ _ us hl => match us, hl with | [_, _], _ => rfl
abbrev s_how_many : Stmt := topS 35
theorem sc_how_many : FnScope ["field", "word"] ["field", "word"] (defScope s_how_many) := ⟨rfl, rfl, rfl, by decide +kernel, rfl, by decide +kernel, by decide +kernel⟩
theorem bn_how_many : Bnd s_how_many "how_many" ["field", "word"] := fun _ _ _ _ _ _ us hl => match us, hl with | [_, _], _ => rfl
abbrev s_by_number : Stmt := topS 36
theorem sc_by_number : FnScope ["field", "word", "number", "found"] ["field", "word", "number"] (defScope s_by_number) := ⟨rfl, rfl, rfl, by decide +kernel, rfl, by decide +kernel, by decide +kernel⟩
theorem bn_by_number : Bnd s_by_number "by_number" ["field", "word", "number"] := fun _ _ _ _ _ _ us hl => match us, hl with | [_, _, _], _ => rfl
abbrev s_number_of : Stmt := topS 37
theorem sc_number_of : FnScope ["field", "cells", "cell"] ["field", "cells"] (defScope s_number_of) := ⟨rfl, rfl, rfl, by decide +kernel, rfl, by decide +kernel, by decide +kernel⟩
theorem bn_number_of : Bnd s_number_of "number_of" ["field", "cells"] := fun _ _ _ _ _ _ us hl => match us, hl with | [_, _], _ => rfl
abbrev s_gone_over : Stmt := topS 38
theorem sc_gone_over : FnScope ["field", "word", "found", "cells", "cell"] ["field", "word"] (defScope s_gone_over) := ⟨rfl, rfl, rfl, by decide +kernel, rfl, by decide +kernel, by decide +kernel⟩
theorem bn_gone_over : Bnd s_gone_over "gone_over" ["field", "word"] := fun _ _ _ _ _ _ us hl => match us, hl with | [_, _], _ => rfl
abbrev s_words : Stmt := topS 39
theorem sc_words : FnScope ["field", "many", "line", "turn", "longer", "cells", "cell"] ["field", "many"] (defScope s_words) := ⟨rfl, rfl, rfl, by decide +kernel, rfl, by decide +kernel, by decide +kernel⟩
theorem bn_words : Bnd s_words "words" ["field", "many"] := fun _ _ _ _ _ _ us hl => match us, hl with | [_, _], _ => rfl
abbrev s__law_cell_at : Stmt := topS 41
theorem sc__law_cell_at : FnScope ["_law_script", "_law_k"] ["_law_script", "_law_k"] (defScope s__law_cell_at) := ⟨rfl, rfl, rfl, by decide +kernel, rfl, by decide +kernel, by decide +kernel⟩
theorem bn__law_cell_at : Bnd s__law_cell_at "_law_cell_at" ["_law_script", "_law_k"] := fun _ _ _ _ _ _ us hl => match us, hl with | [_, _], _ => rfl
abbrev s__law_draw : Stmt := topS 42
theorem sc__law_draw : FnScope ["_law_cell", "_law_k", "_law_most", "_law_primes"] ["_law_cell", "_law_k", "_law_most"] (defScope s__law_draw) := ⟨rfl, rfl, rfl, by decide +kernel, rfl, by decide +kernel, by decide +kernel⟩
theorem bn__law_draw : Bnd s__law_draw "_law_draw" ["_law_cell", "_law_k", "_law_most"] := fun _ _ _ _ _ _ us hl => match us, hl with | [_, _, _], _ => rfl
abbrev s__law_number : Stmt := topS 43
theorem sc__law_number : FnScope ["_law_cell", "_law_k", "_law_limit", "_law_small"] ["_law_cell", "_law_k", "_law_limit"] (defScope s__law_number) := ⟨rfl, rfl, rfl, by decide +kernel, rfl, by decide +kernel, by decide +kernel⟩
theorem bn__law_number : Bnd s__law_number "_law_number" ["_law_cell", "_law_k", "_law_limit"] := fun _ _ _ _ _ _ us hl => match us, hl with | [_, _, _], _ => rfl
abbrev s__law_deep : Stmt := topS 44
theorem sc__law_deep : FnScope ["_law_thing", "_law_one"] ["_law_thing"] (defScope s__law_deep) := ⟨rfl, rfl, rfl, by decide +kernel, rfl, by decide +kernel, by decide +kernel⟩
theorem bn__law_deep : Bnd s__law_deep "_law_deep" ["_law_thing"] := fun _ _ _ _ _ _ us hl => match us, hl with | [_], _ => rfl
abbrev s__law_spoilt : Stmt := topS 45
theorem sc__law_spoilt : FnScope ["_law_found", "_law_one"] ["_law_found"] (defScope s__law_spoilt) := ⟨rfl, rfl, rfl, by decide +kernel, rfl, by decide +kernel, by decide +kernel⟩
theorem bn__law_spoilt : Bnd s__law_spoilt "_law_spoilt" ["_law_found"] := fun _ _ _ _ _ _ us hl => match us, hl with | [_], _ => rfl
abbrev s__law_put : Stmt := topS 46
theorem sc__law_put : FnScope ["_law_handed", "_law_some", "_law_row", "_law_other"] ["_law_handed", "_law_some"] (defScope s__law_put) := ⟨rfl, rfl, rfl, by decide +kernel, rfl, by decide +kernel, by decide +kernel⟩
theorem bn__law_put : Bnd s__law_put "_law_put" ["_law_handed", "_law_some"] := fun _ _ _ _ _ _ us hl => match us, hl with | [_, _], _ => rfl
abbrev s__law_door_right : Stmt := topS 47
theorem sc__law_door_right : FnScope ["_law_ask", "_law_lists", "_law_others", "_law_handed", "_law_fixed", "_law_told_lists", "_law_text", "_law_due", "_law_some", "_law_again"] ["_law_ask", "_law_lists", "_law_others"] (defScope s__law_door_right) := ⟨rfl, rfl, rfl, by decide +kernel, rfl, by decide +kernel, by decide +kernel⟩
theorem bn__law_door_right : Bnd s__law_door_right "_law_door_right" ["_law_ask", "_law_lists", "_law_others"] := fun _ _ _ _ _ _ us hl => match us, hl with | [_, _, _], _ => rfl
abbrev s__law_two : Stmt := topS 48
theorem sc__law_two : FnScope ["_law_found"] ["_law_found"] (defScope s__law_two) := ⟨rfl, rfl, rfl, by decide +kernel, rfl, by decide +kernel, by decide +kernel⟩
theorem bn__law_two : Bnd s__law_two "_law_two" ["_law_found"] := fun _ _ _ _ _ _ us hl => match us, hl with | [_], _ => rfl
abbrev s__law_doors_right : Stmt := topS 49
theorem sc__law_doors_right : FnScope ["_law_asks", "_law_lists", "_law_others", "_law_ask"] ["_law_asks", "_law_lists", "_law_others"] (defScope s__law_doors_right) := ⟨rfl, rfl, rfl, by decide +kernel, rfl, by decide +kernel, by decide +kernel⟩
theorem bn__law_doors_right : Bnd s__law_doors_right "_law_doors_right" ["_law_asks", "_law_lists", "_law_others"] := fun _ _ _ _ _ _ us hl => match us, hl with | [_, _, _], _ => rfl
abbrev s__law_judged : Stmt := topS 50
theorem sc__law_judged : FnScope ["_law_field", "_law_word", "_law_found"] ["_law_field", "_law_word"] (defScope s__law_judged) := ⟨rfl, rfl, rfl, by decide +kernel, rfl, by decide +kernel, by decide +kernel⟩
theorem bn__law_judged : Bnd s__law_judged "_law_judged" ["_law_field", "_law_word"] := fun _ _ _ _ _ _ us hl => match us, hl with | [_, _], _ => rfl
abbrev s_law : Stmt := topS 51
theorem sc_law : FnScope ["_law_script", "_law_field", "_law_other", "_law_by", "_law_word", "_law_here", "_law_asks", "_law_one", "_law_two_here"] ["_law_script"] (defScope s_law) := ⟨rfl, rfl, rfl, by decide +kernel, rfl, by decide +kernel, by decide +kernel⟩
theorem bn_law : Bnd s_law "law" ["_law_script"] := fun _ _ _ _ _ _ us hl => match us, hl with | [_], _ => rfl
/-- the names that the top leaves alone, its constants -/
structure Bi (mg : Str → Option Value) : Prop where
  all : mg "all" = none
  any : mg "any" = none
  bool : mg "bool" = none
  int : mg "int" = none
  isinstance : mg "isinstance" = none
  len : mg "len" = none
  list : mg "list" = none
  max : mg "max" = none
  min : mg "min" = none
  range : mg "range" = none
  set : mg "set" = none
  sorted : mg "sorted" = none
  str : mg "str" = none
  tuple : mg "tuple" = none
  zip : mg "zip" = none
  g_WIDEST : ∃ t, mg "WIDEST" = some (.int 5 t)
  g_LONGEST : ∃ t, mg "LONGEST" = some (.int 6 t)
  g_LETTERS : ∃ t, mg "LETTERS" = some (.str "abcdefghijklmnopqrstuvwxyz" t)
  g_FEW : ∃ t, mg "FEW" = some (.int 4 t)
end Sk
namespace Sk
open PySem PySem.Spec PyProof.Rows L2 Sn
section
variable {P : Program} {w : World} {K : PySem.W.Frag} {mg : Str → Option Value} {base : Heap}
theorem ok_is_whole (D : Dfn K mg "is_whole" s_is_whole) (B : Bi mg) : Cal P w K mg base CX0 1 "is_whole" ["thing"] (spIsWhole K) := by
  refine D.cal sc_is_whole bn_is_whole (fun vs H Q E h => ?_) (fun f cdv A outer s H vs Q E hr h => ?_)
  · obtain ⟨x, t, b, c, rfl, _⟩ := h
    rfl
  · obtain ⟨x, t, b, c, rfl, ty, k1, k2, q⟩ := h
    refine ⟨_, (pss_one (ps_ret (pe_and (pe_callB (isiK K) (by rfl) B.isinstance (by decide +kernel) (pa_cons (pv 0) (pa_cons (pe_bltn (v := .ty "int") (by rfl) B.int (by decide +kernel) rfl) pa_nil))) (pe_one (pe_not (pe_callB (isiK K) (by rfl) B.isinstance (by decide +kernel) (pa_cons (pv 0) (pa_cons (pe_bltn (v := .ty "bool") (by rfl) B.bool (by decide +kernel) rfl) pa_nil)))))))), ?_⟩
    refine ⟨x, rfl, x, .ty "int", t, _, b, rfl, .ty "int", ty, k1, b, rfl, ?_⟩
    cases b with
    | false => exact iteF q
    | true => exact iteT ⟨x, rfl, x, .ty "bool", t, _, c, rfl, .ty "bool", ty, k2, c, rfl, q⟩
theorem ok_is_text (D : Dfn K mg "is_text" s_is_text) (B : Bi mg) : Cal P w K mg base CX0 1 "is_text" ["thing", "most"] (spIsText K) := by
  refine D.cal sc_is_text bn_is_text (fun vs H Q E h => ?_) (fun f cdv A outer s H vs Q E hr h => ?_)
  · rcases h with ⟨r, n, rfl, _⟩ | ⟨x, t, n, rfl, _⟩ <;> rfl
  · refine ⟨_, (pss_one (ps_ret (pe_and (pe_callB (isiK K) (by rfl) B.isinstance (by decide +kernel) (pa_cons (pv 0) (pa_cons (pe_bltn (v := .ty "str") (by rfl) B.str (by decide +kernel) rfl) pa_nil))) (pe_and (pe_chain op_le op_le pe_int (pe_callB call_len_str (by rfl) B.len PySem.boot_len (pa_cons (pv 0) pa_nil)) (pv 1)) (pe_one (pe_callB (allK K rfl) (by rfl) B.all (by decide +kernel) (pa_cons (pe_lc (own := [("one", 2)]) (g := gName 2) (tt := tYes) (by rfl) sc_is_text.nd (pi_str (pv 0)) (blkOk_by (own := [("one", 2)]) (N := ["thing", "most", "one"]) (sc := defScope s_is_text) (by decide +kernel)) (fun _ _ _ _ _ => (pg_name (i := 2) sc_is_text.nd rfl (Or.inl rfl))) (fun _ _ _ _ _ => pts_nil) (fun _ _ _ _ _ => (pe_cmpR op_in_sign (pv 2) (pglobS (by rfl) B.g_LETTERS) (by rfl)))) pa_nil))))))), ?_⟩
    rcases h with ⟨r, n, rfl, hl, q⟩ | ⟨x, t, n, rfl, ty, k, q⟩
    · refine ⟨tv r, rfl, tv r, .ty "str", .type "str", _, true, rfl, .ty "str", .base (.str _), kit_ty (by decide +kernel), true, rfl, iteT ?_⟩
      refine ⟨tv r, rfl, tx r, rfl, by rw [tx_len]; exact hl, 1, _, rfl, rfl, _, rfl, ?_⟩
      rw [tx_len]
      by_cases h1 : (1 : Int) ≤ (r.length : Int)
      · rw [decide_eq_true h1]
        refine iteT ⟨.int n, rfl, _, n, rfl, rfl, _, rfl, ?_⟩
        by_cases h2 : (r.length : Int) ≤ n
        · rw [decide_eq_true h2]
          refine iteT ⟨tv r, rfl, tx r, rfl, lc_val walk_str (by show (tx r).length ≤ _; rw [tx_len]; exact hl) (fun i => .bl (letB (r.getD i 0))) (fun _ _ => trivial) (fun D' i x H1 H2 Qe nD hi sm hy y qe => ?_) fun D' H1 nD sm hD => ?_⟩
          · obtain ⟨rfl, c, hc, rfl⟩ := y
            refine ⟨rfl, .str ⟨#[c]⟩, rfl, c, lettersS, rfl, rfl, ?_⟩
            have e : r.getD i 0 = c := getD_of (by rw [← hc]; show r[i]? = r.toArray[i]?; simp)
            have q2 := qe H2 (Same.refl _)
            rw [e] at q2
            rw [mem_letters]
            exact q2
          · refine ⟨D', r.map letB, rfl, .inl (.inl ?_), ?_⟩
            · rw [hD]
              congr 2
              rw [List.map_map]
              have e2 : (tx r).cps.size = r.length := tx_len r
              rw [e2]
              exact range_map_get (V.bl ∘ letB) r _ fun i x hx => by rw [getD_of hx]; rfl
            · have q2 := q H1 sm
              unfold isTextB at q2
              rw [decide_eq_true h1, decide_eq_true h2, Bool.true_and, Bool.true_and] at q2
              have e3 : (r.map letB).all id = r.all letB := by rw [List.all_map]; rfl
              rw [e3]
              exact q2
        · rw [decide_eq_false h2]
          refine iteF ?_
          have q2 := q H (Same.refl _)
          unfold isTextB at q2
          rw [decide_eq_true h1, decide_eq_false h2] at q2
          exact q2
      · rw [decide_eq_false h1]
        refine iteF ⟨_, rfl, iteF ?_⟩
        have q2 := q H (Same.refl _)
        unfold isTextB at q2
        rw [decide_eq_false h1] at q2
        exact q2
    · exact ⟨x, rfl, x, .ty "str", t, _, false, rfl, .ty "str", ty, k, false, rfl, iteF q⟩
end
end Sk
namespace Sk
open PySem PySem.Spec PyProof.Rows L2 Sn
/-- what is read first of a field: its first row -/
theorem FieldAt.row0 {K : PySem.W.Frag} {H : Hp} {a : Addr} {F : List (List Nat)} {h w : Nat} (o : FieldAt K H a F h w) : atI (F.map tv) 0 = some (tv (F.getD 0 [])) := atI_nat (j := 0) (o.row (by have := o.2.h1; omega)).1
theorem FieldAt.len0 {K : PySem.W.Frag} {H : Hp} {a : Addr} {F : List (List Nat)} {h w : Nat} (o : FieldAt K H a F h w) : (tx (F.getD 0 [])).length = w := by rw [tx_len]; exact (o.row (by have := o.2.h1; omega)).2
theorem FieldAt.w_line {K : PySem.W.Frag} {H : Hp} {a : Addr} {F : List (List Nat)} {h w : Nat} (o : FieldAt K H a F h w) : w ≤ sizeLine := small_line (by have := o.2.w5; omega)
theorem FieldAt.len_map {K : PySem.W.Frag} {H : Hp} {a : Addr} {F : List (List Nat)} {h w : Nat} (o : FieldAt K H a F h w) : (F.map tv).length = h := by rw [List.length_map]; exact o.2.high
theorem FieldAt.line {K : PySem.W.Frag} {H : Hp} {a : Addr} {F : List (List Nat)} {h w : Nat} (o : FieldAt K H a F h w) : (F.map tv).length ≤ sizeLine := by rw [o.len_map]; exact small_line (by have := o.2.h5; omega)
theorem FieldAt.item {K : PySem.W.Frag} {H : Hp} {a : Addr} {F : List (List Nat)} {h w : Nat} (o : FieldAt K H a F h w) {i : Nat} {x : V} (hx : (F.map tv)[i]? = some x) : ∃ r ∈ F, x = tv r := by
  rw [List.getElem?_map] at hx
  cases e : F[i]? with
  | none => rw [e] at hx; cases hx
  | some r => rw [e] at hx; exact ⟨r, List.mem_of_getElem? e, (Option.some.inj hx).symm⟩
theorem tyx_list {K : PySem.W.Frag} {H : Hp} {a : Addr} {xs : List V} (h : SqL K H a xs) : TyX K H (.ref a) (.type "list") := by
  rcases h with (h | ⟨o, h⟩) | ⟨o, _, _, hk, hc, _⟩
  · exact .base (.lst h)
  · exact .base (.frz h)
  · exact .kList hk hc
theorem tyx_tup {K : PySem.W.Frag} {H : Hp} {a : Addr} {xs : List V} (h : SqT K H a xs) : TyX K H (.ref a) (.type "tuple") := by
  rcases h with (h | ⟨o, h⟩) | ⟨o, _, _, hk, hc, _⟩
  · exact .base (.tup h)
  · exact .fTuple h
  · exact .kTuple hk hc
theorem all_const : ∀ n : Nat, (((List.range n).map fun _ => true).all id) = true := fun n => by rw [List.all_eq_true]; intro b hb; obtain ⟨_, _, rfl⟩ := List.mem_map.mp hb; rfl
theorem any_const : ∀ n : Nat, (((List.range n).map fun _ => false).any id) = false := fun n => by rw [List.any_eq_false]; intro b hb; obtain ⟨_, _, rfl⟩ := List.mem_map.mp hb; decide
section
variable {P : Program} {w : World} {K : PySem.W.Frag} {mg : Str → Option Value} {base : Heap}
theorem ok_check_field (D : Dfn K mg "check_field" s_check_field) (B : Bi mg) (c_is_text : Cal P w K mg base CX0 1 "is_text" ["thing", "most"] (spIsText K)) : Cal P w K mg base CX0 2 "check_field" ["field"] (spCheckField K) := by
  refine D.cal sc_check_field bn_check_field (fun vs H Q E h => ?_) (fun f cdv A outer s H vs Q E hr h => ?_)
  · obtain ⟨a, F, h, w, rfl, _⟩ := h
    rfl
  · obtain ⟨a, F, h, w, rfl, o, q⟩ := h
    refine ⟨_, (pss_cons (ps_if (PW.pt (pw_or (pt_not (pt_val (pe_callB (isiK K) (by rfl) B.isinstance (by decide +kernel) (pa_cons (pv 0) (pa_cons (pe_bltn (v := .ty "list") (by rfl) B.list (by decide +kernel) rfl) pa_nil))))) (pw_or1 (pt_not (pt_chain op_le op_le pe_int (pe_callB (lenSq K) (by rfl) B.len PySem.boot_len (pa_cons (pv 0) pa_nil)) (pglobI (by rfl) B.g_WIDEST))))))
 (pss_one ps_never) pss_nil)
 (pss_one (ps_if (PW.pt (pw_or (pt_not (pt_val (pe_callB (allK K rfl) (by rfl) B.all (by decide +kernel) (pa_cons (pe_lc (own := [("row", 1)]) (g := gName 1) (tt := tYes) (by rfl) sc_check_field.nd (piL K (pv 0)) (blkOk_by (own := [("row", 1)]) (N := ["field", "row"]) (sc := defScope s_check_field) (by decide +kernel)) (fun _ _ _ _ _ => (pg_name (i := 1) sc_check_field.nd rfl (Or.inl rfl))) (fun _ _ _ _ _ => pts_nil) (fun _ _ _ _ _ => (pcall c_is_text (hr.mono (by omega)) (by rfl) pass0 (pa_cons (pv 1) (pa_cons (pglobI (by rfl) B.g_WIDEST) pa_nil))))) pa_nil)))) (pw_or1 (pt_val (pe_callB (anyK K rfl) (by rfl) B.any (by decide +kernel) (pa_cons (pe_lc (own := [("row", 1)]) (g := gName 1) (tt := tYes) (by rfl) sc_check_field.nd (piL K (pv 0)) (blkOk_by (own := [("row", 1)]) (N := ["field", "row"]) (sc := defScope s_check_field) (by decide +kernel)) (fun _ _ _ _ _ => (pg_name (i := 1) sc_check_field.nd rfl (Or.inl rfl))) (fun _ _ _ _ _ => pts_nil) (fun _ _ _ _ _ => (pe_cmpR op_ne (pe_callB call_len_str (by rfl) B.len PySem.boot_len (pa_cons (pv 1) pa_nil)) (pe_callB call_len_str (by rfl) B.len PySem.boot_len (pa_cons (pe_ix (ixL K) (pv 0) pe_int (fun _ _ => rfl)) pa_nil)) (nomark _)))) pa_nil))))))
 (pss_one ps_never) pss_nil))), ?_⟩
    have e1 := o.2.h1
    have e5 := o.2.h5
    refine ⟨.ref a, rfl, .ref a, .ty "list", .type "list", _, true, rfl, .ty "list", tyx_list o.1, kit_ty (by decide +kernel), true, rfl, iteF ?_⟩
    refine ⟨.ref a, rfl, a, _, rfl, .inl o.1, 1, _, rfl, rfl, true, ?_, iteT ⟨_, 5, rfl, rfl, true, ?_, iteF ?_⟩⟩
    · rw [o.len_map]; exact congrArg V.bl (decide_eq_true (by omega))
    · rw [o.len_map]; exact congrArg V.bl (decide_eq_true (by omega))
    refine ⟨.ref a, rfl, a, rfl, ⟨_, o.1⟩, lc_val (walk_list (xs := F.map tv)) o.line (fun _ => .bl true) (fun H1 s1 => s1.seq o.1) (fun D' i x H1 H2 Qe nD hi sm hy y qe => ?_) fun D' H1 nD sm hD => ?_⟩
    · obtain ⟨rfl, hx⟩ := y
      obtain ⟨r, hr, rfl⟩ := o.item hx
      have hw := o.2.wide r hr
      have w1 := o.2.w1
      have w5 := o.2.w5
      refine ⟨rfl, tv r, rfl, .inl ⟨r, 5, rfl, small_line (by omega), fun H' s' => ?_⟩⟩
      have e : isTextB r 5 = true := by
        unfold isTextB
        rw [decide_eq_true (by omega), decide_eq_true (by omega), List.all_eq_true.mpr fun c hc => letB_letter.mpr (o.2.let_ r hr c hc)]
        rfl
      rw [e]
      exact qe H' s'
    · refine ⟨D', (List.range (F.map tv).length).map fun _ => true, rfl, .inl (.inl ?_), true, ?_, iteF ?_⟩
      · rw [hD, List.map_map]; rfl
      · rw [all_const]
      have o1 := o.same sm
      refine ⟨.ref a, rfl, a, rfl, ⟨_, o1.1⟩, lc_val (walk_list (xs := F.map tv)) o1.line (fun _ => .bl false) (fun H1 s1 => s1.seq o1.1) (fun D2 i x H3 H2 Qe nD hi sm hy y qe => ?_) fun D2 H3 nD sm2 hD => ?_⟩
      · obtain ⟨rfl, hx⟩ := y
        obtain ⟨r, hr, rfl⟩ := o.item hx
        have hw := o.2.wide r hr
        have o2 := o1.same sm
        refine ⟨rfl, tv r, rfl, tx r, rfl, by rw [tx_len, hw]; exact o.w_line, .ref a, rfl, a, _, 0, _, rfl, rfl, o2.1, o.row0, tx (F.getD 0 []), rfl, by rw [o.len0]; exact o.w_line, rfl, ?_⟩
        rw [o.len0, tx_len, hw, decide_eq_true rfl]
        exact qe _ (Same.refl _)
      · refine ⟨D2, (List.range (F.map tv).length).map fun _ => false, rfl, .inl (.inl ?_), false, ?_, iteF ?_⟩
        · rw [hD, List.map_map]; rfl
        · rw [any_const]
        exact q H3 (sm.trans sm2)
theorem ok_is_cell (D : Dfn K mg "is_cell" s_is_cell) (B : Bi mg) (c_is_whole : Cal P w K mg base CX0 1 "is_whole" ["thing"] (spIsWhole K)) : Cal P w K mg base CX0 2 "is_cell" ["field", "thing"] (spIsCell K) := by
  refine D.cal sc_is_cell bn_is_cell (fun vs H Q E h => ?_) (fun f cdv A outer s H vs Q E hr h => ?_)
  · obtain ⟨a, F, h, w, v, c, rfl, _⟩ := h
    rfl
  · obtain ⟨a, F, h, w, v, c, rfl, o, ⟨t, rfl, ht⟩, q⟩ := h
    refine ⟨_, (pss_cons (ps_if (PW.pt (pw_or (pt_not (pt_val (pe_callB (isiK K) (by rfl) B.isinstance (by decide +kernel) (pa_cons (pv 1) (pa_cons (pe_bltn (v := .ty "tuple") (by rfl) B.tuple (by decide +kernel) rfl) pa_nil))))) (pw_or (pt_cmpR op_ne (pe_callB (lenSq K) (by rfl) B.len PySem.boot_len (pa_cons (pv 1) pa_nil)) pe_int (nomark _)) (pw_or1 (pt_not (pt_val (pe_callB (allK K rfl) (by rfl) B.all (by decide +kernel) (pa_cons (pe_lc (own := [("one", 2)]) (g := gName 2) (tt := tYes) (by rfl) sc_is_cell.nd (piT K (pv 1)) (blkOk_by (own := [("one", 2)]) (N := ["field", "thing", "one"]) (sc := defScope s_is_cell) (by decide +kernel)) (fun _ _ _ _ _ => (pg_name (i := 2) sc_is_cell.nd rfl (Or.inl rfl))) (fun _ _ _ _ _ => pts_nil) (fun _ _ _ _ _ => (pcall c_is_whole (hr.mono (by omega)) (by rfl) pass0 (pa_cons (pv 2) pa_nil)))) pa_nil))))))))
 (pss_one (ps_ret pe_bl)) pss_nil)
 (pss_one (ps_ret (pe_and (pe_chain op_le op_lt pe_int (pe_ix (ixT K) (pv 1) pe_int (fun _ _ => rfl)) (pe_callB (lenSq K) (by rfl) B.len PySem.boot_len (pa_cons (pv 0) pa_nil))) (pe_one (pe_chain op_le op_lt pe_int (pe_ix (ixT K) (pv 1) pe_int (fun _ _ => rfl)) (pe_callB call_len_str (by rfl) B.len PySem.boot_len (pa_cons (pe_ix (ixL K) (pv 0) pe_int (fun _ _ => rfl)) pa_nil)))))))), ?_⟩
    refine ⟨.ref t, rfl, .ref t, .ty "tuple", .type "tuple", _, true, rfl, .ty "tuple", tyx_tup ht, kit_ty (by decide +kernel), true, rfl, iteF ?_⟩
    refine ⟨.ref t, rfl, t, _, rfl, .inr ht, rfl, false, rfl, iteF ?_⟩
    refine ⟨.ref t, rfl, t, rfl, ⟨_, ht⟩, lc_val (walk_tup (xs := [.int c.1, .int c.2])) (small_line (by show 2 ≤ 1000000; decide)) (fun _ => .bl true) (fun H1 s1 => Same.sqt s1 ht) (fun D' i x H1 H2 Qe nD hi sm hy y qe => ?_) fun D' H1 nD sm hD => ?_⟩
    · obtain ⟨rfl, hx⟩ := y
      have hx2 : ∃ n : Int, x = .int n := by
        match i, hi with
        | 0, _ => exact ⟨c.1, (Option.some.inj hx).symm⟩
        | 1, _ => exact ⟨c.2, (Option.some.inj hx).symm⟩
      obtain ⟨n, rfl⟩ := hx2
      exact ⟨rfl, .int n, rfl, isWhole_int (E := E0) n (qe _ (Same.refl _))⟩
    · refine ⟨D', [true, true], rfl, .inl (.inl hD), true, rfl, iteF ?_⟩
      have o1 := o.same sm
      have ht1 := Same.sqt sm ht
      have q1 := q H1 sm
      unfold inB at q1
      refine ⟨.ref t, rfl, t, _, 0, .int c.1, rfl, rfl, ht1, atI_nat (j := 0) rfl, 0, c.1, rfl, rfl, _, rfl, ?_⟩
      by_cases h1 : (0 : Int) ≤ c.1
      · rw [decide_eq_true h1] at q1 ⊢
        refine iteT ⟨.ref a, rfl, a, _, rfl, .inl o1.1, _, _, rfl, rfl, _, rfl, ?_⟩
        rw [o.len_map]
        by_cases h2 : c.1 < (h : Int)
        · rw [decide_eq_true h2] at q1 ⊢
          refine iteT ⟨.ref t, rfl, t, _, 1, .int c.2, rfl, rfl, ht1, atI_nat (j := 1) rfl, 0, c.2, rfl, rfl, _, rfl, ?_⟩
          by_cases h3 : (0 : Int) ≤ c.2
          · rw [decide_eq_true h3] at q1 ⊢
            refine iteT ⟨.ref a, rfl, a, _, 0, _, rfl, rfl, o1.1, o.row0, tx (F.getD 0 []), rfl, by rw [o.len0]; exact o.w_line, _, _, rfl, rfl, ?_⟩
            rw [o.len0]
            exact q1
          · rw [decide_eq_false h3] at q1 ⊢
            exact iteF q1
        · rw [decide_eq_false h2] at q1 ⊢
          exact iteF q1
      · rw [decide_eq_false h1] at q1 ⊢
        exact iteF ⟨_, rfl, iteF q1⟩
end
end Sk
namespace Sk
open PySem PySem.Spec PyProof.Rows L2 Sn
theorem loN_bd {h : Nat} {x : Int} (h0 : 0 ≤ x) (h1 : x < h) (h5 : h ≤ 5) : 0 ≤ loN x ∧ loN x ≤ 5 ∧ 0 ≤ hiN h x ∧ hiN h x ≤ 5 := by
  unfold loN hiN
  refine ⟨?_, ?_, ?_, ?_⟩ <;> split <;> omega
theorem nearRow_upto (w : Nat) (c : Cel) (row : Int) : nearRow w c row = ((rng (loN c.2) (hiN w c.2 - loN c.2).toNat).filter fun p => !decide ((row, p) = c)).map fun p => (row, p) := rfl
theorem flat_len_le {α β : Type} (f : α → List β) (m : Nat) (h : ∀ a, (f a).length ≤ m) : ∀ l : List α, (l.flatMap f).length ≤ l.length * m
  | [] => by simp
  | a :: l => by
    rw [List.flatMap_cons, List.length_append, List.length_cons, Nat.succ_mul]
    have := flat_len_le f m h l
    have := h a
    omega
section
variable {P : Program} {w : World} {K : PySem.W.Frag} {mg : Str → Option Value} {base : Heap}
theorem ok_near_of (D : Dfn K mg "near_of" s_near_of) (B : Bi mg) : Cal P w K mg base CX0 1 "near_of" ["field", "cell"] (spNear K) := by
  refine D.cal sc_near_of bn_near_of (fun vs H Q E h => ?_) (fun f cdv A outer s H vs Q E hr h => ?_)
  · obtain ⟨a, F, h, w, v, c, rfl, _⟩ := h
    rfl
  · obtain ⟨a, F, h, w, v, c, rfl, o, ⟨t, rfl, ht⟩, hc, q⟩ := h
    refine ⟨_, (pss_cons (ps_set (i := 2) sc_near_of.nd rfl (.inl rfl) (pe_lst pa_nil))
 (pss_cons (ps_for PassesOwn.never rfl (pi_range2 (by rfl) B.range (pa_cons (pe_callB (call_max2 rfl) (by rfl) B.max (by decide +kernel) (pa_cons pe_int (pa_cons (pe_op op_sub (pe_ix (ixT K) (pv 1) pe_int (fun _ _ => rfl)) pe_int) pa_nil))) (pa_cons (pe_callB (call_min2 rfl) (by rfl) B.min (by decide +kernel) (pa_cons (pe_callB (lenSq K) (by rfl) B.len PySem.boot_len (pa_cons (pv 0) pa_nil)) (pa_cons (pe_op op_add (pe_ix (ixT K) (pv 1) pe_int (fun _ _ => rfl)) pe_int) pa_nil))) pa_nil))) (pg_name (i := 3) sc_near_of.nd rfl (.inl rfl))
 (pss_one (ps_for PassesOwn.never rfl (pi_range2 (by rfl) B.range (pa_cons (pe_callB (call_max2 rfl) (by rfl) B.max (by decide +kernel) (pa_cons pe_int (pa_cons (pe_op op_sub (pe_ix (ixT K) (pv 1) pe_int (fun _ _ => rfl)) pe_int) pa_nil))) (pa_cons (pe_callB (call_min2 rfl) (by rfl) B.min (by decide +kernel) (pa_cons (pe_callB call_len_str (by rfl) B.len PySem.boot_len (pa_cons (pe_ix (ixL K) (pv 0) pe_int (fun _ _ => rfl)) pa_nil)) (pa_cons (pe_op op_add (pe_ix (ixT K) (pv 1) pe_int (fun _ _ => rfl)) pe_int) pa_nil))) pa_nil))) (pg_name (i := 4) sc_near_of.nd rfl (.inl rfl))
 (pss_one (ps_if (pt_cmpR (neDK K hr.units) (pe_tup (pa_cons (pv 3) (pa_cons (pv 4) pa_nil))) (pv 1) (nomark _))
 (pss_one (ps_expr (pe_bm PySem.F.plainAttrs_list PySem.F.slot_list_append PySem.F.type_list_append mt_append (pv 2) (pa_cons (pe_tup (pa_cons (pv 3) (pa_cons (pv 4) pa_nil))) pa_nil)))) pss_nil)))))
 (pss_one (ps_ret (pv 2))))), ?_⟩
    obtain ⟨⟨a1, a2⟩, a3, a4⟩ := mem_cellsL.mp hc
    obtain ⟨b1, b2, b3, b4⟩ := loN_bd a1 a2 o.2.h5
    obtain ⟨d1, d2, d3, d4⟩ := loN_bd a3 a4 o.2.w5
    refine ⟨Nat.zero_le _, fun p np => ?_⟩
    have s1 : Same H (upd H p (.lst [])) := same_new np
    have o1 := o.same s1
    have ht1 := Same.sqt s1 ht
    refine ⟨.ref t, rfl, t, _, 0, .int c.1, rfl, rfl, ht1, atI_nat (j := 0) rfl, _, 1, rfl, rfl, 0, _, rfl, .ref a, rfl, a, _, rfl, .inl o1.1, .ref t, rfl, t, _, 0, .int c.1, rfl, rfl, ht1, atI_nat (j := 0) rfl, _, 2, rfl, rfl, _, _, rfl, loN c.1, hiN h c.1, ?_, ⟨by omega, by omega, by omega, by omega⟩, ?_⟩
    · rw [o.len_map]; rfl
    refine for_it walk_range (fun i σ H' => ∃ y3 y4 ys, σ = [some (.ref a), some (.ref t), some (.ref p), y3, y4] ∧ Same H H' ∧ H' p = some (.lst ys) ∧ Cells K H' ys ((rng (loN c.1) i).flatMap (nearRow w c)))
      ⟨none, none, [], rfl, s1, upd_same, .nil⟩ (fun _ _ _ _ _ => trivial) (fun i x σ H1 H2 hi pv y => ?_) fun σ H1 pv => ?_
    · obtain ⟨rfl, rfl⟩ := y
      obtain ⟨y3, y4, ys, rfl, sm, hp, hy⟩ := pv
      have o2 := o.same sm
      have ht2 := Same.sqt sm ht
      refine ⟨.ref t, rfl, t, _, 1, .int c.2, rfl, rfl, ht2, atI_nat (j := 1) rfl, _, 1, rfl, rfl, 0, _, rfl, .ref a, rfl, a, _, 0, _, rfl, rfl, o2.1, o.row0, tx (F.getD 0 []), rfl, by rw [o.len0]; exact o.w_line, .ref t, rfl, t, _, 1, .int c.2, rfl, rfl, ht2, atI_nat (j := 1) rfl, _, 2, rfl, rfl, _, _, rfl, loN c.2, hiN w c.2, ?_, ⟨by omega, by omega, by omega, by omega⟩, ?_⟩
      · rw [o.len0]; rfl
      refine for_it walk_range (fun j σ H' => ∃ y4 zs, σ = [some (.ref a), some (.ref t), some (.ref p), some (.int (loN c.1 + i)), y4] ∧ Same H H' ∧ H' p = some (.lst zs) ∧ Cells K H' zs ((rng (loN c.1) i).flatMap (nearRow w c) ++ ((rng (loN c.2) j).filter fun p => !decide ((loN c.1 + (i : Int), p) = c)).map fun p => (loN c.1 + (i : Int), p)))
        ⟨y4, ys, rfl, sm, hp, by simpa [rng] using hy⟩ (fun _ _ _ _ _ => trivial) (fun j x σ H3 H4 hj pv y => ?_) fun σ H3 pv => ?_
      · obtain ⟨rfl, rfl⟩ := y
        obtain ⟨y4, zs, rfl, sm2, hp2, hz⟩ := pv
        have hlen : zs.length < sizeLine := by
          rw [hz.length, List.length_append, List.length_map]
          have e1 := flat_len_le (nearRow w c) 5 (fun r => by
            unfold nearRow
            rw [List.length_map]
            refine Nat.le_trans (List.length_filter_le _ _) ?_
            rw [rng_length]; omega) (rng (loN c.1) i)
          have e2 := List.length_filter_le (fun p => !decide ((loN c.1 + (i : Int), p) = c)) (rng (loN c.2) j)
          rw [rng_length] at e1 e2
          exact small1000 (by omega)
        -- (row, place) != cell
        refine ⟨.int (loN c.1 + i), rfl, .int (loN c.2 + j), rfl, by show 2 ≤ sizeLine; decide, fun T nT => ?_⟩
        have sT : Same H4 (upd H4 T (.tup [.int (loN c.1 + i), .int (loN c.2 + j)])) := same_new nT
        have vT : CellV K (upd H4 T (.tup [.int (loN c.1 + i), .int (loN c.2 + j)])) (.ref T) (loN c.1 + i, loN c.2 + j) := ⟨T, rfl, SqT.of upd_same⟩
        have vc : CellV K (upd H4 T (.tup [.int (loN c.1 + i), .int (loN c.2 + j)])) (.ref t) c := ⟨t, rfl, Same.sqt (sm2.trans sT) ht⟩
        refine ⟨.ref t, rfl, _, _, vT.dp, vc.dp, (shp_cell _).ok, (shp_cell _).ok, _, rfl, ?_⟩
        rw [eqv_cell]
        by_cases hne : ((loN c.1 + (i : Int), loN c.2 + (j : Int)) : Cel) = c
        · rw [decide_eq_true hne]
          refine iteF ⟨_, zs, rfl, sm2.trans sT, sT _ _ hp2, ?_⟩
          rw [rng_succ, List.filter_append, List.filter_cons, decide_eq_true hne]
          simp only [Bool.not_true, Bool.false_eq_true, if_false, List.filter_nil, List.append_nil]
          exact hz.le (TupLe.of sT)
        · rw [decide_eq_false hne]
          refine iteT ⟨.ref p, rfl, .inl ⟨rfl, _, SqL.of (sT _ _ hp2)⟩, .int (loN c.1 + i), rfl, .int (loN c.2 + j), rfl, by show 2 ≤ sizeLine; decide, fun U nU => ?_⟩
          have sU := same_new (o := .tup [.int (loN c.1 + i), .int (loN c.2 + j)]) nU
          have hpU := sU _ _ (sT _ _ hp2)
          refine ⟨p, zs, .ref U, rfl, rfl, hpU, hlen, _, _, rfl, same_upd (sm2.trans (sT.trans sU)) np, upd_same, ?_⟩
          rw [rng_succ, List.filter_append, List.filter_cons, decide_eq_false hne]
          simp only [Bool.not_false, if_true, List.filter_nil, List.map_append, List.map_cons, List.map_nil]
          rw [← List.append_assoc]
          refine Paired.snoc ((hz.le (TupLe.of (sT.trans sU))).le (TupLe.upd hpU (TupLe.refl _))) ⟨U, rfl, (TupLe.upd hpU (TupLe.refl _)).sqt (SqT.of upd_same)⟩
      · obtain ⟨y4, zs, rfl, sm2, hp2, hz⟩ := pv
        refine ⟨_, y4, zs, rfl, sm2, hp2, ?_⟩
        rw [rng_succ, List.flatMap_append, List.flatMap_cons, List.flatMap_nil, List.append_nil]
        exact hz
    · obtain ⟨y3, y4, ys, rfl, sm, hp, hy⟩ := pv
      exact ⟨.ref p, rfl, q H1 p ys sm np hp hy⟩
theorem ok_near (D : Dfn K mg "near" s_near) (B : Bi mg) (c_check_field : Cal P w K mg base CX0 2 "check_field" ["field"] (spCheckField K)) (c_is_cell : Cal P w K mg base CX0 2 "is_cell" ["field", "thing"] (spIsCell K)) (c_near_of : Cal P w K mg base CX0 1 "near_of" ["field", "cell"] (spNear K)) :
    Cal P w K mg base CX0 3 "near" ["field", "cell"] (spNear K) := by
  refine D.cal sc_near bn_near (fun vs H Q E h => ?_) (fun f cdv A outer s H vs Q E hr h => ?_)
  · obtain ⟨a, F, h, w, v, c, rfl, _⟩ := h
    rfl
  · obtain ⟨a, F, h, w, v, c, rfl, o, hv, hc, q⟩ := h
    refine ⟨_, (pss_cons (ps_expr (pcall c_check_field (hr.mono (by omega)) (by rfl) pass0 (pa_cons (pv 0) pa_nil)))
 (pss_cons (ps_if (pt_not (pt_val (pcall c_is_cell (hr.mono (by omega)) (by rfl) pass0 (pa_cons (pv 0) (pa_cons (pv 1) pa_nil)))))
 (pss_one ps_never) pss_nil)
 (pss_one (ps_ret (pcall c_near_of (hr.mono (by omega)) (by rfl) pass0 (pa_cons (pv 0) (pa_cons (pv 1) pa_nil))))))), ?_⟩
    refine ⟨.ref a, rfl, a, F, h, w, rfl, o, fun H1 s1 => ?_⟩
    refine ⟨.ref a, rfl, v, rfl, a, F, h, w, v, c, rfl, o.same s1, hv.le (TupLe.of s1), fun H2 s2 => ?_⟩
    refine ⟨true, by rw [inB_mem.mpr hc], iteF ?_⟩
    have s3 := s1.trans s2
    exact ⟨.ref a, rfl, v, rfl, a, F, h, w, v, c, rfl, o.same s3, hv.le (TupLe.of s3), hc, fun H' p ys s4 np hp hy => q H' p ys (s3.trans s4) (s3.free np) hp hy⟩
theorem ok_turned (D : Dfn K mg "turned" s_turned) (B : Bi mg) (c_check_field : Cal P w K mg base CX0 2 "check_field" ["field"] (spCheckField K)) : Cal P w K mg base CX0 3 "turned" ["field"] (spTurned K) := by
  refine D.cal sc_turned bn_turned (fun vs H Q E h => ?_) (fun f cdv A outer s H vs Q E hr h => ?_)
  · obtain ⟨a, F, h, w, rfl, _⟩ := h
    rfl
  · obtain ⟨a, F, h, w, rfl, o, q⟩ := h
    refine ⟨_, (pss_cons (ps_expr (pcall c_check_field (hr.mono (by omega)) (by rfl) pass0 (pa_cons (pv 0) pa_nil)))
 (pss_one (ps_ret (pe_lc (own := [("place", 2)]) (g := gName 2) (tt := tYes) (by rfl) sc_turned.nd (pi_range1 (by rfl) B.range (pa_cons (pe_callB call_len_str (by rfl) B.len PySem.boot_len (pa_cons (pe_ix (ixL K) (pv 0) pe_int (fun _ _ => rfl)) pa_nil)) pa_nil)) (blkOk_by (own := [("place", 2)]) (N := ["field", "row", "place"]) (sc := defScope s_turned) (by decide +kernel)) (fun _ _ _ _ _ => (pg_name (i := 2) sc_turned.nd rfl (Or.inr rfl))) (fun _ _ _ _ _ => pts_nil) (fun _ _ _ _ _ => (joinK K pe_str (pe_lc (own := [("row", 1)]) (g := gName 1) (tt := tYes) (by rfl) sc_turned.nd (piL K (revL K (pv 0))) (blkOk_by (own := [("row", 1)]) (N := ["field", "row", "place"]) (sc := relS _ (defScope s_turned)) (by decide +kernel)) (fun _ _ _ _ _ => (pg_name (i := 1) sc_turned.nd rfl (Or.inl rfl))) (fun _ _ _ _ _ => pts_nil) (fun _ _ _ _ _ => (pe_ix ix_str (pv 1) (pv 2) (fun _ _ => rfl)))))))))), ?_⟩
    refine ⟨.ref a, rfl, a, F, h, w, rfl, o, fun H1 s1 => ?_⟩
    have o1 := o.same s1
    have w5 := o.2.w5
    refine ⟨.ref a, rfl, a, _, 0, _, rfl, rfl, o1.1, o.row0, tx (F.getD 0 []), rfl, by rw [o.len0]; exact o.w_line, w, by rw [o.len0], by omega, by omega, ?_⟩
    rw [Int.toNat_natCast]
    refine lc_val walk_range o.w_line (fun p => tv (col F p)) (fun _ _ => trivial) (fun D' i x H2 H3 Qe nD hi sm hy y qe => ?_) fun D' H2 nD sm hD => ?_
    · obtain ⟨rfl, rfl⟩ := y
      have o2 := o1.same sm
      refine ⟨rfl, ⟨_, rfl⟩, .ref a, rfl, a, _, rfl, o2.1, fun R nR => ⟨R, rfl, ⟨_, SqL.of upd_same⟩, ?_⟩⟩
      have sR := same_new (o := .lst (F.map tv).reverse) nR
      refine lc_val (walk_list (xs := (F.map tv).reverse)) (by rw [List.length_reverse]; exact o.line) (fun j => tv [(F.reverse.getD j []).getD i 0]) (fun H5 s5 => s5.seq (SqL.of upd_same)) (fun D2 j x H5 H6 Qf nD2 hj sm5 hy5 y qf => ?_) fun D2 H5 nD2 sm5 hD2 => ?_
      · obtain ⟨rfl, hx⟩ := y
        rw [← List.map_reverse, List.getElem?_map] at hx
        have hj2 : j < F.reverse.length := by rw [List.length_reverse]; simpa using hj
        rw [List.getElem?_eq_getElem hj2] at hx
        have ex : x = tv F.reverse[j] := (Option.some.inj hx).symm
        subst ex
        have hm : F.reverse[j] ∈ F := List.mem_reverse.mp (List.getElem_mem hj2)
        have hl : i < F.reverse[j].length := by rw [o.2.wide _ hm]; exact hi
        refine ⟨rfl, tv F.reverse[j], rfl, .int (0 + i), rfl, tx F.reverse[j], _, F.reverse[j][i], rfl, rfl, by rw [tx_len, o.2.wide _ hm]; exact o.w_line, ?_, ?_⟩
        · rw [tx_cps]
          exact atN_of (by omega) (List.getElem?_eq_getElem hl)
        · have z := qf H6 (Same.refl _)
          rw [getD_of (List.getElem?_eq_getElem hj2), getD_of (List.getElem?_eq_getElem hl)] at z
          exact z
      · refine ⟨tx [], D2, (col F i).map fun c => ⟨#[c]⟩, rfl, rfl, .inl (.inl (.inl ?_)), ?_, ?_⟩
        · rw [hD2, List.map_map]
          unfold col
          rw [List.map_map]
          have e : (F.map tv).reverse.length = F.reverse.length := by simp
          rw [e]
          congr 2
          exact range_map_get _ F.reverse _ fun j r hr => by rw [getD_of hr]; rfl
        · rw [List.map_map, sum_ones, List.length_map]; have h5 := o.2.h5; have e5 : (col F i).length = h := by simp [col, o.2.high]
          rw [e5]; show h + h * 0 ≤ _; omega
        · rw [join_signs]
          exact qe H5 ((sR.trans sm5))
    · exact q H2 D' (s1.trans sm) (s1.free nD) (by rw [hD]; congr 2; unfold turnedL; rw [List.map_map]; rfl)
theorem ok_mirrored (D : Dfn K mg "mirrored" s_mirrored) (B : Bi mg) (c_check_field : Cal P w K mg base CX0 2 "check_field" ["field"] (spCheckField K)) : Cal P w K mg base CX0 3 "mirrored" ["field"] (spMirrored K) := by
  refine D.cal sc_mirrored bn_mirrored (fun vs H Q E h => ?_) (fun f cdv A outer s H vs Q E hr h => ?_)
  · obtain ⟨a, F, h, w, rfl, _⟩ := h
    rfl
  · obtain ⟨a, F, h, w, rfl, o, q⟩ := h
    refine ⟨_, (pss_cons (ps_expr (pcall c_check_field (hr.mono (by omega)) (by rfl) pass0 (pa_cons (pv 0) pa_nil)))
 (pss_one (ps_ret (pe_lc (own := [("row", 1)]) (g := gName 1) (tt := tYes) (by rfl) sc_mirrored.nd (piL K (pv 0)) (blkOk_by (own := [("row", 1)]) (N := ["field", "row"]) (sc := defScope s_mirrored) (by decide +kernel)) (fun _ _ _ _ _ => (pg_name (i := 1) sc_mirrored.nd rfl (Or.inl rfl))) (fun _ _ _ _ _ => pts_nil) (fun _ _ _ _ _ => (pe_revS (pv 1))))))), ?_⟩
    refine ⟨.ref a, rfl, a, F, h, w, rfl, o, fun H1 s1 => ?_⟩
    have o1 := o.same s1
    refine ⟨.ref a, rfl, a, rfl, ⟨_, o1.1⟩, lc_val (walk_list (xs := F.map tv)) o.line (fun i => tv (F.getD i []).reverse) (fun H2 s2 => s2.seq o1.1) (fun D' i x H2 H3 Qe nD hi sm hy y qe => ?_) fun D' H2 nD sm hD => ?_⟩
    · obtain ⟨rfl, hx⟩ := y
      rw [List.getElem?_map] at hx
      have hi2 : i < F.length := by simpa using hi
      rw [List.getElem?_eq_getElem hi2] at hx
      have ex : x = tv F[i] := (Option.some.inj hx).symm
      subst ex
      refine ⟨rfl, tv F[i], rfl, tx F[i], rfl, by rw [tx_len, o.2.wide _ (List.getElem_mem hi2)]; exact o.w_line, ?_⟩
      rw [revS_tx]
      have z := qe H3 (Same.refl _)
      rw [getD_of (List.getElem?_eq_getElem hi2)] at z
      exact z
    · refine q H2 D' (s1.trans sm) (s1.free nD) ?_
      rw [hD]
      congr 2
      unfold mirroredL
      rw [List.map_map]
      have e : (F.map tv).length = F.length := by simp
      rw [e]
      exact range_map_get _ F _ fun j r hr => by rw [getD_of hr]; rfl
end
end Sk
namespace Sk
open PySem PySem.Spec PyProof.Rows L2 Sn
section
variable {P : Program} {w : World} {K : PySem.W.Frag} {mg : Str → Option Value} {base : Heap}
theorem ok_law_cell_at (D : Dfn K mg "_law_cell_at" s__law_cell_at) (B : Bi mg) : Cal P w K mg base CX0 1 "_law_cell_at" ["_law_script", "_law_k"] (spCellAt K) := by
  refine D.cal sc__law_cell_at bn__law_cell_at (fun vs H Q E h => ?_) (fun f cdv A outer s H vs Q E hr h => ?_)
  · obtain ⟨a, ns, k, n, rfl, _⟩ := h
    rfl
  · obtain ⟨a, ns, k, n, rfl, hs, hk, hb, q⟩ := h
    refine ⟨_, (pss_cons (ps_if (pt_cmpR op_lt (pv 1) (pe_callB (lenSq K) (by rfl) B.len PySem.boot_len (pa_cons (pv 0) pa_nil)) (nomark _))
 (pss_one (ps_ret (pe_ix (ixL K) (pv 0) (pv 1) (fun _ _ => rfl)))) pss_nil)
 (pss_one (ps_ret pe_int))), ?_⟩
    refine ⟨.int k, rfl, .ref a, rfl, a, _, rfl, .inl hs, _, _, rfl, rfl, _, rfl, ite2 (fun e => ?_) (fun e => ?_)⟩
    · have e1 : k < ((ns.map V.int).length : Int) := of_decide_eq_true e
      rw [List.length_map] at e1
      have hj : k.toNat < ns.length := by omega
      refine ⟨.ref a, rfl, .int k, rfl, a, _, k, .int ns[k.toNat], rfl, rfl, hs, at_of (j := k.toNat) (by omega) ?_, q _ (hb _ (List.getElem_mem hj))⟩
      rw [List.getElem?_map, List.getElem?_eq_getElem hj]; rfl
    · exact q 0 (Nat.two_pow_pos n)
theorem ok_law_draw (D : Dfn K mg "_law_draw" s__law_draw) (B : Bi mg) : Cal P w K mg base CX0 1 "_law_draw" ["_law_cell", "_law_k", "_law_most"] spDraw := by
  refine D.cal sc__law_draw bn__law_draw (fun vs H Q E h => ?_) (fun f cdv A outer s H vs Q E hr h => ?_)
  · obtain ⟨c, k, m, n, rfl, _⟩ := h
    rfl
  · obtain ⟨c, k, m, n, rfl, hc, hn, hk, hk2, hm, q⟩ := h
    refine ⟨_, (pss_cons (ps_set (i := 3) sc__law_draw.nd rfl (.inl rfl) (pe_tup (pa_cons pe_int (pa_cons pe_int (pa_cons pe_int (pa_cons pe_int (pa_cons pe_int (pa_cons pe_int (pa_cons pe_int (pa_cons pe_int (pa_cons pe_int (pa_cons pe_int (pa_cons pe_int (pa_cons pe_int (pa_cons pe_int (pa_cons pe_int (pa_cons pe_int (pa_cons pe_int pa_nil))))))))))))))))))
 (pss_one (ps_ret (pe_op op_mod (pe_op op_mod (pe_op op_add (pe_op op_mulX (pv 0) pe_int) (pe_op op_mulX (pv 1) pe_int)) (pe_ix (ixT K) (pv 3) (pe_op op_mod (pv 1) pe_int) (fun _ _ => rfl))) (pv 2))))), ?_⟩
    refine ⟨by show 16 ≤ sizeLine; decide, fun p np => ?_⟩
    obtain ⟨r, hr1, hr2⟩ := primes_at hk
    refine ⟨.int c, rfl, c, 48271, rfl, rfl, mulx_ok hc (lt30 (by decide) (by decide)) (by omega), .int k, rfl, k, 69621, rfl, rfl, small_mul (lt30 (by omega) (by omega)) (lt30 (by decide) (by decide)), _, _, rfl, rfl, .ref p, rfl, .int k, rfl, k, 16, rfl, rfl, (show (0 : Int) < 16 by decide), p, _, _, _, rfl, rfl, SqT.of upd_same, hr1, _, r, rfl, rfl, hr2, .int m, rfl, _, m, rfl, rfl, hm, ?_⟩
    exact q _ _ (Int.emod_nonneg _ (by omega)) (Int.emod_lt_of_pos _ hm) (same_new np)
end
end Sk
namespace Sk
open PySem PySem.Spec PyProof.Rows L2 Sn
section
variable {P : Program} {w : World} {K : PySem.W.Frag} {mg : Str → Option Value} {base : Heap}
/-- k08's: the rest of a lesser cell first -/
theorem ok_law_number (D : Dfn K mg "_law_number" s__law_number) (B : Bi mg) (c_law_draw : Cal P w K mg base CX0 1 "_law_draw" ["_law_cell", "_law_k", "_law_most"] spDraw) : Cal P w K mg base CX0 2 "_law_number" ["_law_cell", "_law_k", "_law_limit"] spNumber := by
  refine D.cal sc__law_number bn__law_number (fun vs H Q E h => ?_) (fun f cdv A outer s H vs Q E hr h => ?_)
  · obtain ⟨c, k, m, n, rfl, _⟩ := h
    rfl
  · obtain ⟨c, k, m, n, rfl, hc, hn, hk, hk2, hm, q⟩ := h
    refine ⟨_, (pss_cons (ps_if (pt_cmpR op_ge (pv 0) (pe_op op_pow pe_int pe_int) (nomark _))
 (pss_one (ps_ret (pe_op op_mod (pe_op op_fdiv (pe_op op_sub (pv 0) (pe_op op_pow pe_int pe_int)) (pe_ix (ixT K) (pe_tup (pa_cons pe_int (pa_cons pe_int (pa_cons pe_int (pa_cons pe_int (pa_cons pe_int pa_nil)))))) (pe_op op_mod (pv 1) pe_int) (fun _ _ => rfl))) (pv 2)))) pss_nil)
 (pss_cons (ps_set (i := 3) sc__law_number.nd rfl (.inl rfl) (pe_op op_mod (pv 0) pe_int))
 (pss_one (ps_ret (pe_op op_mod (pcall c_law_draw (hr.mono (by omega)) (by rfl) pass0 (pa_cons (pe_op op_mulX (pe_op op_add (pv 3) (pe_op op_mulX pe_int (pv 1))) (pe_op op_add (pe_op op_add (pv 3) (pe_op op_mulX pe_int (pv 1))) pe_int)) (pa_cons (pe_op op_add (pe_op op_mod (pv 1) pe_int) pe_int) (pa_cons pe_int pa_nil)))) (pv 2)))))), ?_⟩
    refine ⟨.int c, rfl, 10, 18, rfl, rfl, ⟨by decide, by decide, by decide⟩, _, _, rfl, rfl, _, rfl, ite2 (fun e => ?_) (fun e => ?_)⟩
    · obtain ⟨r, hr1, hr2, hr3⟩ := sevens_at hk
      refine ⟨.int c, rfl, 10, 18, rfl, rfl, ⟨by decide, by decide, by decide⟩, _, _, rfl, rfl, by show 5 ≤ sizeLine; decide, fun p np => ?_⟩
      refine ⟨.int k, rfl, k, 5, rfl, rfl, (show (0 : Int) < 5 by decide), p, _, _, _, rfl, rfl, SqT.of upd_same, hr1, _, r, rfl, rfl, ⟨hr2, hr3⟩, .int m, rfl, _, m, rfl, rfl, hm, ?_⟩
      exact q _ _ (Int.emod_nonneg _ (by omega)) (Int.emod_lt_of_pos _ hm) (same_new np)
    · have k9 : 0 ≤ k % 9 := Int.emod_nonneg _ (by decide)
      have k99 : k % 9 < 9 := Int.emod_lt_of_pos _ (by decide)
      refine ⟨.int c, rfl, c, 1000003, rfl, rfl, (show (0 : Int) < 1000003 by decide), ?_⟩
      obtain ⟨sm, hsm⟩ : ∃ sm : Int, sm = c % 1000003 := ⟨_, rfl⟩
      have s0 : 0 ≤ sm := by rw [hsm]; exact Int.emod_nonneg _ (by decide)
      have s1 : sm < 1000003 := by rw [hsm]; exact Int.emod_lt_of_pos _ (by decide)
      rw [show (fun i j : Int => V.int (i % j)) c 1000003 = V.int sm from congrArg V.int hsm.symm]
      have hs : sm.natAbs < 2 ^ 20 := by
        have : (2 : Nat) ^ 20 = 1048576 := by decide
        omega
      have b1 : (sm + 977 * k).natAbs < 2 ^ (20 + 21) := big_add hs (by omega)
      have b2 : (sm + 31 * k + 5).natAbs < 2 ^ (20 + 21 + 21) := big_add (big_add hs (by omega)) (by omega)
      refine ⟨.int sm, rfl, .int k, rfl, 977, k, rfl, rfl, small_mul (lt30 (by decide) (by decide)) (lt30 (by omega) (by omega)), _, _, rfl, rfl, .int sm, rfl, .int k, rfl, 31, k, rfl, rfl, small_mul (lt30 (by decide) (by decide)) (lt30 (by omega) (by omega)), _, _, rfl, rfl, _, 5, rfl, rfl, _, _, rfl, rfl, mulx_ok b1 b2 (by omega),
        .int k, rfl, k, 9, rfl, rfl, (show (0 : Int) < 9 by decide), _, 1, rfl, rfl, ?_⟩
      refine ⟨_, _, _, 20 + 21 + (20 + 21 + 21), rfl, wide_lt b1 b2, by omega, by omega, by omega, by decide, fun z H1 z0 z1 s1 => ?_⟩
      exact ⟨.int m, rfl, z, m, rfl, rfl, hm, q _ _ (Int.emod_nonneg _ (by omega)) (Int.emod_lt_of_pos _ hm) s1⟩
end
end Sk
namespace Sk
open PySem PySem.Spec PyProof.Rows L2 Sn
section
variable {P : Program} {w : World} {K : PySem.W.Frag} {mg : Str → Option Value} {base : Heap}
end
end Sk
namespace Sk
open PySem PySem.Spec PyProof.Rows L2 Sn
/-- the cells of a list, as the set rule wants them -/
theorem cells_keys {K : PySem.W.Frag} {H : Hp} : ∀ {xs : List V} {cs : List Cel}, Cells K H xs cs → ∃ ks : List (Addr × List Int), xs = ks.map (fun p => V.ref p.1) ∧ (∀ p ∈ ks, SqT K H p.1 (p.2.map V.int)) ∧ ks.map (·.2) = cs.map fun c => [c.1, c.2]
  | _, _, .nil => ⟨[], rfl, fun _ h => (nomatch h), rfl⟩
  | _, _, .cons (b := c) ⟨t, e, ht⟩ r => by
    obtain ⟨ks, h1, h2, h3⟩ := cells_keys r
    refine ⟨(t, [c.1, c.2]) :: ks, by rw [e, h1]; rfl, fun p hp => ?_, by rw [List.map_cons, h3]; rfl⟩
    rcases List.mem_cons.mp hp with rfl | hp
    · exact ht
    · exact h2 p hp
theorem keys_nodup (cs : List Cel) : decide (cs.map fun c => [c.1, c.2]).Nodup = decide cs.Nodup := by
  have e : (cs.map fun c : Cel => [c.1, c.2]).Nodup ↔ cs.Nodup := by
    unfold List.Nodup
    rw [List.pairwise_map]
    constructor
    · exact fun h => h.imp fun {a b} n z => n (by rw [z])
    · refine fun h => h.imp fun {a b} n z => n ?_
      simp only [List.cons.injEq, and_true] at z
      exact Prod.ext z.1 z.2
  by_cases h : cs.Nodup
  · rw [decide_eq_true h, decide_eq_true (e.mpr h)]
  · rw [decide_eq_false h, decide_eq_false fun z => h (e.mp z)]
theorem all_ids (n : Nat) (f : Nat → Bool) : (((List.range n).map f).all id) = (List.range n).all f := by rw [List.all_map]; rfl
theorem any_cells (cs : List Cel) (d : Cel) : ((cs.map cellD).any fun z => PyData.eqv z (cellD d)) = decide (d ∈ cs) := by
  induction cs with
  | nil => rfl
  | cons c cs ih =>
    rw [List.map_cons, List.any_cons, ih, eqv_cell]
    by_cases h : c = d
    · subst h; simp
    · rw [decide_eq_false h, Bool.false_or]
      by_cases h2 : d ∈ cs
      · rw [decide_eq_true h2, decide_eq_true (List.mem_cons_of_mem _ h2)]
      · rw [decide_eq_false h2, decide_eq_false fun z => (List.mem_cons.mp z).elim (fun e => h e.symm) h2]
theorem cut_one (xs : List V) : cutV xs (some 1) none = xs.drop 1 := by
  unfold cutV
  have e1 : HT.sIx xs.length 0 (some 1) = min 1 xs.length := HT.sIx_nat xs.length 0 1
  rw [e1, HT.sIx_none]
  cases xs with
  | nil => rfl
  | cons x r =>
    have e2 : min 1 (x :: r).length = 1 := by rw [List.length_cons]; omega
    rw [e2]
    exact List.take_of_length_le (by simp)
/-- all([f(pair) for pair in zip(cs, cs[1:])]) -/
theorem adj_range (cs : List Cel) (f : Cel → Cel → Bool) : ((List.range (min cs.length (cs.drop 1).length)).all fun i => f (cs.getD i (0, 0)) ((cs.drop 1).getD i (0, 0))) = (cs.zip (cs.drop 1)).all fun p => f p.1 p.2 := by
  have e : cs.zip (cs.drop 1) = (List.range (min cs.length (cs.drop 1).length)).map fun i => (cs.getD i (0, 0), (cs.drop 1).getD i (0, 0)) := by
    apply List.ext_getElem
    · simp
    · intro i h1 h2
      have hi : i < min cs.length (cs.drop 1).length := by simpa using h2
      have a1 : i < cs.length := by omega
      have a2 : i < (cs.drop 1).length := by omega
      rw [List.getElem_zip, List.getElem_map, List.getElem_range, getD_of (List.getElem?_eq_getElem a1), getD_of (List.getElem?_eq_getElem a2)]
  rw [e, List.all_map]
  rfl
section
variable {P : Program} {wl : World} {K : PySem.W.Frag} {mg : Str → Option Value} {base : Heap}
theorem ok_check_word (D : Dfn K mg "check_word" s_check_word) (B : Bi mg) (c_is_text : Cal P wl K mg base CX0 1 "is_text" ["thing", "most"] (spIsText K)) : Cal P wl K mg base CX0 2 "check_word" ["word"] spCheckWord := by
  refine D.cal sc_check_word bn_check_word (fun vs H Q E h => ?_) (fun f cdv A outer s H vs Q E hr h => ?_)
  · obtain ⟨r, rfl, _⟩ := h
    rfl
  · obtain ⟨r, rfl, o, q⟩ := h
    refine ⟨_, (pss_one (ps_if (pt_not (pt_val (pcall c_is_text (hr.mono (by omega)) (by rfl) pass0 (pa_cons (pv 0) (pa_cons (pglobI (by rfl) B.g_LONGEST) pa_nil)))))
 (pss_one ps_never) pss_nil)), ?_⟩
    have l1 := o.l1
    have l6 := o.l6
    refine ⟨tv r, rfl, .inl ⟨r, 6, rfl, small_line (by omega), fun H' s' => ⟨true, ?_, iteF (q H' s')⟩⟩⟩
    unfold isTextB
    rw [decide_eq_true (by omega), decide_eq_true (by omega), List.all_eq_true.mpr fun c hc => letB_letter.mpr (o.let_ c hc)]
    rfl
theorem ok_cells_in (D : Dfn K mg "cells_in" s_cells_in) (B : Bi mg) : Cal P wl K mg base CX0 1 "cells_in" ["field"] (spCells K) := by
  refine D.cal sc_cells_in bn_cells_in (fun vs H Q E h => ?_) (fun f cdv A outer s H vs Q E hr h => ?_)
  · obtain ⟨a, F, h, w, rfl, _⟩ := h
    rfl
  · obtain ⟨a, F, h, w, rfl, o, q⟩ := h
    refine ⟨_, (pss_cons (ps_set (i := 1) sc_cells_in.nd rfl (.inl rfl) (pe_lst pa_nil))
 (pss_cons (ps_for PassesOwn.never rfl (pi_range1 (by rfl) B.range (pa_cons (pe_callB (lenSq K) (by rfl) B.len PySem.boot_len (pa_cons (pv 0) pa_nil)) pa_nil)) (pg_name (i := 2) sc_cells_in.nd rfl (.inr rfl))
 (pss_one (ps_expr (pe_bm PySem.F.plainAttrs_list PySem.F.slot_list_extend PySem.F.type_list_extend mt_extend (pv 1) (pa_cons (pe_lc (own := [("place", 3)]) (g := gName 3) (tt := tYes) (by rfl) sc_cells_in.nd (pi_range1 (by rfl) B.range (pa_cons (pe_callB call_len_str (by rfl) B.len PySem.boot_len (pa_cons (pe_ix (ixL K) (pv 0) pe_int (fun _ _ => rfl)) pa_nil)) pa_nil)) (blkOk_by (own := [("place", 3)]) (N := ["field", "found", "row", "place"]) (sc := defScope s_cells_in) (by decide +kernel)) (fun _ _ _ _ _ => (pg_name (i := 3) sc_cells_in.nd rfl (Or.inl rfl))) (fun _ _ _ _ _ => pts_nil) (fun _ _ _ _ _ => (pe_tup (pa_cons (pv 2) (pa_cons (pv 3) pa_nil))))) pa_nil)))))
 (pss_one (ps_ret (pv 1))))), ?_⟩
    have h5 := o.2.h5
    have w5 := o.2.w5
    refine ⟨Nat.zero_le _, fun p np => ?_⟩
    have s1 : Same H (upd H p (.lst [])) := same_new np
    have o1 := o.same s1
    refine ⟨.ref a, rfl, a, _, rfl, .inl o1.1, (h : Int), by rw [o.len_map], by omega, by omega, ?_⟩
    rw [Int.toNat_natCast]
    refine for_it walk_range (fun i σ H' => i ≤ h ∧ ∃ y2 ys, σ = [some (.ref a), some (.ref p), y2, none] ∧ Same H H' ∧ H' p = some (.lst ys) ∧ Cells K H' ys (cellsL i w))
      ⟨Nat.zero_le _, none, [], rfl, s1, upd_same, .nil⟩ (fun _ _ _ _ _ => trivial) (fun i x σ H1 H2 hi pv y => ?_) fun σ H1 pv => ?_
    · obtain ⟨rfl, rfl⟩ := y
      obtain ⟨_, y2, ys, rfl, sm, hp, hy⟩ := pv
      have o2 := o.same sm
      have lys : ys.length ≤ 1000 := by rw [hy.length, cellsL_len]; exact Nat.le_trans (Nat.mul_le_mul (by omega : i ≤ 5) w5) (by decide)
      refine ⟨.ref p, rfl, .inl ⟨rfl, _, SqL.of hp⟩, .ref a, rfl, a, _, 0, _, rfl, rfl, o2.1, o.row0, tx (F.getD 0 []), rfl, by rw [o.len0]; exact o.w_line, (w : Int), by rw [o.len0], by omega, by omega, ?_⟩
      rw [Int.toNat_natCast]
      refine lc_cel (K := K) walk_range o.w_line (fun _ => true) (fun j => ((i : Int), (j : Int))) (fun _ _ => trivial) (fun D' j x H3 H4 Qe Qn nD hj sm3 hy3 y qe _ => ?_) fun D' zs H3 nD sm3 hD hz => ?_
      · obtain ⟨rfl, rfl⟩ := y
        refine ⟨rfl, .int (0 + i), rfl, .int (0 + j), rfl, by show 2 ≤ sizeLine; decide, fun T nT => ?_⟩
        refine qe (.ref T) _ rfl (same_new nT) ⟨T, rfl, ?_⟩
        rw [Int.zero_add, Int.zero_add]
        exact SqT.of upd_same
      · have hp3 := sm3 _ _ hp
        have ez : zs.length ≤ 1000 := by
          rw [hz.length, List.length_map]
          refine Nat.le_trans (List.length_filter_le _ _) ?_
          rw [List.length_range]; omega
        refine ⟨p, D', ys, zs, rfl, rfl, hp3, hD, small_line (by omega), ?_⟩
        refine ⟨hi, _, _, rfl, same_upd (sm.trans sm3) np, upd_same, ?_⟩
        rw [cellsL_succ]
        have le1 : TupLe H3 (upd H3 p (.lst (ys ++ zs))) := TupLe.upd hp3 (TupLe.refl _)
        refine Paired.app ((hy.le (TupLe.of sm3)).le le1) ?_
        rw [List.filter_eq_self.mpr (fun _ _ => rfl)] at hz
        have e := range_map_rng 0 w (fun p : Int => ((i : Int), p))
        simp only [Int.zero_add] at e
        rw [e] at hz
        exact hz.le le1
    · obtain ⟨_, y2, ys, rfl, sm, hp, hy⟩ := pv
      exact ⟨.ref p, rfl, q H1 p ys sm np hp hy⟩
theorem ok_letter_at (D : Dfn K mg "letter_at" s_letter_at) (B : Bi mg) : Cal P wl K mg base CX0 1 "letter_at" ["field", "cell"] (spLetterAt K) := by
  refine D.cal sc_letter_at bn_letter_at (fun vs H Q E h => ?_) (fun f cdv A outer s H vs Q E hr h => ?_)
  · obtain ⟨a, F, h, w, v, c, rfl, _⟩ := h
    rfl
  · obtain ⟨a, F, h, w, v, c, rfl, o, ⟨t, rfl, ht⟩, hc, q⟩ := h
    refine ⟨_, (pss_one (ps_ret (pe_ix ix_str (pe_ix (ixL K) (pv 0) (pe_ix (ixT K) (pv 1) pe_int (fun _ _ => rfl)) (fun _ _ => rfl)) (pe_ix (ixT K) (pv 1) pe_int (fun _ _ => rfl)) (fun _ _ => rfl)))), ?_⟩
    obtain ⟨r, g1, g2, g3⟩ := o.at_cell hc
    refine ⟨.ref a, rfl, .ref t, rfl, t, _, 0, .int c.1, rfl, rfl, ht, atI_nat (j := 0) rfl, a, _, c.1, _, rfl, rfl, o.1, g1, .ref t, rfl, t, _, 1, .int c.2, rfl, rfl, ht, atI_nat (j := 1) rfl, tx r, c.2, at_ F c, rfl, rfl, by rw [tx_len, g2]; exact o.w_line, by rw [tx_cps]; exact g3, q⟩
theorem ok_is_snake (D : Dfn K mg "is_snake" s_is_snake) (B : Bi mg) (c_is_cell : Cal P wl K mg base CX0 2 "is_cell" ["field", "thing"] (spIsCell K)) (c_near_of : Cal P wl K mg base CX0 1 "near_of" ["field", "cell"] (spNear K)) : Cal P wl K mg base CX0 3 "is_snake" ["field", "cells"] (spIsSnake K) := by
  refine D.cal sc_is_snake bn_is_snake (fun vs H Q E h => ?_) (fun f cdv A outer s H vs Q E hr h => ?_)
  · obtain ⟨a, F, h, w, b, xs, cs, rfl, _⟩ := h
    rfl
  · obtain ⟨a, F, h, w, b, xs, cs, rfl, o, hb, hc, h64, q⟩ := h
    refine ⟨_, (pss_cons (ps_if (PW.pt (pw_or (pt_cmpR (eqDK K hr.units) (pv 1) (pe_lst pa_nil) (nomark _)) (pw_or (pt_cmpR op_ne (pe_callB call_lenT (by rfl) B.len PySem.boot_len (pa_cons (pe_callTy (cr_setOfT rfl hr.units) (by rfl) B.set PyProof.Rows.boot_set (pa_cons (pv 1) pa_nil)) pa_nil)) (pe_callB (lenSq K) (by rfl) B.len PySem.boot_len (pa_cons (pv 1) pa_nil)) (nomark _)) (pw_or1 (pt_not (pt_val (pe_callB (allK K rfl) (by rfl) B.all (by decide +kernel) (pa_cons (pe_lc (own := [("cell", 2)]) (g := gName 2) (tt := tYes) (by rfl) sc_is_snake.nd (piL K (pv 1)) (blkOk_by (own := [("cell", 2)]) (N := ["field", "cells", "cell", "one", "other"]) (sc := defScope s_is_snake) (by decide +kernel)) (fun _ _ _ _ _ => (pg_name (i := 2) sc_is_snake.nd rfl (Or.inl rfl))) (fun _ _ _ _ _ => pts_nil) (fun _ _ _ _ _ => (pcall c_is_cell (hr.mono (by omega)) (by rfl) pass0 (pa_cons (pv 0) (pa_cons (pv 2) pa_nil))))) pa_nil))))))))
 (pss_one (ps_ret pe_bl)) pss_nil)
 (pss_one (ps_ret (pe_callB (allK K rfl) (by rfl) B.all (by decide +kernel) (pa_cons (pe_lc (own := [("one", 3), ("other", 4)]) (g := gTup K 2 (gCons (gName 3) (gCons (gName 4) gNil))) (tt := tYes) (by rfl) sc_is_snake.nd (pi_zip (by rfl) B.zip (pa_cons (pv 1) (pa_cons (pe_slice (slL K) (pv 1) (po_some pe_int) po_none) pa_nil))) (blkOk_by (own := [("one", 3), ("other", 4)]) (N := ["field", "cells", "cell", "one", "other"]) (sc := defScope s_is_snake) (by decide +kernel)) (fun _ _ _ _ _ => (pg_tup rfl (pgs_cons (pg_name (i := 3) sc_is_snake.nd rfl (Or.inl rfl)) (pgs_cons (pg_name (i := 4) sc_is_snake.nd rfl (Or.inl rfl)) pgs_nil)))) (fun _ _ _ _ _ => pts_nil) (fun _ _ _ _ _ => (pe_cmpR (inDK K (hu65 hr)) (pv 4) (pcall c_near_of (hr.mono (by omega)) (by rfl) pass0 (pa_cons (pv 0) (pa_cons (pv 3) pa_nil))) (by rfl)))) pa_nil))))), ?_⟩
    have h5 := o.2.h5
    have w5 := o.2.w5
    -- cells == []
    refine ⟨.ref b, rfl, Nat.zero_le _, fun e ne => ?_⟩
    have s1 := same_new (o := .lst []) ne
    have hb1 := s1.seq hb
    have hc1 := hc.le (TupLe.of s1)
    refine ⟨_, cellsD [], cells_dp hb1 hc1, cells_dp (SqL.of upd_same) .nil, (shp_cells _).ok, (shp_cells _).ok, _, rfl, ?_⟩
    rw [eqv_cells]
    unfold snakeB at q
    by_cases hcs : cs = []
    · rw [decide_eq_true hcs] at q ⊢
      exact iteT (q _ s1)
    rw [decide_eq_false hcs] at q ⊢
    refine iteF ?_
    -- len(set(cells)) != len(cells)
    obtain ⟨ks, k1, k2, k3⟩ := cells_keys hc1
    have lks : ks.length = cs.length := by
      have := congrArg List.length k3
      simpa using this
    refine ⟨.ref b, rfl, b, ks, rfl, by rw [← k1]; exact hb1, k2, by omega, fun st L nst hL1 hL2 => ?_⟩
    have s2 := same_new (o := SetTO P wl st L) nst
    refine ⟨st, L, rfl, upd_same, fun p hp => Same.sqt s2 (k2 p (hL1 p hp)), fun nd => ?_⟩
    refine ⟨.ref b, rfl, b, _, rfl, .inl (s2.seq hb1), rfl, _, rfl, ?_⟩
    have eL : decide (V.int (L.length : Int) = V.int (xs.length : Int)) = decide cs.Nodup := by
      rw [hc.length, ← keys_nodup cs, ← k3, ← dedup_len nd (m := ks.map (·.2)) ?_ ?_]
      · rw [List.length_map, List.length_map, lks]
        by_cases z : L.length = cs.length
        · rw [z]; simp
        · rw [decide_eq_false z, decide_eq_false fun y => z (by have := V.int.inj y; omega)]
      · intro z hz
        obtain ⟨p, hp, rfl⟩ := List.mem_map.mp hz
        exact List.mem_map.mpr ⟨p, hL1 p hp, rfl⟩
      · intro z hz
        obtain ⟨p, hp, rfl⟩ := List.mem_map.mp hz
        exact hL2 p hp
    rw [eL]
    have s12 := s1.trans s2
    by_cases hnd : cs.Nodup
    case neg =>
      rw [decide_eq_false hnd] at q ⊢
      exact iteT (q _ s12)
    rw [decide_eq_true hnd] at q ⊢
    refine iteF ?_
    -- all are cells
    have o2 := o.same s12
    have hb2 := s12.seq hb
    have hc2 := hc.le (TupLe.of s12)
    refine ⟨.ref b, rfl, b, rfl, ⟨_, hb2⟩, lc_val (walk_list (xs := xs)) (by rw [hc.length]; exact small_line (by omega)) (fun i => .bl (inB h w (cs.getD i (0, 0)))) (fun H' s' => s'.seq hb2) (fun D' i x H3 H3' Qe nD hi s3 _ y qe => ?_) fun D' H3 nD s3 hD => ?_⟩
    · obtain ⟨rfl, hx⟩ := y
      obtain ⟨c, hci, vc⟩ := Paired.get hc2 hx
      rw [getD_of hci] at qe
      exact ⟨rfl, .ref a, rfl, x, rfl, a, F, h, w, x, c, rfl, o2.same s3, vc.le (TupLe.of s3), fun H4 s4 => qe H4 s4⟩
    have eA : ((List.range xs.length).map fun i => inB h w (cs.getD i (0, 0))) = cs.map (inB h w) := by
      rw [hc.length]
      exact range_map_get (inB h w) cs _ fun i c hci => by rw [getD_of hci]
    refine ⟨D', (List.range xs.length).map fun i => inB h w (cs.getD i (0, 0)), rfl, .inl (.inl (by rw [hD, List.map_map]; rfl)), _, rfl, ?_⟩
    have eB : ((cs.map (inB h w)).all id) = cs.all fun c => decide (c ∈ cellsL h w) := by
      rw [List.all_map]
      congr 1
      funext c
      show inB h w c = _
      by_cases z : c ∈ cellsL h w
      · rw [decide_eq_true z, inB_mem.mpr z]
      · rw [decide_eq_false z]
        cases e : inB h w c with
        | false => rfl
        | true => exact absurd (inB_mem.mp e) z
    rw [eA, eB]
    have s13 := s12.trans s3
    cases hv : (cs.all fun c => decide (c ∈ cellsL h w)) with
    | false =>
      rw [hv] at q
      exact iteT (q _ s13)
    | true =>
      rw [hv] at q
      refine iteF ?_
      have vl : Vld h w cs := fun c hcm => of_decide_eq_true (List.all_eq_true.mp hv c hcm)
      have o3 := o.same s13
      have hb3 := s13.seq hb
      have hc3 := hc.le (TupLe.of s13)
      refine ⟨.ref b, rfl, .ref b, rfl, 1, rfl, b, _, rfl, hb3, fun sl nsl => ?_⟩
      rw [cut_one]
      have s4 := same_new (o := .lst (xs.drop 1)) nsl
      have hsl : SqL K (upd H3 sl (.lst (xs.drop 1))) sl (xs.drop 1) := SqL.of upd_same
      have hcd := (Paired.drop 1 hc3)
      refine ⟨b, sl, xs, xs.drop 1, rfl, s4.seq hb3, hsl, lc_val (walk_zip rfl) (by rw [hc.length]; exact small_line (by omega)) (fun i => .bl (beside (cs.getD i (0, 0)) ((cs.drop 1).getD i (0, 0)))) (fun H' s' => ⟨s'.seq (s4.seq hb3), s'.seq hsl⟩) (fun D2 i x H5 H5' Qe nD2 hi s5 _ y qe => ?_) fun D2 H5 nD2 s5 hD2 => ?_⟩
      · obtain ⟨T, x1, x2, rfl, nT, rfl, g1, g2⟩ := y
        obtain ⟨c1, hc1', v1⟩ := Paired.get hc3 g1
        obtain ⟨c2, hc2', v2⟩ := Paired.get hcd g2
        rw [getD_of hc1', getD_of hc2'] at qe
        have sT := same_new (o := .tup [x1, x2]) nT
        have s45 := s4.trans (s5.trans sT)
        have m1 : c1 ∈ cellsL h w := vl c1 (List.mem_of_getElem? hc1')
        have m2 : c2 ∈ cellsL h w := vl c2 (List.mem_of_mem_drop (List.mem_of_getElem? hc2'))
        refine ⟨T, [x1, x2], rfl, SqT.of upd_same, rfl, x1, [x2], rfl, x2, [], rfl, rfl, rfl, ?_⟩
        refine ⟨x2, rfl, .ref a, rfl, x1, rfl, a, F, h, w, x1, c1, rfl, o3.same s45, v1.le (TupLe.of s45), m1, fun H6 q6 zs s6 n6 h6 hz => ?_⟩
        refine ⟨_, _, (v2.le (TupLe.of (s45.trans s6))).dp, cells_dp (SqL.of h6) hz, (shp_cell _).ok, (shp_cells _).ok, ?_⟩
        rw [any_cells]
        have e6 : decide (c2 ∈ nearL h w c1) = beside c1 c2 := by
          by_cases z : beside c1 c2 = true
          · rw [z, decide_eq_true ((near_mem h5 w5 m1).mpr ⟨m2, z⟩)]
          · rw [decide_eq_false fun y => z ((near_mem h5 w5 m1).mp y).2]
            cases e : beside c1 c2 with
            | false => rfl
            | true => exact absurd e z
        rw [e6]
        exact qe H6 (sT.trans s6)
      · refine ⟨D2, (List.range (min xs.length (xs.drop 1).length)).map fun i => beside (cs.getD i (0, 0)) ((cs.drop 1).getD i (0, 0)), rfl, .inl (.inl (by rw [hD2, List.map_map]; rfl)), ?_⟩
        rw [all_ids, hc.length, hcd.length, adj_range cs beside]
        exact q _ (s13.trans (s4.trans s5))
theorem ok_spelled (D : Dfn K mg "spelled" s_spelled) (B : Bi mg) (c_letter_at : Cal P wl K mg base CX0 1 "letter_at" ["field", "cell"] (spLetterAt K)) : Cal P wl K mg base CX0 2 "spelled" ["field", "cells"] (spSpelled K) := by
  refine D.cal sc_spelled bn_spelled (fun vs H Q E h => ?_) (fun f cdv A outer s H vs Q E hr h => ?_)
  · obtain ⟨a, F, h, w, b, xs, cs, rfl, _⟩ := h
    rfl
  · obtain ⟨a, F, h, w, b, xs, cs, rfl, o, hb, hc, hv, hl, q⟩ := h
    refine ⟨_, (pss_one (ps_ret (joinK K pe_str (pe_lc (own := [("cell", 2)]) (g := gName 2) (tt := tYes) (by rfl) sc_spelled.nd (piL K (pv 1)) (blkOk_by (own := [("cell", 2)]) (N := ["field", "cells", "cell"]) (sc := defScope s_spelled) (by decide +kernel)) (fun _ _ _ _ _ => (pg_name (i := 2) sc_spelled.nd rfl (Or.inl rfl))) (fun _ _ _ _ _ => pts_nil) (fun _ _ _ _ _ => (pcall c_letter_at (hr.mono (by omega)) (by rfl) pass0 (pa_cons (pv 0) (pa_cons (pv 2) pa_nil)))))))), ?_⟩
    refine ⟨⟨_, rfl⟩, .ref b, rfl, b, rfl, ⟨_, hb⟩, lc_val (walk_list (xs := xs)) (by rw [hc.length]; exact small_line (by omega)) (fun i => tv [at_ F (cs.getD i (0, 0))]) (fun H' s' => s'.seq hb) (fun D' i x H1 H1' Qe nD hi s1 _ y qe => ?_) fun D' H1 nD s1 hD => ?_⟩
    · obtain ⟨rfl, hx⟩ := y
      obtain ⟨c, hci, vc⟩ := Paired.get hc hx
      rw [getD_of hci] at qe
      exact ⟨rfl, .ref a, rfl, x, rfl, a, F, h, w, x, c, rfl, o.same s1, vc.le (TupLe.of s1), hv c (List.mem_of_getElem? hci), qe _ (Same.refl _)⟩
    · refine ⟨tx [], D', (spell F cs).map fun c => ⟨#[c]⟩, rfl, rfl, .inl (.inl (.inl ?_)), ?_, ?_⟩
      · rw [hD, List.map_map, hc.length]
        unfold spell
        rw [List.map_map]
        congr 2
        exact range_map_get _ cs _ fun i c hci => by rw [getD_of hci]; rfl
      · rw [List.map_map, sum_ones, List.length_map]
        have e5 : (spell F cs).length = cs.length := by simp [spell]
        rw [e5]; show cs.length + cs.length * 0 ≤ _; omega
      · rw [join_signs]
        exact q H1 s1
theorem ok_next_cells (D : Dfn K mg "next_cells" s_next_cells) (B : Bi mg) (c_cells_in : Cal P wl K mg base CX0 1 "cells_in" ["field"] (spCells K)) (c_near_of : Cal P wl K mg base CX0 1 "near_of" ["field", "cell"] (spNear K)) : Cal P wl K mg base CX0 2 "next_cells" ["field", "cells"] (spNext K) := by
  refine D.cal sc_next_cells bn_next_cells (fun vs H Q E h => ?_) (fun f cdv A outer s H vs Q E hr h => ?_)
  · obtain ⟨a, F, h, w, b, xs, cs, rfl, _⟩ := h
    rfl
  · obtain ⟨a, F, h, w, b, xs, cs, rfl, o, hb, hc, hv, q⟩ := h
    refine ⟨_, (pss_cons (ps_if (pt_cmpR (eqDK K hr.units) (pv 1) (pe_lst pa_nil) (nomark _))
 (pss_one (ps_ret (pcall c_cells_in (hr.mono (by omega)) (by rfl) pass0 (pa_cons (pv 0) pa_nil)))) pss_nil)
 (pss_one (ps_ret (pe_lc (own := [("cell", 2)]) (g := gName 2) (by rfl) sc_next_cells.nd (piL K (pcall c_near_of (hr.mono (by omega)) (by rfl) pass0 (pa_cons (pv 0) (pa_cons (pe_ix (ixL K) (pv 1) (pe_un un_neg pe_int) (fun _ _ => rfl)) pa_nil)))) (blkOk_by (own := [("cell", 2)]) (N := ["field", "cells", "cell"]) (sc := defScope s_next_cells) (by decide +kernel)) (fun _ _ _ _ _ => (pg_name (i := 2) sc_next_cells.nd rfl (Or.inl rfl))) (fun _ _ _ _ _ => (pts_one (pt_cmpR (notInDK K (hu65 hr)) (pv 2) (pv 1) (by rfl)))) (fun _ _ _ _ _ => (pv 2)))))), ?_⟩
    have h5 := o.2.h5
    have w5 := o.2.w5
    refine ⟨.ref b, rfl, Nat.zero_le _, fun e ne => ?_⟩
    have s1 := same_new (o := .lst []) ne
    have hb1 := s1.seq hb
    have hc1 := hc.le (TupLe.of s1)
    refine ⟨_, cellsD [], cells_dp hb1 hc1, cells_dp (SqL.of upd_same) .nil, (shp_cells _).ok, (shp_cells _).ok, _, rfl, ?_⟩
    rw [eqv_cells]
    by_cases hcs : cs = []
    · rw [decide_eq_true hcs]
      refine iteT ⟨.ref a, rfl, a, F, h, w, rfl, o.same s1, fun H2 p ys s2 np hp hy => ?_⟩
      subst hcs
      exact q H2 p ys (s1.trans s2) (s1.free np) hp hy
    · rw [decide_eq_false hcs]
      refine iteF ?_
      obtain ⟨d, hd⟩ : ∃ d, cs.getLast? = some d := by
        cases e : cs.getLast? with
        | none => exact absurd (List.getLast?_eq_none_iff.mp e) hcs
        | some d => exact ⟨d, rfl⟩
      have hdm := hv.last hd
      have hdl := hd
      have hd2 : cs[cs.length - 1]? = some d := by rw [← List.getLast?_eq_getElem?]; exact hd
      obtain ⟨v, gv, vd⟩ := Paired.get' hc1 hd2
      have gl : atI xs (-1) = some v := by
        have l0 : 0 < cs.length := List.length_pos_iff.mpr hcs
        unfold atI ixN
        rw [if_neg (by decide), if_pos (by rw [hc.length]; omega)]
        show xs[(-1 + (xs.length : Int)).toNat]? = some v
        rw [← gv]
        congr 1
        rw [hc.length]
        omega
      refine ⟨.ref a, rfl, .ref b, rfl, 1, rfl, b, _, -1, v, rfl, rfl, hb1, gl, a, F, h, w, v, d, rfl, o.same s1, vd, hdm, fun H2 p ys s2 np hp hy => ?_⟩
      refine ⟨p, rfl, ⟨_, SqL.of hp⟩, lc_cel (K := K) (walk_list (xs := ys)) (by rw [hy.length]; exact small_line (Nat.le_trans (near_len h5 w5 hdm) (by decide))) (fun k => !decide ((nearL h w d).getD k (0, 0) ∈ cs)) (fun k => (nearL h w d).getD k (0, 0)) (fun H' s' => s'.seq (SqL.of hp)) (fun D' k x H3 H3' Qe Qn nD hk s3 _ y qe qn => ?_) fun D' ds H3 nD s3 hD hd => ?_⟩
      · obtain ⟨rfl, hx⟩ := y
        obtain ⟨c, hci, vc⟩ := Paired.get hy hx
        rw [getD_of hci] at qe qn
        have s23 := s2.trans s3
        refine ⟨rfl, x, rfl, .ref b, rfl, _, _, (vc.le (TupLe.of s3)).dp, cells_dp (s23.seq hb1) (hc1.le (TupLe.of s23)), (shp_cell _).ok, (shp_cells _).ok, _, rfl, ?_⟩
        rw [any_cells]
        cases e : (!decide (c ∈ cs)) with
        | false => exact iteF (qn _ e (Same.refl _))
        | true => exact iteT ⟨x, rfl, qe x _ e (Same.refl _) (vc.le (TupLe.of s3))⟩
      · rw [hy.length, range_filter_get (nearL h w d) (0, 0) fun c => !decide (c ∈ cs)] at hd
        refine q H3 D' ds (s1.trans (s2.trans s3)) ((s1.trans s2).free nD) hD ?_
        unfold nextL
        rw [hdl]
        exact hd
end
end Sk
namespace Sk
open PySem PySem.Spec PyProof.Rows L2 Sn
theorem take_flat_le {α β : Type} (f : α → List β) (l : List α) (n : Nat) : ((l.take n).flatMap f).length ≤ (l.flatMap f).length := by
  conv => rhs; rw [← List.take_append_drop n l, List.flatMap_append, List.length_append]
  omega
theorem take_one_more {α : Type} {l : List α} {i : Nat} {x : α} (h : l[i]? = some x) : l.take (i + 1) = l.take i ++ [x] := by
  rw [List.take_add_one, h]; rfl
theorem one_sign (a b : Nat) : decide (V.str (tx [a]) = V.str ⟨#[b]⟩) = decide (a = b) := by
  by_cases h : a = b
  · subst h; rw [decide_eq_true (show V.str (tx [a]) = V.str ⟨#[a]⟩ from rfl), decide_eq_true (show a = a from rfl)]
  · rw [decide_eq_false h]
    refine decide_eq_false fun z => h ?_
    have := tx_inj (a := [a]) (b := [b]) (V.str.inj z)
    exact (List.cons.inj this).1
theorem cutS_take (r : List Nat) (n : Nat) : cutS (tx r) none (some (n : Int)) = tx (r.take n) := by
  unfold cutS
  rw [HT.sIx_none, HT.sIx_nat, tx_cps, tx_len, List.drop_zero, Nat.sub_zero]
  show tx (r.take (min n r.length)) = _
  congr 1
  by_cases hn : n ≤ r.length
  · rw [Nat.min_eq_left hn]
  · rw [Nat.min_eq_right (by omega), List.take_length, List.take_of_length_le (by omega)]
section
variable {P : Program} {wl : World} {K : PySem.W.Frag} {mg : Str → Option Value} {base : Heap}
theorem ok_snakes_on_step (D : Dfn K mg "snakes_on" s_snakes_on) (B : Bi mg) (c_next_cells : Cal P wl K mg base CX0 2 "next_cells" ["field", "cells"] (spNext K)) (c_letter_at : Cal P wl K mg base CX0 1 "letter_at" ["field", "cell"] (spLetterAt K))
    {k r : Nat} (hk : 2 ≤ k) {sp' : Sp} (c_snakes_on : Cal P wl K mg base CX0 k "snakes_on" ["field", "word", "cells"] sp') (hsp : ∀ vs H Q E, r ≠ 0 → spSnakesOn K (r - 1) vs H Q E → sp' vs H Q E) :
    Cal P wl K mg base CX0 (k + 1) "snakes_on" ["field", "word", "cells"] (spSnakesOn K r) := by
  refine D.cal sc_snakes_on bn_snakes_on (fun vs H Q E h => ?_) (fun f cdv A outer s H vs Q E hr h => ?_)
  · obtain ⟨a, F, h, w, wd, b, xs, cs, rfl, _⟩ := h
    rfl
  · obtain ⟨a, F, h, w, wd, b, xs, cs, rfl, o, hb, hc, hv, h6, hle, hr1, q⟩ := h
    refine ⟨_, (pss_cons (ps_if (pt_cmpR op_eq (pe_callB (lenSq K) (by rfl) B.len PySem.boot_len (pa_cons (pv 2) pa_nil)) (pe_callB call_len_str (by rfl) B.len PySem.boot_len (pa_cons (pv 1) pa_nil)) (nomark _))
 (pss_one (ps_ret (pe_lst (pa_cons (pv 2) pa_nil)))) pss_nil)
 (pss_cons (ps_set (i := 3) sc_snakes_on.nd rfl (.inl rfl) (pe_lst pa_nil))
 (pss_cons (ps_for PassesOwn.never rfl (piL K (pcall c_next_cells (hr.mono (by omega)) (by rfl) pass0 (pa_cons (pv 0) (pa_cons (pv 2) pa_nil)))) (pg_name (i := 4) sc_snakes_on.nd rfl (.inl rfl))
 (pss_one (ps_if (pt_cmpR op_eq (pcall c_letter_at (hr.mono (by omega)) (by rfl) pass0 (pa_cons (pv 0) (pa_cons (pv 4) pa_nil))) (pe_ix ix_str (pv 1) (pe_callB (lenSq K) (by rfl) B.len PySem.boot_len (pa_cons (pv 2) pa_nil)) (fun _ _ => rfl)) (nomark _))
 (pss_one (ps_expr (pe_bm PySem.F.plainAttrs_list PySem.F.slot_list_extend PySem.F.type_list_extend mt_extend (pv 3) (pa_cons (pcall c_snakes_on (hr.mono (by omega)) (by rfl) pass0 (pa_cons (pv 0) (pa_cons (pv 1) (pa_cons (pe_op op_cat (pv 2) (pe_lst (pa_cons (pv 4) pa_nil))) pa_nil)))) pa_nil)))) pss_nil)))
 (pss_one (ps_ret (pv 3)))))), ?_⟩
    have h5 := o.2.h5
    have w5 := o.2.w5
    refine ⟨.ref b, rfl, b, _, rfl, .inl (SqL.of hb), tv wd, rfl, tx wd, rfl, by rw [tx_len]; exact small_line (by omega), rfl, _, rfl, ?_⟩
    rw [tx_len, hc.length]
    by_cases e0 : cs.length = wd.length
    · rw [e0, decide_eq_true rfl]
      refine iteT ⟨.ref b, rfl, by show 1 ≤ sizeLine; decide, fun p np => ?_⟩
      refine q _ p _ (same_new np) np upd_same ?_
      have ed : wd.drop cs.length = [] := by rw [e0]; exact List.drop_length
      rw [ed]
      exact .cons ⟨b, xs, rfl, .inr ⟨rfl, e0⟩, (same_new np) _ _ hb, hc.le (TupLe.of (same_new np))⟩ .nil
    · rw [decide_eq_false fun z => e0 (by have := V.int.inj z; omega)]
      refine iteF ⟨Nat.zero_le _, fun p np => ?_⟩
      have s1 := same_new (o := .lst []) np
      have hlt : cs.length < wd.length := by omega
      refine ⟨.ref a, rfl, .ref b, rfl, a, F, h, w, b, xs, cs, rfl, o.same s1, SqL.of (s1 _ _ hb), hc.le (TupLe.of s1), hv, fun H2 e ys s2 ne he hy => ?_⟩
      have hp2 : H2 p = some (.lst []) := s2 _ _ upd_same
      have nep : e ≠ p := fun z => by rw [z, upd_same] at ne; cases ne
      have sH2 : Same H H2 := s1.trans s2
      have neH : H e = none := s1.free ne
      have l0 : wd[cs.length]? = some wd[cs.length] := List.getElem?_eq_getElem hlt
      have hdrop : wd.drop cs.length = wd[cs.length] :: wd.drop (cs.length + 1) := List.drop_eq_getElem_cons hlt
      have tot := snakes_len (F := F) h5 w5 (r := wd.drop cs.length) hv (by rw [List.length_drop]; omega)
      rw [hdrop] at q tot
      let f1 : Cel → List (List Cel) := fun c => if at_ F c = wd[cs.length] then snakesOn F h w (wd.drop (cs.length + 1)) (cs ++ [c]) else []
      have tot2 : ((nextL h w cs).flatMap f1).length ≤ 1000000 := tot
      refine ⟨e, rfl, ⟨_, SqL.of he⟩, for_it (walk_list (xs := ys)) (fun i σ H' => ∃ y4 zs, σ = [some (.ref a), some (tv wd), some (.ref b), some (.ref p), y4] ∧ Kb p H2 H' ∧ H' p = some (.lst zs) ∧ Snks K (fun q => H q = none ∧ q ≠ p) H' zs (((nextL h w cs).take i).flatMap f1))
        ⟨none, [], rfl, fun _ _ _ z => z, hp2, .nil⟩ (fun i σ H' _ pv => by obtain ⟨_, _, _, kb, _⟩ := pv; exact SqL.of (kb _ _ nep he)) (fun i x σ H3o H3 hi pv y => ?_) fun σ H3 pv => ?_⟩
      · obtain ⟨rfl, hx⟩ := y
        obtain ⟨y4, zs, rfl, kb, hp3, hz⟩ := pv
        obtain ⟨c, hci, vc⟩ := Paired.get hy hx
        have hcm : c ∈ cellsL h w := next_mem h5 w5 hv (List.mem_of_getElem? hci)
        have sH3 : Same H H3 := fun b o eb => kb b o (ne_of_none eb np) (sH2 b o eb)
        have le3 : TupLe H2 H3 := TupLe.kb hp2 kb
        have hb3 := sH3 _ _ hb
        have hc3 := hc.le (TupLe.of sH3)
        refine ⟨.ref a, rfl, x, rfl, a, F, h, w, x, c, rfl, o.same sH3, vc.le le3, hcm, tv wd, rfl, .ref b, rfl, b, _, rfl, .inl (SqL.of hb3), tx wd, _, wd[cs.length], rfl, rfl, by rw [tx_len]; exact small_line (by omega), ?_, rfl, _, rfl, ?_⟩
        · rw [tx_cps, hc.length]
          exact atI_nat l0
        rw [one_sign]
        by_cases el : at_ F c = wd[cs.length]
        · rw [decide_eq_true el]
          refine iteT ⟨.ref p, rfl, .inl ⟨rfl, _, SqL.of hp3⟩, .ref a, rfl, tv wd, rfl, .ref b, rfl, x, rfl, by show 1 ≤ sizeLine; decide, fun u nu => ?_⟩
          have su := same_new (o := .lst [x]) nu
          refine ⟨b, u, xs, [x], rfl, rfl, su _ _ hb3, upd_same, by rw [hc.length]; exact small_line (by show cs.length + 1 ≤ _; omega), fun nb nnb => ?_⟩
          have snb := same_new (o := .lst (xs ++ [x])) nnb
          have s34 := su.trans snb
          have cnb : Cells K _ (xs ++ [x]) (cs ++ [c]) := Paired.snoc (hc3.le (TupLe.of s34)) (vc.le (le3.trans (TupLe.of s34)))
          refine hsp _ _ _ _ (by omega) ⟨a, F, h, w, wd, nb, xs ++ [x], cs ++ [c], rfl, o.same (sH3.trans s34), upd_same, cnb, hv.snoc hcm, h6, by rw [List.length_append]; show cs.length + 1 ≤ _; omega, by rw [List.length_append]; show _ ≤ cs.length + 1 + _; omega, fun H5 rs ws s5 nrs hrs hw => ?_⟩
          have hp5 := s5 _ _ (s34 _ _ hp3)
          have nprs : rs ≠ p := fun z => by rw [z] at nrs; rw [s34 _ _ hp3] at nrs; cases nrs
          have esn : snakesOn F h w (wd.drop (cs ++ [c]).length) (cs ++ [c]) = f1 c := by
            show _ = if at_ F c = wd[cs.length] then _ else _
            rw [if_pos el, List.length_append]
            rfl
          rw [esn] at hw
          have hall := take_flat_le f1 (nextL h w cs) (i + 1)
          have etk : ((nextL h w cs).take (i + 1)).flatMap f1 = ((nextL h w cs).take i).flatMap f1 ++ f1 c := by
            rw [take_one_more hci, List.flatMap_append, List.flatMap_cons, List.flatMap_nil, List.append_nil]
          refine ⟨p, rs, zs, ws, rfl, rfl, hp5, hrs, ?_, ?_⟩
          · rw [hz.length, hw.length]
            rw [etk, List.length_append] at hall
            exact small_line (by omega)
          · refine ⟨_, zs ++ ws, rfl, ?_, upd_same, ?_⟩
            · exact Kb.upd fun b o nb' eb => s5 b o (s34 b o (kb b o nb' eb))
            · rw [etk]
              refine Paired.app ?_ ?_
              · exact ((hz.same (s34.trans s5)).upd hp5 fun q hq => hq.2)
              · refine Snks.imp (Snks.upd hw hp5 fun q hq => ?_) fun q hq => ?_
                · rcases hq with hq | ⟨rfl, _⟩
                  · intro z; rw [z, s34 _ _ hp3] at hq; cases hq
                  · intro z; rw [z, su _ _ hp3] at nnb; cases nnb
                · rcases hq with hq | ⟨rfl, _⟩
                  · refine ⟨(sH3.trans s34).free hq, fun z => ?_⟩
                    rw [z, s34 _ _ hp3] at hq; cases hq
                  · refine ⟨(sH3.trans su).free nnb, fun z => ?_⟩
                    rw [z, su _ _ hp3] at nnb; cases nnb
        · rw [decide_eq_false el]
          refine iteF ⟨_, zs, rfl, kb, hp3, ?_⟩
          have ef : f1 c = [] := if_neg el
          rw [take_one_more hci, List.flatMap_append, List.flatMap_cons, List.flatMap_nil, List.append_nil, ef, List.append_nil]
          exact hz
      · obtain ⟨y4, zs, rfl, kb, hp3, hz⟩ := pv
        have sH3 : Same H H3 := fun b o eb => kb b o (ne_of_none eb np) (sH2 b o eb)
        refine ⟨.ref p, rfl, q H3 p zs sH3 np hp3 ?_⟩
        rw [hy.length, List.take_length] at hz
        exact hz.imp fun q hq => .inl hq.1
theorem ok_snakes_on (D : Dfn K mg "snakes_on" s_snakes_on) (B : Bi mg) (c_next_cells : Cal P wl K mg base CX0 2 "next_cells" ["field", "cells"] (spNext K)) (c_letter_at : Cal P wl K mg base CX0 1 "letter_at" ["field", "cell"] (spLetterAt K)) :
    ∀ r, Cal P wl K mg base CX0 (3 + r) "snakes_on" ["field", "word", "cells"] (spSnakesOn K r)
  | 0 => ok_snakes_on_step D B c_next_cells c_letter_at (k := 2) (r := 0) (by omega) (D.cal0 bn_snakes_on) fun _ _ _ _ h => absurd rfl h
  | r + 1 => ok_snakes_on_step D B c_next_cells c_letter_at (k := 3 + r) (r := r + 1) (by omega) (ok_snakes_on D B c_next_cells c_letter_at r) fun _ _ _ _ _ h => h
theorem ok_longest (D : Dfn K mg "longest" s_longest) (B : Bi mg) (c_snakes_on : Cal P wl K mg base CX0 9 "snakes_on" ["field", "word", "cells"] (spSnakesOn K 6)) : Cal P wl K mg base CX0 10 "longest" ["field", "word"] (spLongest K) := by
  refine D.cal sc_longest bn_longest (fun vs H Q E h => ?_) (fun f cdv A outer s H vs Q E hr h => ?_)
  · obtain ⟨a, F, h, w, wd, rfl, _⟩ := h
    rfl
  · obtain ⟨a, F, h, w, wd, rfl, o, h6, q⟩ := h
    refine ⟨_, (pss_cons (ps_set (i := 2) sc_longest.nd rfl (.inl rfl) pe_int)
 (pss_cons (ps_while PassesOwn.never (PW.pt (pw_and (pt_cmpR op_lt (pv 2) (pe_callB call_len_str (by rfl) B.len PySem.boot_len (pa_cons (pv 1) pa_nil)) (nomark _)) (pw_and1 (pt_cmpR (neDK K hr.units) (pcall c_snakes_on (hr.mono (by omega)) (by rfl) pass0 (pa_cons (pv 0) (pa_cons (pe_slice sl_str (pv 1) po_none (po_some (pe_op op_add (pv 2) pe_int))) (pa_cons (pe_lst pa_nil) pa_nil)))) (pe_lst pa_nil) (nomark _)))))
 (pss_one (ps_aug (i := 2) sc_longest.nd rfl (.inl rfl) pe_int ip_add)))
 (pss_one (ps_ret (pv 2))))), ?_⟩
    have h5 := o.2.h5
    have w5 := o.2.w5
    refine ⟨fun m σ H' => ∃ n : Nat, σ = [some (.ref a), some (tv wd), some (.int (n : Int))] ∧ Same H H' ∧ n ≤ wd.length ∧ ne_ F h w wd n = true ∧ m = wd.length - n, ⟨_, 0, rfl, Same.refl _, Nat.zero_le _, ne_zero F h w wd, rfl⟩, fun m σ H1 hW => ?_⟩
    obtain ⟨n, rfl, s1, hn, hne, rfl⟩ := hW
    refine ⟨.int n, rfl, tv wd, rfl, tx wd, rfl, by rw [tx_len]; exact small_line (by omega), _, _, rfl, rfl, _, rfl, ?_⟩
    rw [tx_len]
    by_cases hlt : n < wd.length
    · rw [decide_eq_true (by omega)]
      refine iteT ⟨.ref a, rfl, tv wd, rfl, .int n, rfl, n, 1, rfl, rfl, ((n + 1 : Nat) : Int), rfl, tx wd, rfl, by rw [tx_len]; exact small_line (by omega), Nat.zero_le _, fun e ne => ?_⟩
      rw [cutS_take]
      have se := same_new (o := .lst []) ne
      refine ⟨a, F, h, w, wd.take (n + 1), e, [], [], rfl, o.same (s1.trans se), upd_same, .nil, vld_nil h w, by rw [List.length_take]; omega, Nat.zero_le _, by rw [List.length_take]; omega, fun H2 p ys s2 np hp hy => ?_⟩
      have s12 := s1.trans (se.trans s2)
      refine ⟨Nat.zero_le _, fun u nu => ?_⟩
      have su := same_new (o := .lst []) nu
      refine ⟨_, snakesD [], snks_dp (SqL.of (su _ _ hp)) (hy.same su), .lst (SqL.of upd_same) .nil, (shp_snakes _).ok, (shp_snakes _).ok, _, rfl, ?_⟩
      rw [eqv_snakes]
      have e1 : (!decide (snakesOn F h w (List.drop ([] : List Cel).length (wd.take (n + 1))) [] = [])) = ne_ F h w wd (n + 1) := rfl
      rw [e1]
      cases e2 : ne_ F h w wd (n + 1) with
      | true =>
        refine iteT ⟨fun σ' H' => ∃ n' : Nat, σ' = [some (.ref a), some (tv wd), some (.int (n' : Int))] ∧ Same H H' ∧ n' = n + 1, fun σ' H' hN => ?_, ?_⟩
        · obtain ⟨n', e3, s3, rfl⟩ := hN
          exact ⟨wd.length - (n + 1), by omega, n + 1, e3, s3, by omega, e2, rfl⟩
        · exact ⟨.int n, rfl, n, 1, rfl, rfl, n + 1, rfl, s12.trans su, rfl⟩
      | false =>
        exact iteF ⟨.int n, rfl, q _ n (s12.trans su) (lgst_of h5 w5 hn hne fun _ => e2)⟩
    · rw [decide_eq_false (by omega)]
      exact iteF (iteF ⟨.int n, rfl, q _ n s1 (lgst_of h5 w5 hn hne fun z => absurd z hlt)⟩)
end
end Sk
namespace Sk
open PySem PySem.Spec PyProof.Rows L2 Sn
section
variable {P : Program} {wl : World} {K : PySem.W.Frag} {mg : Str → Option Value} {base : Heap} {C_Found C_Stops : Addr}
theorem ok_Found_init (D : DfnI K C_Found "Found.__init__" s_Found___init__) (B : Bi mg) (k_Found : Kls K mg "Found" C_Found) (n_Found : NoAttr K C_Found "cells") : CalI P wl K mg base CX0 1 C_Found ["self", "cells"] (spFoundInit K C_Found) := by
  refine D.cal sc_Found___init__ bn_Found___init__ (fun vs H Q E h => ?_) (fun f cdv A outer s H vs Q E hr h => ?_)
  · obtain ⟨x, dx, l0, xs, rfl, _⟩ := h
    rfl
  · obtain ⟨x, dx, l0, xs, rfl, hx, hl, q⟩ := h
    refine ⟨_, (pss_one (ps_fld (pv 0) (pe_callTy (listOf K) (by rfl) B.list (by decide +kernel) (pa_cons (pv 1) pa_nil)) rfl)), ?_⟩
    refine ⟨.ref l0, rfl, l0, _, rfl, .inl hl, fun l nl => ?_⟩
    have sl := same_new (o := .lst xs) nl
    have nlx : l ≠ x := fun z => by rw [z, hx] at nl; cases nl
    refine ⟨.ref x, rfl, x, C_Found, dx, [], rfl, sl _ _ hx, k_Found.cl, n_Found, by decide, ?_⟩
    exact q _ l (Kb.upd (Kb.of sl)) upd_same nl (by rw [upd_ne nlx]; exact upd_same)
theorem ok_Stops_init (D : DfnI K C_Stops "Stops.__init__" s_Stops___init__) (B : Bi mg) (k_Stops : Kls K mg "Stops" C_Stops) (n_Stops : NoAttr K C_Stops "many") : CalI P wl K mg base CX0 1 C_Stops ["self", "many"] (spStopsInit C_Stops) := by
  refine D.cal sc_Stops___init__ bn_Stops___init__ (fun vs H Q E h => ?_) (fun f cdv A outer s H vs Q E hr h => ?_)
  · obtain ⟨x, dx, m, rfl, _⟩ := h
    rfl
  · obtain ⟨x, dx, m, rfl, hx, q⟩ := h
    refine ⟨_, (pss_one (ps_fld (pv 0) (pv 1) rfl)), ?_⟩
    refine ⟨.int m, rfl, .ref x, rfl, x, C_Stops, dx, [], rfl, hx, k_Stops.cl, n_Stops, by decide, ?_⟩
    exact q _ (Kb.upd (Kb.of (Same.refl _))) upd_same
theorem ok_Found_shows (D : DfnM K C_Found "shows" "Found.shows" s_Found_shows) (B : Bi mg) (k_Found : Kls K mg "Found" C_Found) (n_Found : NoAttr K C_Found "cells") (c_is_snake : Cal P wl K mg base CX0 3 "is_snake" ["field", "cells"] (spIsSnake K)) (c_spelled : Cal P wl K mg base CX0 2 "spelled" ["field", "cells"] (spSpelled K)) :
    CalM P wl K mg base CX0 4 C_Found "shows" ["self", "field", "word"] (spFoundShows K C_Found) := by
  refine D.cal sc_Found_shows bn_Found_shows (fun vs H Q E h => ?_) (fun f cdv A outer s H vs Q E hr h => ?_)
  · obtain ⟨x, dx, l, xs, cs, a, F, h, w, wd, rfl, _⟩ := h
    rfl
  · obtain ⟨x, dx, l, xs, cs, a, F, h, w, wd, rfl, hx, hl, hc, h64, o, q⟩ := h
    refine ⟨_, (pss_one (ps_ret (pe_and (pcall c_is_snake (hr.mono (by omega)) (by rfl) pass0 (pa_cons (pv 1) (pa_cons (fldK K (pv 0) rfl) pa_nil))) (pe_one (pe_cmpR op_eq (pcall c_spelled (hr.mono (by omega)) (by rfl) pass0 (pa_cons (pv 1) (pa_cons (fldK K (pv 0) rfl) pa_nil))) (pv 2) (nomark _)))))), ?_⟩
    refine ⟨.ref a, rfl, .ref x, rfl, x, C_Found, dx, _, .ref l, rfl, hx, k_Found.cl, n_Found, rfl, a, F, h, w, l, xs, cs, rfl, o, hl, hc, h64, fun H1 s1 => ⟨_, rfl, ?_⟩⟩
    unfold foundB at q
    cases e : snakeB h w cs with
    | false =>
      rw [e] at q
      exact iteF (q H1 s1)
    | true =>
      rw [e] at q
      refine iteT ⟨.ref a, rfl, .ref x, rfl, x, C_Found, dx, _, .ref l, rfl, s1 _ _ hx, k_Found.cl, n_Found, rfl, a, F, h, w, l, xs, cs, rfl, o.same s1, s1.seq hl, hc.le (TupLe.of s1), (snakeB_iff.mp e).2.vld, by omega, fun H2 s2 => ⟨tv wd, rfl, rfl, ?_⟩⟩
      have e2 : decide (tv (spell F cs) = tv wd) = decide (spell F cs = wd) := by
        by_cases z : spell F cs = wd
        · rw [z, decide_eq_true (show tv wd = tv wd from rfl), decide_eq_true (show wd = wd from rfl)]
        · rw [decide_eq_false z]
          exact decide_eq_false fun y => z (tx_inj (V.str.inj y))
      rw [e2]
      exact q H2 (s1.trans s2)
theorem ok_Stops_shows (D : DfnM K C_Stops "shows" "Stops.shows" s_Stops_shows) (B : Bi mg) (k_Stops : Kls K mg "Stops" C_Stops) (n_Stops : NoAttr K C_Stops "many") (c_longest : Cal P wl K mg base CX0 10 "longest" ["field", "word"] (spLongest K)) :
    CalM P wl K mg base CX0 11 C_Stops "shows" ["self", "field", "word"] (spStopsShows K C_Stops) := by
  refine D.cal sc_Stops_shows bn_Stops_shows (fun vs H Q E h => ?_) (fun f cdv A outer s H vs Q E hr h => ?_)
  · obtain ⟨x, dx, m, a, F, h, w, wd, rfl, _⟩ := h
    rfl
  · obtain ⟨x, dx, m, a, F, h, w, wd, rfl, hx, h6, o, q⟩ := h
    refine ⟨_, (pss_one (ps_ret (pe_and (pe_cmpR op_lt (fldK K (pv 0) rfl) (pe_callB call_len_str (by rfl) B.len PySem.boot_len (pa_cons (pv 2) pa_nil)) (nomark _)) (pe_one (pe_cmpR op_eq (fldK K (pv 0) rfl) (pcall c_longest (hr.mono (by omega)) (by rfl) pass0 (pa_cons (pv 1) (pa_cons (pv 2) pa_nil))) (nomark _)))))), ?_⟩
    refine ⟨.ref x, rfl, x, C_Stops, dx, _, .int m, rfl, hx, k_Stops.cl, n_Stops, rfl, tv wd, rfl, tx wd, rfl, by rw [tx_len]; exact small_line (by omega), _, _, rfl, rfl, _, rfl, ?_⟩
    rw [tx_len]
    cases e : decide (m < (wd.length : Int)) with
    | false =>
      obtain ⟨k, hk⟩ := lgst_ex (F := F) o.2.h5 o.2.w5 wd
      have q2 := q H k (Same.refl _) hk
      rw [e] at q2
      exact iteF q2
    | true =>
      refine iteT ⟨.ref x, rfl, x, C_Stops, dx, _, .int m, rfl, hx, k_Stops.cl, n_Stops, rfl, .ref a, rfl, tv wd, rfl, a, F, h, w, wd, rfl, o, h6, fun H1 k s1 hk => ⟨rfl, ?_⟩⟩
      have q2 := q H1 k s1 hk
      rw [e, Bool.true_and] at q2
      have e2 : decide (V.int m = V.int (k : Int)) = decide (m = (k : Int)) := by
        by_cases z : m = (k : Int)
        · rw [decide_eq_true z, z]; exact decide_eq_true rfl
        · rw [decide_eq_false z]
          exact decide_eq_false fun y => z (V.int.inj y)
      rw [e2]
      exact q2
theorem ok_judged (D : Dfn K mg "judged" s_judged) (B : Bi mg) (k_Found : Kls K mg "Found" C_Found) (k_Stops : Kls K mg "Stops" C_Stops)
    (c_check_field : Cal P wl K mg base CX0 2 "check_field" ["field"] (spCheckField K)) (c_check_word : Cal P wl K mg base CX0 2 "check_word" ["word"] spCheckWord)
    (c_snakes_on : Cal P wl K mg base CX0 9 "snakes_on" ["field", "word", "cells"] (spSnakesOn K 6)) (c_longest : Cal P wl K mg base CX0 10 "longest" ["field", "word"] (spLongest K))
    (c_Found_init : CalI P wl K mg base CX0 1 C_Found ["self", "cells"] (spFoundInit K C_Found)) (c_Stops_init : CalI P wl K mg base CX0 1 C_Stops ["self", "many"] (spStopsInit C_Stops)) :
    Cal P wl K mg base CX0 11 "judged" ["field", "word"] (spJudged K C_Found C_Stops) := by
  refine D.cal sc_judged bn_judged (fun vs H Q E h => ?_) (fun f cdv A outer s H vs Q E hr h => ?_)
  · obtain ⟨a, F, h, w, wd, rfl, _⟩ := h
    rfl
  · obtain ⟨a, F, h, w, wd, rfl, o, ow, q1, q2⟩ := h
    refine ⟨_, (pss_cons (ps_expr (pcall c_check_field (hr.mono (by omega)) (by rfl) pass0 (pa_cons (pv 0) pa_nil)))
 (pss_cons (ps_expr (pcall c_check_word (hr.mono (by omega)) (by rfl) pass0 (pa_cons (pv 1) pa_nil)))
 (pss_cons (ps_set (i := 2) sc_judged.nd rfl (.inl rfl) (pcall c_snakes_on (hr.mono (by omega)) (by rfl) pass0 (pa_cons (pv 0) (pa_cons (pv 1) (pa_cons (pe_lst pa_nil) pa_nil)))))
 (pss_one (ps_ret (pe_ifExp (pt_cmpR (neDK K hr.units) (pv 2) (pe_lst pa_nil) (nomark _)) (pmake c_Found_init (hr.mono (by omega)) (by rfl) k_Found.g pass0 (pa_cons (pe_ix (ixL K) (pv 2) pe_int (fun _ _ => rfl)) pa_nil)) (pmake c_Stops_init (hr.mono (by omega)) (by rfl) k_Stops.g pass0 (pa_cons (pcall c_longest (hr.mono (by omega)) (by rfl) pass0 (pa_cons (pv 0) (pa_cons (pv 1) pa_nil))) pa_nil)))))))), ?_⟩
    have l6 := ow.l6
    refine ⟨.ref a, rfl, a, F, h, w, rfl, o, fun H1 s1 => ?_⟩
    refine ⟨tv wd, rfl, wd, rfl, ow, fun H2 s2 => ?_⟩
    have s12 := s1.trans s2
    refine ⟨.ref a, rfl, tv wd, rfl, Nat.zero_le _, fun e ne => ?_⟩
    have se := same_new (o := .lst []) ne
    refine ⟨a, F, h, w, wd, e, [], [], rfl, o.same (s12.trans se), upd_same, .nil, vld_nil h w, l6, Nat.zero_le _, by show wd.length ≤ 0 + 6; omega, fun H3 p ys s3 np hp hy => ?_⟩
    have s13 := s12.trans (se.trans s3)
    have hy0 : Snks K (fun q => upd H2 e (.lst []) q = none ∨ (q = e ∧ 0 = wd.length)) H3 ys (snakesOn F h w wd []) := hy
    refine ⟨.ref p, rfl, Nat.zero_le _, fun u nu => ?_⟩
    have su := same_new (o := .lst []) nu
    have hyu := hy0.same su
    have s14 := s13.trans su
    refine ⟨_, snakesD [], snks_dp (SqL.of (su _ _ hp)) hyu, .lst (SqL.of upd_same) .nil, (shp_snakes _).ok, (shp_snakes _).ok, _, rfl, ?_⟩
    rw [eqv_snakes]
    cases es : snakesOn F h w wd [] with
    | nil =>
      rw [decide_eq_true rfl]
      refine iteF ⟨.ref a, rfl, tv wd, rfl, a, F, h, w, wd, rfl, o.same s14, l6, fun H5 m s5 hm => ?_⟩
      intro x dx nx nd ndx
      refine ⟨x, dx, m, rfl, upd_same, fun H6 k6 h6 => ⟨rfl, ?_⟩⟩
      exact q2 H6 x m (s14.trans (s5.trans (same_made nx nd k6))) ((s14.trans s5).free nx) es hm ⟨dx, h6⟩
    | cons s0 r0 =>
      rw [decide_eq_false (fun z => nomatch z)]
      rw [es] at hyu
      obtain ⟨v0, g0, q0, zs, rfl, _, hq0, hz⟩ := Paired.get' hyu (i := 0) (b := s0) rfl
      refine iteT ⟨.ref p, rfl, p, _, 0, .ref q0, rfl, rfl, SqL.of (su _ _ hp), atI_nat (j := 0) g0, ?_⟩
      intro x dx nx nd ndx
      have nqx : q0 ≠ x := ne_of_none hq0 nx
      have nqd : q0 ≠ dx := ne_of_none hq0 nd
      refine ⟨x, dx, q0, zs, rfl, upd_same, SqL.of (by rw [upd_ne nqx, upd_ne nqd]; exact hq0), fun H6 l k6 h6 nl hl => ⟨rfl, ?_⟩⟩
      have sm := same_made nx nd k6
      have nlH : upd H3 u (.lst []) l = none := by
        have nlx : l ≠ x := fun z => by rw [z, upd_same] at nl; cases nl
        have nld : l ≠ dx := fun z => by rw [upd_ne nlx, z, upd_same] at nl; cases nl
        rw [upd_ne nlx, upd_ne nld] at nl
        exact nl
      exact q1 H6 x l s0 r0 (s14.trans sm) (s14.free nx) (s14.free nlH) es ⟨dx, zs, h6, hl, hz.le (TupLe.of sm)⟩
end
end Sk
/-! Sets of texts, any number of them: made of a list, sorted. -/
namespace Sk
open PySem PySem.Spec PyProof.Rows L2
abbrev zk (P : Program) (w : World) := PySem.strKind P w
def keyZ (e : Int × Value) : Str := strOf e.2
def GoodZ (P : Program) (w : World) (e : Int × Value) : Prop := ∃ x tk, e.2 = Value.str x tk ∧ e.1 = (zk P w).hash x
/-- the set of the texts ks stands at a -/
def SetZ (P : Program) (w : World) (h : Heap) (a : Addr) (ks : List Str) : Prop :=
  ∃ o es ep t, h.get? a = some o ∧ o.ExactSet ∧ o.data = .set es ep t ∧ (∀ e ∈ es.toList, GoodZ P w e) ∧ (es.toList.map keyZ).Nodup ∧ (∀ x, x ∈ es.toList.map keyZ ↔ x ∈ ks) ∧
    es.size < scanBound ∧ t.fits es.size = true ∧ Ris t.place.toList ∧ (w.params.followText "set-order" = true ∨ t.led = true)
section
variable {P : Program} {w : World} {h h' : Heap} {a : Addr} {ks : List Str}
theorem SetZ.at (R : SetZ P w h a ks) (k : ∀ o, h.get? a = some o → h'.get? a = some o) : SetZ P w h' a ks := by
  obtain ⟨o, es, ep, t, ho, r⟩ := R
  exact ⟨o, es, ep, t, k o ho, r⟩
theorem goodZ_is {e : Int × Value} (g : GoodZ P w e) (k : Str) : (zk P w).is k e.2 = true ↔ keyZ e = k := by
  obtain ⟨x, tk, h1, _⟩ := g
  have q : (zk P w).is x e.2 = true := by rw [h1]; exact PySem.strKind_is P w x tk
  rw [KeyKind.is_eq_decide q k, decide_eq_true_eq]
  have e2 : keyZ e = x := by unfold keyZ; rw [h1]; rfl
  rw [e2]
  exact eq_comm
theorem goodZ_elems {l : List (Int × Value)} (g : ∀ e ∈ l, GoodZ P w e) : ElemsOf (zk P w) l := fun e he => by
  obtain ⟨k, tk, h1, h2⟩ := g e he
  exact ⟨⟨k, by rw [h1]; exact PySem.strKind_is P w k tk, h2⟩, by rw [h1] <;> rfl⟩
theorem goodZ_mem {l : List (Int × Value)} (g : ∀ e ∈ l, GoodZ P w e) (k : Str) : k ∈ l.map keyZ ↔ ∃ e ∈ l, (zk P w).is k e.2 = true := by
  rw [List.mem_map]
  exact ⟨fun ⟨e, he, q⟩ => ⟨e, he, (goodZ_is (g e he) k).2 q⟩, fun ⟨e, he, q⟩ => ⟨e, he, (goodZ_is (g e he) k).1 q⟩⟩
end
section
variable {P : Program} {w : World} {A : Around} {E : Value → Shared → Prop} {s : Shared} {a : Addr} {ks : List Str}
theorem addZ_tail {g : Bool → Sem Unit} (hg : ∀ (b : Bool) (s₁ : Shared) (Q' : Unit → Shared → Prop), Q' () s₁ → wpAny (model P w) A (g b) Q' E s₁)
    {o : Obj} {es : Array (Int × Value)} {ep : Nat} {t : SetTable} (ho : s.heap.get? a = some o) (hex : o.ExactSet) (hd : o.data = .set es ep t)
    {es1 : Array (Int × Value)} {t2 : SetTable} (g1 : ∀ e ∈ es1.toList, GoodZ P w e) (nd1 : (es1.toList.map keyZ).Nodup) (m1 : ∀ x, x ∈ es1.toList.map keyZ ↔ x ∈ ks)
    (hb1 : es1.size < scanBound) (hf2 : t2.fits es1.size = true) (hr : Ris t2.place.toList) (hl : w.params.followText "set-order" = true ∨ t2.led = true) {wasDummy : Bool} {R : Option Bool → Shared → Prop}
    (hR : ∀ h', Heap.SameBut a s.heap h' → SetZ P w h' a ks → R (some true) { s with heap := h' }) :
    wpAny (model P w) A (do
        storeSet a es1 t2
        if (!wasDummy && t2.tooFull) = true then do
            g (relayAll t2 es1 (SetTable.grown es1.size)).2.2
            storeSet a (relayAll t2 es1 (SetTable.grown es1.size)).1 (relayAll t2 es1 (SetTable.grown es1.size)).2.1
            pure (some true)
          else pure (some true)) R E s := by
  refine wpAny_bind (wpAny_storeSet_of ho hd ?_ (fits_of_scanBound hb1))
  have ho1 := store_at (es' := es1) (t' := t2) ho hd
  have sb1 := Heap.SameBut.update s.heap a (Obj.putSet es1 t2)
  split
  · have pm := relayAll_perm t2 es1 (SetTable.grown es1.size)
    have hf3 := relayAll_fits t2 es1 (SetTable.grown es1.size)
    have hr3 := relayAll_ris t2 es1 (SetTable.grown es1.size)
    have hl3 := relayAll_led t2 es1 (SetTable.grown es1.size)
    generalize relayAll t2 es1 (SetTable.grown es1.size) = Z at pm hf3 hr3 hl3 ⊢
    obtain ⟨es2, t3, gave⟩ := Z
    dsimp only at pm hf3 hr3 hl3 ⊢
    have hsz : es2.size = es1.size := by rw [← Array.length_toList, pm.length_eq, Array.length_toList]
    have hb2 : es2.size < scanBound := by rw [hsz]; exact hb1
    refine wpAny_bind (hg _ _ _ ?_)
    refine wpAny_bind (wpAny_storeSet_of ho1 rfl ?_ (fits_of_scanBound hb2))
    have ho2 := store_at (es' := es2) (t' := t3) ho1 rfl
    refine wpAny_pure (hR _ (sb1.trans (Heap.SameBut.update _ a _)) ?_)
    exact ⟨_, es2, _, t3, ho2, hex, rfl, fun e he => g1 e (pm.mem_iff.mp he), (pm.map keyZ).nodup_iff.mpr nd1, fun k => (pm.map keyZ).mem_iff.trans (m1 k), hb2, hf3, hr3,
      hl.imp id fun z => by rw [hl3]; exact z⟩
  · exact wpAny_pure (hR _ sb1 ⟨_, es1, _, t2, ho1, hex, rfl, g1, nd1, m1, hb1, hf2, hr, hl⟩)
theorem addZ {x : Str} {tk : Tok} {Q : Bool → Shared → Prop} (R : SetZ P w s.heap a ks) (D : List Str) (room : D.length < scanBound) (hD : ∀ y ∈ ks ++ [x], y ∈ D)
    (hQ : ∀ b h', Heap.SameBut a s.heap h' → SetZ P w h' a (ks ++ [x]) → Q b { s with heap := h' }) :
    wpAny (model P w) A (setAddHashed a (.str x tk) ((zk P w).hash x)) Q E s := by
  obtain ⟨o, es, ep, t, ho, hex, hd, g, nd, hm, hb, hf, hr, hl⟩ := R
  have hkey : (zk P w).is x (.str x tk) = true := PySem.strKind_is P w x tk
  have hsc : (Value.str x tk).scannable = true := rfl
  have hel : ElemsOf (zk P w) es.toList := goodZ_elems g
  unfold setAddHashed setAddHashedIn
  refine wpAny_holding (wpAny_bind (wpAny_setState_of ho hd hf ?_))
  dsimp only
  rw [byScan_of hsc hb hel]
  simp only [↓reduceIte]
  unfold setAddByScan
  refine wpAny_bind ?_
  refine wpAny_bind (wpAny_rule ?_)
  refine wpAny_bind (wpAny_setScan_of hkey ho hd hf hel ?_)
  cases hfi : List.findIdx? (fun e => (zk P w).is x e.2) es.toList with
  | some j =>
    dsimp only
    obtain ⟨hj, pj, _⟩ := List.findIdx?_eq_some_iff_getElem.mp hfi
    have hx : x ∈ ks := (hm x).1 ((goodZ_mem (P := P) (w := w) g x).2 ⟨es.toList[j], List.getElem_mem hj, pj⟩)
    refine wpAny_pure (wpAny_pure ?_)
    exact hQ _ s.heap (Heap.SameBut.refl a s.heap) ⟨o, es, ep, t, ho, hex, hd, g, nd, fun i => by
      rw [hm i, List.mem_append, List.mem_singleton]
      exact ⟨.inl, fun z => z.elim id (fun e => e ▸ hx)⟩, hb, hf, hr, hl⟩
  | none =>
    dsimp only
    have hnk : x ∉ es.toList.map keyZ := fun z => by
      obtain ⟨e, he, q⟩ := (goodZ_mem (P := P) (w := w) g x).1 z
      have c := List.findIdx?_eq_none_iff.mp hfi e he
      rw [q] at c
      cases c
    have hgw : ∀ (b : Bool) {s₁ : Shared} {Q' : Unit → Shared → Prop}, Q' () s₁ → wpAny (model P w) A (match b with | true => rule "set.scan.the-table-gave-way" | false => pure ()) Q' E s₁ :=
      fun b s₁ Q' q => by cases b <;> first | exact wpAny_pure q | exact wpAny_rule q
    have pm := layNew_perm t es ((zk P w).hash x) (.str x tk)
    have hf1 := layNew_fits t es ((zk P w).hash x) (.str x tk)
    have hr1 := layNew_ris t es ((zk P w).hash x) (.str x tk) hr
    have hl1 := layNew_led t es ((zk P w).hash x) (.str x tk)
    generalize layNew t es ((zk P w).hash x) (.str x tk) = Z at pm hf1 hr1 hl1 ⊢
    obtain ⟨es1, t1, wasDummy, gave⟩ := Z
    dsimp only at pm hf1 hr1 hl1 ⊢
    rw [Array.toList_push] at pm
    have pc : es1.toList.Perm (((zk P w).hash x, Value.str x tk) :: es.toList) := pm.trans (List.perm_append_singleton _ _)
    have pk : (es1.toList.map keyZ).Perm (x :: es.toList.map keyZ) := pc.map keyZ
    have g1 : ∀ e ∈ es1.toList, GoodZ P w e := fun e he => by
      rcases List.mem_cons.mp (pc.mem_iff.mp he) with z | z
      · rw [z]; exact ⟨x, tk, rfl, rfl⟩
      · exact g e z
    have nd1 : (es1.toList.map keyZ).Nodup := pk.nodup_iff.mpr (List.nodup_cons.mpr ⟨hnk, nd⟩)
    have m1 : ∀ i, i ∈ es1.toList.map keyZ ↔ i ∈ ks ++ [x] := fun i => by
      rw [pk.mem_iff, List.mem_cons, hm i, List.mem_append, List.mem_singleton]
      exact Or.comm
    have hb1 : es1.size < scanBound := by
      have q := nodup_sub_len (m := D) nd1 fun y hy => hD y ((m1 y).1 hy)
      rw [List.length_map, Array.length_toList] at q
      omega
    have hled : w.params.followText "set-order" = true ∨ t1.led = true := hl.imp id fun z => by rw [hl1]; exact z
    refine wpAny_bind (hgw _ ?_)
    split
    · refine wpAny_bind ?_
      rw [hashByValue_scannable 8 hsc]
      refine wpAny_pure ?_
      refine addZ_tail ?_ ho hex hd g1 nd1 m1 hb1 ?_ ?_ ?_ ?_
      · intro b s₁ Q' q; cases b <;> first | exact wpAny_pure q | exact wpAny_rule q
      · first | (split <;> first | exact hf1 | exact SetTable.fits_plain_off hf1) | exact hf1
      · first | (split <;> exact hr1) | exact hr1
      · first | (split <;> exact hled) | exact hled
      · intro h' sb r; dsimp only; exact wpAny_pure (hQ _ h' sb r)
    · refine wpAny_bind (wpAny_pure ?_)
      simp only [↓reduceIte]
      refine addZ_tail ?_ ho hex hd g1 nd1 m1 hb1 hf1 hr1 hled ?_
      · intro b s₁ Q' q; cases b <;> first | exact wpAny_pure q | exact wpAny_rule q
      · intro h' sb r; dsimp only; exact wpAny_pure (hQ _ h' sb r)
/-- the loop of set(xs) -/
theorem updZ {I : Addr} {fp wr : List Addr} {G : Array GenState → Array GenState → Prop} {n : Nat} {Pv : Nat → Value → Prop} {St : Nat → Shared → Prop} {R : Result → Shared → Prop}
    (W : WalksS P w A.in1 I fp wr G n Pv St) (S : Addr) (hSf : S ∉ fp) (xs : List Str) (hn : n = xs.length) (D : List Str) (room : D.length < scanBound) (hD : ∀ y ∈ xs, y ∈ D) (hval : ∀ i v, Pv i v → ∃ k t, xs[i]? = some k ∧ v = .str k t) :
    ∀ (k i : Nat) (s : Shared), n - i = k → i ≤ n → St i s → SetZ P w s.heap S (xs.take i) →
      (∀ s', Moved (S :: wr) G s s' → SetZ P w s'.heap S xs → R (.ok (.ret .none)) s') →
      codeAny (model P w) A (.builtin "set.update.loop" ⟨[.ref S, .ref I], []⟩) R s := by
  have hSw : S ∉ wr := fun h => hSf (W.sub _ h)
  have hsub : ∀ b ∈ wr, b ∈ S :: wr := fun b hb => List.mem_cons_of_mem _ hb
  intro k
  induction k with
  | zero =>
    intro i s hk' hi hst hS hR
    have hin : i = n := by omega
    subst hin
    refine codeAny_builtin PyProof.Rows.F.entry_set_update_loop ?_
    rw [Around.under_plainId PyProof.Rows.F.plain_set_update_loop _]
    show wpAny _ A.in1 (pyNext (.ref I) >>= _) _ _ s
    refine wpAny_bind (W.done s _ _ hst fun s' hm => ?_)
    show wpAny _ A.in1 (ret Value.none) _ _ s'
    have e : xs.take i = xs := List.take_of_length_le (by omega)
    rw [e] at hS
    exact wpAny_pure (hR s' (hm.mono hsub) (hS.at fun o e => hm.heap S o hSw e))
  | succ k ih =>
    intro i s hk' hi hst hS hR
    have hlt : i < n := by omega
    refine codeAny_builtin PyProof.Rows.F.entry_set_update_loop ?_
    rw [Around.under_plainId PyProof.Rows.F.plain_set_update_loop _]
    show wpAny _ A.in1 (pyNext (.ref I) >>= _) _ _ s
    refine wpAny_bind (W.item i s _ _ hlt hst fun v s' hP hst' hm => ?_)
    obtain ⟨z, t, hz, rfl⟩ := hval i v hP
    have hS' : SetZ P w s'.heap S (xs.take i) := hS.at fun o e => hm.heap S o hSw e
    show wpAny _ A.in1 (holding [Value.str z t] (setAdd S (.str z t)) >>= _) _ _ s'
    refine wpAny_bind (wpAny_holding ?_)
    unfold setAdd
    refine wpAny_holding ?_
    refine wpAny_bind ((zk P w).pyHash (k := z) (PySem.strKind_is _ _ _ _) ?_)
    have et : xs.take (i + 1) = xs.take i ++ [z] := by rw [List.take_add_one, hz]; rfl
    refine addZ (s := { s' with toks := s'.toks + 1 }) hS' D room (fun y hy => hD y (List.mem_of_mem_take (i := i + 1) (by rw [et]; exact hy))) fun b h' hsb hS2 => ?_
    rw [← et] at hS2
    refine wpAny_pure ⟨plainId_quiet PyProof.Rows.F.plain_set_update_loop _, ih (i + 1) _ (by omega) hlt (W.frame _ s' _ _ hst' (Nat.le_succ _) fun b hb o e => ?_) hS2 fun s'' hm'' hS'' => ?_⟩
    · rw [hsb.2 b (fun h : b = S => hSf (by rw [← h]; exact hb))]; exact e
    · refine hR s'' (Moved.trans W.gtrans ((hm.mono hsub).then_heap (Nat.le_succ _) fun b o hb e => ?_) hm'') hS''
      rw [hsb.2 b (fun h : b = S => hb (by rw [h]; exact List.mem_cons_self))]; exact e
theorem freshZ {h : Heap} {a : Addr} (ho : h.get? a = some { cls := .type "set", dict := none, data := .set #[] 0 (.fresh 0 0 (!w.params.followText "set-order")) }) : SetZ P w h a [] :=
  ⟨_, #[], 0, _, ho, ⟨rfl, rfl, rfl⟩, rfl, (fun e he => by simp at he), (by simp), (fun k => by simp), (by decide), (by rfl), List.Pairwise.nil, by
    show _ ∨ (!w.params.followText "set-order") = true
    cases w.params.followText "set-order"
    · exact .inr rfl
    · exact .inl rfl⟩
theorem strsZ_at : ∀ {us : List Value} {xs : List Str}, StrsAre us xs → ∀ (i : Nat) (v : Value), us[i]? = some v → ∃ k t, xs[i]? = some k ∧ v = .str k t
  | _, _, .nil, i, v, h => by simp at h
  | _, _, .cons n t hr, 0, v, h => by simp at h; exact ⟨n, t, rfl, h.symm⟩
  | _, _, .cons n t hr, i + 1, v, h => by
    simp only [List.getElem?_cons_succ] at h ⊢
    exact strsZ_at hr i v h
set_option maxHeartbeats 8000000 in
/-- set(xs), xs a list of texts -/
theorem call_setZ {l : Addr} {items : Array Value} (xs : List Str) (D : List Str) (room : D.length < scanBound) (hD : ∀ y ∈ xs, y ∈ D) {Q : Value → Shared → Prop} (hh : A.handled = none) (hl : s.heap.IsList l items) (hit : StrsAre items.toList xs)
    (h : ∀ (h' : Heap) (tk : Nat), SetZ P w h' s.heap.objs.size xs → (∀ b o, s.heap.get? b = some o → h'.get? b = some o) → Q (.ref s.heap.objs.size) { s with heap := h', toks := tk }) :
    wpAny (model P w) A (call (.type "set") [.ref l]) Q E s := by
  have hisz : items.size = xs.length := by
    have q := StrsAre.length hit
    rw [Array.length_toList] at q
    exact q
  obtain ⟨c, tl, hmro⟩ := PySem.F.called_set.mro
  have hmade := PySem.F.called_set.made
  have hsub := PySem.F.called_set.sub
  refine wpAny_call (codeAny_of_tree ?_)
  show wpAny _ _ (callAny (.type "set") _) _ _ _
  refine wpAny_pure ⟨Code.quiet_builtin _ (by decide +kernel), codeAny_builtin PySem.F.entry_type_call ?_⟩
  rw [Around.under_plain (weight_type_call_type "set" [.ref l] []) rfl]
  have h1 := PySem.F.called_set.notType
  have h2 := PySem.F.called_set.canCreate
  have hct := PySem.F.typeCall_set_1 (.ref l)
  repeat (any_goals (first | assumption | wp_step))
  refine codeAny_mono (code_set_led1 (.ref l) (E := E) (Q₁ := fun obj s₁ => obj = .ref s.heap.objs.size ∧ s₁ = { s with heap := s.heap.push { cls := .type "set", dict := none, data := .set #[] 0 (.fresh 0 0 (!w.params.followText "set-order")) } }) ⟨rfl, rfl⟩) fun r s₁ hr => ?_
  cases r with
  | error e => exact hr
  | ok fl =>
    cases fl with
    | ret obj =>
      obtain ⟨rfl, rfl⟩ := hr
      have hS : (s.heap.push { cls := .type "set", dict := none, data := .set #[] 0 (.fresh 0 0 (!w.params.followText "set-order")) }).get? s.heap.objs.size = some { cls := .type "set", dict := none, data := .set #[] 0 (.fresh 0 0 (!w.params.followText "set-order")) } := Heap.get?_push_size _ rfl
      have hT : Shared.TypeIs { s with heap := s.heap.push { cls := .type "set", dict := none, data := .set #[] 0 (.fresh 0 0 (!w.params.followText "set-order")) } } (.ref s.heap.objs.size) "set" := ⟨_, hS, rfl⟩
      have hli := PySem.F.called_set.init.lookup
      have hbi := PySem.F.called_set.init.bind (.ref s.heap.objs.size)
      repeat (any_goals (first | assumption | wp_step))
      refine codeAny_mono (codeAny_call_builtin (R := wants (fun r s₂ => r = .none ∧ ∃ h' tk, s₂ = { s with heap := h', toks := tk } ∧ SetZ P w h' s.heap.objs.size xs ∧
          (∀ b o, s.heap.get? b = some o → h'.get? b = some o)) E) PySem.F.called_set.init.plain PySem.F.entry_set_init (check_set_init_1 hT ?_)) fun r₂ s₂ hr₂ => ?_
      · obtain ⟨ol, hol, hcl, nl, hdl⟩ := hl
        obtain ⟨ocls, odict, odata, oslots⟩ := ol
        simp only at hcl hdl
        subst hcl; subst hdl
        have hol' : (s.heap.push { cls := .type "set", dict := none, data := .set #[] 0 (.fresh 0 0 (!w.params.followText "set-order")) }).get? l = some { cls := .type "list", dict := odict, data := .seq items nl, slots := oslots } := Heap.get?_push_of_some _ hol
        have hsls := PySem.F.sub_list_set
        have hslf := PySem.F.sub_list_frozenset
        have hne : (Value.type "list" == Value.type "dict") = false := by decide
        have hl1 : (s.heap.push { cls := .type "set", dict := none, data := .set #[] 0 (.fresh 0 0 (!w.params.followText "set-order")) }).IsList l items := ⟨_, hol', rfl, nl, rfl⟩
        unfold Builtin.«set.__init__» noKeywords Builtin.Frozenset.updateFrom
        generalize hPI : pyIter = PI
        wp_walk
        subst hPI
        refine wpAny_pyIter_list hl1 ?_
        refine wpAny_bind (wpAny_runValue ?_)
        have hlS : l < s.heap.objs.size := Heap.lt_size hol
        have hh3 : A.in1.in1.in1.handled = none := by simp [hh]
        have hneI : l ≠ (s.heap.push { cls := .type "set", dict := none, data := .set #[] 0 (.fresh 0 0 (!w.params.followText "set-order")) }).objs.size := by
          rw [Heap.size_push]; exact Nat.ne_of_lt (Nat.lt_succ_of_lt hlS)
        have hSf : s.heap.objs.size ∉ [(s.heap.push { cls := .type "set", dict := none, data := .set #[] 0 (.fresh 0 0 (!w.params.followText "set-order")) }).objs.size, l] := by
          rw [Heap.size_push]; simp only [List.mem_cons, List.mem_singleton, List.not_mem_nil, or_false, not_or]
          exact ⟨Nat.ne_of_lt (Nat.lt_succ_self _), Nat.ne_of_gt hlS⟩
        have hval : ∀ (i : Nat) (v : Value), items[i]? = some v → ∃ k t, xs[i]? = some k ∧ v = .str k t := fun i v hv => strsZ_at hit i v (by rw [Array.getElem?_toList]; exact hv)
        refine updZ ((Walks.list hh3 _ l hneI items).toS) s.heap.objs.size
          hSf xs hisz D room hD hval (items.size - 0) 0 _ (by omega) (Nat.zero_le _)
          ⟨⟨_, Heap.get?_push_size _ rfl, rfl, rfl⟩, (hl1.push _)⟩ ?hS0 ?hR
        case hS0 =>
          exact freshZ (Heap.get?_push_of_some _ hS)
        case hR =>
          intro s' hm hS'
          obtain ⟨h', g2, d', tk', os'⟩ := s'
          have eg : g2 = s.gens := hm.gens
          have ed : d' = s.drawn := hm.drawn
          have eo : os' = s.os := hm.os
          subst eg; subst ed; subst eo
          show wpAny _ _ _ _ _ _
          refine wpAny_pure ?_
          show wpAny _ _ (ret Value.none) _ _ _
          refine wpAny_pure ⟨rfl, h', tk', rfl, hS', fun b o e => ?_⟩
          have hb := Heap.lt_size e
          have hb1 : b ≠ s.heap.objs.size := Nat.ne_of_lt hb
          have hb2 : b ≠ (s.heap.push { cls := .type "set", dict := none, data := .set #[] 0 (.fresh 0 0 (!w.params.followText "set-order")) }).objs.size := by
            rw [Heap.size_push]; exact Nat.ne_of_lt (Nat.lt_succ_of_lt hb)
          exact hm.heap b o (by simp only [List.mem_cons, List.mem_singleton, List.not_mem_nil, or_false, not_or]; exact ⟨hb1, hb2⟩) (Heap.get?_push_of_some _ (Heap.get?_push_of_some _ e))
      · cases r₂ with
        | error e => exact hr₂
        | ok fl₂ =>
          cases fl₂ with
          | ret r =>
            obtain ⟨rfl, h', tk, rfl, hS', hk'⟩ := hr₂
            repeat (any_goals (first | assumption | wp_step))
            exact h _ _ hS' hk'
          | _ => exact hr₂.elim
    | _ => exact hr.elim
/-- sorted(set) -/
theorem sortedZset {Q : Value → Shared → Prop} (R : SetZ P w s.heap a ks) (hh : A.handled = none)
    (hQ : ∀ s' p (out : Array Value) (c : Nat) (ys : List Str), (∀ b o, s.heap.get? b = some o → s'.heap.get? b = some o) → s'.gens = s.gens → s'.os = s.os → s.heap.objs.size ≤ p →
      s'.heap.get? p = some (seqObj "list" out c) → StrsAre out.toList ys → sortedS ys = true → ys.Nodup → (∀ k, k ∈ ys ↔ k ∈ ks) → ys.length < scanBound → Q (.ref p) s') :
    wpAny (model P w) A (call (.builtin "sorted") [.ref a]) Q E s := by
  obtain ⟨o, es, ep, t, ho, hex, hd, g, nd, hm, hb, hf, hr, hl⟩ := R
  refine Calls.call_function_entry kind_sorted plain_sorted entry_sorted (args_sorted1 _) ?_
  unfold Builtin.«sorted»
  refine wpAny_bind (m := checkCount "sorted" 1 1 _) (wpAny_pure ?_)
  refine wpAny_bind (collect_set (A := A.in1) hh ⟨o, ho, hex.1, hd⟩ hf hb hr hl fun s1 vs k1 hz g1 o1 pm => ?_)
  have hvl : vs.length = es.size := by rw [pm.length_eq, List.length_map, Array.length_toList]
  have hvs : vs.length ≤ sizeLine := by rw [hvl]; exact fits_of_scanBound hb
  have hI : StrsAre vs (vs.map strOf) := strsAre_map vs fun v hv => by
    obtain ⟨e, he, q⟩ := List.mem_map.mp (pm.mem_iff.mp hv)
    obtain ⟨k, tk, h1, _⟩ := g e he
    exact ⟨k, tk, by rw [← q]; exact h1⟩
  have pk : (vs.map strOf).Perm (es.toList.map keyZ) := by
    have q := pm.map strOf
    rw [List.map_map] at q
    exact q
  refine wpAny_bind (wpAny_newList ?_ hvs)
  have hoL : (s1.heap.push (seqObj "list" vs.toArray 0)).get? s1.heap.objs.size = some (seqObj "list" vs.toArray 0) := Heap.get?_push_size _ rfl
  refine wpAny_bind (wpAny_holding (wpAny_call_entry slot_list_sort ⟨_, hoL, rfl⟩ entry_list_sort (list_sort_treeKAny strKind_oneLt hoL hI.keysOf (fun v₁ v₂ rest e => keyKind_strs (by rw [← e]; exact hI)) hvs fun st' hp hs => ⟨_, rfl, ?_⟩) (args_list_sort _)))
  obtain ⟨ys, a1, a2, a3⟩ := sorted_out_str hI hp hs
  obtain ⟨c, hc⟩ := sortedHeap_at (vs := vs) (out := (arrOf st').map (·.2)) hoL
  have pn : ys.Perm (es.toList.map keyZ) := a2.trans pk
  refine wpAny_pure ⟨_, rfl, hQ _ s1.heap.objs.size _ c ys (fun b u e => ?_) g1 o1 hz hc a1 a3 (pn.nodup_iff.mpr nd) (fun k => by rw [pn.mem_iff, hm k]) ?_⟩
  · have q := k1 b u e
    have hlt := Heap.lt_size q
    show (sortedHeap (s1.heap.push (seqObj "list" vs.toArray 0)) s1.heap.objs.size vs _).get? b = some u
    rw [sortedHeap_old (Nat.ne_of_lt hlt) (by rw [size_push']; exact Nat.lt_succ_of_lt hlt)]
    exact Heap.get?_push_of_some _ q
  · rw [pn.length_eq, List.length_map, Array.length_toList]; exact hb
end
/-! ### over the layer -/
def SetZO (P : Program) (w : World) (a : Addr) (ks : List Str) : HO := .ext fun h => SetZ P w h a ks
section
variable {X : Cx}
def rSetOfZ (K : PySem.W.Frag) (P : Program) (w : World) : List V → Hp → VK → Prop := fun vs H Q => ∃ (l : Addr) (xs D : List Str), vs = [V.ref l] ∧ SqL K H l (xs.map V.str) ∧ D.length < scanBound ∧ (∀ y ∈ xs, y ∈ D) ∧
  ∀ a, H a = none → Q (.ref a) (upd H a (SetZO P w a xs))
theorem cr_setOfZ (hc : X.calm = true) : CallR X (.type "set") (rSetOfZ X.K X.prog X.w) := by
  intro pins s σ H vs us Q I r h
  obtain ⟨l, xs, D, rfl, hl, room, hD, q⟩ := h
  rw [Vals.ref1 r]
  obtain ⟨its, rv, pl, hz⟩ := I.list hl
  have hn : H s.heap.objs.size = none := I.hok.fresh (Nat.le_refl _)
  refine call_setZ (P := X.prog) (w := X.w) xs D room hD (I.ok.hd hc) pl.isList (by simpa using Vals.strs rv) fun h' tk R k => ?_
  refine ⟨.ref s.heap.objs.size, upd H s.heap.objs.size (SetZO X.prog X.w s.heap.objs.size xs), I.laid (t' := tk) k (Nat.le_refl _) ?_, rfl, q _ hn⟩
  have ⟨o, _, _, _, ho, _⟩ := R
  exact ⟨R, ⟨o, ho⟩, fun h1 h2 p k => SetZ.at p k⟩
def rSortedZ (P : Program) (w : World) : List V → Hp → VK → Prop := fun vs H Q => ∃ (a : Addr) (ks : List Str), vs = [V.ref a] ∧ H a = some (SetZO P w a ks) ∧
  ∀ (ys : List Str) (p : Addr), sortedS ys = true → ys.Nodup → (∀ k, k ∈ ys ↔ k ∈ ks) → H p = none → Q (.ref p) (upd H p (.lst (ys.map V.str)))
theorem cr_sortedZ (hc : X.calm = true) : CallR X (.builtin "sorted") (rSortedZ X.prog X.w) := by
  intro pins s σ H vs us Q I r h
  obtain ⟨a, ks, rfl, ha, q⟩ := h
  have R0 : SetZ X.prog X.w s.heap a ks := (I.hok a _ ha).1
  rw [Vals.ref1 r]
  refine sortedZset R0 (I.ok.hd hc) fun s' p out c ys k g o hp hg hout hs nd mem hlt => ?_
  have hlen : (ys.map V.str).length ≤ sizeLine := by rw [List.length_map]; exact fits_of_scanBound hlt
  have hn : H p = none := I.hok.fresh hp
  have J : Inv X pins σ (upd H p (.lst (ys.map V.str))) { s with heap := s'.heap, gens := s'.gens, drawn := s'.drawn, toks := s'.toks } :=
    I.call (ch := []) (Un.laid k hp hn) (I.hok.laid k hp ⟨hlen, out.toList, c, vals_of_strs hout, hg⟩) (by rw [g]; exact I.bare) (fun _ z => nomatch z)
  have e : s' = { s with heap := s'.heap, gens := s'.gens, drawn := s'.drawn, toks := s'.toks } := by
    cases s'
    cases s
    cases o
    rfl
  rw [e]
  exact ⟨.ref p, _, J, rfl, q ys p hs nd mem hn⟩
end
end Sk
/-! All snakes, all ways, cells gone over, fields led along: plain Lean. -/
namespace Sn
theorem adj_cons (a b : Cel) (r : List Cel) : adjB (a :: b :: r) = (beside a b && adjB (b :: r)) := by simp [adjB]
theorem adj_mid : ∀ {cs : List Cel} {c : Cel} {t : List Cel}, adjB (cs ++ c :: t) = true → ∀ d, cs.getLast? = some d → beside d c = true
  | [], _, _, _, d, e => by cases e
  | [a], c, t, h, d, e => by
    have e2 : a = d := by simpa using e
    subst e2
    have : adjB (a :: c :: t) = true := h
    rw [adj_cons, Bool.and_eq_true] at this
    exact this.1
  | a :: b :: r, c, t, h, d, e => by
    have h2 : adjB (a :: b :: (r ++ c :: t)) = true := h
    rw [adj_cons, Bool.and_eq_true] at h2
    exact adj_mid (cs := b :: r) (c := c) (t := t) h2.2 d (by rw [List.getLast?_cons_cons] at e; exact e)
theorem adj_pre : ∀ {cs t : List Cel}, adjB (cs ++ t) = true → adjB cs = true
  | [], _, _ => rfl
  | [a], _, _ => rfl
  | a :: b :: r, t, h => by
    have h2 : adjB (a :: b :: (r ++ t)) = true := h
    rw [adj_cons, Bool.and_eq_true] at h2
    rw [adj_cons, h2.1, Bool.true_and]
    exact adj_pre (cs := b :: r) (t := t) h2.2
theorem Snk.pre {h w : Nat} {cs t : List Cel} (k : Snk h w (cs ++ t)) : Snk h w cs :=
  ⟨fun c hc => k.vld c (List.mem_append_left _ hc), (List.nodup_append.mp k.nd).1, adj_pre k.adj⟩
theorem Snk.next {h w : Nat} (h5 : h ≤ 5) (w5 : w ≤ 5) {cs t : List Cel} {c : Cel} (k : Snk h w (cs ++ c :: t)) : c ∈ nextL h w cs := by
  have hc : c ∈ cellsL h w := k.vld c (by simp)
  unfold nextL
  split
  · exact hc
  · rename_i d e
    have hd : d ∈ cellsL h w := k.vld d (List.mem_append_left _ (List.mem_of_getLast? e))
    refine List.mem_filter.mpr ⟨(near_mem h5 w5 hd).mpr ⟨hc, adj_mid k.adj d e⟩, ?_⟩
    have hn : c ∉ cs := fun z => by
      have := (List.nodup_append.mp k.nd).2.2 c z c (by simp)
      exact this rfl
    simp [hn]
theorem next_snk {h w : Nat} (h5 : h ≤ 5) (w5 : w ≤ 5) {cs : List Cel} {c : Cel} (k : Snk h w cs) (hc : c ∈ nextL h w cs) : Snk h w (cs ++ [c]) := by
  have hm := next_mem h5 w5 k.vld hc
  refine ⟨k.vld.snoc hm, ?_, ?_⟩
  · rw [List.nodup_append]
    refine ⟨k.nd, by simp, fun a ha b hb z => ?_⟩
    rw [List.mem_singleton.mp hb] at z
    subst z
    unfold nextL at hc
    split at hc
    · rename_i e
      rw [List.getLast?_eq_none_iff.mp e] at ha
      cases ha
    · have := (List.mem_filter.mp hc).2
      simp [ha] at this
  · refine adj_snoc k.adj fun d hd => ?_
    unfold nextL at hc
    rw [hd] at hc
    exact ((near_mem h5 w5 (k.vld.last hd)).mp (List.mem_filter.mp hc).1).2
theorem snakes_all {F : List (List Nat)} {h w : Nat} (h5 : h ≤ 5) (w5 : w ≤ 5) : ∀ (t cs : List Cel), Snk h w (cs ++ t) → cs ++ t ∈ snakesOn F h w (spell F t) cs
  | [], cs, _ => by
    rw [List.append_nil]
    show cs ∈ [cs]
    simp
  | c :: t, cs, k => by
    show _ ∈ (nextL h w cs).flatMap _
    refine List.mem_flatMap.mpr ⟨c, k.next h5 w5, ?_⟩
    rw [if_pos rfl]
    have q := snakes_all (F := F) h5 w5 t (cs ++ [c]) (by simpa using k)
    rw [List.append_assoc] at q
    exact q
theorem snakes_iff {F : List (List Nat)} {h w : Nat} (h5 : h ≤ 5) (w5 : w ≤ 5) {wd : List Nat} {s : List Cel} : s ∈ snakesOn F h w wd [] ↔ Snk h w s ∧ spell F s = wd := by
  constructor
  · exact snakes_mem h5 w5
  · rintro ⟨k, rfl⟩
    exact snakes_all h5 w5 s [] k
/-! ### all ways -/
def lineL (h w : Nat) : Nat → List (List Cel)
  | 0 => [[]]
  | n + 1 => (lineL h w n).flatMap fun cs => (nextL h w cs).map fun c => cs ++ [c]
theorem line_iff {h w : Nat} (h5 : h ≤ 5) (w5 : w ≤ 5) : ∀ {n : Nat} {s : List Cel}, s ∈ lineL h w n ↔ Snk h w s ∧ s.length = n
  | 0, s => by
    show s ∈ [[]] ↔ _
    rw [List.mem_singleton]
    constructor
    · rintro rfl
      exact ⟨snk_nil h w, rfl⟩
    · rintro ⟨_, e⟩
      exact List.length_eq_zero_iff.mp e
  | n + 1, s => by
    show s ∈ (lineL h w n).flatMap _ ↔ _
    rw [List.mem_flatMap]
    constructor
    · rintro ⟨cs, hcs, hs⟩
      obtain ⟨k, l⟩ := (line_iff h5 w5).mp hcs
      obtain ⟨c, hc, rfl⟩ := List.mem_map.mp hs
      exact ⟨next_snk h5 w5 k hc, by simp [l]⟩
    · rintro ⟨k, l⟩
      have hne : s ≠ [] := fun z => by rw [z] at l; simp at l
      have e : s.dropLast ++ [s.getLast hne] = s := List.dropLast_concat_getLast hne
      rw [← e] at k
      refine ⟨s.dropLast, (line_iff h5 w5).mpr ⟨k.pre, by simp [l]⟩, List.mem_map.mpr ⟨s.getLast hne, k.next h5 w5, e⟩⟩
theorem line_vld {h w n : Nat} (h5 : h ≤ 5) (w5 : w ≤ 5) {s : List Cel} (hs : s ∈ lineL h w n) : Vld h w s ∧ s.length = n := ⟨((line_iff h5 w5).mp hs).1.vld, ((line_iff h5 w5).mp hs).2⟩
theorem next_nd {h w : Nat} (h5 : h ≤ 5) (w5 : w ≤ 5) {cs : List Cel} (v : Vld h w cs) : (nextL h w cs).Nodup := by
  unfold nextL
  split
  · exact cells_nd h5 w5
  · rename_i d e
    rw [near_eq h5 w5 (v.last e)]
    exact List.Pairwise.filter _ (List.Pairwise.filter _ (cells_nd h5 w5))
theorem line_nd {h w : Nat} (h5 : h ≤ 5) (w5 : w ≤ 5) : ∀ n : Nat, (lineL h w n).Nodup
  | 0 => List.pairwise_singleton _ _
  | n + 1 => by
    show ((lineL h w n).flatMap _).Nodup
    unfold List.Nodup
    rw [List.pairwise_flatMap]
    refine ⟨fun s hs => ?_, ?_⟩
    · rw [List.pairwise_map]
      refine (next_nd h5 w5 (line_vld h5 w5 hs).1).imp ?_
      intro a b ne e
      exact ne (List.cons.inj (List.append_cancel_left e)).1
    · refine List.Pairwise.imp_of_mem ?_ (line_nd h5 w5 n)
      intro a b ha hb ne x hx y hy e
      obtain ⟨c, _, rfl⟩ := List.mem_map.mp hx
      obtain ⟨d, _, rfl⟩ := List.mem_map.mp hy
      exact ne (List.append_inj_left e (by rw [(line_vld h5 w5 ha).2, (line_vld h5 w5 hb).2]))
theorem line_len {h w : Nat} (h5 : h ≤ 5) (w5 : w ≤ 5) : ∀ n : Nat, (lineL h w (n + 1)).length ≤ (h * w) * 8 ^ n
  | 0 => by
    show (([[]] : List (List Cel)).flatMap _).length ≤ _
    rw [List.flatMap_cons, List.flatMap_nil, List.append_nil, List.length_map, Nat.pow_zero, Nat.mul_one]
    show (cellsL h w).length ≤ _
    unfold cellsL
    clear h5
    induction h with
    | zero => simp [rng]
    | succ h ih => rw [rng_succ, List.flatMap_append, List.length_append, List.flatMap_cons, List.flatMap_nil, List.append_nil, List.length_map, rng_length, Nat.succ_mul]; omega
  | n + 1 => by
    show ((lineL h w (n + 1)).flatMap _).length ≤ _
    refine Nat.le_trans (flat_le _ 8 _ fun s hs => ?_) ?_
    · rw [List.length_map]
      obtain ⟨v, l⟩ := line_vld h5 w5 hs
      have q := next_len h5 w5 v
      rw [if_neg (fun z => by rw [z] at l; simp at l)] at q
      exact q
    · rw [Nat.pow_succ, ← Nat.mul_assoc]
      exact Nat.mul_le_mul_right _ (line_len h5 w5 n)
/-- the ways as the laws make them -/
def stepW (h w : Nat) (cs : List Cel) : List (List Cel) := ((cellsL h w).filter fun c => (match cs.getLast? with | none => false | some d => beside d c) && !decide (c ∈ cs)).map fun c => cs ++ [c]
theorem step_line {h w : Nat} (h5 : h ≤ 5) (w5 : w ≤ 5) {cs : List Cel} (v : Vld h w cs) (hne : cs ≠ []) : stepW h w cs = (nextL h w cs).map fun c => cs ++ [c] := by
  unfold stepW nextL
  cases e : cs.getLast? with
  | none => exact absurd (List.getLast?_eq_none_iff.mp e) hne
  | some d =>
    dsimp only
    rw [near_eq h5 w5 (v.last e), List.filter_filter]
    congr 1
    apply List.filter_congr
    intro c _
    rw [Bool.and_comm]
theorem line_one (h w : Nat) : lineL h w 1 = (cellsL h w).map fun c => [c] := by
  show (([[]] : List (List Cel)).flatMap _) = _
  rw [List.flatMap_cons, List.flatMap_nil, List.append_nil]
  rfl
theorem flatMap_congr' {α β : Type} {f g : α → List β} {l : List α} (h : ∀ a ∈ l, f a = g a) : l.flatMap f = l.flatMap g := by
  induction l with
  | nil => rfl
  | cons a l ih => rw [List.flatMap_cons, List.flatMap_cons, h a List.mem_cons_self, ih fun b hb => h b (List.mem_cons_of_mem _ hb)]
theorem line_stepW {h w : Nat} (h5 : h ≤ 5) (w5 : w ≤ 5) (n : Nat) : (lineL h w (n + 1)).flatMap (stepW h w) = lineL h w (n + 2) := by
  show _ = (lineL h w (n + 1)).flatMap _
  apply flatMap_congr'
  intro s hs
  obtain ⟨v, l⟩ := line_vld h5 w5 hs
  exact step_line h5 w5 v fun z => by rw [z] at l; simp at l
/-! ### cells gone over -/
def goneStep (f cs : List Cel) : List Cel := f ++ cs.filter fun c => !decide (c ∈ f)
def goneL (ss : List (List Cel)) : List Cel := ss.foldl goneStep []
theorem gone_from : ∀ (ss : List (List Cel)) (f : List Cel) (c : Cel), c ∈ ss.foldl goneStep f ↔ c ∈ f ∨ ∃ s ∈ ss, c ∈ s
  | [], f, c => by simp
  | s :: ss, f, c => by
    rw [List.foldl_cons, gone_from ss]
    unfold goneStep
    simp only [List.mem_append, List.mem_filter, List.mem_cons, exists_eq_or_imp, Bool.not_eq_true', decide_eq_false_iff_not]
    constructor
    · rintro ((a | a) | a)
      · exact .inl a
      · exact .inr (.inl a.1)
      · exact .inr (.inr a)
    · rintro (a | a | a)
      · exact .inl (.inl a)
      · by_cases z : c ∈ f
        · exact .inl (.inl z)
        · exact .inl (.inr ⟨a, z⟩)
      · exact .inr a
theorem mem_gone {ss : List (List Cel)} {c : Cel} : c ∈ goneL ss ↔ ∃ s ∈ ss, c ∈ s := by
  unfold goneL
  rw [gone_from]
  simp
theorem gone_nd_from : ∀ (ss : List (List Cel)) (f : List Cel), f.Nodup → (∀ s ∈ ss, s.Nodup) → (ss.foldl goneStep f).Nodup
  | [], f, h, _ => h
  | s :: ss, f, h, hs => by
    rw [List.foldl_cons]
    refine gone_nd_from ss _ ?_ fun t ht => hs t (List.mem_cons_of_mem _ ht)
    unfold goneStep
    rw [List.nodup_append]
    refine ⟨h, List.Pairwise.filter _ (hs s List.mem_cons_self), fun a ha b hb z => ?_⟩
    subst z
    have := (List.mem_filter.mp hb).2
    simp [ha] at this
theorem gone_nd {ss : List (List Cel)} (hs : ∀ s ∈ ss, s.Nodup) : (goneL ss).Nodup := gone_nd_from ss [] List.nodup_nil hs
/-! ### lists in order -/
theorem eq_of_order {α : Type} {R : α → α → Prop} (irr : ∀ a, ¬ R a a) (asy : ∀ a b, R a b → R b a → False) : ∀ {l m : List α}, l.Pairwise R → m.Pairwise R → (∀ a, a ∈ l ↔ a ∈ m) → l = m
  | [], [], _, _, _ => rfl
  | [], b :: m, _, _, h => absurd ((h b).mpr List.mem_cons_self) (by simp)
  | a :: l, [], _, _, h => absurd ((h a).mp List.mem_cons_self) (by simp)
  | a :: l, b :: m, pl, pm, h => by
    obtain ⟨l1, l2⟩ := List.pairwise_cons.mp pl
    obtain ⟨m1, m2⟩ := List.pairwise_cons.mp pm
    have e : a = b := by
      rcases List.mem_cons.mp ((h a).mp List.mem_cons_self) with z | z
      · exact z
      · rcases List.mem_cons.mp ((h b).mpr List.mem_cons_self) with y | y
        · exact y.symm
        · exact (asy a b (l1 b y) (m1 a z)).elim
    subst e
    rw [eq_of_order irr asy l2 m2 fun x => ?_]
    constructor
    · intro hx
      rcases List.mem_cons.mp ((h x).mp (List.mem_cons_of_mem _ hx)) with z | z
      · subst z
        exact absurd (l1 x hx) (irr x)
      · exact z
    · intro hx
      rcases List.mem_cons.mp ((h x).mpr (List.mem_cons_of_mem _ hx)) with z | z
      · subst z
        exact absurd (m1 x hx) (irr x)
      · exact z
def codeC (c : Cel) : Int := c.1 * 64 + c.2
theorem cells_ordB : ((List.range 6).all fun h => (List.range 6).all fun w => decide ((cellsL h w).Pairwise fun a b => codeC a < codeC b)) = true := by decide +kernel
theorem cells_ord {h w : Nat} (h5 : h ≤ 5) (w5 : w ≤ 5) : (cellsL h w).Pairwise fun a b => codeC a < codeC b := by
  have a := List.all_eq_true.mp cells_ordB h (List.mem_range.mpr (by omega))
  exact of_decide_eq_true (List.all_eq_true.mp a w (List.mem_range.mpr (by omega)))
/-- the cells among xs, in order -/
def srtC (h w : Nat) (xs : List Cel) : List Cel := (cellsL h w).filter fun c => decide (c ∈ xs)
theorem mem_srtC {h w : Nat} {xs : List Cel} {c : Cel} : c ∈ srtC h w xs ↔ c ∈ cellsL h w ∧ c ∈ xs := by
  unfold srtC
  rw [List.mem_filter, decide_eq_true_eq]
theorem srtC_of {h w : Nat} (h5 : h ≤ 5) (w5 : w ≤ 5) {ds xs : List Cel} (p : ds.Perm xs) (o : ds.Pairwise fun a b => codeC a ≤ codeC b) (nd : xs.Nodup) (hv : ∀ c ∈ xs, c ∈ cellsL h w) : ds = srtC h w xs := by
  have nd2 : ds.Nodup := p.nodup_iff.mpr nd
  have inj : ∀ a ∈ cellsL h w, ∀ b ∈ cellsL h w, codeC a = codeC b → a = b := fun a ha b hb e => by
    obtain ⟨a1, a2⟩ := mem_cellsL.mp ha
    obtain ⟨b1, b2⟩ := mem_cellsL.mp hb
    unfold codeC at e
    apply Prod.ext <;> omega
  refine eq_of_order (R := fun a b => codeC a < codeC b) (fun a => Int.lt_irrefl _) (fun a b h1 h2 => by omega) ?_ (List.Pairwise.filter _ (cells_ord h5 w5)) fun a => ?_
  · refine List.Pairwise.imp_of_mem ?_ (List.pairwise_and_iff.mpr ⟨o, nd2⟩)
    intro a b ha hb ⟨h1, h2⟩
    have : codeC a ≠ codeC b := fun e => h2 (inj a (hv a (p.mem_iff.mp ha)) b (hv b (p.mem_iff.mp hb)) e)
    omega
  · rw [p.mem_iff, mem_srtC]
    exact ⟨fun z => ⟨hv a z, z⟩, fun z => z.2⟩
theorem srtC_congr {h w : Nat} {xs ys : List Cel} (e : ∀ c, c ∈ xs ↔ c ∈ ys) : srtC h w xs = srtC h w ys := by
  unfold srtC
  apply List.filter_congr
  intro c _
  by_cases z : c ∈ xs
  · rw [decide_eq_true z, decide_eq_true ((e c).mp z)]
  · rw [decide_eq_false z, decide_eq_false fun y => z ((e c).mpr y)]
theorem srtC_nd {h w : Nat} (h5 : h ≤ 5) (w5 : w ≤ 5) (xs : List Cel) : (srtC h w xs).Nodup := List.Pairwise.filter _ (cells_nd h5 w5)
theorem srtC_len {h w : Nat} (h5 : h ≤ 5) (w5 : w ≤ 5) (xs : List Cel) : (srtC h w xs).length ≤ 25 := by
  refine Nat.le_trans (List.length_filter_le _ _) ?_
  have q := next_len h5 w5 (vld_nil h w)
  rw [if_pos rfl] at q
  exact q
/-- no more than 25 cells, each once -/
theorem nd_len {h w : Nat} (h5 : h ≤ 5) (w5 : w ≤ 5) {xs : List Cel} (nd : xs.Nodup) (hv : ∀ c ∈ xs, c ∈ cellsL h w) : xs.length ≤ 25 := by
  have p : (srtC h w xs).Perm xs := (List.perm_ext_iff_of_nodup (srtC_nd h5 w5 xs) nd).mpr fun c => by
    rw [mem_srtC]
    exact ⟨fun z => z.2, fun z => ⟨hv c z, z⟩⟩
  rw [← p.length_eq]
  exact srtC_len h5 w5 xs
theorem gone_cells {F : List (List Nat)} {h w : Nat} (h5 : h ≤ 5) (w5 : w ≤ 5) {wd : List Nat} : (goneL (snakesOn F h w wd [])).Nodup ∧ ∀ c ∈ goneL (snakesOn F h w wd []), c ∈ cellsL h w := by
  refine ⟨gone_nd fun s hs => (snakes_mem h5 w5 hs).1.nd, fun c hc => ?_⟩
  obtain ⟨s, hs, hc⟩ := mem_gone.mp hc
  exact (snakes_mem h5 w5 hs).1.vld c hc
end Sn
/-! What gone_over and words promise; lists of cells and of texts in order. -/
namespace Sk
open PySem PySem.Spec PyProof.Rows L2 Sn
theorem Paired.perm {α β : Type} {F : α → β → Prop} {xs ys : List α} (p : ys.Perm xs) : ∀ {cs : List β}, Paired F xs cs → ∃ ds, ds.Perm cs ∧ Paired F ys ds := by
  induction p with
  | nil => intro cs h; cases h; exact ⟨[], List.Perm.nil, .nil⟩
  | cons x _ ih =>
    intro cs h
    cases h with
    | cons r t =>
      obtain ⟨ds, h1, h2⟩ := ih t
      exact ⟨_ :: ds, h1.cons _, .cons r h2⟩
  | swap x y l =>
    intro cs h
    cases h with
    | cons r t =>
      cases t with
      | cons r2 t2 => exact ⟨_, List.Perm.swap _ _ _, .cons r2 (.cons r t2)⟩
  | trans _ _ ih1 ih2 =>
    intro cs h
    obtain ⟨ds, h1, h2⟩ := ih2 h
    obtain ⟨es, h3, h4⟩ := ih1 h2
    exact ⟨es, h3.trans h1, h4⟩
theorem Paired.pw {α β : Type} {F : α → β → Prop} {R : α → α → Prop} {S : β → β → Prop} (h : ∀ x y a b, F x a → F y b → R x y → S a b) : ∀ {xs : List α} {cs : List β}, Paired F xs cs → xs.Pairwise R → cs.Pairwise S
  | _, _, .nil, _ => List.Pairwise.nil
  | x :: xs, c :: cs, .cons r t, p => by
    obtain ⟨p1, p2⟩ := List.pairwise_cons.mp p
    refine List.pairwise_cons.mpr ⟨fun b hb => ?_, Paired.pw h t p2⟩
    obtain ⟨i, hi⟩ := List.mem_iff_getElem?.mp hb
    obtain ⟨y, hy, ry⟩ := Paired.get' t hi
    exact h x y c b r ry (p1 y (List.mem_of_getElem? hy))
/-- what sorted tells of a list of cells -/
theorem sorted_cells {K : PySem.W.Frag} {H : Hp} {xs ys : List V} {cs : List Cel} {h w : Nat} (h5 : h ≤ 5) (w5 : w ≤ 5) (hc : Cells K H xs cs) (nd : cs.Nodup) (hv : ∀ c ∈ cs, c ∈ cellsL h w) (p : ys.Perm xs)
    (o : ys.Pairwise fun x y => ∀ n m, TupI K H x n → TupI K H y m → TS.code 64 n ≤ TS.code 64 m) : Cells K H ys (srtC h w cs) := by
  obtain ⟨ds, h1, h2⟩ := Paired.perm p hc
  have e : ds = srtC h w cs := by
    refine srtC_of h5 w5 h1 (Paired.pw (fun x y a b ha hb hxy => ?_) h2 o) nd hv
    obtain ⟨t, rfl, ht⟩ := ha
    obtain ⟨u, rfl, hu⟩ := hb
    have := hxy [a.1, a.2] [b.1, b.2] ⟨t, rfl, ht⟩ ⟨u, rfl, hu⟩
    rw [code_pair, code_pair] at this
    exact this
  rw [← e]
  exact h2
theorem cells_asks {K : PySem.W.Frag} {H : Hp} {xs : List V} {cs : List Cel} {h w : Nat} (h5 : h ≤ 5) (w5 : w ≤ 5) (hc : Cells K H xs cs) (hv : ∀ c ∈ cs, c ∈ cellsL h w) : ∀ x ∈ xs, ∃ ns, TupI K H x ns ∧ ns.length = 2 ∧ TS.Bd 64 ns := by
  intro x hx
  obtain ⟨i, hi⟩ := List.mem_iff_getElem?.mp hx
  obtain ⟨c, hci, t, rfl, ht⟩ := Paired.get hc hi
  obtain ⟨⟨a1, a2⟩, a3, a4⟩ := mem_cellsL.mp (hv c (List.mem_of_getElem? hci))
  refine ⟨[c.1, c.2], ⟨t, rfl, ht⟩, rfl, fun m hm => ?_⟩
  simp only [List.mem_cons, List.not_mem_nil, or_false] at hm
  rcases hm with rfl | rfl <;> omega
/-! ### texts in order -/
/-- ys: the texts of L, each once, in order -/
def SrtT (ys L : List (List Nat)) : Prop := ys.Pairwise (fun a b => a < b) ∧ ∀ x, x ∈ ys ↔ x ∈ L
theorem SrtT.inj {ys zs L M : List (List Nat)} (a : SrtT ys L) (b : SrtT zs M) (e : ∀ x, x ∈ L ↔ x ∈ M) : ys = zs :=
  eq_of_order (fun x => List.lt_irrefl x) (fun x y h1 h2 => List.lt_asymm h1 h2) a.1 b.1 fun x => (a.2 x).trans ((e x).trans (b.2 x).symm)
theorem SrtT.nd {ys L : List (List Nat)} (a : SrtT ys L) : ys.Nodup := List.Pairwise.imp (S := fun x y => x ≠ y) (fun {x y} h => fun e => by rw [e] at h; exact List.lt_irrefl y h) a.1
theorem rising_le : ∀ (l : List Str) (p : Str), risingS p l = true → ∀ x ∈ l, ¬ x.cps.toList < p.cps.toList
  | [], _, _, x, hx => by cases hx
  | y :: l, p, h, x, hx => by
    have h' : (!ltCps y.cps.toList p.cps.toList && risingS y l) = true := h
    rw [Bool.and_eq_true, Bool.not_eq_true', ltCps_eq, decide_eq_false_iff_not] at h'
    rcases List.mem_cons.mp hx with rfl | hx
    · exact h'.1
    · have q := rising_le l y h'.2 x hx
      exact List.not_lt.mpr (List.le_trans (List.not_lt.mp h'.1) (List.not_lt.mp q))
theorem sortedS_lt : ∀ (l : List Str), sortedS l = true → l.Nodup → (l.map fun z => z.cps.toList).Pairwise (fun a b => a < b)
  | [], _, _ => List.Pairwise.nil
  | p :: l, h, nd => by
    have h' : risingS p l = true := h
    obtain ⟨n1, n2⟩ := List.nodup_cons.mp nd
    rw [List.map_cons]
    refine List.pairwise_cons.mpr ⟨fun z hz => ?_, sortedS_lt l ?_ n2⟩
    · obtain ⟨x, hx, rfl⟩ := List.mem_map.mp hz
      have q := rising_le l p h' x hx
      by_cases c : p.cps.toList < x.cps.toList
      · exact c
      · exfalso
        have e := List.le_antisymm (List.not_lt.mp q) (List.not_lt.mp c)
        have e2 : p = x := by
          cases p
          cases x
          congr 1
          exact Array.toList_inj.mp e
        exact n1 (e2 ▸ hx)
    · cases l with
      | nil => rfl
      | cons y l =>
        have h2 : (!ltCps y.cps.toList p.cps.toList && risingS y l) = true := h'
        rw [Bool.and_eq_true] at h2
        exact h2.2
theorem tx_of (z : Str) : tx z.cps.toList = z := by cases z; simp [tx]
theorem srtT_of {ys : List Str} {L : List (List Nat)} (h : sortedS ys = true) (nd : ys.Nodup) (m : ∀ k, k ∈ ys ↔ k ∈ L.map tx) : ∃ zs, ys.map V.str = zs.map tv ∧ SrtT zs L := by
  refine ⟨ys.map fun z => z.cps.toList, ?_, sortedS_lt ys h nd, fun x => ?_⟩
  · rw [List.map_map]
    apply List.map_congr_left
    intro z _
    show V.str z = tv z.cps.toList
    rw [show tv z.cps.toList = V.str (tx z.cps.toList) from rfl, tx_of]
  · constructor
    · intro hx
      obtain ⟨z, hz, rfl⟩ := List.mem_map.mp hx
      obtain ⟨y, hy, e⟩ := List.mem_map.mp ((m z).mp hz)
      rw [← e, tx_cps]
      exact hy
    · intro hx
      exact List.mem_map.mpr ⟨tx x, (m (tx x)).mpr (List.mem_map.mpr ⟨x, hx, rfl⟩), tx_cps x⟩
/-! ### promises -/
def spGoneOver (K : PySem.W.Frag) : Sp := fun vs H Q _ => ∃ a F h w wd, vs = [.ref a, tv wd] ∧ FieldAt K H a F h w ∧ WordOk wd ∧
  ∀ H' p ys, Same H H' → H p = none → H' p = some (.lst ys) → Cells K H' ys (srtC h w (goneL (snakesOn F h w wd []))) → Q (.ref p) H'
def wordsT (F : List (List Nat)) (h w n : Nat) : List (List Nat) := (lineL h w n).map (spell F)
def spWords (K : PySem.W.Frag) : Sp := fun vs H Q _ => ∃ (a : Addr) (F : List (List Nat)) (h w n : Nat) (D : List (List Nat)), vs = [.ref a, .int ((n : Nat) : Int)] ∧ FieldAt K H a F h w ∧ 1 ≤ n ∧ n ≤ 4 ∧ D.length < scanBound ∧ (∀ x ∈ wordsT F h w n, x ∈ D) ∧
  ∀ H' p ys, Same H H' → H p = none → H' p = some (.lst (ys.map tv)) → SrtT ys (wordsT F h w n) → Q (.ref p) H'
theorem wordsT_len {F : List (List Nat)} {h w : Nat} (h5 : h ≤ 5) (w5 : w ≤ 5) (n : Nat) : (wordsT F h w (n + 1)).length ≤ (h * w) * 8 ^ n := by
  unfold wordsT
  rw [List.length_map]
  exact line_len h5 w5 n
theorem line_small {h w : Nat} (h5 : h ≤ 5) (w5 : w ≤ 5) {n : Nat} (hn : n ≤ 4) : (lineL h w n).length ≤ 12800 := by
  cases n with
  | zero => show 1 ≤ _; omega
  | succ n =>
    refine Nat.le_trans (line_len h5 w5 n) ?_
    have h1 : h * w ≤ 25 := Nat.mul_le_mul h5 w5
    have h2 : 8 ^ n ≤ 8 ^ 3 := Nat.pow_le_pow_right (by decide) (by omega)
    exact Nat.mul_le_mul h1 h2
end Sk
/-! What the later laws share about words. -/
namespace Sk
open PySem PySem.Spec PyProof.Rows L2 Sn
theorem cut_takeV (xs : List V) (n : Nat) : cutV xs none (some (n : Int)) = xs.take n := by
  unfold cutV
  rw [HT.sIx_none, HT.sIx_nat, List.drop_zero, Nat.sub_zero]
  show xs.take (min n xs.length) = _
  by_cases hn : n ≤ xs.length
  · rw [Nat.min_eq_left hn]
  · rw [Nat.min_eq_right (by omega), List.take_length, List.take_of_length_le (by omega)]
def srtB (ys L : List (List Nat)) : Bool := decide (ys.Pairwise fun a b => a < b) && ys.all (fun x => decide (x ∈ L)) && L.all fun x => decide (x ∈ ys)
theorem srtB_ok {ys L : List (List Nat)} (e : srtB ys L = true) : SrtT ys L := by
  unfold srtB at e
  simp only [Bool.and_eq_true, decide_eq_true_eq, List.all_eq_true] at e
  exact ⟨e.1.1, fun x => ⟨e.1.2 x, e.2 x⟩⟩
/-- what is told is the written list -/
theorem SrtT.is {ys zs L : List (List Nat)} (a : SrtT ys L) (e : srtB zs L = true) : ys = zs := a.inj (srtB_ok e) fun _ => Iff.rfl
theorem SrtT.len {ys L : List (List Nat)} (a : SrtT ys L) (nd : L.Nodup) : ys.length = L.length := ((List.perm_ext_iff_of_nodup a.nd nd).mpr a.2).length_eq
/-- all letters unlike: each way another word -/
def unlB (F : List (List Nat)) (h w : Nat) : Bool := (cellsL h w).all fun c => (cellsL h w).all fun d => !decide (at_ F c = at_ F d) || decide (c = d)
theorem words_nd {F : List (List Nat)} {h w : Nat} (h5 : h ≤ 5) (w5 : w ≤ 5) (e : unlB F h w = true) (n : Nat) : (wordsT F h w n).Nodup := by
  unfold unlB at e
  simp only [List.all_eq_true, Bool.or_eq_true, Bool.not_eq_true', decide_eq_false_iff_not, decide_eq_true_eq] at e
  have inj : ∀ (s t : List Cel), Vld h w s → Vld h w t → spell F s = spell F t → s = t := by
    intro s
    induction s with
    | nil =>
      intro t _ _ z
      cases t with
      | nil => rfl
      | cons _ _ => cases z
    | cons c s ih =>
      intro t vs vt z
      cases t with
      | nil => cases z
      | cons d t =>
        obtain ⟨z1, z2⟩ := List.cons.inj z
        have e1 : c = d := (e c (vs c List.mem_cons_self) d (vt d List.mem_cons_self)).elim (fun y => absurd z1 y) id
        rw [e1, ih t (fun x hx => vs x (List.mem_cons_of_mem _ hx)) (fun x hx => vt x (List.mem_cons_of_mem _ hx)) z2]
  unfold wordsT List.Nodup
  rw [List.pairwise_map]
  refine List.Pairwise.imp_of_mem ?_ (line_nd h5 w5 n)
  intro a b ha hb ne z
  exact ne (inj a b (line_vld h5 w5 ha).1 (line_vld h5 w5 hb).1 z)
theorem few_words {F : List (List Nat)} {h w : Nat} (h5 : h ≤ 5) (w5 : w ≤ 5) {n : Nat} (hb : (h * w) * 8 ^ n < 4096) : (wordsT F h w (n + 1)).length < scanBound := Nat.lt_of_le_of_lt (wordsT_len h5 w5 n) hb
theorem at_letter {F : List (List Nat)} {h w : Nat} (o : FieldOk F h w) {c : Cel} (hc : c ∈ cellsL h w) : letter (at_ F c) := by
  obtain ⟨⟨a1, a2⟩, a3, a4⟩ := mem_cellsL.mp hc
  have hl : c.1.toNat < F.length := by rw [o.high]; omega
  have e1 : F.getD c.1.toNat [] = F[c.1.toNat] := getD_of (List.getElem?_eq_getElem hl)
  have hm : F[c.1.toNat] ∈ F := List.getElem_mem hl
  have hw : c.2.toNat < (F[c.1.toNat]).length := by rw [o.wide _ hm]; omega
  unfold at_
  rw [e1, getD_of (List.getElem?_eq_getElem hw)]
  exact o.let_ _ hm _ (List.getElem_mem hw)
theorem words_ok {F : List (List Nat)} {h w n : Nat} (o : FieldOk F h w) (n1 : 1 ≤ n) (n6 : n ≤ 6) {x : List Nat} (hx : x ∈ wordsT F h w n) : WordOk x ∧ (snakesOn F h w x []) ≠ [] := by
  obtain ⟨s, hs, rfl⟩ := List.mem_map.mp hx
  obtain ⟨k, l⟩ := (line_iff o.h5 o.w5).mp hs
  have e : (spell F s).length = n := by unfold spell; rw [List.length_map]; exact l
  refine ⟨⟨by omega, by omega, fun c hc => ?_⟩, fun z => ?_⟩
  · obtain ⟨d, hd, rfl⟩ := List.mem_map.mp hc
    exact at_letter o (k.vld d hd)
  · have q := (snakes_iff (F := F) o.h5 o.w5 (wd := spell F s)).mpr ⟨k, rfl⟩
    rw [z] at q
    cases q
theorem srt_shp {F ys : List (List Nat)} {h w n : Nat} (o : FieldOk F h w) (n1 : 1 ≤ n) (n6 : n ≤ 6) (srt : SrtT ys (wordsT F h w n)) : Shp 2 (textsD ys) := shp_texts fun r hr => letter_cod (words_ok o n1 n6 ((srt.2 r).mp hr)).1.let_
theorem srt_len {F ys : List (List Nat)} {h w n : Nat} (o : FieldOk F h w) (n4 : n ≤ 4) (srt : SrtT ys (wordsT F h w n)) : ys.length ≤ 12800 := by
  have q := nodup_sub_len srt.nd fun x hx => (srt.2 x).mp hx
  unfold wordsT at q
  rw [List.length_map] at q
  have := line_small o.h5 o.w5 n4
  omega
theorem field_take {F : List (List Nat)} {h w : Nat} (o : FieldOk F h w) {k : Nat} (k1 : 1 ≤ k) : FieldOk (F.take k) (min k h) w := by
  have h1 := o.h1
  have h5 := o.h5
  exact ⟨by rw [List.length_take, o.high], by omega, by omega, o.w1, o.w5, fun r hr => o.wide r (List.mem_of_mem_take hr), fun r hr => o.let_ r (List.mem_of_mem_take hr)⟩
theorem cut_field {F : List (List Nat)} {h w : Nat} (o : FieldOk F h w) (k : Nat) (k1 : 1 ≤ k) : ∃ Fs hs, cutV (F.map tv) none (some (k : Int)) = Fs.map tv ∧ FieldOk Fs hs w := ⟨F.take k, min k h, by rw [cut_takeV, List.map_take], field_take o k1⟩
theorem few_ok {n : Nat} {h w : Nat} (h5 : h ≤ 5) (w5 : w ≤ 5) (hn : n ≤ 2) : h * w * 8 ^ n < 4096 := by
  have h1 : h * w ≤ 25 := Nat.mul_le_mul h5 w5
  have h2 : 8 ^ n ≤ 8 ^ 2 := Nat.pow_le_pow_right (by decide) hn
  exact Nat.lt_of_le_of_lt (Nat.mul_le_mul h1 h2) (by decide)
theorem srtC_shw {h w : Nat} (h5 : h ≤ 5) (w5 : w ≤ 5) (xs : List Cel) : Shw (2 + 100 * (6 + 2)) (cellsD (srtC h w xs)) := shw_cells (fun c hc => by
  obtain ⟨⟨a1, a2⟩, a3, a4⟩ := mem_cellsL.mp (mem_srtC.mp hc).1
  omega) (Nat.le_trans (srtC_len h5 w5 xs) (by decide))
theorem cutS3 (r : List Nat) : cutS (tx r) none (some 3) = tx (r.take 3) := cutS_takeL r 3
/-! lists of whole numbers -/
def intsD (xs : List Int) : PyData := .list (xs.map PyData.int)
theorem eqv_int (a b : Int) : PyData.eqv (.int a) (.int b) = decide (a = b) := by
  have e : PyData.eqv (.int a) (.int b) = (a == b) := by simp only [PyData.eqv]
  rw [e]
  by_cases h : a = b
  · subst h; simp
  · rw [decide_eq_false h, beq_eq_false_iff_ne.mpr h]
theorem eqv_ints (a b : List Int) : PyData.eqv (intsD a) (intsD b) = decide (a = b) := eqv_lists eqv_int a b
theorem shp_ints (xs : List Int) : Shp 2 (intsD xs) := shp_map (n := 1) (fun a => ⟨by simp [PyData.canLay0], by simp [PyData.depth]⟩) xs
theorem ints_dp {K : PySem.W.Frag} {H : Hp} {a : Addr} {xs : List Int} (h : SqL K H a (xs.map V.int)) : Dp K H (.ref a) (intsD xs) := by
  refine .lst h ?_
  clear h
  induction xs with
  | nil => exact .nil
  | cons x xs ih => exact .cons (.int x) ih
end Sk
/-! Written data in which names of the def stand. -/
namespace Sk
open PySem PySem.Spec PyProof.Rows L2 Sn
/-- what the names hold -/
def EnvD (K : PySem.W.Frag) (Γ : List (Nat × PyData)) (σ : L2.St) (H : Hp) : Prop := ∀ p ∈ Γ, ∃ v, σ[p.1]? = some (some v) ∧ Dp K H v p.2
def tLitG (K : PySem.W.Frag) (Γ : List (Nat × PyData)) (d : PyData) : TE := fun σ H Q => EnvD K Γ σ H ∧ ∀ v H', Same H H' → Dp K H' v d → Q v H'
def tLitsG (K : PySem.W.Frag) (Γ : List (Nat × PyData)) (ds : List PyData) : TA := fun σ H Q => EnvD K Γ σ H ∧ ∀ vs H', Same H H' → DpAll K H' vs ds → Q vs H'
section
variable {K : PySem.W.Frag} {Γ : List (Nat × PyData)} {σ : L2.St} {H H' : Hp}
theorem EnvD.same (e : EnvD K Γ σ H) (s : Same H H') : EnvD K Γ σ H' := fun p hp => by
  obtain ⟨v, h1, h2⟩ := e p hp
  exact ⟨v, h1, Dp.same s _ _ h2⟩
theorem EnvD.nil : EnvD K [] σ H := fun _ z => nomatch z
theorem EnvD.cons {i : Nat} {d : PyData} {v : V} (h1 : σ[i]? = some (some v)) (h2 : Dp K H v d) (e : EnvD K Γ σ H) : EnvD K ((i, d) :: Γ) σ H := fun p hp => by
  rcases List.mem_cons.mp hp with rfl | hp
  · exact ⟨v, h1, h2⟩
  · exact e p hp
theorem DpAll.app : ∀ {vs us : List V} {ds es : List PyData}, DpAll K H vs ds → DpAll K H us es → DpAll K H (vs ++ us) (ds ++ es)
  | _, _, _, _, .nil, h => h
  | _, _, _, _, .cons a t, h => .cons a (DpAll.app t h)
theorem DpAll.rep {vs : List V} {ds : List PyData} (h : DpAll K H vs ds) : ∀ n : Nat, DpAll K H (List.replicate n vs).flatten (List.replicate n ds).flatten
  | 0 => .nil
  | n + 1 => by
    rw [List.replicate_succ, List.replicate_succ, List.flatten_cons, List.flatten_cons]
    exact DpAll.app h (DpAll.rep h n)
theorem flat_repl {α : Type} (xs : List α) : ∀ n : Nat, (List.replicate n xs).flatten.length = n * xs.length
  | 0 => by simp
  | n + 1 => by rw [List.replicate_succ, List.flatten_cons, List.length_append, flat_repl xs n, Nat.succ_mul]; omega
end
section
variable {X : Cx} {e e2 : Expr} {es : List Expr} {pos p2 : Pos} {d : PyData} {ds : List PyData}
theorem lg_lit (K : PySem.W.Frag) (Γ : List (Nat × PyData)) (h : PE X e (tLit K d)) : PE X e (tLitG K Γ d) := PE.weak h fun _ _ _ q => q.2
theorem lg_str (K : PySem.W.Frag) (Γ : List (Nat × PyData)) {x : Str} {j} (r : List Nat) (hx : x = tx r := by rfl) : PE X (.Constant (.str x) j pos) (tLitG K Γ (.str (tx r))) := by
  subst hx
  exact lg_lit K Γ (lit_str K)
theorem lg_var (K : PySem.W.Frag) (Γ : List (Nat × PyData)) (k : Nat) {i : Nat} (h : Γ[k]? = some (i, d)) (hp : PE X e (tVar i)) : PE X e (tLitG K Γ d) := PE.weak hp fun σ H Q q => by
  obtain ⟨v, h1, h2⟩ := q.1 _ (List.mem_of_getElem? h)
  exact ⟨v, h1, q.2 v H (Same.refl _) h2⟩
theorem lg_add (K : PySem.W.Frag) (Γ : List (Nat × PyData)) {r1 r2 : List Nat} (h1 : PE X e (tLitG K Γ (.str (tx r1)))) (h2 : PE X e2 (tLitG K Γ (.str (tx r2)))) (hl : Nat.ble (r1.length + r2.length) 1000 = true := by rfl) : PE X (.BinOp e .Add e2 pos) (tLitG K Γ (.str (tx (r1 ++ r2)))) :=
  PE.weak (pe_op op_add_str h1 h2) fun σ H Q q => ⟨q.1, fun x H1 s1 d1 => ⟨q.1.same s1, fun y H2 s2 d2 => by
    cases d1
    cases d2
    refine ⟨tx r1, tx r2, rfl, rfl, by rw [tx_len, tx_len]; exact small_line (by have := Nat.le_of_ble_eq_true hl; omega), ?_⟩
    rw [tx_app]
    exact q.2 _ _ (s1.trans s2) (.str _)⟩⟩
theorem lg_mul (K : PySem.W.Frag) (Γ : List (Nat × PyData)) {r : List Nat} {j} {p : Pos} (n : Nat) (h1 : PE X e (tLitG K Γ (.str (tx r)))) (hn : (Nat.ble 2 n && Nat.ble n 1000 && Nat.ble 1 r.length && Nat.ble r.length 1000) = true := by rfl) : PE X (.BinOp e .Mult (.Constant (.int (n : Int)) j p) pos) (tLitG K Γ (.str (tx (List.replicate n r).flatten))) := by
  simp only [Bool.and_eq_true] at hn
  obtain ⟨⟨⟨n1, n2⟩, n3⟩, n4⟩ := hn
  exact PE.weak (pe_op op_repS h1 pe_int) fun σ H Q q => ⟨q.1, fun x H1 s1 d1 => by
    cases d1
    refine ⟨tx r, n, rfl, rfl, Nat.le_of_ble_eq_true n1, Nat.le_of_ble_eq_true n2, by rw [tx_len]; exact Nat.le_of_ble_eq_true n3, by rw [tx_len]; exact Nat.le_of_ble_eq_true n4, ?_⟩
    rw [repS_tx]
    exact q.2 _ _ s1 (.str _)⟩
theorem lgs_nil (K : PySem.W.Frag) (Γ : List (Nat × PyData)) : PA X [] (tLitsG K Γ []) := PA.weak pa_nil fun _ H Q q => q.2 _ _ (Same.refl _) .nil
theorem lgs_cons (K : PySem.W.Frag) (Γ : List (Nat × PyData)) (h : PE X e (tLitG K Γ d)) (t : PA X es (tLitsG K Γ ds)) (hs : starEach (e :: es) X.env = (false, eval e X.env) :: starEach es X.env := by rfl) : PA X (e :: es) (tLitsG K Γ (d :: ds)) :=
  PA.weak (pa_cons h t hs) fun σ H Q q => ⟨q.1, fun v H1 s1 d1 => ⟨q.1.same s1, fun vs H2 s2 d2 => q.2 (v :: vs) H2 (s1.trans s2) (.cons (Dp.same s2 d v d1) d2)⟩⟩
theorem lg_list (K : PySem.W.Frag) (Γ : List (Nat × PyData)) (h : PA X es (tLitsG K Γ ds)) (hl : Nat.ble ds.length 1000 = true := by rfl) : PE X (.List es pos) (tLitG K Γ (.list ds)) :=
  PE.weak (pe_lst h) fun σ H Q q => ⟨q.1, fun vs H1 s1 d1 => ⟨by rw [DpAll.len d1]; exact small_line (by have := Nat.le_of_ble_eq_true hl; omega), fun p np => q.2 _ _ (s1.trans (same_new np)) (.lst (SqL.of upd_same) (DpAll.same (same_new np) ds vs d1))⟩⟩
theorem lg_tup (K : PySem.W.Frag) (Γ : List (Nat × PyData)) {c} (h : PA X es (tLitsG K Γ ds)) (hl : Nat.ble ds.length 1000 = true := by rfl) : PE X (.Tuple es c pos) (tLitG K Γ (.tuple ds)) :=
  PE.weak (pe_tup h) fun σ H Q q => ⟨q.1, fun vs H1 s1 d1 => ⟨by rw [DpAll.len d1]; exact small_line (by have := Nat.le_of_ble_eq_true hl; omega), fun p np => q.2 _ _ (s1.trans (same_new np)) (.tup (SqT.of upd_same) (DpAll.same (same_new np) ds vs d1))⟩⟩
theorem lg_lrep (K : PySem.W.Frag) (Γ : List (Nat × PyData)) {j} {p : Pos} (n : Nat) (h : PA X es (tLitsG K Γ ds)) (hl : (Nat.ble ds.length 100 && Nat.ble n 100) = true := by rfl) : PE X (.BinOp (.List es p2) .Mult (.Constant (.int (n : Int)) j p) pos) (tLitG K Γ (.list (List.replicate n ds).flatten)) := by
  simp only [Bool.and_eq_true] at hl
  have l1 := Nat.le_of_ble_eq_true hl.1
  have l2 := Nat.le_of_ble_eq_true hl.2
  refine PE.weak (pe_op op_rep (pe_lst h) pe_int) fun σ H Q q => ⟨q.1, fun vs H1 s1 d1 => ?_⟩
  have lv := DpAll.len d1
  refine ⟨by rw [lv]; exact small_line (by omega), fun p np => ⟨p, n, vs, rfl, rfl, upd_same, by omega, by omega, ?_, fun p2 np2 => ?_⟩⟩
  · rw [Int.toNat_natCast, lv]
    exact small_line (Nat.le_trans (Nat.mul_le_mul l1 l2) (by decide))
  · have sp := (same_new (o := .lst vs) np).trans (same_new (o := .lst (List.replicate (n : Int).toNat vs).flatten) np2)
    refine q.2 _ _ (s1.trans sp) (.lst (SqL.of upd_same) ?_)
    rw [Int.toNat_natCast]
    exact DpAll.same sp _ _ (DpAll.rep d1 n)
/-- x in a tuple -/
def rInT (K : PySem.W.Frag) : R2 := fun x y H Q => ∃ d ds, Dp K H x d ∧ Dp K H y (.tuple ds) ∧ SeqAt.shaped d = true ∧ SeqAt.shaped (.tuple ds) = true ∧ Q (.bl (ds.any fun z => PyData.eqv z d)) H
theorem inTK (K : PySem.W.Frag) (hu : X.A.units + 65 < cLine) (h : X.K = K := by rfl) : OpR X (compareOp .In) (rInT K) := by
  subst h
  intro pins s σ H x y v u Q I rx ry h
  obtain ⟨d, ds, hd, he, sd, se, q⟩ := h
  obtain ⟨as, r1⟩ := Dp.reads I d x v hd rx
  obtain ⟨bs, r2⟩ := Dp.reads I (.tuple ds) y u he ry
  have cl : PyData.canLayAll0 ds = true := by
    have := SeqAt.canLay_of_shaped se
    simpa only [PyData.canLay0] using this
  exact SeqAt.in_tuple_reads r2 r1 cl (SeqAt.canLay_of_shaped sd) (room_in_shaped sd hu) ⟨.bl _, H, I, rfl, q⟩
end
end Sk
namespace Sk
open PySem PySem.Spec PyProof.Rows L2 Sn
def spHowMany (K : PySem.W.Frag) : Sp := fun vs H Q _ => ∃ a F h w wd, vs = [.ref a, tv wd] ∧ FieldAt K H a F h w ∧ WordOk wd ∧ ∀ H', Same H H' → Q (.int ((snakesOn F h w wd []).length : Nat)) H'
def spByNumber (K : PySem.W.Frag) : Sp := fun vs H Q _ => ∃ a F h w wd i s, vs = [.ref a, tv wd, .int ((i : Nat) : Int)] ∧ FieldAt K H a F h w ∧ WordOk wd ∧ (snakesOn F h w wd [])[i]? = some s ∧
  ∀ H' p ys, Same H H' → H p = none → H' p = some (.lst ys) → Cells K H' ys s → Q (.ref p) H'
def spNumberOf (K : PySem.W.Frag) : Sp := fun vs H Q _ => ∃ a F h w b xs s i, vs = [.ref a, .ref b] ∧ FieldAt K H a F h w ∧ SqL K H b xs ∧ Cells K H xs s ∧ s ≠ [] ∧ s.length ≤ 6 ∧ (snakesOn F h w (spell F s) [])[i]? = some s ∧
  ∀ H', Same H H' → Q (.int ((i : Nat) : Int)) H'
section
variable {P : Program} {wl : World} {K : PySem.W.Frag} {mg : Str → Option Value} {base : Heap}
theorem ok_how_many (D : Dfn K mg "how_many" s_how_many) (B : Bi mg)
    (c_check_field : Cal P wl K mg base CX0 2 "check_field" ["field"] (spCheckField K)) (c_check_word : Cal P wl K mg base CX0 2 "check_word" ["word"] spCheckWord)
    (c_snakes_on : Cal P wl K mg base CX0 9 "snakes_on" ["field", "word", "cells"] (spSnakesOn K 6)) : Cal P wl K mg base CX0 10 "how_many" ["field", "word"] (spHowMany K) := by
  refine D.cal sc_how_many bn_how_many (fun vs H Q E h => ?_) (fun f cdv A outer s H vs Q E hr h => ?_)
  · obtain ⟨a, F, h, w, wd, rfl, _⟩ := h
    rfl
  · obtain ⟨a, F, h, w, wd, rfl, o, ow, q⟩ := h
    refine ⟨_, (pss_cons (ps_expr (pcall c_check_field (hr.mono (by omega)) (by rfl) pass0 (pa_cons (pv 0) pa_nil)))
 (pss_cons (ps_expr (pcall c_check_word (hr.mono (by omega)) (by rfl) pass0 (pa_cons (pv 1) pa_nil)))
 (pss_one (ps_ret (pe_callB (lenSq K) (by rfl) B.len PySem.boot_len (pa_cons (pcall c_snakes_on (hr.mono (by omega)) (by rfl) pass0 (pa_cons (pv 0) (pa_cons (pv 1) (pa_cons (pe_lst pa_nil) pa_nil)))) pa_nil)))))), ?_⟩
    have l6 := ow.l6
    refine ⟨.ref a, rfl, a, F, h, w, rfl, o, fun H1 s1 => ?_⟩
    refine ⟨tv wd, rfl, wd, rfl, ow, fun H2 s2 => ?_⟩
    have s12 := s1.trans s2
    refine ⟨.ref a, rfl, tv wd, rfl, Nat.zero_le _, fun e ne => ?_⟩
    have se := same_new (o := .lst []) ne
    refine ⟨a, F, h, w, wd, e, [], [], rfl, o.same (s12.trans se), upd_same, .nil, vld_nil h w, l6, Nat.zero_le _, by show wd.length ≤ 0 + 6; omega, fun H3 p ys s3 np hp hy => ?_⟩
    have hl : ys.length = (snakesOn F h w wd []).length := hy.length
    refine ⟨p, ys, rfl, .inl (SqL.of hp), ?_⟩
    rw [hl]
    exact q H3 (s12.trans (se.trans s3))
theorem ok_by_number (D : Dfn K mg "by_number" s_by_number) (B : Bi mg) (c_is_whole : Cal P wl K mg base CX0 1 "is_whole" ["thing"] (spIsWhole K))
    (c_check_field : Cal P wl K mg base CX0 2 "check_field" ["field"] (spCheckField K)) (c_check_word : Cal P wl K mg base CX0 2 "check_word" ["word"] spCheckWord)
    (c_snakes_on : Cal P wl K mg base CX0 9 "snakes_on" ["field", "word", "cells"] (spSnakesOn K 6)) : Cal P wl K mg base CX0 10 "by_number" ["field", "word", "number"] (spByNumber K) := by
  refine D.cal sc_by_number bn_by_number (fun vs H Q E h => ?_) (fun f cdv A outer s H vs Q E hr h => ?_)
  · obtain ⟨a, F, h, w, wd, i, s, rfl, _⟩ := h
    rfl
  · obtain ⟨a, F, h, w, wd, i, sn, rfl, o, ow, hi, q⟩ := h
    refine ⟨_, (pss_cons (ps_expr (pcall c_check_field (hr.mono (by omega)) (by rfl) pass0 (pa_cons (pv 0) pa_nil)))
 (pss_cons (ps_expr (pcall c_check_word (hr.mono (by omega)) (by rfl) pass0 (pa_cons (pv 1) pa_nil)))
 (pss_cons (ps_set (i := 3) sc_by_number.nd rfl (.inl rfl) (pcall c_snakes_on (hr.mono (by omega)) (by rfl) pass0 (pa_cons (pv 0) (pa_cons (pv 1) (pa_cons (pe_lst pa_nil) pa_nil)))))
 (pss_cons (ps_if (PW.pt (pw_or (pt_not (pt_val (pcall c_is_whole (hr.mono (by omega)) (by rfl) pass0 (pa_cons (pv 2) pa_nil)))) (pw_or1 (pt_not (pt_chain op_le op_lt pe_int (pv 2) (pe_callB (lenSq K) (by rfl) B.len PySem.boot_len (pa_cons (pv 3) pa_nil)))))))
 (pss_one ps_never) pss_nil)
 (pss_one (ps_ret (pe_ix (ixL K) (pv 3) (pv 2) (fun _ _ => rfl)))))))), ?_⟩
    have l6 := ow.l6
    have l1 := ow.l1
    refine ⟨.ref a, rfl, a, F, h, w, rfl, o, fun H1 s1 => ?_⟩
    refine ⟨tv wd, rfl, wd, rfl, ow, fun H2 s2 => ?_⟩
    have s12 := s1.trans s2
    refine ⟨.ref a, rfl, tv wd, rfl, Nat.zero_le _, fun e ne => ?_⟩
    have se := same_new (o := .lst []) ne
    refine ⟨a, F, h, w, wd, e, [], [], rfl, o.same (s12.trans se), upd_same, .nil, vld_nil h w, l6, Nat.zero_le _, by show wd.length ≤ 0 + 6; omega, fun H3 p ys s3 np hp hy => ?_⟩
    have hy0 : Snks K (fun q => upd H2 e (.lst []) q = none ∨ (q = e ∧ 0 = wd.length)) H3 ys (snakesOn F h w wd []) := hy
    have hl : ys.length = (snakesOn F h w wd []).length := hy0.length
    have hil : i < (snakesOn F h w wd []).length := (List.getElem?_eq_some_iff.mp hi).1
    obtain ⟨v0, g0, q0, zs, rfl, nq, hq0, hz⟩ := Paired.get' hy0 hi
    have nq2 : upd H2 e (.lst []) q0 = none := by
      rcases nq with z | ⟨_, z⟩
      · exact z
      · omega
    refine ⟨.int i, rfl, .int i, .type "int", true, false, rfl, .base (.int _), kit_ty (by decide +kernel), kit_ty (by decide +kernel), true, rfl, iteF ?_⟩
    refine ⟨.int i, rfl, 0, i, rfl, rfl, _, rfl, ?_⟩
    rw [decide_eq_true (show (0 : Int) ≤ (i : Int) by omega)]
    refine iteT ⟨.ref p, rfl, p, ys, rfl, .inl (SqL.of hp), i, _, rfl, rfl, _, rfl, ?_⟩
    rw [decide_eq_true (show (i : Int) < (ys.length : Int) by omega)]
    refine iteF ⟨.ref p, rfl, .int i, rfl, p, ys, i, .ref q0, rfl, rfl, SqL.of hp, atI_nat g0, ?_⟩
    exact q H3 q0 zs (s12.trans (se.trans s3)) ((s12.trans se).free nq2) hq0 hz
theorem ok_number_of (D : Dfn K mg "number_of" s_number_of) (B : Bi mg)
    (c_check_field : Cal P wl K mg base CX0 2 "check_field" ["field"] (spCheckField K)) (c_is_cell : Cal P wl K mg base CX0 2 "is_cell" ["field", "thing"] (spIsCell K)) (c_is_snake : Cal P wl K mg base CX0 3 "is_snake" ["field", "cells"] (spIsSnake K)) (c_spelled : Cal P wl K mg base CX0 2 "spelled" ["field", "cells"] (spSpelled K))
    (c_snakes_on : Cal P wl K mg base CX0 9 "snakes_on" ["field", "word", "cells"] (spSnakesOn K 6)) : Cal P wl K mg base CX0 10 "number_of" ["field", "cells"] (spNumberOf K) := by
  refine D.cal sc_number_of bn_number_of (fun vs H Q E h => ?_) (fun f cdv A outer s H vs Q E hr h => ?_)
  · obtain ⟨a, F, h, w, b, xs, s, i, rfl, _⟩ := h
    rfl
  · obtain ⟨a, F, h, w, b, xs, sn, i, rfl, o, hb, hc, hne, l6, hi, q⟩ := h
    refine ⟨_, (pss_cons (ps_expr (pcall c_check_field (hr.mono (by omega)) (by rfl) pass0 (pa_cons (pv 0) pa_nil)))
 (pss_cons (ps_if (PW.pt (pw_or (pt_not (pt_val (pe_callB (isiK K) (by rfl) B.isinstance (by decide +kernel) (pa_cons (pv 1) (pa_cons (pe_bltn (v := .ty "list") (by rfl) B.list (by decide +kernel) rfl) pa_nil))))) (pw_or (pt_cmpR op_gt (pe_callB (lenSq K) (by rfl) B.len PySem.boot_len (pa_cons (pv 1) pa_nil)) (pglobI (by rfl) B.g_LONGEST) (nomark _)) (pw_or1 (pt_not (pt_val (pe_callB (allK K rfl) (by rfl) B.all (by decide +kernel) (pa_cons (pe_lc (own := [("cell", 2)]) (g := gName 2) (tt := tYes) (by rfl) sc_number_of.nd (piL K (pv 1)) (blkOk_by (own := [("cell", 2)]) (N := ["field", "cells", "cell"]) (sc := defScope s_number_of) (by decide +kernel)) (fun _ _ _ _ _ => (pg_name (i := 2) sc_number_of.nd rfl (Or.inl rfl))) (fun _ _ _ _ _ => pts_nil) (fun _ _ _ _ _ => (pcall c_is_cell (hr.mono (by omega)) (by rfl) pass0 (pa_cons (pv 0) (pa_cons (pv 2) pa_nil))))) pa_nil))))))))
 (pss_one ps_never) pss_nil)
 (pss_cons (ps_if (pt_not (pt_val (pcall c_is_snake (hr.mono (by omega)) (by rfl) pass0 (pa_cons (pv 0) (pa_cons (pv 1) pa_nil)))))
 (pss_one ps_never) pss_nil)
 (pss_one (ps_ret (pe_bm PySem.F.plainAttrs_list PySem.F.slot_list_index PySem.F.type_list_index (mt_indexD (hu65 hr)) (pcall c_snakes_on (hr.mono (by omega)) (by rfl) pass0 (pa_cons (pv 0) (pa_cons (pcall c_spelled (hr.mono (by omega)) (by rfl) pass0 (pa_cons (pv 0) (pa_cons (pv 1) pa_nil))) (pa_cons (pe_lst pa_nil) pa_nil)))) (pa_cons (pv 1) pa_nil))))))), ?_⟩
    have h5 := o.2.h5
    have w5 := o.2.w5
    have hsn := snakes_mem h5 w5 (List.mem_of_getElem? hi)
    have hsb : snakeB h w sn = true := snakeB_iff.mpr ⟨hne, hsn.1⟩
    refine ⟨.ref a, rfl, a, F, h, w, rfl, o, fun H1 s1 => ?_⟩
    have hb1 := s1.seq hb
    have hc1 := hc.le (TupLe.of s1)
    have o1 := o.same s1
    have lxs : xs.length = sn.length := hc.length
    refine ⟨.ref b, rfl, .ref b, .ty "list", .type "list", _, true, rfl, .ty "list", tyx_list hb1, kit_ty (by decide +kernel), true, rfl, iteF ?_⟩
    refine ⟨.ref b, rfl, b, xs, rfl, .inl hb1, _, 6, rfl, rfl, _, rfl, ?_⟩
    rw [decide_eq_false (show ¬ ((xs.length : Int) > 6) by omega)]
    refine iteF ?_
    refine ⟨.ref b, rfl, b, rfl, ⟨_, hb1⟩, lc_val (walk_list (xs := xs)) (by rw [lxs]; exact small_line (by omega)) (fun _ => .bl true) (fun H' s' => s'.seq hb1) (fun D' j x H2o H2 Qe nD hj s2 _ y qe => ?_) fun D' H2 nD s2 hD => ?_⟩
    · obtain ⟨rfl, hx⟩ := y
      obtain ⟨c, hci, vc⟩ := Paired.get hc1 hx
      refine ⟨rfl, .ref a, rfl, x, rfl, a, F, h, w, x, c, rfl, o1.same s2, vc.le (TupLe.of s2), fun H3 s3 => ?_⟩
      rw [inB_mem.mpr (hsn.1.vld c (List.mem_of_getElem? hci))]
      exact qe _ s3
    refine ⟨D', (List.range xs.length).map fun _ => true, rfl, .inl (.inl (by rw [hD, List.map_map]; rfl)), _, rfl, ?_⟩
    rw [show ((List.range xs.length).map fun _ => true).all id = true by rw [List.all_map]; exact List.all_eq_true.mpr fun _ _ => rfl]
    refine iteF ?_
    have s12 := s1.trans s2
    refine ⟨.ref a, rfl, .ref b, rfl, a, F, h, w, b, xs, sn, rfl, o.same s12, s12.seq hb, hc.le (TupLe.of s12), by omega, fun H3 s3 => ?_⟩
    rw [hsb]
    refine ⟨true, rfl, iteF ?_⟩
    have s13 := s12.trans s3
    refine ⟨.ref a, rfl, .ref a, rfl, .ref b, rfl, a, F, h, w, b, xs, sn, rfl, o.same s13, s13.seq hb, hc.le (TupLe.of s13), hsn.1.vld, by omega, fun H4 s4 => ?_⟩
    have s14 := s13.trans s4
    have lsp : (spell F sn).length = sn.length := by simp [spell]
    refine ⟨Nat.zero_le _, fun e ne => ?_⟩
    have se := same_new (o := .lst []) ne
    refine ⟨a, F, h, w, spell F sn, e, [], [], rfl, o.same (s14.trans se), upd_same, .nil, vld_nil h w, by omega, Nat.zero_le _, by show (spell F sn).length ≤ 0 + 6; omega, fun H5 p ys s5 np hp hy => ?_⟩
    have hy0 : Snks K (fun q => upd H4 e (.lst []) q = none ∨ (q = e ∧ 0 = (spell F sn).length)) H5 ys (snakesOn F h w (spell F sn) []) := hy
    have s15 := s14.trans (se.trans s5)
    refine ⟨.inl ⟨rfl, _, SqL.of hp⟩, .ref b, rfl, p, .ref b, cellsD sn, (snakesOn F h w (spell F sn) []).map cellsD, i, cellsD sn, rfl, rfl, snks_dp (SqL.of hp) hy0, cells_dp (s15.seq hb) (hc.le (TupLe.of s15)), (shp_snakes _).ok, (shp_cells _).ok, by rw [List.getElem?_map, hi]; rfl, by rw [eqv_cells]; exact decide_eq_true rfl, fun m z hm hz => ?_, q _ s15⟩
    rw [List.getElem?_map] at hz
    cases e2 : (snakesOn F h w (spell F sn) [])[m]? with
    | none => rw [e2] at hz; cases hz
    | some s' =>
      rw [e2] at hz
      cases hz
      rw [eqv_cells]
      refine decide_eq_false fun z => ?_
      subst z
      obtain ⟨l1, g1⟩ := List.getElem?_eq_some_iff.mp e2
      obtain ⟨l2, g2⟩ := List.getElem?_eq_some_iff.mp hi
      have := (List.getElem_inj (snakes_nd h5 w5 (spell F s') [] (vld_nil h w))).mp (g1.trans g2.symm)
      omega
end
end Sk
namespace Sk
open PySem PySem.Spec PyProof.Rows L2 Sn
theorem gone_take {ss : List (List Cel)} {i : Nat} {s : List Cel} (h : ss[i]? = some s) : goneL (ss.take (i + 1)) = goneStep (goneL (ss.take i)) s := by
  rw [take_one_more h]
  unfold goneL
  rw [List.foldl_append]
  rfl
theorem gone_take_cells {F : List (List Nat)} {h w : Nat} (h5 : h ≤ 5) (w5 : w ≤ 5) {wd : List Nat} (i : Nat) : (goneL ((snakesOn F h w wd []).take i)).Nodup ∧ ∀ c ∈ goneL ((snakesOn F h w wd []).take i), c ∈ cellsL h w := by
  refine ⟨gone_nd fun s hs => (snakes_mem h5 w5 (List.mem_of_mem_take hs)).1.nd, fun c hc => ?_⟩
  obtain ⟨s, hs, hc⟩ := mem_gone.mp hc
  exact (snakes_mem h5 w5 (List.mem_of_mem_take hs)).1.vld c hc
section
variable {P : Program} {wl : World} {K : PySem.W.Frag} {mg : Str → Option Value} {base : Heap}
theorem ok_gone_over (D : Dfn K mg "gone_over" s_gone_over) (B : Bi mg)
    (c_check_field : Cal P wl K mg base CX0 2 "check_field" ["field"] (spCheckField K)) (c_check_word : Cal P wl K mg base CX0 2 "check_word" ["word"] spCheckWord)
    (c_snakes_on : Cal P wl K mg base CX0 9 "snakes_on" ["field", "word", "cells"] (spSnakesOn K 6)) : Cal P wl K mg base CX0 10 "gone_over" ["field", "word"] (spGoneOver K) := by
  refine D.cal sc_gone_over bn_gone_over (fun vs H Q E h => ?_) (fun f cdv A outer s H vs Q E hr h => ?_)
  · obtain ⟨a, F, h, w, wd, rfl, _⟩ := h
    rfl
  · obtain ⟨a, F, h, w, wd, rfl, o, ow, q⟩ := h
    refine ⟨_, (pss_cons (ps_expr (pcall c_check_field (hr.mono (by omega)) (by rfl) pass0 (pa_cons (pv 0) pa_nil)))
 (pss_cons (ps_expr (pcall c_check_word (hr.mono (by omega)) (by rfl) pass0 (pa_cons (pv 1) pa_nil)))
 (pss_cons (ps_set (i := 2) sc_gone_over.nd rfl (.inr rfl) (pe_lst pa_nil))
 (pss_cons (ps_for PassesOwn.never rfl (piL K (pcall c_snakes_on (hr.mono (by omega)) (by rfl) pass0 (pa_cons (pv 0) (pa_cons (pv 1) (pa_cons (pe_lst pa_nil) pa_nil))))) (pg_name (i := 3) sc_gone_over.nd rfl (.inl rfl))
 (pss_one (ps_expr (pe_bm PySem.F.plainAttrs_list PySem.F.slot_list_extend PySem.F.type_list_extend mt_extend (pv 2) (pa_cons (pe_lc (own := [("cell", 4)]) (g := gName 4) (by rfl) sc_gone_over.nd (piL K (pv 3)) (blkOk_by (own := [("cell", 4)]) (N := ["field", "word", "found", "cells", "cell"]) (sc := defScope s_gone_over) (by decide +kernel)) (fun _ _ _ _ _ => (pg_name (i := 4) sc_gone_over.nd rfl (Or.inl rfl))) (fun _ _ _ _ _ => (pts_one (pt_cmpR (notInDK K (hu65 hr)) (pv 4) (pv 2) (by rfl)))) (fun _ _ _ _ _ => (pv 4))) pa_nil)))))
 (pss_one (ps_ret (pe_callB (cr_sortT (d := 2) (B := 64) (by decide)) (by rfl) B.sorted (by decide +kernel) (pa_cons (pv 2) pa_nil)))))))), ?_⟩
    have l6 := ow.l6
    have h5 := o.2.h5
    have w5 := o.2.w5
    refine ⟨.ref a, rfl, a, F, h, w, rfl, o, fun H1 s1 => ?_⟩
    refine ⟨tv wd, rfl, wd, rfl, ow, fun H2 s2 => ?_⟩
    have s12 := s1.trans s2
    refine ⟨Nat.zero_le _, fun p np => ?_⟩
    have sp := same_new (o := .lst []) np
    have s1p := s12.trans sp
    refine ⟨.ref a, rfl, tv wd, rfl, Nat.zero_le _, fun e ne => ?_⟩
    have se := same_new (o := .lst []) ne
    refine ⟨a, F, h, w, wd, e, [], [], rfl, o.same (s1p.trans se), upd_same, .nil, vld_nil h w, l6, Nat.zero_le _, by show wd.length ≤ 0 + 6; omega, fun H3 g ys s3 ng hg hy0 => ?_⟩
    have hy : Snks K (fun q => upd (upd H2 p (.lst [])) e (.lst []) q = none ∨ (q = e ∧ 0 = wd.length)) H3 ys (snakesOn F h w wd []) := hy0
    have hp3 : H3 p = some (.lst []) := s3 _ _ (se _ _ upd_same)
    have ngp : g ≠ p := fun z => by rw [z, se _ _ upd_same] at ng; cases ng
    have npH : H p = none := s12.free np
    have nq : ∀ q, (upd (upd H2 p (.lst [])) e (.lst []) q = none ∨ (q = e ∧ 0 = wd.length)) → q ≠ p := fun q hq z => by
      rcases hq with hq | ⟨rfl, _⟩
      · rw [z, se _ _ upd_same] at hq; cases hq
      · rw [z, upd_same] at ne; cases ne
    refine ⟨g, rfl, ⟨_, SqL.of hg⟩, for_it (walk_list (xs := ys)) (fun i σ H' => ∃ y3 zs, σ = [some (.ref a), some (tv wd), some (.ref p), y3, none] ∧ Kb p H3 H' ∧ H' p = some (.lst zs) ∧ Cells K H' zs (goneL ((snakesOn F h w wd []).take i)))
      ⟨none, [], rfl, fun _ _ _ z => z, hp3, .nil⟩ (fun i σ H' _ pv => by obtain ⟨_, _, _, kb, _⟩ := pv; exact SqL.of (kb _ _ ngp hg)) (fun i x σ H4o H4 hi pv y => ?_) fun σ H4 pv => ?_⟩
    · obtain ⟨rfl, hx⟩ := y
      obtain ⟨y3, zs, rfl, kb, hp4, hz⟩ := pv
      obtain ⟨cs, hcs, b, xs, rfl, nb, hb, hc⟩ := Paired.get hy hx
      have nbp := nq b nb
      have hb4 := kb _ _ nbp hb
      have hc4 := hc.le (TupLe.kb hp3 kb)
      obtain ⟨nd4, cl4⟩ := gone_take_cells (F := F) h5 w5 (wd := wd) i
      have lz := nd_len h5 w5 nd4 cl4
      have lcs : cs.length ≤ 6 := by
        have := congrArg List.length (snakes_mem h5 w5 (List.mem_of_getElem? hcs)).2
        simp only [spell, List.length_map] at this
        omega
      refine ⟨.ref p, rfl, .inl ⟨rfl, _, SqL.of hp4⟩, .ref b, rfl, b, rfl, ⟨_, SqL.of hb4⟩, lc_cel (K := K) (walk_list (xs := xs)) (by rw [hc.length]; exact small_line (by omega)) (fun k => !decide (cs.getD k (0, 0) ∈ goneL ((snakesOn F h w wd []).take i))) (fun k => cs.getD k (0, 0)) (fun H' s' => s'.seq (SqL.of hb4)) (fun D' k x H5 H5' Qe Qn nD hk s5 _ y qe qn => ?_) fun D' ds H5 nD s5 hD hd => ?_⟩
      · obtain ⟨rfl, hx⟩ := y
        obtain ⟨c, hci, vc⟩ := Paired.get hc4 hx
        rw [getD_of hci] at qe qn
        refine ⟨rfl, x, rfl, .ref p, rfl, _, _, (vc.le (TupLe.of s5)).dp, cells_dp (SqL.of (s5 _ _ hp4)) (hz.le (TupLe.of s5)), (shp_cell _).ok, (shp_cells _).ok, _, rfl, ?_⟩
        rw [any_cells]
        cases e : (!decide (c ∈ goneL ((snakesOn F h w wd []).take i))) with
        | false => exact iteF (qn _ e (Same.refl _))
        | true => exact iteT ⟨x, rfl, qe x _ e (Same.refl _) (vc.le (TupLe.of s5))⟩
      · rw [hc.length, range_filter_get cs (0, 0) fun c => !decide (c ∈ goneL ((snakesOn F h w wd []).take i))] at hd
        have hp5 := s5 _ _ hp4
        have nDp : D' ≠ p := fun z => by rw [z, hp4] at nD; cases nD
        have hall : Cells K H5 (zs ++ ds) (goneL ((snakesOn F h w wd []).take (i + 1))) := by
          rw [gone_take hcs]
          exact Paired.app (hz.le (TupLe.of s5)) hd
        refine ⟨p, D', zs, ds, rfl, rfl, hp5, hD, ?_, _, zs ++ ds, rfl, Kb.upd fun b o n eb => s5 _ _ (kb b o n eb), upd_same, hall.le (TupLe.upd hp5 (TupLe.refl _))⟩
        have e1 := hall.length
        rw [List.length_append] at e1
        obtain ⟨nd5, cl5⟩ := gone_take_cells (F := F) h5 w5 (wd := wd) (i + 1)
        have := nd_len h5 w5 nd5 cl5
        exact small_line (by omega)
    · obtain ⟨y3, zs, rfl, kb, hp4, hz⟩ := pv
      rw [hy.length, List.take_length] at hz
      obtain ⟨nd4, cl4⟩ := gone_cells (F := F) h5 w5 (wd := wd)
      have lz := nd_len h5 w5 nd4 cl4
      refine ⟨.ref p, rfl, p, zs, rfl, SqL.of hp4, by rw [hz.length]; omega, cells_asks h5 w5 hz cl4, fun us t pm po nt => ?_⟩
      have sH4 : Same H H4 := fun b o eb => kb b o (ne_of_none eb npH) (s3 _ _ (se _ _ (s1p b o eb)))
      have st := same_new (o := .lst us) nt
      exact q _ t us (sH4.trans st) (sH4.free nt) upd_same ((sorted_cells h5 w5 hz nd4 cl4 pm po).le (TupLe.of st))
end
end Sk
namespace Sk
open PySem PySem.Spec PyProof.Rows L2 Sn
theorem range_keep (n : Nat) : (List.range n).filter (fun _ => true) = List.range n := List.filter_eq_self.mpr fun _ _ => rfl
/-- as many values as numbers: paired with what the numbers stand for -/
theorem Paired.range {α : Type} {F : V → α → Prop} {l : List α} {d : α} {ys : List V} (h : Paired (fun v i => F v (l.getD i d)) ys (List.range l.length)) : Paired F ys l := by
  have q := Paired.mapR (G := F) (fun i => l.getD i d) h fun _ _ z => z
  have e : (List.range l.length).map (fun i => l.getD i d) = l := by
    have := range_map_get id l (fun i => l.getD i d) (fun i x hx => getD_of hx)
    rw [this, List.map_id]
  rw [e] at q
  exact q
section
variable {P : Program} {wl : World} {K : PySem.W.Frag} {mg : Str → Option Value} {base : Heap}
theorem ok_words (D : Dfn K mg "words" s_words) (B : Bi mg) (c_is_whole : Cal P wl K mg base CX0 1 "is_whole" ["thing"] (spIsWhole K))
    (c_check_field : Cal P wl K mg base CX0 2 "check_field" ["field"] (spCheckField K)) (c_next_cells : Cal P wl K mg base CX0 2 "next_cells" ["field", "cells"] (spNext K)) (c_spelled : Cal P wl K mg base CX0 2 "spelled" ["field", "cells"] (spSpelled K)) :
    Cal P wl K mg base CX0 3 "words" ["field", "many"] (spWords K) := by
  refine D.cal sc_words bn_words (fun vs H Q E h => ?_) (fun f cdv A outer s H vs Q E hr h => ?_)
  · obtain ⟨a, F, h, w, n, M, rfl, _⟩ := h
    rfl
  · obtain ⟨a, F, h, w, n, M, rfl, o, n1, n4, hM, hM2, q⟩ := h
    refine ⟨_, (pss_cons (ps_expr (pcall c_check_field (hr.mono (by omega)) (by rfl) pass0 (pa_cons (pv 0) pa_nil)))
 (pss_cons (ps_if (PW.pt (pw_or (pt_not (pt_val (pcall c_is_whole (hr.mono (by omega)) (by rfl) pass0 (pa_cons (pv 1) pa_nil)))) (pw_or1 (pt_not (pt_chain op_le op_le pe_int (pv 1) (pglobI (by rfl) B.g_FEW))))))
 (pss_one ps_never) pss_nil)
 (pss_cons (ps_set (i := 2) sc_words.nd rfl (.inl rfl) (pe_lst (pa_cons (pe_lst pa_nil) pa_nil)))
 (pss_cons (ps_for PassesOwn.never rfl (pi_range1 (by rfl) B.range (pa_cons (pv 1) pa_nil)) (pg_name (i := 3) sc_words.nd rfl (.inl rfl))
 (pss_cons (ps_set (i := 4) sc_words.nd rfl (.inl rfl) (pe_lst pa_nil))
 (pss_cons (ps_for PassesOwn.never rfl (piL K (pv 2)) (pg_name (i := 5) sc_words.nd rfl (.inr rfl))
 (pss_one (ps_expr (pe_bm PySem.F.plainAttrs_list PySem.F.slot_list_extend PySem.F.type_list_extend mt_extend (pv 4) (pa_cons (pe_lc (own := [("cell", 6)]) (g := gName 6) (tt := tYes) (by rfl) sc_words.nd (piL K (pcall c_next_cells (hr.mono (by omega)) (by rfl) pass0 (pa_cons (pv 0) (pa_cons (pv 5) pa_nil)))) (blkOk_by (own := [("cell", 6)]) (N := ["field", "many", "line", "turn", "longer", "cells", "cell"]) (sc := defScope s_words) (by decide +kernel)) (fun _ _ _ _ _ => (pg_name (i := 6) sc_words.nd rfl (Or.inl rfl))) (fun _ _ _ _ _ => pts_nil) (fun _ _ _ _ _ => (pe_op op_cat (pv 5) (pe_lst (pa_cons (pv 6) pa_nil))))) pa_nil)))))
 (pss_one (ps_set (i := 2) sc_words.nd rfl (.inl rfl) (pv 4))))))
 (pss_one (ps_ret (pe_callB (cr_sortedZ rfl) (by rfl) B.sorted (by decide +kernel) (pa_cons (pe_callTy (cr_setOfZ rfl) (by rfl) B.set PyProof.Rows.boot_set (pa_cons (pe_lc (own := [("cells", 5)]) (g := gName 5) (tt := tYes) (by rfl) sc_words.nd (piL K (pv 2)) (blkOk_by (own := [("cells", 5)]) (N := ["field", "many", "line", "turn", "longer", "cells", "cell"]) (sc := defScope s_words) (by decide +kernel)) (fun _ _ _ _ _ => (pg_name (i := 5) sc_words.nd rfl (Or.inl rfl))) (fun _ _ _ _ _ => pts_nil) (fun _ _ _ _ _ => (pcall c_spelled (hr.mono (by omega)) (by rfl) pass0 (pa_cons (pv 0) (pa_cons (pv 5) pa_nil))))) pa_nil)) pa_nil)))))))), ?_⟩
    have h5 := o.2.h5
    have w5 := o.2.w5
    refine ⟨.ref a, rfl, a, F, h, w, rfl, o, fun H1 s1 => ?_⟩
    refine ⟨.int n, rfl, .int n, .type "int", true, false, rfl, .base (.int _), kit_ty (by decide +kernel), kit_ty (by decide +kernel), true, rfl, iteF ?_⟩
    refine ⟨.int n, rfl, 1, n, rfl, rfl, _, rfl, ?_⟩
    rw [decide_eq_true (show (1 : Int) ≤ (n : Int) by omega)]
    refine iteT ⟨n, 4, rfl, rfl, _, rfl, ?_⟩
    rw [decide_eq_true (show (n : Int) ≤ 4 by omega)]
    refine iteF ⟨Nat.zero_le _, fun e ne => ⟨by show 1 ≤ sizeLine; decide, fun p np => ?_⟩⟩
    have se := same_new (o := .lst []) ne
    have sp := same_new (o := .lst [.ref e]) np
    have s1p := s1.trans (se.trans sp)
    refine ⟨.int n, rfl, n, rfl, by omega, by omega, ?_⟩
    rw [Int.toNat_natCast]
    refine for_it walk_range (fun i σ H' => i ≤ n ∧ ∃ y3 y4 y5 g ys, σ = [some (.ref a), some (.int n), some (.ref g), y3, y4, y5, none] ∧ Same H H' ∧ H g = none ∧ H' g = some (.lst ys) ∧ Snks K (fun q => H q = none) H' ys (lineL h w i))
      ⟨Nat.zero_le _, none, none, none, p, [.ref e], rfl, s1p, (s1.trans se).free np, upd_same, .cons ⟨e, [], rfl, s1.free ne, sp _ _ upd_same, .nil⟩ .nil⟩ (fun _ _ _ _ _ => trivial) (fun i x σ H2o H2 hi pv y => ?_) fun σ H2 pv => ?_
    · obtain ⟨rfl, rfl⟩ := y
      obtain ⟨_, y3, y4, y5, g, ys, rfl, s2, ng, hg, hy⟩ := pv
      refine ⟨Nat.zero_le _, fun u nu => ?_⟩
      have su := same_new (o := .lst []) nu
      have ngu : g ≠ u := ne_of_none hg nu
      have nuH : H u = none := s2.free nu
      have hu0 : upd H2 u (.lst []) u = some (.lst []) := upd_same
      have lall : ((lineL h w i).flatMap fun cs => (nextL h w cs).map fun c => cs ++ [c]).length ≤ 12800 := line_small h5 w5 (n := i + 1) (by omega)
      refine ⟨.ref g, rfl, g, rfl, ⟨_, SqL.of (su _ _ hg)⟩, for_it (walk_list (xs := ys)) (fun j σ H' => ∃ y5 zs, σ = [some (.ref a), some (.int n), some (.ref g), some (.int (0 + (i : Nat))), some (.ref u), y5, none] ∧ Kb u (upd H2 u (.lst [])) H' ∧ H' u = some (.lst zs) ∧ Snks K (fun q => H q = none ∧ q ≠ u) H' zs (((lineL h w i).take j).flatMap fun cs => (nextL h w cs).map fun c => cs ++ [c]))
        ⟨y5, [], rfl, fun _ _ _ z => z, upd_same, .nil⟩ (fun j σ H' _ pv => by obtain ⟨_, _, _, kb, _⟩ := pv; exact SqL.of (kb _ _ ngu (su _ _ hg))) (fun j x σ H3o H3 hj pv y => ?_) fun σ H3 pv => ?_⟩
      · obtain ⟨rfl, hx⟩ := y
        obtain ⟨y5, zs, rfl, kb, hu3, hz⟩ := pv
        obtain ⟨cs, hcs, b, xs, rfl, nb, hb, hc⟩ := Paired.get hy hx
        have nbu : b ≠ u := ne_of_none hb nu
        have sH3 : Same H H3 := fun b o eb => kb b o (ne_of_none eb nuH) (su _ _ (s2 b o eb))
        have le3 : TupLe H2 H3 := (TupLe.of su).trans (TupLe.kb hu0 kb)
        have hb3 : H3 b = some (.lst xs) := kb _ _ nbu (su _ _ hb)
        have hc3 := hc.le le3
        obtain ⟨vcs, lcs⟩ := line_vld h5 w5 (List.mem_of_getElem? hcs)
        refine ⟨.ref u, rfl, .inl ⟨rfl, _, SqL.of hu3⟩, .ref a, rfl, .ref b, rfl, a, F, h, w, b, xs, cs, rfl, o.same sH3, SqL.of hb3, hc3, vcs, fun H4 t ts s4 nt ht hts => ?_⟩
        have hb4 := s4 _ _ hb3
        have hc4 := hc3.le (TupLe.of s4)
        have lts : ts.length = (nextL h w cs).length := hts.length
        have sH4 := sH3.trans s4
        have hu4 := s4 _ _ hu3
        refine ⟨t, rfl, ⟨_, SqL.of ht⟩, lc_gen (walk_list (xs := ts)) (by rw [lts]; exact small_line (by have := next_len h5 w5 vcs; split at this <;> omega)) (fun _ => true) (fun D' k v H' => SnkV K (fun q => (H q = none ∧ q ≠ u) ∧ q ≠ D') H' v (cs ++ [(nextL h w cs).getD k (0, 0)])) (fun D' k v H5 H6 zs nD hD kb5 r => ?_) (fun H' s' => s'.seq (SqL.of ht)) (fun D' k x H5 H5' Qe Qn nD hk s5 hDl y qe _ => ?_) fun D' ds H5 nD s5 hD hd => ?_⟩
        · obtain ⟨q0, zz, rfl, ⟨n1', n2'⟩, hq0, hzz⟩ := r
          exact ⟨q0, zz, rfl, ⟨n1', n2'⟩, kb5 _ _ n2' hq0, hzz.le (TupLe.kb hD kb5)⟩
        · obtain ⟨rfl, hx5⟩ := y
          obtain ⟨c, hci, vc⟩ := Paired.get hts hx5
          rw [getD_of hci] at qe
          refine ⟨rfl, .ref b, rfl, x, rfl, by show 1 ≤ sizeLine; decide, fun v nv => ?_⟩
          have sv := same_new (o := .lst [x]) nv
          refine ⟨b, v, xs, [x], rfl, rfl, sv _ _ (s5 _ _ hb4), upd_same, by rw [hc.length]; exact small_line (by show cs.length + 1 ≤ _; omega), fun nb' nnb => ?_⟩
          have snb := same_new (o := .lst (xs ++ [x])) nnb
          have s6 := sv.trans snb
          obtain ⟨yy, hDl⟩ := hDl
          have s56 := s5.trans s6
          refine qe (.ref nb') _ rfl s6 ⟨nb', xs ++ [x], rfl, ⟨⟨(sH4.trans (s5.trans sv)).free nnb, fun z => ?_⟩, fun z => ?_⟩, upd_same, ?_⟩
          · rw [z, sv _ _ (s5 _ _ hu4)] at nnb; cases nnb
          · rw [z, sv _ _ hDl] at nnb; cases nnb
          · exact Paired.snoc (hc4.le (TupLe.of s56)) (vc.le (TupLe.of s56))
        · rw [range_keep, lts] at hd
          have hd2 : Snks K (fun q => (H q = none ∧ q ≠ u) ∧ q ≠ D') H5 ds ((nextL h w cs).map fun c => cs ++ [c]) :=
            Paired.mapR (fun c => cs ++ [c]) (Paired.range (F := fun v c => SnkV K (fun q => (H q = none ∧ q ≠ u) ∧ q ≠ D') H5 v (cs ++ [c])) hd) fun _ _ z => z
          have hu5 := s5 _ _ hu4
          have etk : ((lineL h w i).take (j + 1)).flatMap (fun cs => (nextL h w cs).map fun c => cs ++ [c]) = ((lineL h w i).take j).flatMap (fun cs => (nextL h w cs).map fun c => cs ++ [c]) ++ (nextL h w cs).map fun c => cs ++ [c] := by
            rw [take_one_more hcs, List.flatMap_append, List.flatMap_cons, List.flatMap_nil, List.append_nil]
          have hall := take_flat_le (fun cs => (nextL h w cs).map fun c => cs ++ [c]) (lineL h w i) (j + 1)
          rw [etk, List.length_append] at hall
          refine ⟨u, D', zs, ds, rfl, rfl, hu5, hD, by rw [hz.length, hd2.length]; exact small_line (by omega), _, zs ++ ds, rfl, Kb.upd fun b o n eb => s5 _ _ (s4 _ _ (kb b o n eb)), upd_same, ?_⟩
          rw [etk]
          refine Paired.app ((hz.same (s4.trans s5)).upd hu5 fun q hq => hq.2) ?_
          exact (Snks.upd (Snks.imp hd2 fun q hq => hq.1) hu5 fun q hq => hq.2)
      · obtain ⟨y5, zs, rfl, kb, hu3, hz⟩ := pv
        rw [hy.length, List.take_length] at hz
        refine ⟨.ref u, rfl, hi, _, _, _, u, zs, rfl, fun b o eb => kb b o (ne_of_none eb nuH) (su _ _ (s2 b o eb)), nuH, hu3, ?_⟩
        exact hz.imp fun q hq => hq.1
    · obtain ⟨_, y3, y4, y5, g, ys, rfl, s2, ng, hg, hy⟩ := pv
      have lys : ys.length ≤ 12800 := by rw [hy.length]; exact line_small h5 w5 n4
      refine ⟨.ref g, rfl, g, rfl, ⟨_, SqL.of hg⟩, lc_val (walk_list (xs := ys)) (small_line (by omega)) (fun i => tv (spell F ((lineL h w n).getD i []))) (fun H' s' => s'.seq (SqL.of hg)) (fun D' i x H3 H3' Qe nD hi s3 _ y qe => ?_) fun D' H3 nD s3 hD => ?_⟩
      · obtain ⟨rfl, hx⟩ := y
        obtain ⟨cs, hcs, b, xs, rfl, nb, hb, hc⟩ := Paired.get hy hx
        rw [getD_of hcs] at qe
        obtain ⟨vcs, lcs⟩ := line_vld h5 w5 (List.mem_of_getElem? hcs)
        exact ⟨rfl, .ref a, rfl, .ref b, rfl, a, F, h, w, b, xs, cs, rfl, o.same (s2.trans s3), SqL.of (s3 _ _ hb), hc.le (TupLe.of s3), vcs, by omega, fun H4 s4 => qe _ s4⟩
      · have eD : (List.range ys.length).map (fun i => tv (spell F ((lineL h w n).getD i []))) = ((wordsT F h w n).map tx).map V.str := by
          rw [hy.length]
          unfold wordsT
          rw [List.map_map, List.map_map]
          exact range_map_get _ (lineL h w n) _ fun i c hci => by rw [getD_of hci]; rfl
        rw [eD] at hD
        have s23 := s2.trans s3
        refine ⟨D', (wordsT F h w n).map tx, M.map tx, rfl, SqL.of hD, by rw [List.length_map]; exact hM, fun y hy' => ?_, fun t nt => ?_⟩
        · obtain ⟨z, hz, rfl⟩ := List.mem_map.mp hy'
          exact List.mem_map.mpr ⟨z, hM2 z hz, rfl⟩
        have st := same_new (o := SetZO P wl t ((wordsT F h w n).map tx)) nt
        refine ⟨t, _, rfl, upd_same, fun us v hs nd mem nv => ?_⟩
        obtain ⟨zs, ez, srt⟩ := srtT_of hs nd mem
        have sv := same_new (o := .lst (us.map V.str)) nv
        exact q _ v zs (s23.trans (st.trans sv)) ((s23.trans st).free nv) (by rw [← ez]; exact upd_same) srt
end
end Sk
/-! Lambdas with parameters: made, kept in lists, called by other defs; things told besides for a call. -/
namespace Sk
open PySem PySem.Spec PyProof.Rows L2 LamX NdefX
/-! ### things told besides, for the time of a call -/
def FzO (b : Addr) (ob : Obj) : HO := .frz ob (.ext fun h => h.get? b = some ob)
theorem fzO_ok {P : Program} {w : World} {H : Hp} {h : Heap} {b : Addr} {ob : Obj} (e : h.get? b = some ob) : ObjOk P w H h b (FzO b ob) := ⟨e, e, ⟨ob, e⟩, fun _ _ p k => k _ p⟩
structure Side (D : Addr → Option Obj) (H : Hp) (outer : List Env) (h : Heap) : Prop where
  no : ∀ b ob, D b = some ob → H b = none
  at_ : ∀ b ob, D b = some ob → h.get? b = some ob
  nf : ∀ b ob, D b = some ob → b ∉ frs outer
def pl (D : Addr → Option Obj) (H : Hp) : Hp := fun b => match D b with
  | some ob => some (FzO b ob)
  | none => H b
def mi (D : Addr → Option Obj) (H : Hp) : Hp := fun b => match D b with
  | some _ => none
  | none => H b
section
variable {D : Addr → Option Obj} {H : Hp} {b : Addr}
theorem pl_at {ob : Obj} (e : D b = some ob) : pl D H b = some (FzO b ob) := by unfold pl; rw [e]
theorem pl_of (e : D b = none) : pl D H b = H b := by unfold pl; rw [e]
theorem mi_at {ob : Obj} (e : D b = some ob) : mi D H b = none := by unfold mi; rw [e]
theorem mi_of (e : D b = none) : mi D H b = H b := by unfold mi; rw [e]
theorem pl_none (e : pl D H b = none) : D b = none ∧ H b = none := by
  cases q : D b with
  | some ob => rw [pl_at q] at e; cases e
  | none => rw [pl_of q] at e; exact ⟨rfl, e⟩
theorem pl_other {o : HO} (n : ∀ ob, o ≠ FzO b ob) (e : pl D H b = some o) : D b = none ∧ H b = some o := by
  cases q : D b with
  | some ob => rw [pl_at q] at e; exact absurd (Option.some.inj e).symm (n ob)
  | none => rw [pl_of q] at e; exact ⟨rfl, e⟩
theorem mi_some {o : HO} (e : mi D H b = some o) : D b = none ∧ H b = some o := by
  cases q : D b with
  | some ob => rw [mi_at q] at e; cases e
  | none => rw [mi_of q] at e; exact ⟨rfl, e⟩
theorem pl_side {outer : List Env} {h : Heap} (S : Side D H outer h) {o : HO} (e : H b = some o) : pl D H b = some o := by
  cases q : D b with
  | some ob => rw [S.no b ob q] at e; cases e
  | none => rw [pl_of q]; exact e
theorem mi_pl {outer : List Env} {h : Heap} (S : Side D H outer h) : mi D (pl D H) = H := funext fun b => by
  cases q : D b with
  | some ob => rw [mi_at q, S.no b ob q]
  | none => rw [mi_of q, pl_of q]
end
section
variable {P : Program} {w : World} {D : Addr → Option Obj} {H : Hp} {outer : List Env} {s s' : Shared} {Q : VK} {E : XK} {u : Value}
theorem ce_add (S : Side D H outer s.heap) (h : CE outer P w H s (fun v H' => Q v (pl D H')) u s') : CE outer P w (pl D H) s Q u s' := by
  obtain ⟨v, H', os, bare, un, hok, rv, q⟩ := h
  have nD : ∀ b ob, D b = some ob → H' b = none := fun b ob e => un.free b ob (S.at_ b ob e) (S.no b ob e) (by simp)
  have up : ∀ b o, H' b = some o → pl D H' b = some o := fun b o e => by
    cases q : D b with
    | some ob => rw [nD b ob q] at e; cases e
    | none => rw [pl_of q]; exact e
  refine ⟨v, pl D H', os, bare, ⟨fun b o e n hf hx => un.keep b o e (pl_none n).2 hf hx, fun b o e n hf hx => un.slot b o e (pl_none n).2 hf hx, fun b o e n hx => ?_, un.there, fun b xs e => ?_, fun b o x e => ?_, fun b ps e => ?_⟩, fun b o e => ?_, rv, q⟩
  · obtain ⟨n1, n2⟩ := pl_none n
    rw [pl_of n1]
    exact un.free b o e n2 hx
  · exact up _ _ (un.tups b xs (pl_other (fun _ z => by unfold FzO at z; cases z) e).2)
  · cases q : D b with
    | some ob => rw [pl_at q] at e ⊢; exact e
    | none => rw [pl_of q] at e ⊢; exact un.frzs b o x e
  · obtain ⟨more, m⟩ := un.tbls b ps (pl_other (fun _ z => by unfold FzO at z; cases z) e).2
    exact ⟨more, up _ _ m⟩
  · cases q : D b with
    | some ob =>
      rw [pl_at q] at e
      cases e
      exact fzO_ok (un.keep b ob (S.at_ b ob q) (S.no b ob q) (S.nf b ob q) (by simp))
    | none =>
      rw [pl_of q] at e
      exact (hok b o e).stay (fun _ _ _ z => z) (fun d z => up _ _ z) fun d xs z => up _ _ z
theorem ce_del (S : Side D H outer s.heap) (h : CE outer P w (pl D H) s (fun v H' => Q v (mi D H')) u s') : CE outer P w H s Q u s' := by
  obtain ⟨v, H', os, bare, un, hok, rv, q⟩ := h
  have fz : ∀ b ob, D b = some ob → H' b = some (FzO b ob) := fun b ob e => un.frzs b ob _ (pl_at e)
  have dn : ∀ b o, (∀ ob, o ≠ FzO b ob) → H' b = some o → mi D H' b = some o := fun b o n e => by
    cases q : D b with
    | some ob => rw [fz b ob q] at e; exact absurd (Option.some.inj e).symm (n ob)
    | none => rw [mi_of q]; exact e
  refine ⟨v, mi D H', os, bare, ⟨fun b o e n hf hx => ?_, fun b o e n hf hx => ?_, fun b o e n hx => ?_, un.there, fun b xs e => ?_, fun b o x e => ?_, fun b ps e => ?_⟩, fun b o e => ?_, rv, q⟩
  · cases q : D b with
    | some ob =>
      have e1 := S.at_ b ob q
      rw [e] at e1
      cases e1
      exact (hok b _ (fz b _ q)).1
    | none => exact un.keep b o e (by rw [pl_of q]; exact n) hf hx
  · cases q : D b with
    | some ob => exact absurd hf (S.nf b ob q)
    | none => exact un.slot b o e (by rw [pl_of q]; exact n) hf hx
  · cases q : D b with
    | some ob => exact mi_at q
    | none => rw [mi_of q]; exact un.free b o e (by rw [pl_of q]; exact n) hx
  · exact dn _ _ (fun _ z => by unfold FzO at z; cases z) (un.tups b xs (pl_side S e))
  · have nb : D b = none := by
      cases q : D b with
      | some ob => rw [S.no b ob q] at e; cases e
      | none => rfl
    rw [mi_of nb]
    exact un.frzs b o x (pl_side S e)
  · obtain ⟨more, m⟩ := un.tbls b ps (pl_side S e)
    exact ⟨more, dn _ _ (fun _ z => by unfold FzO at z; cases z) m⟩
  · obtain ⟨_, e2⟩ := mi_some e
    exact (hok b o e2).stay (fun _ _ _ z => z) (fun d z => dn _ _ (fun _ z => by unfold FzO at z; cases z) z) fun d xs z => dn _ _ (fun _ z => by unfold FzO at z; cases z) z
theorem cx_add (S : Side D H outer s.heap) (h : L2N.CX P w outer H s (fun cls d H' => E cls d (pl D H')) u s') : L2N.CX P w outer (pl D H) s E u s' := by
  obtain ⟨a, B, H', cls, d, rfl, fl, hok, ub, na, os, bare, q⟩ := h
  have nD : ∀ b ob, D b = some ob → H' b = none := fun b ob e => ub.free b ob (S.at_ b ob e) (S.no b ob e)
  have kp : ∀ b ob, D b = some ob → B.get? b = some ob := fun b ob e => ub.keep b ob (S.at_ b ob e) (S.no b ob e) (S.nf b ob e)
  have up : ∀ b o, H' b = some o → pl D H' b = some o := fun b o e => by
    cases q : D b with
    | some ob => rw [nD b ob q] at e; cases e
    | none => rw [pl_of q]; exact e
  have na' : D a = none := by
    cases q : D a with
    | some ob =>
      have := kp a ob q
      rw [fl.2.1] at this
      cases this
    | none => rfl
  refine ⟨a, B, pl D H', cls, d, rfl, fl, fun b o e => ?_, ⟨fun b o e n hf => ub.keep b o e (pl_none n).2 hf, ub.slot, fun b o e n => ?_, ub.there, fun b xs e => ?_, fun b o x e => ?_, fun b ps e => ?_⟩, by rw [pl_of na']; exact na, os, bare, q⟩
  · cases q : D b with
    | some ob =>
      rw [pl_at q] at e
      cases e
      exact fzO_ok (kp b ob q)
    | none =>
      rw [pl_of q] at e
      exact (hok b o e).stay (fun _ _ _ z => z) (fun d z => up _ _ z) fun d xs z => up _ _ z
  · obtain ⟨n1, n2⟩ := pl_none n
    rw [pl_of n1]
    exact ub.free b o e n2
  · exact up _ _ (ub.tups b xs (pl_other (fun _ z => by unfold FzO at z; cases z) e).2)
  · cases q : D b with
    | some ob => rw [pl_at q] at e ⊢; exact e
    | none => rw [pl_of q] at e ⊢; exact ub.frzs b o x e
  · obtain ⟨more, m⟩ := ub.tbls b ps (pl_other (fun _ z => by unfold FzO at z; cases z) e).2
    exact ⟨more, up _ _ m⟩
theorem cx_del (S : Side D H outer s.heap) (h : L2N.CX P w outer (pl D H) s (fun cls d H' => E cls d (mi D H')) u s') : L2N.CX P w outer H s E u s' := by
  obtain ⟨a, B, H', cls, d, rfl, fl, hok, ub, na, os, bare, q⟩ := h
  have fz : ∀ b ob, D b = some ob → H' b = some (FzO b ob) := fun b ob e => ub.frzs b ob _ (pl_at e)
  have dn : ∀ b o, (∀ ob, o ≠ FzO b ob) → H' b = some o → mi D H' b = some o := fun b o n e => by
    cases q : D b with
    | some ob => rw [fz b ob q] at e; exact absurd (Option.some.inj e).symm (n ob)
    | none => rw [mi_of q]; exact e
  refine ⟨a, B, mi D H', cls, d, rfl, fl, fun b o e => ?_, ⟨fun b o e n hf => ?_, ub.slot, fun b o e n => ?_, ub.there, fun b xs e => ?_, fun b o x e => ?_, fun b ps e => ?_⟩, ?_, os, bare, q⟩
  · obtain ⟨_, e2⟩ := mi_some e
    exact (hok b o e2).stay (fun _ _ _ z => z) (fun d z => dn _ _ (fun _ z => by unfold FzO at z; cases z) z) fun d xs z => dn _ _ (fun _ z => by unfold FzO at z; cases z) z
  · cases q : D b with
    | some ob =>
      have e1 := S.at_ b ob q
      rw [e] at e1
      cases e1
      exact (hok b _ (fz b _ q)).1
    | none => exact ub.keep b o e (by rw [pl_of q]; exact n) hf
  · cases q : D b with
    | some ob => exact mi_at q
    | none => rw [mi_of q]; exact ub.free b o e (by rw [pl_of q]; exact n)
  · exact dn _ _ (fun _ z => by unfold FzO at z; cases z) (ub.tups b xs (pl_side S e))
  · have nb : D b = none := by
      cases q : D b with
      | some ob => rw [S.no b ob q] at e; cases e
      | none => rfl
    rw [mi_of nb]
    exact ub.frzs b o x (pl_side S e)
  · obtain ⟨more, m⟩ := ub.tbls b ps (pl_side S e)
    exact ⟨more, dn _ _ (fun _ z => by unfold FzO at z; cases z) m⟩
  · cases q : D a with
    | some ob => exact mi_at q
    | none => rw [mi_of q]; exact na
theorem cr_add (S : Side D H outer s.heap) {r : Result} (h : CR (L2N.CX P w) outer P w H s (fun v H' => Q v (pl D H')) (fun cls d H' => E cls d (pl D H')) r s') : CR (L2N.CX P w) outer P w (pl D H) s Q E r s' := by
  cases r with
  | error e => exact cx_add S h
  | ok fl =>
    cases fl with
    | ret u => exact ce_add S h
    | next => exact False.elim h
    | brk => exact False.elim h
    | cont => exact False.elim h
theorem cr_del (S : Side D H outer s.heap) {r : Result} (h : CR (L2N.CX P w) outer P w (pl D H) s (fun v H' => Q v (mi D H')) (fun cls d H' => E cls d (mi D H')) r s') : CR (L2N.CX P w) outer P w H s Q E r s' := by
  cases r with
  | error e => exact cx_del S h
  | ok fl =>
    cases fl with
    | ret u => exact ce_del S h
    | next => exact False.elim h
    | brk => exact False.elim h
    | cont => exact False.elim h
theorem env0_pl {K : PySem.W.Frag} {mg : Str → Option Value} {base : Heap} {A : Around} (S : Side D H outer s.heap) (e0 : Env0 P w K mg base A outer s H) (hb : ∀ b ob, D b = some ob → base.get? b = none) : Env0 P w K mg base A outer s (pl D H) := by
  refine ⟨e0.frames, e0.mod, fun b o e => ⟨(e0.bs b o e).1, ?_⟩, e0.bsz, e0.funs, fun b hb' => ?_, fun b o e => ?_, e0.bare⟩
  · cases q : D b with
    | some ob => rw [hb b ob q] at e; cases e
    | none => rw [pl_of q]; exact (e0.bs b o e).2
  · cases q : D b with
    | some ob => exact absurd hb' (S.nf b ob q)
    | none => rw [pl_of q]; exact e0.frf b hb'
  · cases q : D b with
    | some ob =>
      rw [pl_at q] at e
      cases e
      exact fzO_ok (S.at_ b ob q)
    | none =>
      rw [pl_of q] at e
      exact (e0.hok b o e).stay (fun _ _ _ z => z) (fun d z => pl_side S z) fun d xs z => pl_side S z
theorem env0_mi {K : PySem.W.Frag} {mg : Str → Option Value} {base : Heap} {A : Around} (hD : ∀ b ob, D b = some ob → H b = some (FzO b ob)) (e0 : Env0 P w K mg base A outer s H) : Env0 P w K mg base A outer s (mi D H) ∧ Side D (mi D H) outer s.heap ∧ pl D (mi D H) = H := by
  have dn : ∀ b o, (∀ ob, o ≠ FzO b ob) → H b = some o → mi D H b = some o := fun b o n e => by
    cases q : D b with
    | some ob => rw [hD b ob q] at e; exact absurd (Option.some.inj e).symm (n ob)
    | none => rw [mi_of q]; exact e
  refine ⟨⟨e0.frames, e0.mod, fun b o e => ⟨(e0.bs b o e).1, ?_⟩, e0.bsz, e0.funs, fun b hb' => ?_, fun b o e => ?_, e0.bare⟩, ⟨fun b ob q => mi_at q, fun b ob q => (e0.hok b _ (hD b ob q)).1, fun b ob q hb' => ?_⟩, funext fun b => ?_⟩
  · cases q : D b with
    | some ob => exact mi_at q
    | none => rw [mi_of q]; exact (e0.bs b o e).2
  · cases q : D b with
    | some ob => exact mi_at q
    | none => rw [mi_of q]; exact e0.frf b hb'
  · obtain ⟨_, e2⟩ := mi_some e
    exact (e0.hok b o e2).stay (fun _ _ _ z => z) (fun d z => dn _ _ (fun _ z => by unfold FzO at z; cases z) z) fun d xs z => dn _ _ (fun _ z => by unfold FzO at z; cases z) z
  · have := e0.frf b hb'
    rw [hD b ob q] at this
    cases this
  · cases q : D b with
    | some ob => rw [pl_at q, hD b ob q]
    | none => rw [pl_of q, mi_of q]
end
end Sk
/-! Lambdas: made, called. -/
namespace Sk
open PySem PySem.Spec PyProof.Rows L2 LamX NdefX
/-- a lambda's words, the cells that it captured, its code object -/
structure LF where
  qual : Str
  params : Arguments
  body : Expr
  scope : Scope
  cl : List (Str × Addr)
  c : Addr
abbrev LF.nf (F : LF) : NF := ⟨"<lambda>", F.qual, F.params, [], F.scope, F.cl, F.c⟩
abbrev LF.fd (F : LF) (pm ctv : Value) : FuncData := PySem.W.kla_fn "<lambda>" F.qual F.params F.body F.scope F.cl pm (.ref F.c) ctv
abbrev LF.obj (F : LF) (pm ctv : Value) : Obj := PySem.W.kla_obj "<lambda>" F.qual F.params F.body F.scope F.cl pm F.c ctv
def LamO (f : Addr) (F : LF) : HO := .ext fun h => ∃ pm ctv : Value, h.get? f = some (F.obj pm ctv)
theorem lamO_ne {f : Addr} {F : LF} (ps : Array Value) : LamO f F ≠ .tbl ps := fun z => by unfold LamO at z; cases z
theorem lamO_at {P : Program} {w : World} {H : Hp} {h : Heap} {f : Addr} {F : LF} (hok : HOk P w H h) (e : H f = some (LamO f F)) : ∃ pm ctv : Value, h.get? f = some (F.obj pm ctv) := (hok f _ e).1
section
variable {X : Cx} {pins : List (Addr × Obj)} {σ : L2.St} {H : Hp} {s : Shared}
theorem inv_lam {F : LF} {t' : Nat} {pm ctv : Value} (I : Inv X pins σ H s) : Inv X pins σ (upd H s.heap.objs.size (LamO s.heap.objs.size F)) { s with heap := s.heap.push (F.obj pm ctv), toks := t' } := by
  refine I.laid (a := s.heap.objs.size) (fun b u e => Heap.get?_push_of_some _ e) (Nat.le_refl _) ?_
  have e : (s.heap.push (F.obj pm ctv)).get? s.heap.objs.size = some (F.obj pm ctv) := Heap.get?_push_size _ rfl
  exact ⟨⟨pm, ctv, e⟩, ⟨_, e⟩, fun h1 h2 ⟨p, t, z⟩ st => ⟨p, t, st _ z⟩⟩
/-- the lambda is made: its code object is new, or found in the table -/
theorem lam_make {T : List (Addr × Str)} {c P : Addr} {params : Arguments} {body : Expr} {scope : Scope} {pos : Pos} {E : Value → Shared → Prop} {Q : Value → Shared → Prop} (I : Inv X pins σ H s) (TB : TabB X.base X.mg c P) (hcode : X.env.code = .ref c)
    (hm : (P, X.env.qual ++ "<lambda>") ∈ T) (hu : ∀ p ∈ T, p.1 = P → p.2 = X.env.qual ++ "<lambda>") (hT : Tabs T H) (hdef : defaultsOf params X.env = ([], [])) (hfree : ∀ y ∈ scope.names, y.2 = .free → ∃ c, X.env.cells.lookup y.1 = some c)
    (h : ∀ (f c' : Addr) (H1 : Hp) (s' : Shared), Inv X pins σ H1 s' → ExtN H H1 → (∀ b, H1 b = none → H b = none) → Tabs T H1 → H f = none → H1 f = some (LamO f ⟨X.env.qual ++ "<lambda>", params, body, scope, cloFrom X.env.cells scope.names [], c'⟩) → H1 c' = some (CodeO c' (X.env.qual ++ "<lambda>")) → Q (.ref f) s') :
    wpAny (model X.prog X.w) X.A (eval (.Lambda params body scope pos) X.env) Q E s := by
  obtain ⟨ps, hP, ht, ha⟩ := hT _ hm
  refine PySem.W.kla_eval hdef ?_
  have bP : s.heap.BuiltinsAt X.mg P := TB.bm.keeps I.bk
  have hP' : s.heap.get? P = some { cls := .none, data := .fields ps } := I.hok P _ hP
  cases hc : codeAmong pos ps.toList with
  | none =>
    refine PySem.W.kla_makeFunction (mg := X.mg) (c := c) (P := P) (ps := ps) (closure_ok hfree) I.ok.glob (I.mod.glob.keeps I.bk) hcode (TB.code.keeps I.bk) hP' ht hc TB.gP bP fun c' ctv h' tk hx hge hlt hrec htb => ?_
    obtain ⟨c2, oc, vs, t, e2, hoc, hd, hv⟩ := hrec
    cases e2
    have nC : H c' = none := I.hok.fresh hge
    have I1 := inv_table (t' := tk) (more := #[rawInt pos.line, rawInt pos.col, .ref c']) (h' := h') I hP (fun b o hb e => hx b o hb e) htb hge ⟨oc, vs, t, hoc, hd, hv⟩
    have hE : ExtN H (upd (upd H P (.tbl (ps ++ #[rawInt pos.line, rawInt pos.col, .ref c']))) c' (CodeO c' (X.env.qual ++ "<lambda>"))) := fun b o e n => by
      rw [upd_ne (ne_of_none e nC), upd_ne (fun z => n ps (Option.some.inj (e.symm.trans (by rw [z]; exact hP))))]
      exact e
    have eL : (ps ++ #[rawInt pos.line, rawInt pos.col, .ref c']).toList = ps.toList ++ [rawInt pos.line, rawInt pos.col, .ref c'] := by simp
    have T1 : Tabs T (upd (upd H P (.tbl (ps ++ #[rawInt pos.line, rawInt pos.col, .ref c']))) c' (CodeO c' (X.env.qual ++ "<lambda>"))) := fun p hp => by
      by_cases hb : p.1 = P
      · rw [hu p hp hb, hb]
        refine ⟨_, by rw [upd_ne (ne_of_none hP nC), upd_same], by rw [eL]; exact PySem.TriplesOk_snoc _ _ _ _ ht, fun p' cv hcv => ?_⟩
        rw [eL] at hcv
        rcases among_app _ ht hcv with z | z
        · obtain ⟨c0, e1, e2⟩ := ha p' cv z
          exact ⟨c0, e1, hE _ _ e2 codeO_ne⟩
        · exact ⟨c', z, upd_same⟩
      · obtain ⟨ps', a1, a2, a3⟩ := hT p hp
        refine ⟨ps', by rw [upd_ne (ne_of_none a1 nC), upd_ne hb]; exact a1, a2, fun p' cv hcv => ?_⟩
        obtain ⟨c0, e1, e2⟩ := a3 p' cv hcv
        exact ⟨c0, e1, hE _ _ e2 codeO_ne⟩
    have nF := I1.hok.fresh (Nat.le_refl _)
    have I2 := inv_lam (F := ⟨X.env.qual ++ "<lambda>", params, body, scope, cloFrom X.env.cells scope.names [], c'⟩) (t' := tk) (pm := (X.mg "__name__").getD .none) (ctv := ctv) I1
    refine h h'.objs.size c' _ _ I2 (fun b o e n => ?_) (fun b e => upd_none (upd_none (upd_none e))) (T1.ext fun b o e => ?_) (I.hok.fresh (Nat.le_trans hge (Nat.le_of_lt hlt))) upd_same ?_
    · have e1 := hE b o e n
      exact (upd_ne (ne_of_none e1 nF)).trans e1
    · exact (upd_ne (ne_of_none e nF)).trans e
    · exact (upd_ne (Nat.ne_of_lt hlt)).trans upd_same
  | some cv =>
    obtain ⟨c', e, hco⟩ := ha pos cv hc
    subst e
    refine PySem.W.kla_makeFunctionHit (mg := X.mg) (c := c) (P := P) (ps := ps) (closure_ok hfree) I.ok.glob (I.mod.glob.keeps I.bk) hcode (TB.code.keeps I.bk) hP' ht hc bP fun ctv h' tk hx hsz => ?_
    have I1 : Inv X pins σ H { s with heap := h', toks := tk } := I.kept hx
    have nF : H h'.objs.size = none := I1.hok.fresh (Nat.le_refl _)
    have I2 := inv_lam (F := ⟨X.env.qual ++ "<lambda>", params, body, scope, cloFrom X.env.cells scope.names [], c'⟩) (t' := tk) (pm := (X.mg "__name__").getD .none) (ctv := ctv) I1
    refine h h'.objs.size c' _ _ I2 (fun b o e n => ?_) (fun b e => upd_none e) (hT.ext fun b o e => ?_) nF upd_same ?_
    · exact (upd_ne (ne_of_none e nF)).trans e
    · exact (upd_ne (ne_of_none e nF)).trans e
    · exact (upd_ne (ne_of_none hco nF)).trans hco
end
/-- the reading of a lambda: a new function -/
def tLam (T : List (Addr × Str)) (mk : Addr → LF) : TE := fun σ H Q => Tabs T H ∧ ∀ (f c' : Addr) (H1 : Hp), ExtN H H1 → (∀ b, H1 b = none → H b = none) → Tabs T H1 → H f = none → H1 f = some (LamO f (mk c')) → H1 c' = some (CodeO c' (mk c').qual) → Q (.ref f) H1
theorem pe_lam {X : Cx} (T : List (Addr × Str)) {c P : Addr} {params : Arguments} {body : Expr} {scope : Scope} {pos : Pos} (TB : TabB X.base X.mg c P) (hcode : X.env.code = .ref c)
    (hm : (P, X.env.qual ++ "<lambda>") ∈ T) (hu : ∀ p ∈ T, p.1 = P → p.2 = X.env.qual ++ "<lambda>") (hdef : defaultsOf params X.env = ([], []))
    (hfree : ∀ y ∈ scope.names, y.2 = .free → X.env.scope.names.lookup y.1 = some .cell ∨ X.env.scope.names.lookup y.1 = some .free) :
    PE X (.Lambda params body scope pos) (tLam T fun c' => ⟨X.env.qual ++ "<lambda>", params, body, scope, cloFrom X.env.cells scope.names [], c'⟩) := by
  refine ⟨fun pins s σ H Q I h => ?_⟩
  have hfr : ∀ y ∈ scope.names, y.2 = .free → ∃ c, X.env.cells.lookup y.1 = some c := fun y hy e => (hfree y hy e).elim (fun z => I.ok.has _ (.inl z)) fun z => I.ok.has _ (.inr z)
  exact lam_make I TB hcode hm hu h.1 hdef hfr fun f c' H1 s' I1 a1 a2 a3 a4 a5 a6 => ⟨.ref f, H1, I1, rfl, h.2 f c' H1 a1 a2 a3 a4 a5 a6⟩
/-! ### the promise of a lambda -/
structure LOk (P : Program) (w : World) (K : PySem.W.Frag) (mg : Str → Option Value) (base : Heap) (k : Nat) (f : Addr) (F : LF) (ps fr : List Str) (sp : List (Option V) → Sp) : Prop where
  len : ∀ ws vs H Q E, sp ws vs H Q E → vs.length = ps.length
  run : ∀ (A : Around) (outer : List Env) (s : Shared) (H : Hp) (us : List Value) (vs : List V) (ws : List (Option V)) (Q : VK) (E : XK), Room k A → Env0 P w K mg base A outer s H → H f = some (LamO f F) → H F.c = some (CodeO F.c F.qual) →
    CellsAt F.cl fr ws s.heap H → Vals vs us → sp ws vs H Q E → codeAny (model P w) A (.call (.ref f) ⟨us, []⟩) (CR (L2N.CX P w) outer P w H s Q E) s
theorem lok_of {P : Program} {w : World} {K : PySem.W.Frag} {mg : Str → Option Value} {base : Heap} {N ps fr : List Str} {F : LF} {f : Addr} {k : Nat} {sp : List (Option V) → Sp} (S : NScope N ps fr F.scope)
    (hb : ∀ (pm ctv : Value) (us : List Value), us.length = ps.length → bindArgs (F.fd pm ctv) ⟨us, []⟩ = pure (ps.zip us)) (len : ∀ ws vs H Q E, sp ws vs H Q E → vs.length = ps.length)
    (hbody : ∀ (A : Around) (outer : List Env) (s : Shared) (H : Hp) (vs : List V) (ws : List (Option V)) (Q : VK) (E : XK), Room k (A.deeper (envF F.nf f s.heap.objs.size)) → ws.length = fr.length → sp ws vs H Q E →
      ∃ t, PE (ncx (L2N.CX P w) P w K mg base N F.nf f A outer s H E) F.body t ∧ t (startF N vs ws) H Q) :
    LOk P w K mg base (k + 1) f F ps fr sp := by
  refine ⟨len, fun A outer s H us vs ws Q E hr e0 hf hc C r hsp => ?_⟩
  have hl := len _ _ _ _ _ hsp
  have lim : s.heap.NoLimit := e0.mod.nolimit.keeps fun b o e => (e0.bs b o e).1
  obtain ⟨pm, ctv, ho⟩ := lamO_at e0.hok hf
  refine PySem.W.kla_callFunE hr.depth ho rfl S.co S.gen rfl (codeO_at e0.hok hc) ?_
  rw [hb pm ctv us (by rw [← r.length]; exact hl)]
  refine wpAny_pure (wpAny_newFunctionEnv S.nocell (fun ⟨n, _⟩ hy => S.par n (List.of_mem_zip hy).1) (fun h₁ hns hsb => ⟨lim.fresh _ hsb, ?_⟩) S.kind)
  show codeAny _ _ (.expr F.body (envF F.nf f s.heap.objs.size)) _ _
  have kp : ∀ b o, s.heap.get? b = some o → h₁.get? b = some o := fun b o e => hsb.extBut b o (Nat.ne_of_lt (Heap.lt_size e)) (Heap.get?_push_of_some _ e)
  obtain ⟨t, ht, hq⟩ := hbody A outer s H vs ws Q E (hr.deeper _) C.len hsp
  have I : Inv (ncx (L2N.CX P w) P w K mg base N F.nf f A outer s H E) [] (startF N vs ws) H { s with heap := h₁, toks := s.toks + (ps.zip us).length } := inv_startN (F := F.nf) S hr.hd e0 hl r C hns kp
  refine PySem.W.kla_codeExpr (wpAny_mono (ht.run [] _ (startF N vs ws) H Q I hq) (fun v s' hs => ?_) fun e s' hs => hs)
  obtain ⟨w', H', J, rv, q⟩ := hs
  exact ⟨w', H', J.os, J.bare, J.base, J.hok, rv, q⟩
/-! ### what is asked of a thing that is called -/
/-- f is a function: a lambda that is told, or a def of the written part -/
def FnTy (K : PySem.W.Frag) (H : Hp) (f : Addr) : Prop := (∃ F, H f = some (LamO f F)) ∨ ∃ fd oc od osl, K.lookup f = some (⟨oc, od, .func fd, osl⟩ : Obj)
theorem FnTy.same {K : PySem.W.Frag} {H H' : Hp} {f : Addr} (t : FnTy K H f) (s : Same H H') : FnTy K H' f := t.imp (fun ⟨F, e⟩ => ⟨F, s _ _ e⟩) id
/-- calling f with vs at H goes so -/
def AskAt (P : Program) (w : World) (K : PySem.W.Frag) (mg : Str → Option Value) (base : Heap) (k : Nat) (f : Addr) (vs : List V) (H : Hp) (Q : VK) (E : XK) : Prop :=
  ∀ (A : Around) (outer : List Env) (s : Shared) (us : List Value), Room k A → Env0 P w K mg base A outer s H → Vals vs us → codeAny (model P w) A (.call (.ref f) ⟨us, []⟩) (CR (L2N.CX P w) outer P w H s Q E) s
def tAsk (P : Program) (w : World) (K : PySem.W.Frag) (mg : Str → Option Value) (base : Heap) (k i : Nat) (W : WX) (t : TA) : TE := fun σ H Q => ∃ f, σ[i]? = some (some (.ref f)) ∧ FnTy K H f ∧ t σ H fun vs H1 => FnTy K H1 f ∧ AskAt P w K mg base k f vs H1 Q (WE W σ)
section
variable {X : Cx} {k i : Nat} {x : Str} {p pos : Pos} {e : Expr} {es : List Expr} {t : TA} {W : WX}
theorem fnAt_ty {pins : List (Addr × Obj)} {σ : L2.St} {H : Hp} {s : Shared} {f : Addr} (I : Inv X pins σ H s) (t : FnTy X.K H f) : PySem.W.FnAt f s.heap := by
  rcases t with ⟨F, e⟩ | ⟨fd, oc, od, osl, e⟩
  · obtain ⟨pm, ctv, ho⟩ := lamO_at I.hok e
    exact ⟨_, _, _, _, ho⟩
  · exact ⟨_, _, _, _, I.kIn _ _ e⟩
theorem pe_ask (hr : Room k X.A) (tk : L2N.Takes X W) (hN : X.N[i]? = some x) (hv : Vis X.env.scope x) (ha : PA X (e :: es) t)
    (hd : (x == ("__debug__" : Str)) = false := by decide) (hcd : (x == ("__classdict__" : Str)) = false := by decide)
    (he : starEach (e :: es) X.env = (false, eval e X.env) :: starEach es X.env := by rfl) (hpl : (backTo pos (starEach es X.env)).any (·.1) = false := by rfl) :
    PE X (.Call (.Name x p) (e :: es) [] pos) (tAsk X.prog X.w X.K X.mg X.base k i W t) := by
  refine ⟨fun pins s σ H Q I h => ?_⟩
  obtain ⟨f, hs, hf, ht⟩ := h
  refine wpAny_Call_Name_kw (thn ((pe_var (pos := p) hN hv hd hcd).run pins s σ H (fun v H1 => v = .ref f ∧ H1 = H) I ⟨.ref f, hs, rfl, rfl⟩) fun u s1 ⟨v, H1, I1, r1, q1⟩ => ?_)
  obtain ⟨ev, eH⟩ := q1
  subst ev
  rw [eH] at I1
  obtain rfl : u = Value.ref f := r1
  refine PySem.W.callWith_F (first := []) (fnAt_ty I1 hf) (thn (ha.run pos pins s1 σ H _ I1 ht) fun us s2 ⟨vs, H2, I2, r, h1, q⟩ => ⟨fnAt_ty I2 h1, ?_⟩) he hpl
  show wpAny _ _ (call (.ref f) us) _ _ _
  refine wpAny_call (codeAny_mono (q X.A X.stack s2 us hr I2.env0 r) fun r s' hq => ?_)
  cases r with
  | error e => exact L2N.passAt tk σ pins H2 s2 e s' I2 hq
  | ok fl =>
    cases fl with
    | ret u => exact I2.after hq
    | next => exact False.elim hq
    | brk => exact False.elim hq
    | cont => exact False.elim hq
end
/-! ### the cells of a lambda, told in the heap -/
structure CapsH (H : Hp) (cl : List (Str × Addr)) (fr : List Str) (ws : List (Option V)) : Prop where
  len : ws.length = fr.length
  all : ∀ y c, cl.lookup y = some c → ∃ ob v, H c = some (FzO c ob) ∧ ob.data = .cell v
  inj : ∀ x y c, cl.lookup x = some c → cl.lookup y = some c → x = y
  has : ∀ (i : Nat) (y : Str), fr[i]? = some y → ∃ c, cl.lookup y = some c ∧ ∀ v, ws[i]? = some (some v) → ∃ ob u, H c = some (FzO c ob) ∧ ob.data = .cell (some u) ∧ L2.RelV v u
theorem CapsH.same {H H' : Hp} {cl : List (Str × Addr)} {fr : List Str} {ws : List (Option V)} (c : CapsH H cl fr ws) (s : Same H H') : CapsH H' cl fr ws :=
  ⟨c.len, fun y a e => let ⟨ob, v, h1, h2⟩ := c.all y a e; ⟨ob, v, s _ _ h1, h2⟩, c.inj, fun i y e => let ⟨a, h1, h2⟩ := c.has i y e; ⟨a, h1, fun v ev => let ⟨ob, u, k1, k2⟩ := h2 v ev; ⟨ob, u, s _ _ k1, k2⟩⟩⟩
open Classical in
/-- the cells among what is told besides -/
noncomputable def cellsIn (H : Hp) (cl : List (Str × Addr)) : Addr → Option Obj := fun b => if h : ∃ ob, (∃ y, cl.lookup y = some b) ∧ H b = some (FzO b ob) then some h.choose else none
theorem cellsIn_some {H : Hp} {cl : List (Str × Addr)} {b : Addr} {ob : Obj} (e : cellsIn H cl b = some ob) : (∃ y, cl.lookup y = some b) ∧ H b = some (FzO b ob) := by
  unfold cellsIn at e
  split at e
  · rename_i h
    cases e
    exact h.choose_spec
  · cases e
theorem cellsIn_of {H : Hp} {cl : List (Str × Addr)} {b : Addr} {ob : Obj} {y : Str} (h1 : cl.lookup y = some b) (h2 : H b = some (FzO b ob)) : ∃ ob', cellsIn H cl b = some ob' := by
  unfold cellsIn
  rw [dif_pos ⟨ob, ⟨y, h1⟩, h2⟩]
  exact ⟨_, rfl⟩
/-- a lambda is called: its cells are told in the heap -/
theorem LOk.ask {P : Program} {w : World} {K : PySem.W.Frag} {mg : Str → Option Value} {base : Heap} {ps fr : List Str} {F : LF} {f : Addr} {k : Nat} {sp : List (Option V) → Sp} {ws : List (Option V)} {vs : List V} {H : Hp} {Q : VK} {E : XK}
    (L : LOk P w K mg base k f F ps fr sp) (hf : H f = some (LamO f F)) (hc : H F.c = some (CodeO F.c F.qual)) (C : CapsH H F.cl fr ws)
    (q : sp ws vs (mi (cellsIn H F.cl) H) (fun v H' => Q v (pl (cellsIn H F.cl) H')) (fun cls d H' => E cls d (pl (cellsIn H F.cl) H'))) : AskAt P w K mg base k f vs H Q E := by
  intro A outer s us hr e0 r
  obtain ⟨e1, S, ep⟩ := env0_mi (D := cellsIn H F.cl) (fun b ob e => (cellsIn_some e).2) e0
  have dn : ∀ b o, (∀ ob, o ≠ FzO b ob) → H b = some o → mi (cellsIn H F.cl) H b = some o := fun b o n e => by
    cases q : cellsIn H F.cl b with
    | some ob => rw [(cellsIn_some q).2] at e; exact absurd (Option.some.inj e).symm (n ob)
    | none => rw [mi_of q]; exact e
  have C' : CellsAt F.cl fr ws s.heap (mi (cellsIn H F.cl) H) := by
    refine ⟨C.len, fun y c e => ?_, C.inj, fun i y e => ?_⟩
    · obtain ⟨ob, v, h1, h2⟩ := C.all y c e
      obtain ⟨ob', e'⟩ := cellsIn_of e h1
      exact ⟨mi_at e', v, ob, (e0.hok c _ h1).1, h2⟩
    · obtain ⟨c, h1, h2⟩ := C.has i y e
      refine ⟨c, h1, fun v ev => ?_⟩
      obtain ⟨ob, u, k1, k2, k3⟩ := h2 v ev
      exact ⟨u, k3, ob, (e0.hok c _ k1).1, k2⟩
  have run := L.run A outer s (mi (cellsIn H F.cl) H) us vs ws _ _ hr e1 (dn _ _ (fun _ z => by unfold LamO FzO at z; cases z) hf) (dn _ _ (fun _ z => by unfold CodeO FzO at z; cases z) hc) C' r q
  refine codeAny_mono run fun r s' hq => ?_
  have z := cr_add S hq
  rw [ep] at z
  exact z
end Sk
/-! Lambdas: the def that made them calls others with their cells told; defs called in an except suite. -/
namespace Sk
open PySem PySem.Spec PyProof.Rows L2 LamX NdefX
section
variable {D : Addr → Option Obj} {H H' H0 H1 : Hp} {cl : List (Str × Addr)}
theorem same_pl_mi (hD : ∀ b ob, D b = some ob → H b = some (FzO b ob)) (s : Same (mi D H) H') : Same H (pl D H') := fun b o e => by
  cases q : D b with
  | some ob => rw [pl_at q]; rw [hD b ob q] at e; exact e
  | none => rw [pl_of q]; exact s b o (by rw [mi_of q]; exact e)
theorem same_mi_pl (hD : ∀ b ob, D b = some ob → H b = none) (s : Same (pl D H) H') : Same H (mi D H') := fun b o e => by
  cases q : D b with
  | some ob => rw [hD b ob q] at e; cases e
  | none => rw [mi_of q]; exact s b o (by rw [pl_of q]; exact e)
theorem same_pl (hD : ∀ b ob, D b = some ob → H b = none) : Same H (pl D H) := fun b o e => by
  cases q : D b with
  | some ob => rw [hD b ob q] at e; cases e
  | none => rw [pl_of q]; exact e
theorem same_cells (hD : ∀ b ob, D b = some ob → H0 b = none) (cov : ∀ y c, cl.lookup y = some c → ∃ ob, D c = some ob) (s : Same (pl D H0) H1) : Same H0 (mi (cellsIn H1 cl) H1) := fun b o e => by
  have nb : D b = none := by
    cases q : D b with
    | some ob => rw [hD b ob q] at e; cases e
    | none => rfl
  cases q : cellsIn H1 cl b with
  | some ob =>
    obtain ⟨⟨y, hy⟩, _⟩ := cellsIn_some q
    obtain ⟨ob', h'⟩ := cov y b hy
    rw [nb] at h'
    cases h'
  | none => rw [mi_of q]; exact s b o (by rw [pl_of nb]; exact e)
end
section
variable {P : Program} {w : World} {D : Addr → Option Obj} {H : Hp} {outer : List Env} {s s' : Shared} {Q Q1 : VK} {E E1 : XK}
theorem cr_add2 (S : Side D H outer s.heap) (hq : ∀ v H', (∀ b ob, D b = some ob → H' b = none) → Q1 v H' → Q v (pl D H')) (he : ∀ cls d H', (∀ b ob, D b = some ob → H' b = none) → E1 cls d H' → E cls d (pl D H')) {r : Result}
    (h : CR (L2N.CX P w) outer P w H s Q1 E1 r s') : CR (L2N.CX P w) outer P w (pl D H) s Q E r s' := by
  cases r with
  | error e =>
    obtain ⟨a, B, H', cls, d, rfl, fl, hok, ub, na, os, bare, q⟩ := h
    exact cx_add S ⟨a, B, H', cls, d, rfl, fl, hok, ub, na, os, bare, he _ _ _ (fun b ob e => ub.free b ob (S.at_ b ob e) (S.no b ob e)) q⟩
  | ok fl =>
    cases fl with
    | ret u =>
      obtain ⟨v, H', os, bare, un, hok, rv, q⟩ := h
      exact ce_add S ⟨v, H', os, bare, un, hok, rv, hq _ _ (fun b ob e => un.free b ob (S.at_ b ob e) (S.no b ob e) (by simp)) q⟩
    | next => exact False.elim h
    | brk => exact False.elim h
    | cont => exact False.elim h
end
/-- a lambda is called: its cells are told in the heap -/
theorem LOk.ask2 {P : Program} {w : World} {K : PySem.W.Frag} {mg : Str → Option Value} {base : Heap} {ps fr : List Str} {F : LF} {f : Addr} {k : Nat} {sp : List (Option V) → Sp} {ws : List (Option V)} {vs : List V} {H : Hp} {Q Q1 : VK} {E E1 : XK}
    (L : LOk P w K mg base k f F ps fr sp) (hf : H f = some (LamO f F)) (hc : H F.c = some (CodeO F.c F.qual)) (C : CapsH H F.cl fr ws) (q : sp ws vs (mi (cellsIn H F.cl) H) Q1 E1)
    (hq : ∀ v H', (∀ b ob, cellsIn H F.cl b = some ob → H' b = none) → Q1 v H' → Q v (pl (cellsIn H F.cl) H')) (he : ∀ cls d H', (∀ b ob, cellsIn H F.cl b = some ob → H' b = none) → E1 cls d H' → E cls d (pl (cellsIn H F.cl) H')) : AskAt P w K mg base k f vs H Q E := by
  intro A outer s us hr e0 r
  obtain ⟨e1, S, ep⟩ := env0_mi (D := cellsIn H F.cl) (fun b ob e => (cellsIn_some e).2) e0
  have dn : ∀ b o, (∀ ob, o ≠ FzO b ob) → H b = some o → mi (cellsIn H F.cl) H b = some o := fun b o n e => by
    cases q : cellsIn H F.cl b with
    | some ob => rw [(cellsIn_some q).2] at e; exact absurd (Option.some.inj e).symm (n ob)
    | none => rw [mi_of q]; exact e
  have C' : CellsAt F.cl fr ws s.heap (mi (cellsIn H F.cl) H) := by
    refine ⟨C.len, fun y c e => ?_, C.inj, fun i y e => ?_⟩
    · obtain ⟨ob, v, h1, h2⟩ := C.all y c e
      obtain ⟨ob', e'⟩ := cellsIn_of e h1
      exact ⟨mi_at e', v, ob, (e0.hok c _ h1).1, h2⟩
    · obtain ⟨c, h1, h2⟩ := C.has i y e
      refine ⟨c, h1, fun v ev => ?_⟩
      obtain ⟨ob, u, k1, k2, k3⟩ := h2 v ev
      exact ⟨u, k3, ob, (e0.hok c _ k1).1, k2⟩
  have run := L.run A outer s (mi (cellsIn H F.cl) H) us vs ws _ _ hr e1 (dn _ _ (fun _ z => by unfold LamO FzO at z; cases z) hf) (dn _ _ (fun _ z => by unfold CodeO FzO at z; cases z) hc) C' r q
  refine codeAny_mono run fun r s' hq' => ?_
  have z := cr_add2 S hq he hq'
  rw [ep] at z
  exact z
/-- a def of the text is called as a thing -/
theorem Cal.ask {P : Program} {w : World} {K : PySem.W.Frag} {mg : Str → Option Value} {base : Heap} {k : Nat} {x : Str} {ps : List Str} {sp : Sp} {f : Addr} {vs : List V} {H : Hp} {Q : VK} {E : XK} (C : Cal P w K mg base (L2N.CX P w) k x ps sp) (g : mg x = some (.ref f)) (q : sp vs H Q E) : FnTy K H f ∧ AskAt P w K mg base k f vs H Q E := by
  obtain ⟨f2, fd, F, g2, kp, b, oc, od, osl, lk⟩ := C
  have e := g.symm.trans g2
  cases e
  refine ⟨.inr ⟨fd, oc, od, osl, lk⟩, fun A outer s us hr e0 r => ?_⟩
  have hl : us.length = ps.length := by rw [← r.length]; exact F.len _ _ _ _ q
  have hb1 := b s us (e0.mod.kin.keeps fun b o e => (e0.bs b o e).1) (by simpa using hl)
  rw [List.append_nil] at hb1
  exact F.run A outer s H ⟨us, []⟩ us vs Q E hr e0 hb1 r q
theorem Cal.up {P : Program} {w : World} {K : PySem.W.Frag} {mg : Str → Option Value} {base : Heap} {k : Nat} {x : Str} {ps : List Str} {sp : Sp} {CX : CXT} (C : Cal P w K mg base CX0 k x ps sp) : Cal P w K mg base CX k x ps sp := by
  obtain ⟨f, fd, F, r⟩ := C
  refine ⟨f, fd, ⟨F.len, fun A outer s H args us vs Q E hr e0 hb hv hs => codeAny_mono (F.run A outer s H args us vs Q E hr e0 hb hv hs) fun r s' h => ?_⟩, r⟩
  cases r with
  | error e => exact False.elim h
  | ok fl =>
    cases fl with
    | ret u => exact h
    | next => exact h
    | brk => exact h
    | cont => exact h
/-! ### the frame's own cells -/
structure CapD (X : Cx) (σ : L2.St) (H : Hp) (D : Addr → Option Obj) : Prop where
  ok : X.Ok
  no : ∀ b ob, D b = some ob → H b = none
  cov : ∀ y c, X.env.cells.lookup y = some c → ∃ ob, D c = some ob
  val : ∀ cl fr js, Caps X cl fr js → CapsH (pl D H) cl fr (js.map (slotAt σ))
open Classical in
noncomputable def envCells (cells : List (Str × Addr)) (h : Heap) : Addr → Option Obj := fun b => if ∃ y, cells.lookup y = some b then h.get? b else none
theorem envCells_some {cells : List (Str × Addr)} {h : Heap} {b : Addr} {ob : Obj} (e : envCells cells h b = some ob) : (∃ y, cells.lookup y = some b) ∧ h.get? b = some ob := by
  unfold envCells at e
  split at e
  · exact ⟨by assumption, e⟩
  · cases e
theorem envCells_of {cells : List (Str × Addr)} {h : Heap} {b : Addr} {y : Str} (e : cells.lookup y = some b) : envCells cells h b = h.get? b := by
  unfold envCells
  rw [if_pos ⟨y, e⟩]
section
variable {X : Cx} {pins : List (Addr × Obj)} {σ : L2.St} {H : Hp} {s : Shared}
theorem cap_of (I : Inv X pins σ H s) : CapD X σ H (envCells X.env.cells s.heap) := by
  have cov : ∀ y c, X.env.cells.lookup y = some c → ∀ ob, s.heap.get? c = some ob → envCells X.env.cells s.heap c = some ob := fun y c e ob h => by rw [envCells_of e]; exact h
  refine ⟨I.ok, fun b ob e => ?_, fun y c e => ?_, fun cl fr js C => ?_⟩
  · obtain ⟨⟨y, hy⟩, _⟩ := envCells_some e
    exact I.freeC y b hy
  · obtain ⟨v, ob, h1, _⟩ := I.cell y c e
    exact ⟨ob, cov y c e ob h1⟩
  · have A := cells_of I C
    refine ⟨A.len, fun y c e => ?_, A.inj, fun i y e => ?_⟩
    · obtain ⟨_, v, ob, h1, h2⟩ := A.all y c e
      exact ⟨ob, v, pl_at (cov y c (C.sub y c e) ob h1), h2⟩
    · obtain ⟨c, h1, h2⟩ := A.has i y e
      refine ⟨c, h1, fun v ev => ?_⟩
      obtain ⟨u, r, ob, k1, k2⟩ := h2 v ev
      exact ⟨ob, u, pl_at (cov y c (C.sub y c h1) ob k1), k2, r⟩
theorem side_of (I : Inv X pins σ H s) (hfn : ∀ y, X.fn y = true) : Side (envCells X.env.cells s.heap) H X.stack s.heap ∧ ∀ b ob, envCells X.env.cells s.heap b = some ob → X.base.get? b = none := by
  refine ⟨⟨(cap_of I).no, fun b ob e => (envCells_some e).2, fun b ob e hb => ?_⟩, fun b ob e => ?_⟩
  · obtain ⟨⟨y, hy⟩, hg⟩ := envCells_some e
    obtain ⟨v, ob', h1, h2⟩ := I.cell y b hy
    rcases List.mem_cons.mp (I.stkSub b hb) with z | z
    · obtain ⟨m, ⟨o, es, ep, k1, k2, _⟩, _⟩ := I.loc
      rw [← z, h1] at k1
      cases k1
      rw [h2] at k2
      cases k2
    · obtain ⟨_, o', k1, _⟩ := I.ok.funs.mem z
      exact absurd (Heap.lt_size k1) (Nat.not_lt.mpr (I.ok.cab y b (hfn y) hy))
  · obtain ⟨⟨y, hy⟩, _⟩ := envCells_some e
    cases q : X.base.get? b with
    | none => rfl
    | some o => exact absurd (Nat.lt_of_lt_of_le (Heap.lt_size q) I.ok.bsz) (Nat.not_lt.mpr (I.ok.cab y b (hfn y) hy))
theorem run_bd {f : Addr} {us : List Value} {Q : VK} (I : Inv X pins σ H s) (hfn : ∀ y, X.fn y = true)
    (h : ∀ D, CapD X σ H D → Env0 X.prog X.w X.K X.mg X.base X.A X.stack s (pl D H) → codeAny (model X.prog X.w) X.A (.call (.ref f) ⟨us, []⟩) (CR (L2N.CX X.prog X.w) X.stack X.prog X.w (pl D H) s (fun v H' => Q v (mi D H')) (fun _ _ _ => False)) s) :
    wpAny (model X.prog X.w) X.A (call (.ref f) us) (EP X pins σ Q) X.xe s := by
  obtain ⟨S, hb⟩ := side_of I hfn
  refine wpAny_call (codeAny_mono (h _ (cap_of I) (env0_pl S I.env0 hb)) fun r s' hq => ?_)
  have z := cr_del (E := fun _ _ _ => False) S hq
  cases r with
  | error e =>
    obtain ⟨_, _, _, _, _, _, _, _, _, _, _, _, q⟩ := z
    exact q.elim
  | ok fl =>
    cases fl with
    | ret u => exact I.after z
    | next => exact False.elim z
    | brk => exact False.elim z
    | cont => exact False.elim z
end
def tBd (X : Cx) (sp : Sp) (t : TA) : TE := fun σ H Q => t σ H fun vs H1 => ∀ D, CapD X σ H1 D → sp vs (pl D H1) (fun v H' => Q v (mi D H')) (fun _ _ _ => False)
section
variable {X : Cx} {k : Nat} {ps : List Str} {sp : Sp} {x : Str} {p pos : Pos} {e : Expr} {es : List Expr} {t : TA}
theorem pcallB (C : Cal X.prog X.w X.K X.mg X.base (L2N.CX X.prog X.w) k x ps sp) (hr : Room k X.A) (hfn : ∀ y, X.fn y = true) (hg : Gl X x) (ha : PA X (e :: es) t)
    (hdb : (x == ("__debug__" : Str)) = false := by decide) (he : starEach (e :: es) X.env = (false, eval e X.env) :: starEach es X.env := by rfl) (hpl : (backTo pos (starEach es X.env)).any (·.1) = false := by rfl) :
    PE X (.Call (.Name x p) (e :: es) [] pos) (tBd X sp t) := by
  obtain ⟨f, fd, F, g, kp, b, _⟩ := C
  refine ⟨fun pins s σ H Q I h => ?_⟩
  refine wpAny_Call_Name_kw (ld_glob I hg g ?_ hdb)
  refine PySem.W.callWith_K (h₀ := X.base) I.ok.mod.kin kp (thn (ha.run pos pins s σ H _ I h) fun us s1 ⟨vs, H1, I1, r, q⟩ => ⟨I1.kIn, ?_⟩) he hpl
  show wpAny _ _ (call (.ref f) us) _ _ _
  refine run_bd I1 hfn fun D c e0 => ?_
  have hs := q D c
  have hl : us.length = ps.length := by rw [← r.length]; exact F.len _ _ _ _ hs
  have hb1 := b s1 us I1.kIn (by simpa using hl)
  rw [List.append_nil] at hb1
  exact F.run X.A X.stack s1 _ ⟨us, []⟩ us vs _ _ hr e0 hb1 r hs
theorem pcallBG (C : CalG X.prog X.w X.K X.mg X.base (L2N.CX X.prog X.w) k x ps sp) (hr : Room k X.A) (gd : X.A.guards = some []) (hfn : ∀ y, X.fn y = true) (hg : Gl X x) (ha : PA X (e :: es) t)
    (hdb : (x == ("__debug__" : Str)) = false := by decide) (he : starEach (e :: es) X.env = (false, eval e X.env) :: starEach es X.env := by rfl) (hpl : (backTo pos (starEach es X.env)).any (·.1) = false := by rfl) :
    PE X (.Call (.Name x p) (e :: es) [] pos) (tBd X sp t) := by
  obtain ⟨f, fd, F, g, kp, b, _⟩ := C
  refine ⟨fun pins s σ H Q I h => ?_⟩
  refine wpAny_Call_Name_kw (ld_glob I hg g ?_ hdb)
  refine PySem.W.callWith_K (h₀ := X.base) I.ok.mod.kin kp (thn (ha.run pos pins s σ H _ I h) fun us s1 ⟨vs, H1, I1, r, q⟩ => ⟨I1.kIn, ?_⟩) he hpl
  show wpAny _ _ (call (.ref f) us) _ _ _
  refine run_bd I1 hfn fun D c e0 => ?_
  have hs := q D c
  have hl : us.length = ps.length := by rw [← r.length]; exact F.len _ _ _ _ hs
  have hb1 := b s1 us I1.kIn (by simpa using hl)
  rw [List.append_nil] at hb1
  exact F.run X.A X.stack s1 _ ⟨us, []⟩ us vs _ _ hr gd e0 hb1 r hs
end
end Sk
/-! The law's end where the law makes lambdas; defs called in an except suite. -/
namespace Sk
open PySem PySem.Spec PyProof.Rows L2 LamX NdefX
/-- only the script and the one table may be told -/
def OnlyT (P0 : Addr) (H : Hp) : Prop := H P0 = some (.tbl #[]) ∧ ∀ b, H b = none ∨ b = P0 ∨ ∃ o xs, H b = some (.frz o (.lst xs))
theorem law_callT {P : Program} {w : World} {K : PySem.W.Frag} {mg mb : Str → Option Value} {k : Nat} {fa a c P0 : Addr} {fd : FuncData} {x : Str} {sp : Sp} {s₁ : Shared} {vs : List Value} {ns : List Int}
    (KX : K.In s₁.heap) (hns : s₁.heap.Ns mainGlobals mg) (hb : s₁.heap.Ns builtinsNs mb) (hbb : ∀ x : Str, x ≠ "__name__" → mb x = bootBuiltins x) (hlim : s₁.heap.NoLimit) (hg : s₁.gens = #[])
    (hT : s₁.heap.get? P0 = some { cls := .none, data := .fields #[] }) (nT : K.lookup P0 = none) (C : PySem.W.CodeHd s₁.heap c P0)
    (hbm : ∃ (bm : Addr) (ob : Obj), mg "__builtins__" = some (.ref bm) ∧ bm ≠ builtinsNs ∧ s₁.heap.get? bm = some ob ∧ ob.cls = .type "module" ∧ ob.dict = some builtinsNs ∧ ob.data = .plain)
    (ha : s₁.heap.get? a = some { cls := .type "list", data := .seq vs.toArray }) (hi : IntsAre vs ns) (hl : ns.length ≤ sizeLine) (hr : Room k callerA)
    (F : ∀ base : Heap, K.In base → base.Ns mainGlobals mg → TabB base mg c P0 → FnG P w K mg base CX0 k fa fd [x] sp) (hbind : ∀ (s : Shared) (u : Value), BindsTo s fd ⟨[u], []⟩ [(x, u)])
    (hsp : ∀ H : Hp, H P0 = some (.tbl #[]) → SqL K H a (ns.map V.int) → sp [.ref a] H (fun v _ => v = .bl true) fun _ _ _ => False) :
    codeAny (model P w) callerA (.call (.ref fa) ⟨[.ref a], []⟩) (fun r s' => r = .ok (.ret (.bool true)) ∧ OldK s₁.heap s'.heap ∧ s'.os = s₁.os ∧ AllBare s'.gens) s₁ := by
  have rv := vals_ints hi
  have lenV := hi.length
  have aP : a ≠ P0 := by
    intro z
    rw [z, hT] at ha
    cases ha
  have core : ∀ H : Hp, OnlyT P0 H → SqL K H a (ns.map V.int) → HOk P w H s₁.heap → (∀ b, H b ≠ none → b = a ∨ b = P0) → (H a ≠ none → K.lookup a = none) →
      codeAny (model P w) callerA (.call (.ref fa) ⟨[.ref a], []⟩) (fun r s' => r = .ok (.ret (.bool true)) ∧ OldK s₁.heap s'.heap ∧ s'.os = s₁.os ∧ AllBare s'.gens) s₁ := by
    intro H ⟨hP, hO⟩ hS hok hA hK
    have isA : ∀ {b : Addr} {u : HO}, H b = some u → b = a ∨ b = P0 := fun {b u} q => hA b (by rw [q]; exact fun z => nomatch z)
    -- what is neither a list nor an empty record is not told
    have free : ∀ {b : Addr} {o : Obj}, s₁.heap.get? b = some o → (∀ vs n, o.data ≠ .seq vs n) → o.data ≠ .fields #[] → H b = none := by
      intro b o e h1 h2
      cases q : H b with
      | none => rfl
      | some u =>
        rcases isA q with z | z
        · rw [z, ha] at e; cases e; exact absurd rfl (h1 _ _)
        · rw [z, hT] at e; cases e; exact absurd rfl h2
    have nsK : ∀ {b : Addr} {m : Str → Option Value}, s₁.heap.Ns b m → (hidT s₁.heap H).Ns b m := by
      rintro b m ⟨o, es, ep, e, d, r⟩
      exact ⟨o, es, ep, hidT_get e (free e (fun _ _ z => by rw [d] at z; cases z) (fun z => by rw [d] at z; cases z)), d, r⟩
    have hKb : K.In (hidT s₁.heap H) := by
      intro b o e
      refine hidT_get (KX b o e) ?_
      cases q : H b with
      | none => rfl
      | some u =>
        rcases isA q with z | z
        · rw [z] at e q
          rw [hK (by rw [q]; exact fun z => nomatch z)] at e
          cases e
        · rw [z, nT] at e
          cases e
    have hM : Mod K mg (hidT s₁.heap H) := by
      obtain ⟨mc, h1, h2⟩ := hlim
      exact ⟨hKb, nsK hns, ⟨mb, nsK hb, hbb⟩, ⟨mc, nsK h1, h2⟩⟩
    have TB : TabB (hidT s₁.heap H) mg c P0 := by
      have nG : ∀ {b : Addr} {o : Obj}, s₁.heap.get? b = some o → (∀ es ep, o.data ≠ .dict es ep) → b ≠ mainGlobals := by
        intro b o e d z
        obtain ⟨o', es, ep, e', hd, _⟩ := hns
        rw [z, e'] at e
        cases e
        exact d _ _ hd
      refine ⟨?_, ?_, fun z => nG hT (fun _ _ z => nomatch z) z.symm⟩
      · obtain ⟨o, us, file, tf, flags, tg, inF, text, tt, e1, r1, r2, r3, r⟩ := C
        refine ⟨o, us, file, tf, flags, tg, inF, text, tt, hidT_get e1 (free e1 (fun _ _ z => by rw [r2] at z; cases z) fun z => ?_), r1, r2, r3, r⟩
        rw [r2] at z
        cases z
        simp at r3
      · obtain ⟨bm, ob, b1, b2, b3, b4, b5, b6⟩ := hbm
        refine ⟨bm, ob, b1, b2, nG b3 (fun _ _ z => by rw [b6] at z; cases z), fun z => ?_, hidT_get b3 (free b3 (fun _ _ z => by rw [b6] at z; cases z) (fun z => by rw [b6] at z; cases z)), b4, b5, b6⟩
        rw [z, hT] at b3
        cases b3
        cases b6
    have e0 : Env0 P w K mg (hidT s₁.heap H) callerA [] s₁ H :=
      ⟨rfl, hM, fun b o e => of_hidT e, Nat.le_of_eq (hidT_size _ _), trivial, fun b hb => (nomatch (show b ∈ ([] : List Addr) from hb)), hok, .of_eq hg⟩
    refine codeAny_mono ((F _ hKb (nsK hns) TB).run callerA [] s₁ H ⟨[.ref a], []⟩ [.ref a] [.ref a] _ _ hr rfl e0 (hbind s₁ (.ref a)) (.cons rfl .nil) (hsp H hP hS)) fun r s' h => ?_
    cases r with
    | error e => exact False.elim h
    | ok fl =>
      cases fl with
      | next => exact h.elim
      | brk => exact h.elim
      | cont => exact h.elim
      | ret u =>
        obtain ⟨v, H', os, bare, un, hok', r', q⟩ := h
        cases (show v = .bl true from q)
        cases (show u = Value.bool true from r')
        obtain ⟨more, hm⟩ := un.tbls P0 #[] hP
        have hm' : s'.heap.get? P0 = some { cls := .none, data := .fields (#[] ++ more) } := hok' P0 _ hm
        have key : ∀ b o, b ≠ P0 → s₁.heap.get? b = some o → s'.heap.get? b = some o := by
          intro b o nb e
          cases q : H b with
          | none => exact un.keep b o e q (fun z => (nomatch (show b ∈ ([] : List Addr) from z))) (fun z => (nomatch z))
          | some u =>
            rcases hO b with z | z | ⟨ob, xs, z⟩
            · rw [q] at z; cases z
            · exact absurd z nb
            · obtain ⟨e1, _⟩ := hok b _ z
              obtain ⟨e2, _⟩ := hok' b _ (un.frzs b ob _ z)
              rw [e] at e1
              cases e1
              exact e2
        refine ⟨rfl, ⟨fun b o e => ?_, fun b o e => ?_⟩, os, bare⟩
        · by_cases hb : b = P0
          · subst hb
            rw [hT] at e
            cases e
            exact .inr (.inl ⟨(C.tab hT).isCodeTable, rfl, #[], more, rfl, hm'⟩)
          · exact .inl (key b o hb e)
        · by_cases hb : b = P0
          · subst hb
            exact ⟨_, hm'⟩
          · exact ⟨o, key b o hb e⟩
  cases hk : K.lookup a with
  | some o =>
    have e := KX a o hk
    rw [ha] at e
    cases e
    refine core (fun b => if b = P0 then some (.tbl #[]) else none) ⟨if_pos rfl, fun b => ?_⟩ (.inr ⟨_, vs.toArray, _, hk, rfl, rfl, rfl, ?_, by simpa using rv⟩) (fun b u z => ?_) (fun b z => ?_) fun z => absurd (if_neg aP) z
    · by_cases hb : b = P0
      · exact .inr (.inl hb)
      · exact .inl (if_neg hb)
    · rw [List.size_toArray, lenV]
      exact hl
    · by_cases hb : b = P0
      · cases (if_pos hb).symm.trans z
        subst hb
        exact hT
      · cases (if_neg hb).symm.trans z
    · by_cases hb : b = P0
      · exact .inr hb
      · exact absurd (if_neg hb) z
  | none =>
    refine core (fun b => if b = a then some (.frz { cls := .type "list", data := .seq vs.toArray } (.lst (ns.map V.int))) else if b = P0 then some (.tbl #[]) else none) ⟨(if_neg fun z => aP z.symm).trans (if_pos rfl), fun b => ?_⟩ (.inl (.inr ⟨_, if_pos rfl⟩)) (fun b u z => ?_) (fun b z => ?_) fun _ => hk
    · by_cases hb : b = a
      · exact .inr (.inr ⟨_, _, if_pos hb⟩)
      · by_cases hb2 : b = P0
        · exact .inr (.inl hb2)
        · exact .inl ((if_neg hb).trans (if_neg hb2))
    · by_cases hb : b = a
      · cases (if_pos hb).symm.trans z
        subst hb
        exact ⟨ha, by rw [List.length_map]; exact hl, vs, _, rv, ha⟩
      · by_cases hb2 : b = P0
        · cases ((if_neg hb).trans (if_pos hb2)).symm.trans z
          subst hb2
          exact hT
        · cases ((if_neg hb).trans (if_neg hb2)).symm.trans z
    · by_cases hb : b = a
      · exact .inl hb
      · by_cases hb2 : b = P0
        · exact .inr hb2
        · exact absurd ((if_neg hb).trans (if_neg hb2)) z
/-- the code object of the def at f, its table -/
def OwnC (K : PySem.W.Frag) (f c P0 : Addr) : Prop := K.lookup P0 = none ∧ ∃ (o : Obj) (fd : FuncData) (e : Value) (dd : Option Addr) (us : Array Value) (sl : Array (Option Value)), K.lookup f = some o ∧ o.data = .func fd ∧ fd.code = .ref c ∧ K.lookup c = some ⟨e, dd, .fields us, sl⟩ ∧ us[11]? = some (.ref P0)
theorem walk_T {l : PySem.W.OpenLaw} {n k : Nat} {q : Program} {loose : List Str} {XP : (Str → Option Value) → Heap → Prop} {YP : World → Heap → Prop} {d : DefRec} {x : Str}
    (hn : l.most = some n) (hn2 : n ≤ sizeLine) (hdf : d.params.defaults = []) (hr : Room k callerA) (hrec : ((recsOf q).any fun e => e.name == d.name) = true)
    (F : ∀ (w : World) (mg : Str → Option Value) (fa : Addr) (h : Heap), YP w h → h.Ns mainGlobals mg → mg d.name = some (.ref fa) →
      ∃ (K : PySem.W.Frag) (fd : FuncData) (c P0 : Addr) (sp : Sp), K.In h ∧ OwnC K fa c P0 ∧ (∀ (s : Shared) (u : Value), BindsTo s fd ⟨[u], []⟩ [(x, u)]) ∧
        (∀ (H : Hp) (a : Addr) (ns : List Int), ns.length ≤ n → (∀ z ∈ ns, Builtin.Int.intBits z ≤ 1048576) → H P0 = some (.tbl #[]) → SqL K H a (ns.map V.int) → sp [.ref a] H (fun v _ => v = .bl true) fun _ _ _ => False) ∧
        ∀ base : Heap, K.In base → base.Ns mainGlobals mg → TabB base mg c P0 → FnG l.prog w K mg base CX0 k fa fd [x] sp) :
    PySem.W.WalkO q loose XP YP l.row.toRowW d [] (fun f vs => PySem.call f vs) := by
  refine Att.attach_callB hn hdf fun w s₀ s₁ mg mb fa o pm cd doc a vs ns G Y ho hd hcd hmg hobj hints hlen hbits hg => ?_
  obtain ⟨K, fd, c, P0, sp, KX, ⟨nP, o1, fd1, e, dd, us, sl, k1, k2, k3, k4, k5⟩, hb, hsp, hF⟩ := F w mg fa _ Y G.T.g hmg
  obtain ⟨dL, hm, hn1⟩ := List.any_eq_true.mp hrec
  obtain ⟨a', o', fd', c', P', h1, h2, h3, h4, h5, h6⟩ := G.T.tab dL hm
  rw [beq_iff_eq.mp hn1, hmg] at h1
  cases h1
  rw [KX _ _ k1] at h2
  cases h2
  rw [k2] at h3
  cases h3
  rw [k3] at h4
  cases h4
  have hT : s₁.heap.get? P0 = some { cls := .none, data := .fields #[] } ∧ P' = P0 := by
    obtain ⟨⟨oc, vc, e1, _, e3, e4⟩, hP⟩ := h6
    rw [KX _ _ k4] at e1
    cases e1
    cases e3
    rw [k5] at e4
    cases e4
    exact ⟨hP, rfl⟩
  obtain ⟨hT, rfl⟩ := hT
  exact law_callT KX G.T.g G.T.b G.T.builtins G.T.nolimit hg hT nP (PySem.W.CodeHd.of h5 h6) G.T.bmain hobj hints (Nat.le_trans hlen hn2) hr hF hb fun H hP hS => hsp H a ns hlen hbits hP hS
/-! ### the head without tables -/
def isTab : Option Obj → Bool
  | some ⟨.none, _, .fields _, _⟩ => true
  | _ => false
def frT (g : Addr → Option Obj) (n : Nat) : PySem.W.Frag := He.frG g ((He.asD g n).filter fun a => !isTab (g a))
def hookT (n : Nat) (fa : List He.Fa) (fn : List He.DefD) (ex : PySem.W.Frag → Bool) : PySem.W.Hook where
  α := Bool × He.AlD
  obs := fun s => (ex (frT s.heap.get? n), He.obsD fa fn (frT s.heap.get? n))
  val := fun _ => (true, He.valD fn)
  says := fun _ h => ∃ K : PySem.W.Frag, K.In h ∧ He.SaysD fa fn K ∧ ex K = true
  of := fun _ _ e => ⟨_, He.frG_in, congrArg (fun z : Bool × He.AlD => z.2) e, congrArg (fun z : Bool × He.AlD => z.1) e⟩
  keeps := fun _ _ _ ⟨K, hK, c⟩ k => ⟨K, PySem.W.Frag.In.keeps hK k, c⟩
def obT (n : Nat) (fa : List He.Fa) (fn : List He.DefD) (ex : PySem.W.Frag → Bool) (g : Addr → Option Obj) : Bool × He.AlD := (ex (frT g n), He.obsD fa fn (frT g n))
theorem obT_eq {n : Nat} {fa : List He.Fa} {fn : List He.DefD} {ex : PySem.W.Frag → Bool} {g : Addr → Option Obj} {s : Shared} (h : ∀ a, g a = s.heap.get? a) : obT n fa fn ex g = (hookT n fa fn ex).obs s := by
  have e : g = s.heap.get? := funext h
  rw [e] <;> rfl
/-- the def at f: its code object and its table -/
def ownA (K : PySem.W.Frag) (f : Addr) : Option (Addr × Addr) := match K.lookup f with
  | some o => match o.data with
    | .func fd => match fd.code with
      | .ref c => match K.lookup c with
        | some ⟨_, _, .fields us, _⟩ => match (us[11]? : Option Value) with
          | some (.ref P0) => if (K.lookup P0).isNone then some (c, P0) else none
          | _ => none
        | _ => none
      | _ => none
    | _ => none
  | none => none
theorem ownA_ok {K : PySem.W.Frag} {f : Addr} {p : Addr × Addr} (h : ownA K f = some p) : OwnC K f p.1 p.2 := by
  unfold ownA at h
  split at h
  · rename_i o ho
    split at h
    · rename_i fd hd
      split at h
      · rename_i c hc
        split at h
        · rename_i e dd us sl hk
          split at h
          · rename_i P0 hP
            split at h
            · rename_i hn
              cases h
              exact ⟨Option.isNone_iff_eq_none.mp hn, o, fd, _, _, us, _, ho, hd, hc, hk, hP⟩
            · cases h
          · cases h
        · cases h
      · cases h
    · cases h
  · cases h
def ownB (K : PySem.W.Frag) (x : Str) : Bool := (ownA K (He.ga K x)).isSome
theorem ownB_ok {K : PySem.W.Frag} {x : Str} (h : ownB K x = true) : ∃ c P0, OwnC K (He.ga K x) c P0 := by
  obtain ⟨p, e⟩ := Option.isSome_iff_exists.mp h
  exact ⟨p.1, p.2, ownA_ok e⟩
end Sk
/-! The law's own def, its code object known; defs called in an except suite. -/
namespace Sk
open PySem PySem.Spec PyProof.Rows L2 LamX NdefX
section
variable {P : Program} {w : World} {K : PySem.W.Frag} {mg : Str → Option Value} {base : Heap} {k : Nat} {f c P0 : Addr} {fd : FuncData} {x : Str} {ps N : List Str} {sp : Sp} {st : Stmt} {CX : CXT}
theorem fnG_ofC {qual : Str} {params : Arguments} {body : List Stmt} {scope : Scope} {dvs : List V} {kws : List (Str × V)} (O : OwnC K f c P0)
    (F : FunD K x qual params body scope dvs kws f fd) (S : FnScope N ps scope) (len : ∀ vs H Q E, sp vs H Q E → vs.length = ps.length)
    (hbody : ∀ (A : Around) (outer : List Env) (s : Shared) (H : Hp) (vs : List V) (Q : VK) (E : XK), Room k (A.deeper (envOfC qual scope s.heap.objs.size f (.ref c))) → A.guards = some [] → sp vs H Q E →
      ∃ t, PSs (cxOf CX P w K mg base N qual scope f (.ref c) A outer s H E) body t ∧ t { nx := fun _ H' => Q .non H', rt := Q } (start N vs) H) : FnG P w K mg base CX (k + 1) f fd ps sp := by
  obtain ⟨oc, od, dV, kV, doc, pm, an, cdv, ct, osl, rfl, lk, hcd, _, _⟩ := F.ex
  obtain ⟨_, o1, fd1, _, _, _, _, k1, k2, k3, _⟩ := O
  have ec : cdv = .ref c := by
    rw [lk] at k1
    cases k1
    cases k2
    exact k3
  subst ec
  refine ⟨len, fun A outer s H args us vs Q E hr hgd e0 hb r hsp => ?_⟩
  have hl := len _ _ _ _ hsp
  have stays : ∀ b o, base.get? b = some o → s.heap.get? b = some o := fun b o e => (e0.bs b o e).1
  have KX := e0.mod.kin.keeps stays
  have lim := e0.mod.nolimit.keeps stays
  have hkind : ∀ y ∈ ps.zip us, scope.names.lookup y.1 = some .local ∨ (scope.names.lookup y.1 = some .cell ∧ ((cellsFrom (s.heap.objs.size + 1) scope.names []).lookup y.1).isSome = true) := by
    rintro ⟨n, v⟩ hy
    cases S.par n (List.of_mem_zip hy).1 with
    | inl q => exact Or.inl q
    | inr q => exact Or.inr ⟨q, PySem.W.cellsFrom_some _ _ _ (Or.inl q)⟩
  refine codeAny_call_function hr.depth (KX _ _ lk) rfl S.co S.gen rfl (PySem.W.codeRec_of KX hcd) (hb _ _ _ _ ?_)
  refine wpAny_newFunctionEnv_cells S.kind hkind fun env he s1 x => ?_
  subst he
  refine ⟨lim.keeps x.toInCall.keep, codeAny_func ?_⟩
  obtain ⟨t, ht, hq⟩ := hbody A outer s H vs Q E (hr.deeper _) hgd hsp
  have I := inv_start (CX := CX) (qual := qual) (f := f) (cd := .ref c) (E := E) S hr.hd e0 hl r x
  refine wpAny_mono (ht.run [] s1 (start N vs) H _ I hq) (fun fl s' hs => ?_) fun e s' hs => hs
  cases fl with
  | ret u =>
    obtain ⟨v, σ', H', J, rv, q⟩ := hs
    exact ⟨v, H', J.os, J.bare, J.base, J.hok, rv, q⟩
  | next =>
    obtain ⟨σ', H', J, q⟩ := hs
    exact ⟨V.non, H', J.os, J.bare, J.base, J.hok, rfl, q⟩
  | brk => obtain ⟨_, _, _, q⟩ := hs; exact q.elim
  | cont => obtain ⟨_, _, _, q⟩ := hs; exact q.elim
theorem Dfn.calT (D : Dfn K mg x st) (O : ∀ f, mg x = some (.ref f) → OwnC K f c P0) (S : FnScope N ps (defScope st)) (hb : Bnd st x ps) (len : ∀ vs H Q E, sp vs H Q E → vs.length = ps.length)
    (hbody : ∀ (f : Addr) (A : Around) (outer : List Env) (s : Shared) (H : Hp) (vs : List V) (Q : VK) (E : XK), Room k (A.deeper (envOfC x (defScope st) s.heap.objs.size f (.ref c))) → (A.deeper (envOfC x (defScope st) s.heap.objs.size f (.ref c))).guards = some [] → sp vs H Q E →
      ∃ t, PSs (cxOf CX0 P w K mg base N x (defScope st) f (.ref c) A outer s H E).nox (defBody st) t ∧ t { nx := fun _ H' => Q .non H', rt := Q } (start N vs) H) : CalG P w K mg base CX0 (k + 1) x ps sp := by
  obtain ⟨f, fd, F, g⟩ := D
  refine ⟨f, fd, fnG_ofC (O f g) F S len fun A outer s H vs Q E hr hg h => ?_, g, F.kp, F.bindsN hb, F.look⟩
  obtain ⟨t, ht, q⟩ := hbody f A outer s H vs Q E hr hg h
  exact ⟨t, ht.nox, q⟩
theorem law_endT {x' : Str} (D : Dfn K mg x st) (hb : Bnd st x [x']) (h : ∀ base : Heap, TabB base mg c P0 → CalG P w K mg base CX0 k x [x'] sp) :
    ∃ fa fd, mg x = some (.ref fa) ∧ (∀ (s : Shared) (u : Value), BindsTo s fd ⟨[u], []⟩ [(x', u)]) ∧ ∀ base : Heap, K.In base → base.Ns mainGlobals mg → TabB base mg c P0 → FnG P w K mg base CX0 k fa fd [x'] sp := by
  obtain ⟨f, fd, F, g⟩ := D
  have b := FunD.bindsA (ps := [x']) F hb
  refine ⟨f, fd, g, fun s u => b s [u] rfl, fun base h1 h2 h3 => ?_⟩
  obtain ⟨f2, fd2, G, g2, _, _, oc, od, osl, l2⟩ := h base h3
  obtain ⟨oc1, od1, osl1, l1⟩ := F.look
  have e : f2 = f := by
    have z := g2.symm.trans g
    cases z
    rfl
  subst e
  rw [l1] at l2
  cases l2
  exact G
end
/-! ### defs called in an except suite, the exception handed in -/
abbrev SpH := Addr → Value → Option Addr → Sp
structure FnHp (P : Program) (w : World) (K : PySem.W.Frag) (mg : Str → Option Value) (base : Heap) (k : Nat) (f : Addr) (fd : FuncData) (ps : List Str) (sp : SpH) : Prop where
  len : ∀ a c d vs H Q E, sp a c d vs H Q E → vs.length = ps.length
  run : ∀ (A : Around) (outer : List Env) (s : Shared) (H : Hp) (args : Args) (us : List Value) (vs : List V) (Q : VK) (E : XK) (p : Addr × Obj), L2H.RoomH k A → L2H.Hot1 A p → L2H.PinOk outer H s p → Env0 P w K mg base A outer s H → BindsTo s fd args (ps.zip us) → Vals vs us → sp p.1 p.2.cls p.2.dict vs H Q E →
    codeAny (model P w) A (.call (.ref f) args) (CR CX0 outer P w H s Q E) s
def CalH (P : Program) (w : World) (K : PySem.W.Frag) (mg : Str → Option Value) (base : Heap) (k : Nat) (x : Str) (ps : List Str) (sp : SpH) : Prop :=
  ∃ f fd, FnHp P w K mg base k f fd ps sp ∧ mg x = some (.ref f) ∧ PySem.W.keepIn K (.ref f) = true ∧ Binds K fd ps []
section
variable {P : Program} {w : World} {K : PySem.W.Frag} {mg : Str → Option Value} {base : Heap} {k : Nat} {x : Str} {ps N : List Str} {sp : SpH} {st : Stmt}
theorem Dfn.calH (D : Dfn K mg x st) (S : FnScope N ps (defScope st)) (hb : Bnd st x ps) (len : ∀ a c d vs H Q E, sp a c d vs H Q E → vs.length = ps.length)
    (hbody : ∀ (f : Addr) (cdv : Value) (A : Around) (outer : List Env) (s : Shared) (H : Hp) (vs : List V) (Q : VK) (E : XK) (p : Addr × Obj), L2H.Hot1 A p → L2H.RoomH k (A.deeper (envOfC x (defScope st) s.heap.objs.size f cdv)) → sp p.1 p.2.cls p.2.dict vs H Q E →
      ∃ t, PSs (L2H.cxH CX0 P w K mg base N x (defScope st) f cdv A outer s H E p).nox (defBody st) t ∧ t { nx := fun _ H' => Q .non H', rt := Q } (start N vs) H) : CalH P w K mg base (k + 1) x ps sp := by
  obtain ⟨f, fd, F, g⟩ := D
  have hbn : Binds K fd ps [] := F.bindsN hb
  have kp := F.kp
  obtain ⟨oc, od, dV, kV, doc, pm, an, cdv, ct, osl, rfl, lk, hcd, _, _⟩ := F.ex
  refine ⟨f, _, ⟨len, fun A outer s H args us vs Q E p hr hot hpin e0 hb r hsp => ?_⟩, g, kp, hbn⟩
  have hl := len _ _ _ _ _ _ _ hsp
  have stays : ∀ b o, base.get? b = some o → s.heap.get? b = some o := fun b o e => (e0.bs b o e).1
  have KX := e0.mod.kin.keeps stays
  have lim := e0.mod.nolimit.keeps stays
  have hkind : ∀ y ∈ ps.zip us, (defScope st).names.lookup y.1 = some .local ∨ ((defScope st).names.lookup y.1 = some .cell ∧ ((cellsFrom (s.heap.objs.size + 1) (defScope st).names []).lookup y.1).isSome = true) := by
    rintro ⟨n, v⟩ hy
    cases S.par n (List.of_mem_zip hy).1 with
    | inl q => exact Or.inl q
    | inr q => exact Or.inr ⟨q, PySem.W.cellsFrom_some _ _ _ (Or.inl q)⟩
  refine codeAny_call_function hr.depth (KX _ _ lk) rfl S.co S.gen rfl (PySem.W.codeRec_of KX hcd) (hb _ _ _ _ ?_)
  refine wpAny_newFunctionEnv_cells S.kind hkind fun env he s1 x => ?_
  subst he
  refine ⟨lim.keeps x.toInCall.keep, codeAny_func ?_⟩
  obtain ⟨t, ht, hq⟩ := hbody f cdv A outer s H vs Q E p hot (hr.deeper _) hsp
  have I := L2H.inv_startH (CX := CX0) (P := P) (w := w) (f := f) (cd := cdv) (E := E) S hpin e0 hl r x
  refine wpAny_mono (ht.nox.run [] s1 (start N vs) H _ I hq) (fun fl s' hs => ?_) fun e s' hs => hs
  cases fl with
  | ret u =>
    obtain ⟨v, σ', H', J, rv, q⟩ := hs
    exact ⟨v, H', J.os, J.bare, J.base, J.hok, rv, q⟩
  | next =>
    obtain ⟨σ', H', J, q⟩ := hs
    exact ⟨V.non, H', J.os, J.bare, J.base, J.hok, rfl, q⟩
  | brk => obtain ⟨_, _, _, q⟩ := hs; exact q.elim
  | cont => obtain ⟨_, _, _, q⟩ := hs; exact q.elim
end
section
variable {X : Cx} {k : Nat} {x : Str} {ps : List Str} {sp : SpH} {p pos : Pos} {e : Expr} {es : List Expr} {t : TA} {a : Addr} {oe : Obj} {cls : Value} {d : Option Addr} {pn : List (Addr × Obj)}
/-- the call in the suite -/
def tCalH (sp : SpH) (a : Addr) (cls : Value) (d : Option Addr) (t : TA) : TE := fun σ H Q => t σ H fun vs H1 => sp a cls d vs H1 Q fun _ _ _ => False
theorem pcallH (C : CalH X.prog X.w X.K X.mg X.base k x ps sp) (hr : Room k X.A) (hg : Gl (X.suite a ((a, oe) :: pn)) x) (hz : L2N.Zn cls d oe) (hf : ∃ vs, oe.data = .fields vs) (ha : PA (X.suite a ((a, oe) :: pn)) (e :: es) t)
    (hdb : (x == ("__debug__" : Str)) = false := by decide) (he : starEach (e :: es) X.env = (false, eval e X.env) :: starEach es X.env := by rfl) (hpl : (backTo pos (starEach es X.env)).any (·.1) = false := by rfl) :
    PE (X.suite a ((a, oe) :: pn)) (.Call (.Name x p) (e :: es) [] pos) (tCalH sp a cls d t) := by
  obtain ⟨f, fd, F, g, kp, b⟩ := C
  refine ⟨fun pins s σ H Q I h => ?_⟩
  refine wpAny_Call_Name_kw (ld_glob I hg g ?_ hdb)
  refine PySem.W.callWith_K (h₀ := X.base) I.ok.mod.kin kp (thn (ha.run pos pins s σ H _ I h) fun us s1 ⟨vs, H1, I1, r, q⟩ => ⟨I1.kIn, ?_⟩) he hpl
  show wpAny _ _ (call (.ref f) us) _ _ _
  obtain ⟨rfl, rfl, hc⟩ := hz
  obtain ⟨fs, hfs⟩ := hf
  have hl : us.length = ps.length := by rw [← r.length]; exact F.len _ _ _ _ _ _ _ q
  have hb1 := b s1 us I1.kIn (by simpa using hl)
  rw [List.append_nil] at hb1
  have P1 := I1.pin (a, oe) (List.mem_append_left _ List.mem_cons_self)
  have hpin : L2H.PinOk X.stack H1 s1 (a, oe) := ⟨P1.1, P1.2.1, fun hm => (List.mem_cons.mp (I1.stkSub a hm)).elim P1.2.2.1 P1.2.2.2.1, P1.2.2.2.2⟩
  have hrh : L2H.RoomH k (X.suite a ((a, oe) :: pn)).A := ⟨hr.dp, hr.un⟩
  refine wpAny_call (codeAny_mono (F.run (X.suite a ((a, oe) :: pn)).A X.stack s1 H1 ⟨us, []⟩ us vs Q _ (a, oe) hrh ⟨rfl, fs, hfs, hc fs hfs⟩ hpin I1.env0 hb1 r q) fun res s' hq => ?_)
  cases res with
  | error e => exact False.elim hq
  | ok fl =>
    cases fl with
    | ret u => exact I1.after hq
    | next => exact hq.elim
    | brk => exact hq.elim
    | cont => exact hq.elim
/-- isinstance(e, c), e the exception that is pinned -/
theorem isH {X : Cx} {p : Addr × Obj} {D : Addr} (K : PySem.W.Frag) (hp : p ∈ X.pn) (C : ExcC K D) (hc : p.2.cls = .ref D) (hd : p.2.dict = none) (hf : ∃ vs, p.2.data = .fields vs) (hK : X.K = K := by rfl) : CallR X (.builtin "isinstance") (rIsE K D p.1) := by
  subst hK
  intro pins s σ H xs us Q I r h
  obtain ⟨c, cv, b, rfl, hcv, e, q⟩ := h
  cases r with
  | cons rx rr =>
    cases rr with
    | cons rt rr =>
      cases rr
      cases rx
      have ec := hcv _ rt
      subst ec
      obtain ⟨hget, _⟩ := I.pin p (List.mem_append.mpr (.inl hp))
      obtain ⟨vs, hv⟩ := hf
      have J : PySem.W.InstAt s.heap p.1 p.2 D none := by
        obtain ⟨pa, oc, od, oda, osl⟩ := p
        dsimp only at hc hd hv
        subst hc hd hv
        exact ⟨hget, rfl, rfl, trivial⟩
      exact PySem.W.kia_one (PySem.W.handS_kitx_exc C.hg C.hk C.hs C.hd C.ha C.hn C.ht C.hm) I.kIn J e (fun z => nomatch z) fun tk => ⟨.bl b, H, I.kept (t' := tk) fun _ _ z => z, rfl, q⟩
end
theorem takes0N {X : Cx} : L2N.Takes X (fun _ _ _ _ => False) := fun _ _ x => by
  obtain ⟨_, _, _, _, _, _, _, _, _, _, _, _, _, _, _, _, z⟩ := x
  exact z.elim
theorem pe_askK {X : Cx} {k i : Nat} {x : Str} {p pos : Pos} {e : Expr} {es : List Expr} {t : TA} {W : WX} (P : Program) (w : World) (K : PySem.W.Frag) (mg : Str → Option Value) (base : Heap) (hr : Room k X.A) (tk : L2N.Takes X W) (hN : X.N[i]? = some x) (hv : Vis X.env.scope x) (ha : PA X (e :: es) t)
    (h1 : X.prog = P := by rfl) (h2 : X.w = w := by rfl) (h3 : X.K = K := by rfl) (h4 : X.mg = mg := by rfl) (h5 : X.base = base := by rfl)
    (hd : (x == ("__debug__" : Str)) = false := by decide) (hcd : (x == ("__classdict__" : Str)) = false := by decide)
    (he : starEach (e :: es) X.env = (false, eval e X.env) :: starEach es X.env := by rfl) (hpl : (backTo pos (starEach es X.env)).any (·.1) = false := by rfl) :
    PE X (.Call (.Name x p) (e :: es) [] pos) (tAsk P w K mg base k i W t) := by
  subst h1 h2 h3 h4 h5
  exact pe_ask hr tk hN hv ha hd hcd he hpl
end Sk
/-! Lambdas by what they promise. -/
namespace Sk
open PySem PySem.Spec PyProof.Rows L2 LamX NdefX
/-- f is a lambda that X's def made -/
def LamIs (X : Cx) (f : Addr) (H : Hp) (k : Nat) (ps fr : List Str) (js : List Nat) (sp : List (Option V) → Sp) : Prop :=
  ∃ F : LF, H f = some (LamO f F) ∧ H F.c = some (CodeO F.c F.qual) ∧ LOk X.prog X.w X.K X.mg X.base k f F ps fr sp ∧ Caps X F.cl fr js
section
variable {X : Cx} {f : Addr} {H H' : Hp} {k : Nat} {ps fr : List Str} {js : List Nat} {sp : List (Option V) → Sp}
theorem LamIs.ext (l : LamIs X f H k ps fr js sp) (e : ExtN H H') : LamIs X f H' k ps fr js sp := by
  obtain ⟨F, h1, h2, h3⟩ := l
  exact ⟨F, e _ _ h1 lamO_ne, e _ _ h2 codeO_ne, h3⟩
theorem LamIs.same (l : LamIs X f H k ps fr js sp) (e : Same H H') : LamIs X f H' k ps fr js sp := l.ext (ExtN.of e)
theorem LamIs.fn {D : Addr → Option Obj} (l : LamIs X f H k ps fr js sp) (no : ∀ b ob, D b = some ob → H b = none) : FnTy X.K (pl D H) f := by
  obtain ⟨F, h1, _⟩ := l
  exact .inl ⟨F, same_pl no _ _ h1⟩
/-- it is called at H1, further on -/
theorem LamIs.ask {D : Addr → Option Obj} {σ : L2.St} {H1 : Hp} {vs : List V} {Q : VK} {Q1 : Hp → VK} {E : XK} {E1 : Hp → XK} (l : LamIs X f H k ps fr js sp) (c : CapD X σ H D) (s1 : Same (pl D H) H1)
    (q : ∀ H2 : Hp, Same H H2 → (∀ b o, (∀ ob, o ≠ FzO b ob) → H1 b = some o → H2 b = some o) → (∀ b o, H2 b = some o → H1 b = some o) → sp (js.map (slotAt σ)) vs H2 (Q1 H2) (E1 H2))
    (hq : ∀ (D' : Addr → Option Obj), (∀ b ob, D' b = some ob → H1 b = some (FzO b ob)) → ∀ v H', (∀ b ob, D' b = some ob → H' b = none) → Q1 (mi D' H1) v H' → Q v (pl D' H'))
    (he : ∀ (D' : Addr → Option Obj), (∀ b ob, D' b = some ob → H1 b = some (FzO b ob)) → ∀ cls d H', (∀ b ob, D' b = some ob → H' b = none) → E1 (mi D' H1) cls d H' → E cls d (pl D' H')) : AskAt X.prog X.w X.K X.mg X.base k f vs H1 Q E := by
  obtain ⟨F, h1, h2, L, C⟩ := l
  have up := (same_pl c.no).trans s1
  have hD : ∀ b ob, cellsIn H1 F.cl b = some ob → H1 b = some (FzO b ob) := fun b ob e => (cellsIn_some e).2
  refine L.ask2 (up _ _ h1) (up _ _ h2) ((c.val _ _ _ C).same s1) (q _ (same_cells c.no (fun y a e => c.cov y a (C.sub y a e)) s1) (fun b o n e => ?_) fun b o e => (mi_some e).2) (hq _ hD) (he _ hD)
  cases z : cellsIn H1 F.cl b with
  | some ob => rw [(cellsIn_some z).2] at e; exact absurd (Option.some.inj e).symm (n ob)
  | none => rw [mi_of z]; exact e
end
def tFn (X : Cx) (T : List (Addr × Str)) (k : Nat) (ps fr : List Str) (js : List Nat) (sp : List (Option V) → Sp) : TE := fun σ H Q => Tabs T H ∧ ∀ (f : Addr) (H1 : Hp), ExtN H H1 → Tabs T H1 → LamIs X f H1 k ps fr js sp → Q (.ref f) H1
theorem pe_lamS {X : Cx} {c P0 : Addr} {q : Str} {params : Arguments} {body : Expr} {scope : Scope} {pos : Pos} {k : Nat} {ps fr : List Str} {js : List Nat} {sp : List (Option V) → Sp} (TB : TabB X.base X.mg c P0) (hcode : X.env.code = .ref c) (hq : q = X.env.qual ++ "<lambda>")
    (hdef : defaultsOf params X.env = ([], [])) (hfree : ∀ y ∈ scope.names, y.2 = .free → X.env.scope.names.lookup y.1 = some .cell ∨ X.env.scope.names.lookup y.1 = some .free) (hfr : ∀ y ∈ fr, (y, NameKind.free) ∈ scope.names) (hjs : js.map (fun j => X.N[j]?) = fr.map some)
    (L : ∀ f c' : Addr, LOk X.prog X.w X.K X.mg X.base k f ⟨X.env.qual ++ "<lambda>", params, body, scope, cloFrom X.env.cells scope.names [], c'⟩ ps fr sp) :
    PE X (.Lambda params body scope pos) (tFn X [(P0, q)] k ps fr js sp) := by
  subst hq
  refine ⟨fun pins s σ H Q I h => ?_⟩
  have hfr2 : ∀ y ∈ scope.names, y.2 = .free → ∃ c, X.env.cells.lookup y.1 = some c := fun y hy e => (hfree y hy e).elim (fun z => I.ok.has _ (.inl z)) fun z => I.ok.has _ (.inr z)
  refine lam_make I TB hcode (List.mem_singleton.mpr rfl) (fun p hp _ => by rw [List.mem_singleton.mp hp]) h.1 hdef hfr2 fun f c' H1 s' I1 a1 a2 a3 a4 a5 a6 => ⟨.ref f, H1, I1, rfl, h.2 f H1 a1 a3 ⟨_, a5, a6, L f c', Caps.made I.ok hfree hfr hjs⟩⟩
def lamB (sc : Scope) (N ps fr : List Str) (scope : Scope) : Bool := nscB N ps fr scope && (scope.names.all (fun y => !decide (y.2 = .free) || (decide (sc.names.lookup y.1 = some .cell) || decide (sc.names.lookup y.1 = some .free))) && fr.all fun y => decide ((y, NameKind.free) ∈ scope.names))
/-- a lambda by its body -/
theorem pe_lamB {X : Cx} {c P0 : Addr} {q : Str} {params : Arguments} {body : Expr} {scope : Scope} {pos : Pos} {k : Nat} {N ps fr : List Str} {js : List Nat} {sp : List (Option V) → Sp} (sc : Scope) (TB : TabB X.base X.mg c P0) (hcode : X.env.code = .ref c) (hq : q = X.env.qual ++ "<lambda>")
    (hdef : defaultsOf params X.env = ([], [])) (hsc : X.env.scope = sc) (hB : lamB sc N ps fr scope = true) (hjs : js.map (fun j => X.N[j]?) = fr.map some)
    (hb : ∀ (q : Str) (cl : List (Str × Addr)) (c' : Addr) (pm ctv : Value) (us : List Value), us.length = ps.length → bindArgs (PySem.W.kla_fn "<lambda>" q params body scope cl pm (.ref c') ctv) ⟨us, []⟩ = pure (ps.zip us)) (len : ∀ ws vs H Q E, sp ws vs H Q E → vs.length = ps.length)
    (hbody : ∀ (f c' : Addr) (A : Around) (outer : List Env) (s : Shared) (H : Hp) (vs : List V) (ws : List (Option V)) (Q : VK) (E : XK), Room k (A.deeper (envF (LF.nf ⟨X.env.qual ++ "<lambda>", params, body, scope, cloFrom X.env.cells scope.names [], c'⟩) f s.heap.objs.size)) → ws.length = fr.length → sp ws vs H Q E →
      ∃ t, PE (ncx (L2N.CX X.prog X.w) X.prog X.w X.K X.mg X.base N (LF.nf ⟨X.env.qual ++ "<lambda>", params, body, scope, cloFrom X.env.cells scope.names [], c'⟩) f A outer s H E) body t ∧ t (startF N vs ws) H Q) :
    PE X (.Lambda params body scope pos) (tFn X [(P0, q)] (k + 1) ps fr js sp) := by
  subst hsc
  unfold lamB at hB
  simp only [Bool.and_eq_true, List.all_eq_true, Bool.or_eq_true, Bool.not_eq_true', decide_eq_true_eq, decide_eq_false_iff_not] at hB
  obtain ⟨h1, h2, h3⟩ := hB
  exact pe_lamS TB hcode hq hdef (fun y hy e => (h2 y hy).elim (fun z => absurd e z) id) h3 hjs fun f c' => lok_of (F := ⟨X.env.qual ++ "<lambda>", params, body, scope, cloFrom X.env.cells scope.names [], c'⟩) (nscope_by h1) (fun pm ctv us hl => hb _ _ _ pm ctv us hl) len fun A outer s H vs ws Q E hr hw h => hbody f c' A outer s H vs ws Q E hr hw h
theorem tabs_one {P0 : Addr} {q : Str} {H : Hp} (h : H P0 = some (.tbl #[])) : Tabs [(P0, q)] H := fun p hp => by
  rw [List.mem_singleton.mp hp]
  exact TabS.nil h
end Sk
/-! Things of any kind: how they stand, which are no fields, cells, words, snakes, numbers. -/
namespace Sk
open PySem PySem.Spec PyProof.Rows L2 Sn
mutual
inductive Jp (K : PySem.W.Frag) (H : Hp) : V → PyData → Prop
  | non : Jp K H .non .none
  | bl (b : Bool) : Jp K H (.bl b) (.bool b)
  | int (i : Int) : Jp K H (.int i) (.int i)
  | str (r : List Nat) (h : r.length ≤ 1000) : Jp K H (tv r) (.str (tx r))
  | lst {a : Addr} {xs : List V} {ds : List PyData} (h : SqL K H a xs) (l : ds.length ≤ 1000) (r : JpAll K H xs ds) : Jp K H (.ref a) (.list ds)
  | tup {a : Addr} {xs : List V} {ds : List PyData} (h : SqT K H a xs) (l : ds.length ≤ 1000) (r : JpAll K H xs ds) : Jp K H (.ref a) (.tuple ds)
  | dic {a : Addr} (h : H a = some (.dK [])) : Jp K H (.ref a) (.dict [])
inductive JpAll (K : PySem.W.Frag) (H : Hp) : List V → List PyData → Prop
  | nil : JpAll K H [] []
  | cons {v : V} {vs : List V} {d : PyData} {ds : List PyData} (h : Jp K H v d) (t : JpAll K H vs ds) : JpAll K H (v :: vs) (d :: ds)
end
section
variable {K : PySem.W.Frag} {H H' : Hp}
theorem JpAll.paired : ∀ {vs : List V} {ds : List PyData}, JpAll K H vs ds → Paired (Jp K H) vs ds
  | _, _, .nil => .nil
  | _, _, .cons h t => .cons h t.paired
theorem JpAll.of : ∀ {vs : List V} {ds : List PyData}, Paired (Jp K H) vs ds → JpAll K H vs ds
  | _, _, .nil => .nil
  | _, _, .cons h t => .cons h (JpAll.of t)
theorem JpAll.len {vs : List V} {ds : List PyData} (h : JpAll K H vs ds) : vs.length = ds.length := h.paired.length
mutual
theorem Jp.same (s : Same H H') : ∀ {v : V} {d : PyData}, Jp K H v d → Jp K H' v d
  | _, _, .non => .non
  | _, _, .bl b => .bl b
  | _, _, .int i => .int i
  | _, _, .str r h => .str r h
  | _, _, .lst h l r => .lst (s.seq h) l (JpAll.same s r)
  | _, _, .tup h l r => .tup (Same.sqt s h) l (JpAll.same s r)
  | _, _, .dic h => .dic (s _ _ h)
theorem JpAll.same (s : Same H H') : ∀ {vs : List V} {ds : List PyData}, JpAll K H vs ds → JpAll K H' vs ds
  | _, _, .nil => .nil
  | _, _, .cons h t => .cons (Jp.same s h) (JpAll.same s t)
end
def jty : PyData → String
  | .none => "NoneType"
  | .bool _ => "bool"
  | .int _ => "int"
  | .str _ => "str"
  | .list _ => "list"
  | .tuple _ => "tuple"
  | .dict _ => "dict"
theorem Jp.ty {v : V} {d : PyData} (h : Jp K H v d) : TyX K H v (.type (jty d)) := by
  cases h with
  | non => exact .base .non
  | bl b => exact .base (.bl b)
  | int i => exact .base (.int i)
  | str r h => exact .base (.str _)
  | lst h l r => exact tyx_list h
  | tup h l r => exact tyx_tup h
  | dic h => exact .base (.dK h)
end
/-! ### what they are -/
def jWhole : PyData → Bool
  | .int _ => true
  | _ => false
def jText (n : Int) : PyData → Bool
  | .str x => isTextB x.cps.toList n
  | _ => false
def jLen : PyData → Nat
  | .str x => x.length
  | _ => 0
def jField : PyData → Bool
  | .list ds => decide (1 ≤ ds.length) && (decide (ds.length ≤ 5) && (ds.all (jText 5) && ds.all fun d => decide (jLen d = jLen (ds.getD 0 .none))))
  | _ => false
def jCel : PyData → Option Cel
  | .tuple [.int a, .int b] => some (a, b)
  | _ => none
def jCell (h w : Nat) (d : PyData) : Bool := match jCel d with
  | some c => inB h w c
  | none => false
def jSnake (h w : Nat) : PyData → Bool
  | .list ds => decide (ds.length ≤ 6) && (ds.all (jCell h w) && snakeB h w (ds.filterMap jCel))
  | _ => false
def jNum (n : Nat) : PyData → Bool
  | .int i => decide (0 ≤ i) && decide (i < (n : Int))
  | _ => false
def jCount : PyData → Bool
  | .int i => decide (1 ≤ i) && decide (i ≤ 4)
  | _ => false
section
variable {K : PySem.W.Frag} {H : Hp} {Q : VK} {E : XK}
def jtys : List String := ["NoneType", "bool", "int", "str", "list", "tuple", "dict"]
theorem jty_mem (d : PyData) : jty d ∈ jtys := by cases d <;> exact List.elem_iff.mp rfl
theorem kit_int : ∀ n ∈ jtys, kitB n "int" = some (decide (n = "int" ∨ n = "bool")) := by decide +kernel
theorem kit_bool : ∀ n ∈ jtys, kitB n "bool" = some (decide (n = "bool")) := by decide +kernel
theorem kit_str : ∀ n ∈ jtys, kitB n "str" = some (decide (n = "str")) := by decide +kernel
theorem kit_list : ∀ n ∈ jtys, kitB n "list" = some (decide (n = "list")) := by decide +kernel
theorem kit_tuple : ∀ n ∈ jtys, kitB n "tuple" = some (decide (n = "tuple")) := by decide +kernel
theorem isWholeJ {v : V} {d : PyData} (h : Jp K H v d) (q : Q (.bl (jWhole d)) H) : spIsWhole K [v] H Q E := by
  refine ⟨v, _, decide (jty d = "int" ∨ jty d = "bool"), decide (jty d = "bool"), rfl, h.ty, ?_, ?_, ?_⟩
  · exact kit_ty (kit_int _ (jty_mem d))
  · exact kit_ty (kit_bool _ (jty_mem d))
  · cases h <;> exact q
theorem isTextJ {v : V} {d : PyData} {n : Int} (h : Jp K H v d) (q : ∀ H', Same H H' → Q (.bl (jText n d)) H') : spIsText K [v, .int n] H Q E := by
  cases h with
  | str r hl => exact .inl ⟨r, n, rfl, small_line (by omega), fun H' s' => by have z := q H' s'; rw [show jText n (.str (tx r)) = isTextB (tx r).cps.toList n from rfl, tx_cps] at z; exact z⟩
  | non => exact .inr ⟨_, _, n, rfl, Jp.ty .non, kit_ty (kit_str _ (jty_mem _)), q H (Same.refl _)⟩
  | bl b => exact .inr ⟨_, _, n, rfl, Jp.ty (.bl b), kit_ty (kit_str _ (jty_mem _)), q H (Same.refl _)⟩
  | int i => exact .inr ⟨_, _, n, rfl, Jp.ty (.int i), kit_ty (kit_str _ (jty_mem _)), q H (Same.refl _)⟩
  | lst h l r => exact .inr ⟨_, _, n, rfl, Jp.ty (.lst h l r), kit_ty (kit_str _ (jty_mem _)), q H (Same.refl _)⟩
  | tup h l r => exact .inr ⟨_, _, n, rfl, Jp.ty (.tup h l r), kit_ty (kit_str _ (jty_mem _)), q H (Same.refl _)⟩
  | dic h => exact .inr ⟨_, _, n, rfl, Jp.ty (.dic h), kit_ty (kit_str _ (jty_mem _)), q H (Same.refl _)⟩
/-- all of them are cells -/
theorem jcells {vs : List V} {ds : List PyData} (h : JpAll K H vs ds) (hc : ∀ d ∈ ds, jCel d ≠ none) : Cells K H vs (ds.filterMap jCel) := by
  induction ds generalizing vs with
  | nil => cases h; exact .nil
  | cons d ds ih =>
    cases h with
    | cons a t =>
      cases e : jCel d with
      | none => exact absurd e (hc d List.mem_cons_self)
      | some c =>
        rw [List.filterMap_cons_some e]
        refine .cons ?_ (ih t fun d hd => hc d (List.mem_cons_of_mem _ hd))
        unfold jCel at e
        split at e
        · cases e
          cases a with
          | tup q l r =>
            cases r with
            | cons x r =>
              cases r with
              | cons y r =>
                cases r
                cases x
                cases y
                exact ⟨_, rfl, q⟩
        · cases e
end
/-! ### two promises of one def -/
theorem Cal.or {P : Program} {w : World} {K : PySem.W.Frag} {mg : Str → Option Value} {base : Heap} {CX : CXT} {k : Nat} {x : Str} {ps : List Str} {sp sp' : Sp} (c : Cal P w K mg base CX k x ps sp) (c' : Cal P w K mg base CX k x ps sp') :
    Cal P w K mg base CX k x ps (fun vs H Q E => sp vs H Q E ∨ sp' vs H Q E) := by
  obtain ⟨f, fd, F, g, kp, b, oc, od, osl, lk⟩ := c
  obtain ⟨f', fd', F', g', _, _, oc', od', osl', lk'⟩ := c'
  have e := g.symm.trans g'
  cases e
  have e2 := lk.symm.trans lk'
  cases e2
  refine ⟨f, fd, ⟨fun vs H Q E h => h.elim (F.len _ _ _ _) (F'.len _ _ _ _), fun A outer s H args us vs Q E hr e0 hb hv h => ?_⟩, g, kp, b, oc, od, osl, lk⟩
  rcases h with h | h
  · exact F.run A outer s H args us vs Q E hr e0 hb hv h
  · exact F'.run A outer s H args us vs Q E hr e0 hb hv h
end Sk
/-! k08: lists of plain things, copies of them, what a door tells. -/
namespace Sk
open PySem PySem.Spec PyProof.Rows L2 Sn LamX NdefX
/-! ### a comprehension by what is true of the list so far -/
theorem lc_inv {J : It} {n : Nat} {G : Hp → Prop} {Y : Nat → Hp → V → Hp → Prop} (w : Walk J n G Y) {g : TG} {te : TE} {vs : List Nat} {σ : L2.St} {H1 : Hp} {Q : Addr → Hp → Prop} (hn : n ≤ sizeLine) (Pv : Addr → Nat → List V → Hp → Prop)
    (h0 : ∀ D, H1 D = none → Pv D 0 [] (upd H1 D (.lst []))) (hl : ∀ D i acc H, Pv D i acc H → acc.length = i) (hG : ∀ D i acc H, Pv D i acc H → G H)
    (he : ∀ D i acc x H H' (Qe : VK), H1 D = none → i < n → Pv D i acc H → Y i H x H' → (∀ y H4, H4 D = some (.lst acc) → Pv D (i + 1) (acc ++ [y]) (upd H4 D (.lst (acc ++ [y]))) → Qe y H4) →
      g x (wipe σ vs) H' fun σ2 H2 => wipe σ2 vs = wipe σ vs ∧ te σ2 H2 Qe)
    (hd : ∀ D acc H, H1 D = none → Pv D n acc H → Q D H) :
    ∀ D, H1 D = none → ∃ W : Nat → Nat → Hp → Prop, (∃ m, W 0 m (upd H1 D (.lst []))) ∧ ∀ i m H, W i m H →
      (J.stop i H ∧ Q D H) ∨ (J.go i H ∧ ∃ Nx : Hp → Prop, (∀ H', Nx H' → ∃ m', m' < m ∧ W (i + 1) m' H') ∧ ∀ x H', J.yld i H x H' → g x (wipe σ vs) H' fun σ2 H2 => wipe σ2 vs = wipe σ vs ∧ tYes σ2 H2 fun b H3 =>
        if b = true then te σ2 H3 fun y H4 => ∃ acc, H4 D = some (.lst acc) ∧ acc.length < sizeLine ∧ Nx (upd H4 D (.lst (acc ++ [y]))) else Nx H3) := by
  intro D nD
  refine ⟨fun i m H => m = n - i ∧ i ≤ n ∧ ∃ acc, Pv D i acc H, ⟨n, rfl, Nat.zero_le _, [], h0 D nD⟩, ?_⟩
  rintro i m H ⟨rfl, hi, acc, p⟩
  have q := hG D i acc H p
  by_cases hlt : i < n
  · refine .inr ⟨w.goes i H hlt q, fun H' => ∃ acc', Pv D (i + 1) acc' H', fun H' p' => ⟨n - (i + 1), by omega, rfl, hlt, p'⟩, fun x H' y => ?_⟩
    exact he D i acc x H H' _ nD hlt p (w.yields i H x H' hlt q y) fun y H4 e p4 => ⟨acc, e, by rw [hl D i acc H p]; omega, _, p4⟩
  · have e : i = n := by omega
    subst e
    exact .inl ⟨w.stops H q, hd D acc H nD p⟩
/-! ### plain things -/
def Fl (K : PySem.W.Frag) (H : Hp) (v : V) (d : PyData) : Prop := (∃ i, v = .int i ∧ d = .int i) ∨ (∃ b, v = .bl b ∧ d = .bool b) ∨ (∃ r, v = tv r ∧ d = textD r) ∨ ∃ c, CellV K H v c ∧ d = cellD c
abbrev Fls (K : PySem.W.Frag) (H : Hp) (xs : List V) (ds : List PyData) : Prop := Paired (Fl K H) xs ds
section
variable {K : PySem.W.Frag} {H H' : Hp}
theorem Fl.le {v : V} {d : PyData} (h : Fl K H v d) (s : TupLe H H') : Fl K H' v d := by
  rcases h with h | h | h | ⟨c, h, e⟩
  · exact .inl h
  · exact .inr (.inl h)
  · exact .inr (.inr (.inl h))
  · exact .inr (.inr (.inr ⟨c, h.le s, e⟩))
theorem Fls.le {xs : List V} {ds : List PyData} (h : Fls K H xs ds) (s : TupLe H H') : Fls K H' xs ds := Paired.mapP h fun _ _ q => q.le s
theorem Fl.dp {v : V} {d : PyData} (h : Fl K H v d) : Dp K H v d := by
  rcases h with ⟨i, rfl, rfl⟩ | ⟨b, rfl, rfl⟩ | ⟨r, rfl, rfl⟩ | ⟨c, h, rfl⟩
  · exact .int i
  · exact .bl b
  · exact .str _
  · exact h.dp
theorem Fls.dp {xs : List V} {ds : List PyData} (h : Fls K H xs ds) : DpAll K H xs ds := by
  induction h with
  | nil => exact .nil
  | cons r _ ih => exact .cons r.dp ih
theorem fls_texts (F : List (List Nat)) : Fls K H (F.map tv) (F.map textD) := by
  induction F with
  | nil => exact .nil
  | cons r _ ih => exact .cons (.inr (.inr (.inl ⟨r, rfl, rfl⟩))) ih
theorem fls_cells {xs : List V} {cs : List Cel} (h : Cells K H xs cs) : Fls K H xs (cs.map cellD) := by
  induction h with
  | nil => exact .nil
  | cons r _ ih => exact .cons (.inr (.inr (.inr ⟨_, r, rfl⟩))) ih
theorem texts_fls : ∀ {F : List (List Nat)} {xs : List V}, Fls K H xs (F.map textD) → xs = F.map tv
  | [], _, h => by cases h; rfl
  | r :: F, _, h => by
    cases h with
    | cons a t =>
      rw [texts_fls t]
      rcases a with ⟨_, _, z⟩ | ⟨_, _, z⟩ | ⟨r', rfl, z⟩ | ⟨_, _, z⟩
      · cases z
      · cases z
      · have e := PyData.str.inj z
        rw [List.map_cons, tx_inj e]
      · cases z
theorem cells_fls : ∀ {cs : List Cel} {xs : List V}, Fls K H xs (cs.map cellD) → Cells K H xs cs
  | [], _, h => by cases h; exact .nil
  | c :: cs, _, h => by
    cases h with
    | cons a t =>
      refine .cons ?_ (cells_fls t)
      rcases a with ⟨_, _, z⟩ | ⟨_, _, z⟩ | ⟨r', _, z⟩ | ⟨c', h, z⟩
      · cases z
      · cases z
      · cases z
      · have e := PyData.tuple.inj z
        have e1 : c.1 = c'.1 := PyData.int.inj (List.cons.inj e).1
        have e2 : c.2 = c'.2 := PyData.int.inj (List.cons.inj (List.cons.inj e).2).1
        rw [show c = c' from Prod.ext e1 e2]
        exact h
end
/-- a list of plain things -/
def Row (K : PySem.W.Frag) (H : Hp) (v : V) (ds : List PyData) : Prop := ∃ a xs, v = .ref a ∧ SqL K H a xs ∧ Fls K H xs ds
/-- a list of such lists -/
def Rows (K : PySem.W.Frag) (H : Hp) (v : V) (rs : List (List PyData)) : Prop := ∃ a xs, v = .ref a ∧ SqL K H a xs ∧ Paired (Row K H) xs rs
/-- the very lists: the one at hp holds those at ps -/
structure HdAt (K : PySem.W.Frag) (H : Hp) (hp : Addr) (ps : List Addr) (rs : List (List PyData)) : Prop where
  top : H hp = some (.lst (ps.map V.ref))
  row : Paired (fun p ds => ∃ xs, H p = some (.lst xs) ∧ Fls K H xs ds) ps rs
  nd : ps.Nodup
  no : hp ∉ ps
section
variable {K : PySem.W.Frag} {H H' : Hp}
theorem Row.same {v : V} {ds : List PyData} (h : Row K H v ds) (s : Same H H') : Row K H' v ds := by
  obtain ⟨a, xs, e, q, f⟩ := h
  exact ⟨a, xs, e, s.seq q, f.le (TupLe.of s)⟩
theorem Rows.same {v : V} {rs : List (List PyData)} (h : Rows K H v rs) (s : Same H H') : Rows K H' v rs := by
  obtain ⟨a, xs, e, q, f⟩ := h
  exact ⟨a, xs, e, s.seq q, Paired.mapP f fun _ _ r => r.same s⟩
theorem Row.dp {v : V} {ds : List PyData} (h : Row K H v ds) : Dp K H v (.list ds) := by
  obtain ⟨a, xs, rfl, q, f⟩ := h
  exact .lst q f.dp
theorem rows_all {xs : List V} {rs : List (List PyData)} (h : Paired (Row K H) xs rs) : DpAll K H xs (rs.map .list) := by
  induction h with
  | nil => exact .nil
  | cons r _ ih => exact .cons r.dp ih
theorem Rows.dp {v : V} {rs : List (List PyData)} (h : Rows K H v rs) : Dp K H v (.list (rs.map .list)) := by
  obtain ⟨a, xs, rfl, q, f⟩ := h
  exact .lst q (rows_all f)
theorem paired_ref {ps : List Addr} {rs : List (List PyData)} (h : Paired (fun p ds => ∃ xs, H p = some (.lst xs) ∧ Fls K H xs ds) ps rs) : Paired (Row K H) (ps.map V.ref) rs := by
  induction h with
  | nil => exact .nil
  | cons r _ ih =>
    obtain ⟨xs, h1, h2⟩ := r
    exact .cons ⟨_, xs, rfl, SqL.of h1, h2⟩ ih
theorem HdAt.rows {hp : Addr} {ps : List Addr} {rs : List (List PyData)} (h : HdAt K H hp ps rs) : Rows K H (.ref hp) rs := ⟨hp, _, rfl, SqL.of h.top, paired_ref h.row⟩
theorem HdAt.same {hp : Addr} {ps : List Addr} {rs : List (List PyData)} (h : HdAt K H hp ps rs) (s : Same H H') : HdAt K H' hp ps rs :=
  ⟨s _ _ h.top, Paired.mapP h.row fun p ds ⟨xs, h1, h2⟩ => ⟨xs, s _ _ h1, h2.le (TupLe.of s)⟩, h.nd, h.no⟩
theorem Paired.memL {α β : Type} {F : α → β → Prop} : ∀ {a : List α} {b : List β} {x : α}, Paired F a b → x ∈ a → ∃ y ∈ b, F x y
  | _, _, _, .cons r t, m => by
    rcases List.mem_cons.mp m with rfl | m
    · exact ⟨_, List.mem_cons_self, r⟩
    · obtain ⟨y, h1, h2⟩ := Paired.memL t m
      exact ⟨y, List.mem_cons_of_mem _ h1, h2⟩
theorem Paired.mapM {α β : Type} {F G : α → β → Prop} : ∀ {a : List α} {b : List β}, Paired F a b → (∀ x y, x ∈ a → F x y → G x y) → Paired G a b
  | _, _, .nil, _ => .nil
  | _, _, .cons r t, h => .cons (h _ _ List.mem_cons_self r) (Paired.mapM t fun x y m q => h x y (List.mem_cons_of_mem _ m) q)
/-- a list that is none of these changes -/
theorem HdAt.kb {hp b : Addr} {ps : List Addr} {rs : List (List PyData)} {ys : List V} (h : HdAt K H hp ps rs) (n1 : hp ≠ b) (n2 : b ∉ ps) (hb : H b = some (.lst ys)) (k : Kb b H H') : HdAt K H' hp ps rs :=
  ⟨k _ _ n1 h.top, Paired.mapM h.row fun p ds m ⟨xs, h1, h2⟩ => ⟨xs, k _ _ (fun z => n2 (z ▸ m)) h1, h2.le (TupLe.kb hb k)⟩, h.nd, h.no⟩
end
theorem PI.or {X : Cx} {tg e : Expr} {t u : TI} (a : PI X tg e t) (b : PI X tg e u) : PI X tg e (fun σ H R => t σ H R ∨ u σ H R) :=
  ⟨fun pins s σ H R I h => h.elim (fun q => a.run pins s σ H R I q) fun q => b.run pins s σ H R I q⟩
theorem Cal.imp {P : Program} {w : World} {K : PySem.W.Frag} {mg : Str → Option Value} {base : Heap} {CX : CXT} {k : Nat} {x : Str} {ps : List Str} {sp sp' : Sp} (c : Cal P w K mg base CX k x ps sp) (h : ∀ vs H Q E, sp' vs H Q E → sp vs H Q E) : Cal P w K mg base CX k x ps sp' := by
  obtain ⟨f, fd, F, r⟩ := c
  exact ⟨f, fd, F.imp h, r⟩
theorem Cal.mono {P : Program} {w : World} {K : PySem.W.Frag} {mg : Str → Option Value} {base : Heap} {CX : CXT} {j k : Nat} {x : Str} {ps : List Str} {sp : Sp} (c : Cal P w K mg base CX j x ps sp) (h : j ≤ k) : Cal P w K mg base CX k x ps sp := by
  obtain ⟨f, fd, F, r⟩ := c
  exact ⟨f, fd, F.mono h, r⟩
/-- the type of a plain thing -/
theorem Fl.ty {K : PySem.W.Frag} {H : Hp} {v : V} {d : PyData} (h : Fl K H v d) : (∃ n ∈ ["int", "bool", "str"], TyX K H v (.type n)) ∨ ∃ c, CellV K H v c ∧ d = cellD c := by
  rcases h with ⟨i, rfl, rfl⟩ | ⟨b, rfl, rfl⟩ | ⟨r, rfl, rfl⟩ | h
  · exact .inl ⟨"int", by decide, .base (.int i)⟩
  · exact .inl ⟨"bool", by decide, .base (.bl b)⟩
  · exact .inl ⟨"str", by decide, .base (.str _)⟩
  · exact .inr h
/-! ### promises -/
def spDeepA (K : PySem.W.Frag) : Sp := fun vs H Q _ => ∃ v t, vs = [v] ∧ TyX K H v t ∧ PySem.W.kitOne K t (.type "list") = some false ∧ PySem.W.kitOne K t (.type "tuple") = some false ∧ Q v H
def spDeepC (K : PySem.W.Frag) : Sp := fun vs H Q _ => ∃ v c, vs = [v] ∧ CellV K H v c ∧ ∀ v' H', Same H H' → CellV K H' v' c → Q v' H'
def spDeepF (K : PySem.W.Frag) : Sp := fun vs H Q _ => ∃ v d, vs = [v] ∧ Fl K H v d ∧ ∀ v' H', Same H H' → Fl K H' v' d → Q v' H'
def spDeepR (K : PySem.W.Frag) : Sp := fun vs H Q _ => ∃ v ds, vs = [v] ∧ Row K H v ds ∧ ds.length ≤ 1000 ∧ ∀ H' p ys, Same H H' → H p = none → H' p = some (.lst ys) → Fls K H' ys ds → Q (.ref p) H'
def spDeepL (K : PySem.W.Frag) : Sp := fun vs H Q _ => ∃ v rs, vs = [v] ∧ Rows K H v rs ∧ rs.length ≤ 1000 ∧ (∀ ds ∈ rs, ds.length ≤ 1000) ∧ ∀ H' hp ps, Same H H' → H hp = none → HdAt K H' hp ps rs → (∀ p ∈ ps, H p = none) → Q (.ref hp) H'
def spSpoilt (K : PySem.W.Frag) : Sp := fun vs H Q _ => (∃ v d, vs = [v] ∧ Fl K H v d ∧ ∀ H', Same H H' → Q .non H') ∨
  ∃ a xs ds, vs = [.ref a] ∧ H a = some (.lst xs) ∧ Fls K H xs ds ∧ xs.length ≤ 1000 ∧ ∀ H', Kb a H H' → Q .non H'
/-- what a door tells: what is fixed as r, a new list of plain things -/
def Told (K : PySem.W.Frag) (r : PyData) (H : Hp) : VK := fun v H' => Same H H' ∧ ∃ t fx tl zs ds, v = .ref t ∧ SqT K H' t [.ref fx, .ref tl] ∧ Dp K H' (.ref fx) r ∧ H tl = none ∧ H' tl = some (.lst zs) ∧ Fls K H' zs ds ∧ zs.length ≤ 1000
/-- the door f tells r of the lists rs, from H on -/
def Tells (P : Program) (w : World) (K : PySem.W.Frag) (mg : Str → Option Value) (base : Heap) (f : Addr) (rs : List (List PyData)) (r : PyData) (H : Hp) : Prop := ∀ H1 hp, Same H H1 → Rows K H1 (.ref hp) rs → AskAt P w K mg base 15 f [.ref hp] H1 (Told K r H1) (fun _ _ _ => False)
theorem Tells.same {P : Program} {w : World} {K : PySem.W.Frag} {mg : Str → Option Value} {base : Heap} {f : Addr} {rs : List (List PyData)} {r : PyData} {H H' : Hp} (t : Tells P w K mg base f rs r H) (s : Same H H') : Tells P w K mg base f rs r H' := fun H1 hp s1 h => t H1 hp (s.trans s1) h
/-- what can be written out -/
structure Shown (d : PyData) : Prop where
  a : d.showable = true
  b : d.hasDict = false
  c : d.depth ≤ 64
  e : d.shown.length ≤ sizeLine
/-- small rows of plain things that can be laid out -/
def Small (rs : List (List PyData)) : Prop := rs.length ≤ 10 ∧ ∀ ds ∈ rs, ds.length ≤ 1000 ∧ ∀ d ∈ ds, Shp 2 d
theorem Small.row {rs : List (List PyData)} (h : Small rs) {ds : List PyData} (m : ds ∈ rs) : SeqAt.shaped (.list ds) = true := (shp_list (h.2 ds m).2).ok
theorem Small.all {rs : List (List PyData)} (h : Small rs) : SeqAt.shaped (.list (rs.map .list)) = true := (shp_list (n := 3) fun d hd => by
  obtain ⟨ds, m, rfl⟩ := List.mem_map.mp hd
  exact shp_list (h.2 ds m).2).ok
def spPut (K : PySem.W.Frag) : Sp := fun vs H Q _ => ∃ hp ps rs0 v rs Hb, vs = [.ref hp, v] ∧ HdAt K H hp ps rs0 ∧ Same Hb H ∧ Rows K Hb v rs ∧ (∀ p ∈ ps, Hb p = none) ∧ rs.length = ps.length ∧ Small rs ∧ Small rs0 ∧ ∀ H', Same Hb H' → HdAt K H' hp ps rs → Q .non H'
def spDoor (P : Program) (w : World) (K : PySem.W.Frag) (mg : Str → Option Value) (base : Heap) : Sp := fun vs H Q _ => ∃ f v u rs us r o, vs = [.ref f, v, u] ∧ FnTy K H f ∧ Rows K H v rs ∧ Rows K H u us ∧ us.length = rs.length ∧ Small rs ∧ Small us ∧
  Shown r ∧ Shown o ∧ Tells P w K mg base f rs r H ∧ Tells P w K mg base f us o H ∧ ∀ H', Same H H' → Q (.bl true) H'
theorem paired_get {α β : Type} {F : α → β → Prop} : ∀ {a : List α} {b : List β}, a.length = b.length → (∀ (j : Nat) x y, a[j]? = some x → b[j]? = some y → F x y) → Paired F a b
  | [], [], _, _ => .nil
  | x :: a, y :: b, hl, h => .cons (h 0 x y rfl rfl) (paired_get (by simpa using hl) fun j x' y' h1 h2 => h (j + 1) x' y' (by simpa using h1) (by simpa using h2))
/-- the lists while the i-th is being put -/
structure PutI (K : PySem.W.Frag) (Hb : Hp) (hp : Addr) (ps : List Addr) (rs rs0 : List (List PyData)) (i : Nat) (H : Hp) : Prop where
  sb : Same Hb H
  top : H hp = some (.lst (ps.map V.ref))
  row : ∀ (j : Nat) p, ps[j]? = some p → j ≠ i → ∃ zs ds, H p = some (.lst zs) ∧ Fls K H zs ds ∧ (if j < i then rs[j]? else rs0[j]?) = some ds
section
variable {K : PySem.W.Frag} {Hb H H' : Hp} {hp : Addr} {ps : List Addr} {rs rs0 : List (List PyData)} {i : Nat}
theorem PutI.same (h : PutI K Hb hp ps rs rs0 i H) (s : Same H H') : PutI K Hb hp ps rs rs0 i H' := ⟨h.sb.trans s, s _ _ h.top, fun j p e n => by
  obtain ⟨zs, ds, h1, h2, h3⟩ := h.row j p e n
  exact ⟨zs, ds, s _ _ h1, h2.le (TupLe.of s), h3⟩⟩
theorem PutI.upd (h : PutI K Hb hp ps rs rs0 i H) {p : Addr} {zs : List V} {o : HO} (hi : ps[i]? = some p) (nd : ps.Nodup) (no : hp ∉ ps) (nb : Hb p = none) (hz : H p = some (.lst zs)) : PutI K Hb hp ps rs rs0 i (upd H p o) := by
  have le : TupLe H (L2.upd H p o) := TupLe.upd hz (TupLe.refl _)
  refine ⟨same_upd h.sb nb, ?_, fun j p' e n => ?_⟩
  · have ne : hp ≠ p := fun z => no (by rw [z]; exact List.mem_of_getElem? hi)
    rw [upd_ne ne]
    exact h.top
  · obtain ⟨ys, ds, h1, h2, h3⟩ := h.row j p' e n
    have ne : p' ≠ p := fun z => by
      obtain ⟨l1, g1⟩ := List.getElem?_eq_some_iff.mp e
      obtain ⟨l2, g2⟩ := List.getElem?_eq_some_iff.mp hi
      exact n ((List.getElem_inj nd).mp (g1.trans (z.trans g2.symm)))
    refine ⟨ys, ds, ?_, h2.le le, h3⟩
    rw [upd_ne ne]
    exact h1
end
theorem AskAt.imp {P : Program} {w : World} {K : PySem.W.Frag} {mg : Str → Option Value} {base : Heap} {j k : Nat} {f : Addr} {vs : List V} {H : Hp} {Q Q' : VK} {E E' : XK} (a : AskAt P w K mg base j f vs H Q E) (hk : j ≤ k) (hq : ∀ v H', Q v H' → Q' v H') (he : ∀ c d H', E c d H' → E' c d H') : AskAt P w K mg base k f vs H Q' E' := by
  intro A outer s us hr e0 r
  refine codeAny_mono (a A outer s us (hr.mono hk) e0 r) fun r s' h => ?_
  cases r with
  | error e =>
    obtain ⟨a, B, H', cls, d, h1, h2, h3, h4, h5, h6, h7, h8⟩ := h
    exact ⟨a, B, H', cls, d, h1, h2, h3, h4, h5, h6, h7, he _ _ _ h8⟩
  | ok fl =>
    cases fl with
    | ret u =>
      obtain ⟨v, H', h1, h2, h3, h4, h5, h6⟩ := h
      exact ⟨v, H', h1, h2, h3, h4, h5, hq _ _ h6⟩
    | next => exact h
    | brk => exact h
    | cont => exact h
theorem Dfn.calGX {P : Program} {w : World} {K : PySem.W.Frag} {mg : Str → Option Value} {base : Heap} {k : Nat} {x : Str} {ps N : List Str} {sp : Sp} {st : Stmt} {CX : CXT} (D : Dfn K mg x st) (S : FnScope N ps (defScope st)) (hb : Bnd st x ps) (len : ∀ vs H Q E, sp vs H Q E → vs.length = ps.length)
    (hbody : ∀ (f : Addr) (cdv : Value) (A : Around) (outer : List Env) (s : Shared) (H : Hp) (vs : List V) (Q : VK) (E : XK), Room k (A.deeper (envOfC x (defScope st) s.heap.objs.size f cdv)) → (A.deeper (envOfC x (defScope st) s.heap.objs.size f cdv)).guards = some [] → sp vs H Q E →
      ∃ t, PSs (cxOf CX P w K mg base N x (defScope st) f cdv A outer s H E) (defBody st) t ∧ t { nx := fun _ H' => Q .non H', rt := Q } (start N vs) H) : CalG P w K mg base CX (k + 1) x ps sp := by
  obtain ⟨f, fd, F, g⟩ := D
  exact ⟨f, fd, fnG_of F S len fun cdv A outer s H vs Q E hr hg h => hbody f cdv A outer s H vs Q E hr hg h, g, F.kp, F.bindsN hb, F.look⟩
/-- all but the lists at ps -/
noncomputable def rm (ps : List Addr) (H : Hp) : Hp := fun b => if b ∈ ps then none else H b
section
variable {ps : List Addr} {H H' H0 : Hp}
theorem rm_same : Same (rm ps H) H := fun b o e => by
  unfold rm at e
  split at e
  · cases e
  · exact e
theorem rm_none {p : Addr} (h : p ∈ ps) : rm ps H p = none := if_pos h
theorem rm_of {b : Addr} (h : b ∉ ps) : rm ps H b = H b := if_neg h
theorem same_rm (s : Same H0 H) (n : ∀ p ∈ ps, H0 p = none) : Same H0 (rm ps H) := fun b o e => by
  rw [rm_of fun m => by rw [n b m] at e; cases e]
  exact s b o e
theorem rm_tup {a : Addr} {xs : List V} {K : PySem.W.Frag} (hl : ∀ p ∈ ps, ∃ ys, H p = some (.lst ys)) (h : SqT K H a xs) : SqT K (rm ps H) a xs := by
  rcases h with (h | ⟨o, h⟩) | h
  · refine .inl (.inl ?_)
    rw [rm_of fun m => by obtain ⟨ys, e⟩ := hl a m; rw [e] at h; cases h]
    exact h
  · refine .inl (.inr ⟨o, ?_⟩)
    rw [rm_of fun m => by obtain ⟨ys, e⟩ := hl a m; rw [e] at h; cases h]
    exact h
  · exact .inr h
end
theorem HdAt.lists {K : PySem.W.Frag} {H : Hp} {hp : Addr} {ps : List Addr} {rs : List (List PyData)} (h : HdAt K H hp ps rs) : ∀ p ∈ ps, ∃ ys, H p = some (.lst ys) := fun p hp => by
  obtain ⟨_, _, xs, h1, _⟩ := Paired.memL h.row hp
  exact ⟨xs, h1⟩
end Sk
namespace Sk
open PySem PySem.Spec PyProof.Rows L2 Sn LamX NdefX
theorem kl_atom : ∀ n ∈ ["int", "bool", "str"], kitB n "list" = some false := by decide +kernel
theorem kt_atom : ∀ n ∈ ["int", "bool", "str"], kitB n "tuple" = some false := by decide +kernel
section
variable {P : Program} {wl : World} {K : PySem.W.Frag} {mg : Str → Option Value} {base : Heap}
theorem ok_law_deepA (D : Dfn K mg "_law_deep" s__law_deep) (B : Bi mg) : Cal P wl K mg base CX0 1 "_law_deep" ["_law_thing"] (spDeepA K) := by
  have c_law_deep : Cal P wl K mg base CX0 0 "_law_deep" ["_law_thing"] (fun _ _ _ _ => False) := D.cal0 bn__law_deep
  refine D.cal sc__law_deep bn__law_deep (fun vs H Q E h => ?_) (fun f cdv A outer s H vs Q E hr h => ?_)
  · obtain ⟨v, t, rfl, _⟩ := h
    rfl
  · obtain ⟨v, t, rfl, ty, k1, k2, q⟩ := h
    refine ⟨_, (pss_cons (ps_if (pt_val (pe_callB (isiK K) (by rfl) B.isinstance (by decide +kernel) (pa_cons (pv 0) (pa_cons (pe_bltn (v := .ty "list") (by rfl) B.list (by decide +kernel) rfl) pa_nil))))
 (pss_one (ps_ret (pe_lc (own := [("_law_one", 1)]) (g := gName 1) (tt := tYes) (by rfl) sc__law_deep.nd (piL K (pv 0)) (blkOk_by (own := [("_law_one", 1)]) (N := ["_law_thing", "_law_one"]) (sc := defScope s__law_deep) (by decide +kernel)) (fun _ _ _ _ _ => (pg_name (i := 1) sc__law_deep.nd rfl (Or.inl rfl))) (fun _ _ _ _ _ => pts_nil) (fun _ _ _ _ _ => (pcall c_law_deep (hr.mono (by omega)) (by rfl) pass0 (pa_cons (pv 1) pa_nil)))))) pss_nil)
 (pss_one (ps_ret (pe_ifExp (pt_val (pe_callB (isiK K) (by rfl) B.isinstance (by decide +kernel) (pa_cons (pv 0) (pa_cons (pe_bltn (v := .ty "tuple") (by rfl) B.tuple (by decide +kernel) rfl) pa_nil)))) (pe_callTy call_tuple_of (by rfl) B.tuple (by decide +kernel) (pa_cons (pe_lc (own := [("_law_one", 1)]) (g := gName 1) (tt := tYes) (by rfl) sc__law_deep.nd (piT K (pv 0)) (blkOk_by (own := [("_law_one", 1)]) (N := ["_law_thing", "_law_one"]) (sc := defScope s__law_deep) (by decide +kernel)) (fun _ _ _ _ _ => (pg_name (i := 1) sc__law_deep.nd rfl (Or.inl rfl))) (fun _ _ _ _ _ => pts_nil) (fun _ _ _ _ _ => (pcall c_law_deep (hr.mono (by omega)) (by rfl) pass0 (pa_cons (pv 1) pa_nil)))) pa_nil)) (pv 0))))), ?_⟩
    refine ⟨v, rfl, v, .ty "list", t, _, false, rfl, .ty "list", ty, k1, false, rfl, iteF ?_⟩
    exact ⟨v, rfl, v, .ty "tuple", t, _, false, rfl, .ty "tuple", ty, k2, false, rfl, iteF ⟨v, rfl, q⟩⟩
theorem ok_law_deepC (D : Dfn K mg "_law_deep" s__law_deep) (B : Bi mg) (c_law_deep : Cal P wl K mg base CX0 1 "_law_deep" ["_law_thing"] (spDeepA K)) : Cal P wl K mg base CX0 2 "_law_deep" ["_law_thing"] (spDeepC K) := by
  refine D.cal sc__law_deep bn__law_deep (fun vs H Q E h => ?_) (fun f cdv A outer s H vs Q E hr h => ?_)
  · obtain ⟨v, c, rfl, _⟩ := h
    rfl
  · obtain ⟨v, c, rfl, ⟨t, rfl, ht⟩, q⟩ := h
    refine ⟨_, (pss_cons (ps_if (pt_val (pe_callB (isiK K) (by rfl) B.isinstance (by decide +kernel) (pa_cons (pv 0) (pa_cons (pe_bltn (v := .ty "list") (by rfl) B.list (by decide +kernel) rfl) pa_nil))))
 (pss_one (ps_ret (pe_lc (own := [("_law_one", 1)]) (g := gName 1) (tt := tYes) (by rfl) sc__law_deep.nd (piL K (pv 0)) (blkOk_by (own := [("_law_one", 1)]) (N := ["_law_thing", "_law_one"]) (sc := defScope s__law_deep) (by decide +kernel)) (fun _ _ _ _ _ => (pg_name (i := 1) sc__law_deep.nd rfl (Or.inl rfl))) (fun _ _ _ _ _ => pts_nil) (fun _ _ _ _ _ => (pcall c_law_deep (hr.mono (by omega)) (by rfl) pass0 (pa_cons (pv 1) pa_nil)))))) pss_nil)
 (pss_one (ps_ret (pe_ifExp (pt_val (pe_callB (isiK K) (by rfl) B.isinstance (by decide +kernel) (pa_cons (pv 0) (pa_cons (pe_bltn (v := .ty "tuple") (by rfl) B.tuple (by decide +kernel) rfl) pa_nil)))) (pe_callTy call_tuple_of (by rfl) B.tuple (by decide +kernel) (pa_cons (pe_lc (own := [("_law_one", 1)]) (g := gName 1) (tt := tYes) (by rfl) sc__law_deep.nd (piT K (pv 0)) (blkOk_by (own := [("_law_one", 1)]) (N := ["_law_thing", "_law_one"]) (sc := defScope s__law_deep) (by decide +kernel)) (fun _ _ _ _ _ => (pg_name (i := 1) sc__law_deep.nd rfl (Or.inl rfl))) (fun _ _ _ _ _ => pts_nil) (fun _ _ _ _ _ => (pcall c_law_deep (hr.mono (by omega)) (by rfl) pass0 (pa_cons (pv 1) pa_nil)))) pa_nil)) (pv 0))))), ?_⟩
    refine ⟨.ref t, rfl, .ref t, .ty "list", .type "tuple", _, false, rfl, .ty "list", tyx_tup ht, kit_ty (by decide +kernel), false, rfl, iteF ?_⟩
    refine ⟨.ref t, rfl, .ref t, .ty "tuple", .type "tuple", _, true, rfl, .ty "tuple", tyx_tup ht, kit_ty (by decide +kernel), true, rfl, iteT ?_⟩
    refine ⟨.ref t, rfl, t, rfl, ⟨_, ht⟩, lc_val (walk_tup (xs := [.int c.1, .int c.2])) (small_line (by show 2 ≤ 1000000; decide)) (fun i => [V.int c.1, .int c.2].getD i .non) (fun H1 s1 => Same.sqt s1 ht) (fun D' i x H1 H2 Qe nD hi sm hy y qe => ?_) fun D' H1 nD sm hD => ?_⟩
    · obtain ⟨rfl, hx⟩ := y
      have z := qe _ (Same.refl _)
      rw [getD_of hx] at z
      obtain ⟨n, rfl⟩ : ∃ n : Int, x = .int n := by
        match i, hi with
        | 0, _ => exact ⟨c.1, (Option.some.inj hx).symm⟩
        | 1, _ => exact ⟨c.2, (Option.some.inj hx).symm⟩
      exact ⟨rfl, .int n, rfl, .int n, .type "int", rfl, .base (.int n), kit_ty (by decide +kernel), kit_ty (by decide +kernel), z⟩
    · exact ⟨D', [.int c.1, .int c.2], rfl, .inl ⟨SqL.of hD, fun l nl => q _ _ (sm.trans (same_new nl)) ⟨l, rfl, SqT.of upd_same⟩⟩⟩
theorem ok_law_deepF (cA : Cal P wl K mg base CX0 1 "_law_deep" ["_law_thing"] (spDeepA K)) (cC : Cal P wl K mg base CX0 2 "_law_deep" ["_law_thing"] (spDeepC K)) : Cal P wl K mg base CX0 2 "_law_deep" ["_law_thing"] (spDeepF K) := by
  refine ((cA.mono (by decide)).or cC).imp fun vs H Q E h => ?_
  obtain ⟨v, d, rfl, f, q⟩ := h
  rcases f.ty with ⟨n, hn, ty⟩ | ⟨c, hc, rfl⟩
  · exact .inl ⟨v, _, rfl, ty, kit_ty (kl_atom n hn), kit_ty (kt_atom n hn), q v H (Same.refl _) f⟩
  · exact .inr ⟨v, c, rfl, hc, fun v' H' s' h' => q v' H' s' (.inr (.inr (.inr ⟨c, h', rfl⟩)))⟩
theorem ok_law_deepR (D : Dfn K mg "_law_deep" s__law_deep) (B : Bi mg) (c_law_deep : Cal P wl K mg base CX0 2 "_law_deep" ["_law_thing"] (spDeepF K)) : Cal P wl K mg base CX0 3 "_law_deep" ["_law_thing"] (spDeepR K) := by
  refine D.cal sc__law_deep bn__law_deep (fun vs H Q E h => ?_) (fun f cdv A outer s H vs Q E hr h => ?_)
  · obtain ⟨v, ds, rfl, _⟩ := h
    rfl
  · obtain ⟨v, ds, rfl, ⟨a, xs, rfl, ha, fs⟩, hl, q⟩ := h
    refine ⟨_, (pss_cons (ps_if (pt_val (pe_callB (isiK K) (by rfl) B.isinstance (by decide +kernel) (pa_cons (pv 0) (pa_cons (pe_bltn (v := .ty "list") (by rfl) B.list (by decide +kernel) rfl) pa_nil))))
 (pss_one (ps_ret (pe_lc (own := [("_law_one", 1)]) (g := gName 1) (tt := tYes) (by rfl) sc__law_deep.nd (piL K (pv 0)) (blkOk_by (own := [("_law_one", 1)]) (N := ["_law_thing", "_law_one"]) (sc := defScope s__law_deep) (by decide +kernel)) (fun _ _ _ _ _ => (pg_name (i := 1) sc__law_deep.nd rfl (Or.inl rfl))) (fun _ _ _ _ _ => pts_nil) (fun _ _ _ _ _ => (pcall c_law_deep (hr.mono (by omega)) (by rfl) pass0 (pa_cons (pv 1) pa_nil)))))) pss_nil)
 (pss_one (ps_ret (pe_ifExp (pt_val (pe_callB (isiK K) (by rfl) B.isinstance (by decide +kernel) (pa_cons (pv 0) (pa_cons (pe_bltn (v := .ty "tuple") (by rfl) B.tuple (by decide +kernel) rfl) pa_nil)))) (pe_callTy call_tuple_of (by rfl) B.tuple (by decide +kernel) (pa_cons (pe_lc (own := [("_law_one", 1)]) (g := gName 1) (tt := tYes) (by rfl) sc__law_deep.nd (piT K (pv 0)) (blkOk_by (own := [("_law_one", 1)]) (N := ["_law_thing", "_law_one"]) (sc := defScope s__law_deep) (by decide +kernel)) (fun _ _ _ _ _ => (pg_name (i := 1) sc__law_deep.nd rfl (Or.inl rfl))) (fun _ _ _ _ _ => pts_nil) (fun _ _ _ _ _ => (pcall c_law_deep (hr.mono (by omega)) (by rfl) pass0 (pa_cons (pv 1) pa_nil)))) pa_nil)) (pv 0))))), ?_⟩
    have len : xs.length = ds.length := fs.length
    refine ⟨.ref a, rfl, .ref a, .ty "list", .type "list", _, true, rfl, .ty "list", tyx_list ha, kit_ty (by decide +kernel), true, rfl, iteT ?_⟩
    refine ⟨.ref a, rfl, a, rfl, ⟨_, ha⟩, lc_gen (walk_list (xs := xs)) (small_line (by omega)) (fun _ => true) (fun D' i v H' => Fl K H' v (ds.getD i .none)) (fun D' i v H1 H2 ys _ hD k r => r.le (TupLe.kb hD k)) (fun H1 s1 => s1.seq ha) (fun D' i x H1o H1 Qe Qn nD hi sm _ y qe qn => ?_) fun D' ys H1 nD sm hD hp => ?_⟩
    · obtain ⟨rfl, hx⟩ := y
      obtain ⟨d, hd, f⟩ := Paired.get fs hx
      refine ⟨rfl, x, rfl, x, d, rfl, f.le (TupLe.of sm), fun v' H' s' f' => qe v' H' rfl s' ?_⟩
      rw [getD_of hd]
      exact f'
    · rw [List.filter_eq_self.mpr (fun _ _ => rfl)] at hp
      refine q H1 D' ys sm nD hD ?_
      have z := Paired.mapR (fun i => ds.getD i .none) hp fun _ _ r => r
      rw [len, range_map_get id ds _ fun i x hx => by rw [getD_of hx]; rfl, List.map_id] at z
      exact z
theorem ok_law_deepL (D : Dfn K mg "_law_deep" s__law_deep) (B : Bi mg) (c_law_deep : Cal P wl K mg base CX0 3 "_law_deep" ["_law_thing"] (spDeepR K)) : Cal P wl K mg base CX0 4 "_law_deep" ["_law_thing"] (spDeepL K) := by
  refine D.cal sc__law_deep bn__law_deep (fun vs H Q E h => ?_) (fun f cdv A outer s H vs Q E hr h => ?_)
  · obtain ⟨v, rs, rfl, _⟩ := h
    rfl
  · obtain ⟨v, rs, rfl, ⟨a, xs, rfl, ha, fs⟩, hl, hls, q⟩ := h
    refine ⟨_, (pss_cons (ps_if (pt_val (pe_callB (isiK K) (by rfl) B.isinstance (by decide +kernel) (pa_cons (pv 0) (pa_cons (pe_bltn (v := .ty "list") (by rfl) B.list (by decide +kernel) rfl) pa_nil))))
 (pss_one (ps_ret (pe_lc (own := [("_law_one", 1)]) (g := gName 1) (tt := tYes) (by rfl) sc__law_deep.nd (piL K (pv 0)) (blkOk_by (own := [("_law_one", 1)]) (N := ["_law_thing", "_law_one"]) (sc := defScope s__law_deep) (by decide +kernel)) (fun _ _ _ _ _ => (pg_name (i := 1) sc__law_deep.nd rfl (Or.inl rfl))) (fun _ _ _ _ _ => pts_nil) (fun _ _ _ _ _ => (pcall c_law_deep (hr.mono (by omega)) (by rfl) pass0 (pa_cons (pv 1) pa_nil)))))) pss_nil)
 (pss_one (ps_ret (pe_ifExp (pt_val (pe_callB (isiK K) (by rfl) B.isinstance (by decide +kernel) (pa_cons (pv 0) (pa_cons (pe_bltn (v := .ty "tuple") (by rfl) B.tuple (by decide +kernel) rfl) pa_nil)))) (pe_callTy call_tuple_of (by rfl) B.tuple (by decide +kernel) (pa_cons (pe_lc (own := [("_law_one", 1)]) (g := gName 1) (tt := tYes) (by rfl) sc__law_deep.nd (piT K (pv 0)) (blkOk_by (own := [("_law_one", 1)]) (N := ["_law_thing", "_law_one"]) (sc := defScope s__law_deep) (by decide +kernel)) (fun _ _ _ _ _ => (pg_name (i := 1) sc__law_deep.nd rfl (Or.inl rfl))) (fun _ _ _ _ _ => pts_nil) (fun _ _ _ _ _ => (pcall c_law_deep (hr.mono (by omega)) (by rfl) pass0 (pa_cons (pv 1) pa_nil)))) pa_nil)) (pv 0))))), ?_⟩
    have len : xs.length = rs.length := fs.length
    refine ⟨.ref a, rfl, .ref a, .ty "list", .type "list", _, true, rfl, .ty "list", tyx_list ha, kit_ty (by decide +kernel), true, rfl, iteT ?_⟩
    refine ⟨.ref a, rfl, a, rfl, ⟨_, ha⟩, lc_inv (walk_list (xs := xs)) (small_line (by omega)) (fun D' i acc H' => i ≤ xs.length ∧ Same H H' ∧ H' D' = some (.lst acc) ∧ ∃ ps, acc = ps.map V.ref ∧ Paired (fun p ds => ∃ ys, H' p = some (.lst ys) ∧ Fls K H' ys ds) ps (rs.take i) ∧ ps.Nodup ∧ ∀ p ∈ ps, H p = none ∧ p ≠ D')
      (fun D' nD => ⟨Nat.zero_le _, same_new nD, upd_same, [], rfl, by rw [List.take_zero]; exact .nil, List.nodup_nil, fun _ z => absurd z List.not_mem_nil⟩) (fun D' i acc H' pv => ?_) (fun D' i acc H' pv => pv.2.1.seq ha) (fun D' i acc x H1o H1 Qe nD hi pv y qe => ?_) fun D' acc H1 nD pv => ?_⟩
    · obtain ⟨hi, _, _, ps, rfl, pr, _⟩ := pv
      rw [List.length_map, pr.length, List.length_take]
      omega
    · obtain ⟨rfl, hx⟩ := y
      obtain ⟨_, sm, hD, ps, rfl, pr, nd, fr⟩ := pv
      obtain ⟨ds, hd, rw⟩ := Paired.get fs hx
      refine ⟨rfl, x, rfl, x, ds, rfl, rw.same sm, hls ds (List.mem_of_getElem? hd), fun H2 p ys s2 np hp fl => ?_⟩
      have hD2 := s2 _ _ hD
      have npD : p ≠ D' := fun z => by rw [z, hD] at np; cases np
      have nps : p ∉ ps := fun z => by
        obtain ⟨_, _, ys', h1, _⟩ := Paired.memL pr z
        rw [np] at h1
        cases h1
      refine qe (.ref p) H2 hD2 ⟨hi, same_upd (sm.trans s2) nD, upd_same, ps ++ [p], by rw [List.map_append]; rfl, ?_, ?_, fun p' hp' => ?_⟩
      · rw [List.take_add_one, hd]
        have k : Kb D' H2 (upd H2 D' (.lst (ps.map V.ref ++ [.ref p]))) := Kb.upd (Kb.of (Same.refl _))
        refine Paired.snoc (Paired.mapM pr fun p' ds' m ⟨ys', h1, h2⟩ => ⟨ys', by rw [upd_ne (fr p' m).2]; exact s2 _ _ h1, (h2.le (TupLe.of s2)).le (TupLe.kb hD2 k)⟩) ⟨ys, by rw [upd_ne npD]; exact hp, fl.le (TupLe.kb hD2 k)⟩
      · refine List.nodup_append.mpr ⟨nd, List.nodup_cons.mpr ⟨List.not_mem_nil, List.nodup_nil⟩, fun a ha b hb z => ?_⟩
        rw [List.mem_singleton.mp hb] at z
        exact nps (z ▸ ha)
      · rcases List.mem_append.mp hp' with h | h
        · exact fr p' h
        · rw [List.mem_singleton.mp h]
          exact ⟨sm.free np, npD⟩
    · obtain ⟨_, sm, hD, ps, rfl, pr, nd, fr⟩ := pv
      rw [len, List.take_length] at pr
      exact q H1 D' ps sm nD ⟨hD, pr, nd, fun z => (fr _ z).2 rfl⟩ fun p hp => (fr p hp).1
end
end Sk
namespace Sk
open PySem PySem.Spec PyProof.Rows L2 Sn LamX NdefX
def spSpA (K : PySem.W.Frag) : Sp := fun vs H Q _ => ∃ v n, vs = [v] ∧ n ∈ ["int", "bool", "str"] ∧ (∀ H', TyX K H' v (.type n)) ∧ ∀ H', Same H H' → Q .non H'
def spSpC (K : PySem.W.Frag) : Sp := fun vs H Q _ => ∃ v c, vs = [v] ∧ CellV K H v c ∧ ∀ H', Same H H' → Q .non H'
def spSpF (K : PySem.W.Frag) : Sp := fun vs H Q _ => ∃ v d, vs = [v] ∧ Fl K H v d ∧ ∀ H', Same H H' → Q .non H'
def spSpL (K : PySem.W.Frag) : Sp := fun vs H Q _ => ∃ a xs ds, vs = [.ref a] ∧ H a = some (.lst xs) ∧ Fls K H xs ds ∧ xs.length ≤ 1000 ∧ ∀ H', Kb a H H' → Q .non H'
theorem any_lt {K : PySem.W.Frag} {n : String} {b1 b2 : Bool} (h1 : kitB n "list" = some b1) (h2 : kitB n "tuple" = some b2) : PySem.W.kitAny K (.type n) [.type "list", .type "tuple"] = some (b1 || b2) :=
  kitAny_cons (kit_ty h1) (fun e => kitAny_cons (kit_ty h2) (fun e2 => by rw [e, e2]; exact kitAny_nil) (fun e2 => by rw [e2, Bool.or_true])) (fun e => by rw [e, Bool.true_or])
section
variable {P : Program} {wl : World} {K : PySem.W.Frag} {mg : Str → Option Value} {base : Heap}
theorem ok_law_spA (D : Dfn K mg "_law_spoilt" s__law_spoilt) (B : Bi mg) : Cal P wl K mg base CX0 1 "_law_spoilt" ["_law_found"] (spSpA K) := by
  have c_law_spoilt : Cal P wl K mg base CX0 0 "_law_spoilt" ["_law_found"] (fun _ _ _ _ => False) := D.cal0 bn__law_spoilt
  refine D.cal sc__law_spoilt bn__law_spoilt (fun vs H Q E h => ?_) (fun f cdv A outer s H vs Q E hr h => ?_)
  · obtain ⟨v, n, rfl, _⟩ := h
    rfl
  · obtain ⟨v, n, rfl, hn, ty, q⟩ := h
    refine ⟨_, (pss_cons (ps_if (pt_val (pe_callB call_isiT (by rfl) B.isinstance (by decide +kernel) (pa_cons (pv 0) (pa_cons (pe_tup (pa_cons (pe_bltn (v := .ty "list") (by rfl) B.list (by decide +kernel) rfl) (pa_cons (pe_bltn (v := .ty "tuple") (by rfl) B.tuple (by decide +kernel) rfl) pa_nil))) pa_nil))))
 (pss_one (ps_for PassesOwn.never rfl (PI.or (piL K (pv 0)) (piT K (pv 0))) (pg_name (i := 1) sc__law_spoilt.nd rfl (.inl rfl))
 (pss_one (ps_expr (pcall c_law_spoilt (hr.mono (by omega)) (by rfl) pass0 (pa_cons (pv 1) pa_nil)))))) pss_nil)
 (pss_one (ps_if (pt_val (pe_callB (isiK K) (by rfl) B.isinstance (by decide +kernel) (pa_cons (pv 0) (pa_cons (pe_bltn (v := .ty "list") (by rfl) B.list (by decide +kernel) rfl) pa_nil))))
 (pss_one (ps_expr (pe_bm PySem.F.plainAttrs_list PySem.F.slot_list_append PySem.F.type_list_append mt_append (pv 0) (pa_cons (pe_tup pa_nil) pa_nil)))) pss_nil))), ?_⟩
    refine ⟨v, rfl, by show 2 ≤ sizeLine; decide, fun tp ntp => ?_⟩
    refine ⟨v, tp, [.ty "list", .ty "tuple"], .type n, [.type "list", .type "tuple"], false, rfl, upd_same, .cons (.ty "list") (.cons (.ty "tuple") .nil), ty _, any_lt (kl_atom n hn) (kt_atom n hn), false, rfl, iteF ?_⟩
    exact ⟨v, rfl, v, .ty "list", .type n, _, false, rfl, .ty "list", ty _, kit_ty (kl_atom n hn), false, rfl, iteF (q _ (same_new ntp))⟩
theorem ok_law_spC (D : Dfn K mg "_law_spoilt" s__law_spoilt) (B : Bi mg) (c_law_spoilt : Cal P wl K mg base CX0 1 "_law_spoilt" ["_law_found"] (spSpA K)) : Cal P wl K mg base CX0 2 "_law_spoilt" ["_law_found"] (spSpC K) := by
  refine D.cal sc__law_spoilt bn__law_spoilt (fun vs H Q E h => ?_) (fun f cdv A outer s H vs Q E hr h => ?_)
  · obtain ⟨v, c, rfl, _⟩ := h
    rfl
  · obtain ⟨v, c, rfl, ⟨t, rfl, ht⟩, q⟩ := h
    refine ⟨_, (pss_cons (ps_if (pt_val (pe_callB call_isiT (by rfl) B.isinstance (by decide +kernel) (pa_cons (pv 0) (pa_cons (pe_tup (pa_cons (pe_bltn (v := .ty "list") (by rfl) B.list (by decide +kernel) rfl) (pa_cons (pe_bltn (v := .ty "tuple") (by rfl) B.tuple (by decide +kernel) rfl) pa_nil))) pa_nil))))
 (pss_one (ps_for PassesOwn.never rfl (PI.or (piL K (pv 0)) (piT K (pv 0))) (pg_name (i := 1) sc__law_spoilt.nd rfl (.inl rfl))
 (pss_one (ps_expr (pcall c_law_spoilt (hr.mono (by omega)) (by rfl) pass0 (pa_cons (pv 1) pa_nil)))))) pss_nil)
 (pss_one (ps_if (pt_val (pe_callB (isiK K) (by rfl) B.isinstance (by decide +kernel) (pa_cons (pv 0) (pa_cons (pe_bltn (v := .ty "list") (by rfl) B.list (by decide +kernel) rfl) pa_nil))))
 (pss_one (ps_expr (pe_bm PySem.F.plainAttrs_list PySem.F.slot_list_append PySem.F.type_list_append mt_append (pv 0) (pa_cons (pe_tup pa_nil) pa_nil)))) pss_nil))), ?_⟩
    refine ⟨.ref t, rfl, by show 2 ≤ sizeLine; decide, fun tp ntp => ?_⟩
    have s0 := same_new (o := .tup [.ty "list", .ty "tuple"]) ntp
    refine ⟨.ref t, tp, [.ty "list", .ty "tuple"], .type "tuple", [.type "list", .type "tuple"], true, rfl, upd_same, .cons (.ty "list") (.cons (.ty "tuple") .nil), tyx_tup (Same.sqt s0 ht), any_lt (b1 := false) (b2 := true) (by decide +kernel) (by decide +kernel), true, rfl, iteT ?_⟩
    refine .inr ⟨.ref t, rfl, t, rfl, ⟨_, Same.sqt s0 ht⟩, for_it (walk_tup (xs := [.int c.1, .int c.2])) (fun i σ H' => Same H H' ∧ ∃ y1, σ = [some (.ref t), y1]) ⟨s0, none, rfl⟩ (fun i σ H' _ pv => Same.sqt pv.1 ht) (fun i x σ H1o H1 hi pv y => ?_) fun σ H1 pv => ?_⟩
    · obtain ⟨rfl, hx⟩ := y
      obtain ⟨sm, y1, rfl⟩ := pv
      obtain ⟨n, rfl⟩ : ∃ n : Int, x = .int n := by
        match i, hi with
        | 0, _ => exact ⟨c.1, (Option.some.inj hx).symm⟩
        | 1, _ => exact ⟨c.2, (Option.some.inj hx).symm⟩
      exact ⟨.int n, rfl, .int n, "int", rfl, by decide, fun H' => .base (.int n), fun H2 s2 => ⟨sm.trans s2, _, rfl⟩⟩
    · obtain ⟨sm, y1, rfl⟩ := pv
      exact ⟨.ref t, rfl, .ref t, .ty "list", .type "tuple", _, false, rfl, .ty "list", tyx_tup (Same.sqt sm ht), kit_ty (by decide +kernel), false, rfl, iteF (q _ sm)⟩
theorem ok_law_spF (cA : Cal P wl K mg base CX0 1 "_law_spoilt" ["_law_found"] (spSpA K)) (cC : Cal P wl K mg base CX0 2 "_law_spoilt" ["_law_found"] (spSpC K)) : Cal P wl K mg base CX0 2 "_law_spoilt" ["_law_found"] (spSpF K) := by
  refine ((cA.mono (by decide)).or cC).imp fun vs H Q E h => ?_
  obtain ⟨v, d, rfl, f, q⟩ := h
  rcases f with ⟨i, rfl, rfl⟩ | ⟨b, rfl, rfl⟩ | ⟨r, rfl, rfl⟩ | ⟨c, h, rfl⟩
  · exact .inl ⟨_, "int", rfl, by decide, fun _ => .base (.int i), q⟩
  · exact .inl ⟨_, "bool", rfl, by decide, fun _ => .base (.bl b), q⟩
  · exact .inl ⟨_, "str", rfl, by decide, fun _ => .base (.str _), q⟩
  · exact .inr ⟨v, c, rfl, h, q⟩
theorem ok_law_spL (D : Dfn K mg "_law_spoilt" s__law_spoilt) (B : Bi mg) (c_law_spoilt : Cal P wl K mg base CX0 2 "_law_spoilt" ["_law_found"] (spSpF K)) : Cal P wl K mg base CX0 3 "_law_spoilt" ["_law_found"] (spSpL K) := by
  refine D.cal sc__law_spoilt bn__law_spoilt (fun vs H Q E h => ?_) (fun f cdv A outer s H vs Q E hr h => ?_)
  · obtain ⟨a, xs, ds, rfl, _⟩ := h
    rfl
  · obtain ⟨a, xs, ds, rfl, ha, fs, hl, q⟩ := h
    refine ⟨_, (pss_cons (ps_if (pt_val (pe_callB call_isiT (by rfl) B.isinstance (by decide +kernel) (pa_cons (pv 0) (pa_cons (pe_tup (pa_cons (pe_bltn (v := .ty "list") (by rfl) B.list (by decide +kernel) rfl) (pa_cons (pe_bltn (v := .ty "tuple") (by rfl) B.tuple (by decide +kernel) rfl) pa_nil))) pa_nil))))
 (pss_one (ps_for PassesOwn.never rfl (PI.or (piL K (pv 0)) (piT K (pv 0))) (pg_name (i := 1) sc__law_spoilt.nd rfl (.inl rfl))
 (pss_one (ps_expr (pcall c_law_spoilt (hr.mono (by omega)) (by rfl) pass0 (pa_cons (pv 1) pa_nil)))))) pss_nil)
 (pss_one (ps_if (pt_val (pe_callB (isiK K) (by rfl) B.isinstance (by decide +kernel) (pa_cons (pv 0) (pa_cons (pe_bltn (v := .ty "list") (by rfl) B.list (by decide +kernel) rfl) pa_nil))))
 (pss_one (ps_expr (pe_bm PySem.F.plainAttrs_list PySem.F.slot_list_append PySem.F.type_list_append mt_append (pv 0) (pa_cons (pe_tup pa_nil) pa_nil)))) pss_nil))), ?_⟩
    refine ⟨.ref a, rfl, by show 2 ≤ sizeLine; decide, fun tp ntp => ?_⟩
    have s0 := same_new (o := .tup [.ty "list", .ty "tuple"]) ntp
    refine ⟨.ref a, tp, [.ty "list", .ty "tuple"], .type "list", [.type "list", .type "tuple"], true, rfl, upd_same, .cons (.ty "list") (.cons (.ty "tuple") .nil), tyx_list (s0.seq (SqL.of ha)), any_lt (b1 := true) (b2 := false) (by decide +kernel) (by decide +kernel), true, rfl, iteT ?_⟩
    refine .inl ⟨.ref a, rfl, a, rfl, ⟨_, s0.seq (SqL.of ha)⟩, for_it (walk_list (xs := xs)) (fun i σ H' => Same H H' ∧ ∃ y1, σ = [some (.ref a), y1]) ⟨s0, none, rfl⟩ (fun i σ H' _ pv => pv.1.seq (SqL.of ha)) (fun i x σ H1o H1 hi pv y => ?_) fun σ H1 pv => ?_⟩
    · obtain ⟨rfl, hx⟩ := y
      obtain ⟨sm, y1, rfl⟩ := pv
      obtain ⟨d, hd, f⟩ := Paired.get fs hx
      exact ⟨x, rfl, x, d, rfl, f.le (TupLe.of sm), fun H2 s2 => ⟨sm.trans s2, _, rfl⟩⟩
    · obtain ⟨sm, y1, rfl⟩ := pv
      refine ⟨.ref a, rfl, .ref a, .ty "list", .type "list", _, true, rfl, .ty "list", tyx_list (sm.seq (SqL.of ha)), kit_ty (by decide +kernel), true, rfl, iteT ?_⟩
      refine ⟨.ref a, rfl, .inl ⟨rfl, _, SqL.of (sm _ _ ha)⟩, Nat.zero_le _, fun e ne => ?_⟩
      have se := same_new (o := .tup []) ne
      exact ⟨a, xs, .ref e, rfl, rfl, se _ _ (sm _ _ ha), Nat.lt_of_le_of_lt hl (by decide), q _ (Kb.upd (Kb.of (sm.trans se)))⟩
theorem ok_law_spoilt (cF : Cal P wl K mg base CX0 2 "_law_spoilt" ["_law_found"] (spSpF K)) (cL : Cal P wl K mg base CX0 3 "_law_spoilt" ["_law_found"] (spSpL K)) : Cal P wl K mg base CX0 3 "_law_spoilt" ["_law_found"] (spSpoilt K) :=
  ((cF.mono (by decide)).or cL).imp fun vs H Q E h => h
end
end Sk
namespace Sk
open PySem PySem.Spec PyProof.Rows L2 Sn LamX NdefX
theorem eqv_nil (ds : List PyData) : PyData.eqv (.list ds) (.list []) = decide (ds = []) := by
  cases ds with
  | nil => simp only [PyData.eqv, PyData.eqvAll]; rfl
  | cons d ds => simp only [PyData.eqv, PyData.eqvAll]; rfl
section
variable {P : Program} {wl : World} {K : PySem.W.Frag} {mg : Str → Option Value} {base : Heap}
theorem ok_law_put (D : Dfn K mg "_law_put" s__law_put) (B : Bi mg) (c_law_deep : Cal P wl K mg base CX0 3 "_law_deep" ["_law_thing"] (spDeepR K)) : Cal P wl K mg base CX0 4 "_law_put" ["_law_handed", "_law_some"] (spPut K) := by
  refine D.cal sc__law_put bn__law_put (fun vs H Q E h => ?_) (fun f cdv A outer s H vs Q E hr h => ?_)
  · obtain ⟨hp, ps, rs0, v, rs, Hb, rfl, _⟩ := h
    rfl
  · obtain ⟨hp, ps, rs0, v, rs, Hb, rfl, hd, sb, ⟨la, xs, rfl, ha, fx⟩, nb, hln, sm1, sm0, q⟩ := h
    refine ⟨_, (pss_one (ps_for PassesOwn.never rfl (pi_zip (by rfl) B.zip (pa_cons (pv 0) (pa_cons (pv 1) pa_nil))) (pg_tup rfl (pgs_cons (pg_name (i := 2) sc__law_put.nd rfl (.inl rfl)) (pgs_cons (pg_name (i := 3) sc__law_put.nd rfl (.inl rfl)) pgs_nil)))
 (pss_cons (ps_while PassesOwn.never (pt_cmpR (neDK K hr.units) (pv 2) (pe_lst pa_nil) (nomark _))
 (pss_one (ps_expr (pe_bm0 PySem.F.plainAttrs_list PySem.F.slot_list_pop PySem.F.type_list_pop mt_pop (pv 2)))))
 (pss_one (ps_expr (pe_bm PySem.F.plainAttrs_list PySem.F.slot_list_extend PySem.F.type_list_extend mt_extend (pv 2) (pa_cons (pcall c_law_deep (hr.mono (by omega)) (by rfl) pass0 (pa_cons (pv 3) pa_nil)) pa_nil))))))), ?_⟩
    have lx : xs.length = rs.length := fx.length
    have l0 : ps.length = rs0.length := hd.row.length
    refine ⟨.ref hp, rfl, .ref la, rfl, hp, la, ps.map V.ref, xs, rfl, SqL.of hd.top, sb.seq ha, for_it (walk_zip (n := ps.length) (by rw [List.length_map, lx, hln, Nat.min_self])) (fun i σ H' => Same Hb H' ∧ H' hp = some (.lst (ps.map V.ref)) ∧ (∀ (j : Nat) p, ps[j]? = some p → ∃ zs ds, H' p = some (.lst zs) ∧ Fls K H' zs ds ∧ (if j < i then rs[j]? else rs0[j]?) = some ds) ∧ ∃ y2 y3, σ = [some (.ref hp), some (.ref la), y2, y3])
      ⟨sb, hd.top, fun j p e => ?_, none, none, rfl⟩ (fun i σ H' _ pv => ⟨SqL.of pv.2.1, pv.1.seq ha⟩) (fun i x σ H1o H1 hi pv y => ?_) fun σ H1 pv => ?_⟩
    · obtain ⟨ds, h1, zs, h2, h3⟩ := Paired.get hd.row e
      exact ⟨zs, ds, h2, h3, by rw [if_neg (Nat.not_lt_zero j)]; exact h1⟩
    · obtain ⟨T, x1, x2, rfl, nT, rfl, g1, g2⟩ := y
      obtain ⟨s1, top, rows, y2, y3, rfl⟩ := pv
      obtain ⟨p, hpi⟩ : ∃ p, ps[i]? = some p := ⟨_, List.getElem?_eq_getElem hi⟩
      have e1 : x1 = .ref p := by
        have g1 : (ps.map V.ref)[i]? = some x1 := g1
        rw [List.getElem?_map, hpi] at g1
        exact (Option.some.inj g1).symm
      subst e1
      obtain ⟨ds2, hds2, row2⟩ := Paired.get fx g2
      have pm : p ∈ ps := List.mem_of_getElem? hpi
      have sT := same_new (o := .tup [.ref p, x2]) nT
      have I0 : PutI K Hb hp ps rs rs0 i H1o := ⟨s1, top, fun j p' e n => by
        obtain ⟨zs, ds, h1, h2, h3⟩ := rows j p' e
        exact ⟨zs, ds, h1, h2, h3⟩⟩
      obtain ⟨z0, d0, hz0, fz0, hd0⟩ := rows i p hpi
      rw [if_neg (Nat.lt_irrefl i)] at hd0
      have m0 : d0 ∈ rs0 := List.mem_of_getElem? hd0
      refine ⟨T, [.ref p, x2], rfl, SqT.of upd_same, rfl, .ref p, [x2], rfl, x2, [], rfl, rfl, ?_⟩
      refine ⟨fun m σ H' => PutI K Hb hp ps rs rs0 i H' ∧ ∃ zs, H' p = some (.lst zs) ∧ Fls K H' zs (d0.take zs.length) ∧ zs.length = m ∧ m ≤ d0.length ∧ σ = [some (.ref hp), some (.ref la), some (.ref p), some x2], ⟨z0.length, I0.same sT, z0, sT _ _ hz0, ?_, rfl, by rw [fz0.length]; exact Nat.le_refl _, rfl⟩, fun m σ H2 hW => ?_⟩
      · rw [fz0.length, List.take_length]
        exact fz0.le (TupLe.of sT)
      obtain ⟨I2, zs, hz, fz, rfl, hle, rfl⟩ := hW
      refine ⟨.ref p, rfl, Nat.zero_le _, fun u nu => ?_⟩
      have su := same_new (o := .lst []) nu
      refine ⟨.list (d0.take zs.length), .list [], .lst (SqL.of (su _ _ hz)) (fz.le (TupLe.of su)).dp, .lst (SqL.of upd_same) .nil, (shp_list fun d hd => (sm0.2 d0 m0).2 d (List.mem_of_mem_take hd)).ok, (shp_list (n := 2) fun d hd => absurd hd List.not_mem_nil).ok, _, rfl, ?_⟩
      rw [eqv_nil]
      by_cases hn : zs = []
      · subst hn
        rw [List.length_nil, List.take_zero, decide_eq_true rfl]
        refine iteF ?_
        have I3 := I2.same su
        refine ⟨.ref p, rfl, .inl ⟨rfl, _, SqL.of (su _ _ hz)⟩, x2, rfl, x2, ds2, rfl, row2.same I3.sb, (sm1.2 ds2 (List.mem_of_getElem? hds2)).1, fun H4 w4 ys s4 nw hw fw => ?_⟩
        have hz4 := s4 _ _ (su _ _ hz)
        have lw : ys.length ≤ 1000 := by rw [fw.length]; exact (sm1.2 ds2 (List.mem_of_getElem? hds2)).1
        refine ⟨p, w4, [], ys, rfl, rfl, hz4, hw, by rw [List.length_nil, Nat.zero_add]; exact small_line (by omega), ?_⟩
        have I5 := (I3.same s4).upd (o := .lst ([] ++ ys)) hpi hd.nd hd.no (nb p pm) hz4
        refine ⟨I5.sb, I5.top, fun j p' e => ?_, _, _, rfl⟩
        by_cases hj : j = i
        · subst hj
          rw [hpi] at e
          cases e
          exact ⟨ys, ds2, upd_same, fw.le (TupLe.upd hz4 (TupLe.refl _)), by rw [if_pos (Nat.lt_succ_self j)]; exact hds2⟩
        · obtain ⟨zs', ds', h1, h2, h3⟩ := I5.row j p' e hj
          refine ⟨zs', ds', h1, h2, ?_⟩
          rw [← h3]
          by_cases hlt : j < i
          · rw [if_pos hlt, if_pos (by omega)]
          · rw [if_neg hlt, if_neg (by omega)]
      · have hne : d0.take zs.length ≠ [] := fun z => by
          have := fz.length
          rw [z] at this
          exact hn (List.length_eq_zero_iff.mp this)
        rw [decide_eq_false hne]
        have hpos : 0 < zs.length := List.length_pos_iff.mpr hn
        refine iteT ⟨fun σ' H' => PutI K Hb hp ps rs rs0 i H' ∧ ∃ zs', H' p = some (.lst zs') ∧ Fls K H' zs' (d0.take zs'.length) ∧ zs'.length = zs.length - 1 ∧ σ' = [some (.ref hp), some (.ref la), some (.ref p), some x2], fun σ' H' hN => ?_, ?_⟩
        · obtain ⟨a1, zs', a2, a3, a4, a5⟩ := hN
          exact ⟨zs.length - 1, by omega, a1, zs', a2, a3, a4, by omega, a5⟩
        · have hz2 := su _ _ hz
          refine ⟨.ref p, rfl, .inl ⟨rfl, _, SqL.of hz2⟩, p, zs, zs[zs.length - 1], rfl, rfl, hz2, List.getElem?_eq_getElem (by omega), ?_⟩
          refine ⟨(I2.same su).upd (o := .lst zs.dropLast) hpi hd.nd hd.no (nb p pm) hz2, zs.dropLast, upd_same, ?_, List.length_dropLast, rfl⟩
          have f2 := (fz.le (TupLe.of su)).le (TupLe.upd (o := .lst zs.dropLast) hz2 (TupLe.refl _))
          have f3 := Paired.take (zs.length - 1) f2
          rw [List.take_take, Nat.min_eq_left (by omega)] at f3
          rw [← List.dropLast_eq_take] at f3
          rw [List.length_dropLast]
          exact f3
    · obtain ⟨s1, top, rows, y2, y3, rfl⟩ := pv
      refine q H1 s1 ⟨top, paired_get hln.symm fun j p ds e1 e2 => ?_, hd.nd, hd.no⟩
      obtain ⟨zs, ds', h1, h2, h3⟩ := rows j p e1
      have hj : j < ps.length := (List.getElem?_eq_some_iff.mp e1).1
      rw [if_pos hj, e2] at h3
      cases h3
      exact ⟨zs, h1, h2⟩
end
end Sk
namespace Sk
open PySem PySem.Spec PyProof.Rows L2 Sn LamX NdefX
theorem eqv_same {d : PyData} (h : SeqAt.shaped d = true) : PyData.eqv d d = true := SeqAt.eqv_refl d (SeqAt.canLay_of_shaped h)
section
variable {P : Program} {wl : World} {K : PySem.W.Frag} {mg : Str → Option Value} {base : Heap}
theorem ok_law_door_right (D : Dfn K mg "_law_door_right" s__law_door_right) (B : Bi mg) (c_law_deep : Cal P wl K mg base CX0 4 "_law_deep" ["_law_thing"] (spDeepL K)) (c_law_spoilt : Cal P wl K mg base CX0 3 "_law_spoilt" ["_law_found"] (spSpoilt K)) (c_law_put : Cal P wl K mg base CX0 4 "_law_put" ["_law_handed", "_law_some"] (spPut K)) :
    CalG P wl K mg base (L2N.CX P wl) 16 "_law_door_right" ["_law_ask", "_law_lists", "_law_others"] (spDoor P wl K mg base) := by
  refine D.calGX sc__law_door_right bn__law_door_right (fun vs H Q E h => ?_) (fun f0 cdv A outer s H vs Q E hr gd h => ?_)
  · obtain ⟨f, v, u, rs, us, r, o, rfl, _⟩ := h
    rfl
  · obtain ⟨f, v, u, rs, us, r, o, rfl, ft, hv, hu, hln, sm1, sm2, shr, sho, t1, t2, q⟩ := h
    refine ⟨_, (pss_cons (ps_set (i := 3) sc__law_door_right.nd rfl (.inl rfl) (pcall c_law_deep (hr.mono (by omega)) (by rfl) pass0 (pa_cons (pv 1) pa_nil)))
 (pss_cons (ps_asg (pe_askK P wl K mg base (k := 15) (i := 0) (hr.mono (by omega)) (L2N.takes_of rfl rfl rfl rfl) rfl (.inl rfl) (pa_cons (pv 3) pa_nil)) (pg_tup rfl (pgs_cons (pg_name (i := 4) sc__law_door_right.nd rfl (.inl rfl)) (pgs_cons (pg_name (i := 5) sc__law_door_right.nd rfl (.inl rfl)) pgs_nil))))
 (pss_cons (ps_par (i := 6) (j := 7) (by rfl) sc__law_door_right.nd rfl rfl (by decide) rfl rfl (pa_cons (pe_callTy (call_strD gd hr) (by rfl) B.str (by decide +kernel) (pa_cons (pv 4) pa_nil)) (pa_cons (pe_callTy (call_strD gd hr) (by rfl) B.str (by decide +kernel) (pa_cons (pe_ix (ixT K) (pe_askK P wl K mg base (k := 15) (i := 0) (hr.mono (by omega)) (L2N.takes_of rfl rfl rfl rfl) rfl (.inl rfl) (pa_cons (pcall c_law_deep (hr.mono (by omega)) (by rfl) pass0 (pa_cons (pv 2) pa_nil)) pa_nil)) pe_int (fun _ _ => rfl)) pa_nil)) pa_nil)) (by rfl))
 (pss_cons (ps_if (pt_cmpR (neDK K hr.units) (pv 3) (pv 1) (nomark _))
 (pss_one (ps_ret pe_bl)) pss_nil)
 (pss_cons (ps_expr (pcall c_law_spoilt (hr.mono (by omega)) (by rfl) pass0 (pa_cons (pv 5) pa_nil)))
 (pss_cons (ps_if (PW.pt (pw_or (pt_cmpR op_ne (pe_callTy (call_strD gd hr) (by rfl) B.str (by decide +kernel) (pa_cons (pe_ix (ixT K) (pe_askK P wl K mg base (k := 15) (i := 0) (hr.mono (by omega)) (L2N.takes_of rfl rfl rfl rfl) rfl (.inl rfl) (pa_cons (pv 3) pa_nil)) pe_int (fun _ _ => rfl)) pa_nil)) (pv 6) (nomark _)) (pw_or1 (pt_cmpR (neDK K hr.units) (pv 3) (pv 1) (nomark _)))))
 (pss_one (ps_ret pe_bl)) pss_nil)
 (pss_cons (ps_for (passes_of rfl) rfl (piT K (pe_tup (pa_cons (pe_tup (pa_cons (pv 2) (pa_cons (pv 7) pa_nil))) (pa_cons (pe_tup (pa_cons (pv 1) (pa_cons (pv 6) pa_nil))) pa_nil)))) (pg_tup rfl (pgs_cons (pg_name (i := 8) sc__law_door_right.nd rfl (.inl rfl)) (pgs_cons (pg_name (i := 9) sc__law_door_right.nd rfl (.inl rfl)) pgs_nil)))
 (pss_cons (ps_expr (pcall c_law_put (hr.mono (by omega)) (by rfl) pass0 (pa_cons (pv 3) (pa_cons (pv 8) pa_nil))))
 (pss_one (ps_if (PW.pt (pw_or (pt_cmpR op_ne (pe_callTy (call_strD gd hr) (by rfl) B.str (by decide +kernel) (pa_cons (pe_ix (ixT K) (pe_askK P wl K mg base (k := 15) (i := 0) (hr.mono (by omega)) (L2N.takes_of rfl rfl rfl rfl) rfl (.inl rfl) (pa_cons (pv 3) pa_nil)) pe_int (fun _ _ => rfl)) pa_nil)) (pv 9) (nomark _)) (pw_or1 (pt_cmpR (neDK K hr.units) (pv 3) (pv 8) (nomark _)))))
 (pss_one (ps_ret pe_bl)) pss_nil))))
 (pss_one (ps_ret pe_bl))))))))), ?_⟩
    refine ⟨v, rfl, v, rs, rfl, hv, by have := sm1.1; omega, fun ds m => (sm1.2 ds m).1, fun H1 hp ps s1 nhp hd nps => ?_⟩
    have lps : ps.length = rs.length := hd.row.length
    refine ⟨f, rfl, ft.same s1, .ref hp, rfl, ft.same s1, (t1 H1 hp s1 hd.rows).imp (Nat.le_refl _) (fun x H2 td => ?_) (fun _ _ _ z => z.elim)⟩
    obtain ⟨s2, t, fx, tl, zs, ds, rfl, ht, dfx, ntl, htl, fl, lz⟩ := td
    refine ⟨t, [.ref fx, .ref tl], rfl, ht, rfl, _, _, rfl, _, _, rfl, rfl, ?_⟩
    have s02 := s1.trans s2
    refine ⟨.ref fx, rfl, fx, r, rfl, dfx, shr.a, shr.b, shr.c, shr.e, ?_⟩
    refine ⟨f, rfl, ft.same s02, u, rfl, u, us, rfl, hu.same s02, by have := sm2.1; omega, fun ds m => (sm2.2 ds m).1, fun H3 ho po s3 nho hdo npo => ⟨ft.same (s02.trans s3), (t2 H3 ho (s02.trans s3) hdo.rows).imp (Nat.le_refl _) (fun x H4 td => ?_) (fun _ _ _ z => z.elim)⟩⟩
    obtain ⟨s4, t', fx', tl', zs', ds', rfl, ht', dfx', _⟩ := td
    refine ⟨t', _, 0, .ref fx', rfl, rfl, ht', atI_nat (j := 0) rfl, fx', o, rfl, dfx', sho.a, sho.b, sho.c, sho.e, ?_⟩
    refine ⟨_, _, rfl, ?_⟩
    have s24 := s3.trans s4
    have s04 := s02.trans s24
    have hd4 := hd.same (s2.trans s24)
    refine ⟨.ref hp, rfl, v, rfl, _, _, hd4.rows.dp, (hv.same s04).dp, sm1.all, sm1.all, _, rfl, ?_⟩
    rw [eqv_same sm1.all]
    refine iteF ?_
    refine ⟨.ref tl, rfl, .inr ⟨tl, zs, ds, rfl, s24 _ _ htl, fl.le (TupLe.of s24), lz, fun H5 k5 => ?_⟩⟩
    have n0 : H tl = none := s1.free ntl
    have s05 : Same H H5 := fun b ob e => k5 b ob (fun z => by rw [z, n0] at e; cases e) (s04 b ob e)
    have hd5 : HdAt K H5 hp ps rs := hd4.kb (fun z => by have e := hd.top; rw [z, ntl] at e; cases e) (fun m => by obtain ⟨ys, e⟩ := hd.lists tl m; rw [ntl] at e; cases e) (s24 _ _ htl) k5
    refine ⟨f, rfl, ft.same s05, .ref hp, rfl, ft.same s05, (t1 H5 hp s05 hd5.rows).imp (Nat.le_refl _) (fun x H6 td => ?_) (fun _ _ _ z => z.elim)⟩
    obtain ⟨s6, t6, fx6, _, _, _, rfl, ht6, dfx6, _⟩ := td
    refine ⟨t6, _, 0, .ref fx6, rfl, rfl, ht6, atI_nat (j := 0) rfl, fx6, r, rfl, dfx6, shr.a, shr.b, shr.c, shr.e, ?_⟩
    have s06 := s05.trans s6
    have hd6 := hd5.same s6
    refine ⟨.str r.shown, rfl, rfl, _, rfl, ?_⟩
    rw [decide_eq_true rfl]
    refine iteF ?_
    refine ⟨.ref hp, rfl, v, rfl, _, _, hd6.rows.dp, (hv.same s06).dp, sm1.all, sm1.all, _, rfl, ?_⟩
    rw [eqv_same sm1.all]
    refine iteF ?_
    refine ⟨u, rfl, .str o.shown, rfl, by show 2 ≤ sizeLine; decide, fun T1 n1 => ⟨v, rfl, .str r.shown, rfl, by show 2 ≤ sizeLine; decide, fun T2 n2 => ⟨by show 2 ≤ sizeLine; decide, fun T3 n3 => ?_⟩⟩⟩
    have a1 := same_new (o := .tup [u, .str o.shown]) n1
    have a2 := same_new (o := .tup [v, .str r.shown]) n2
    have a3 := same_new (o := .tup [.ref T1, .ref T2]) n3
    have q1 : SqT K _ T1 [u, .str o.shown] := Same.sqt (a2.trans a3) (SqT.of upd_same)
    have q2 : SqT K _ T2 [v, .str r.shown] := Same.sqt a3 (SqT.of upd_same)
    have q3 : SqT K _ T3 [.ref T1, .ref T2] := SqT.of (upd_same (H := upd (upd H6 T1 (.tup [u, .str o.shown])) T2 (.tup [v, .str r.shown])))
    refine ⟨T3, rfl, ⟨_, q3⟩, for_it (walk_tup (xs := [.ref T1, .ref T2])) (fun i σ H' => Same H H' ∧ SqT K H' T1 [u, .str o.shown] ∧ SqT K H' T2 [v, .str r.shown] ∧ SqT K H' T3 [.ref T1, .ref T2] ∧ (∃ rs', HdAt K H' hp ps rs' ∧ Small rs') ∧ ∃ y4 y5 y6 y7 y8 y9, σ = [some (.ref f), some v, some u, some (.ref hp), y4, y5, y6, y7, y8, y9])
      ⟨s06.trans (a1.trans (a2.trans a3)), q1, q2, q3, ⟨rs, hd6.same (a1.trans (a2.trans a3)), sm1⟩, _, _, _, _, _, _, rfl⟩ (fun i σ H' _ pv => pv.2.2.2.1) (fun i x σ H7o H7 hi pv y => ?_) fun σ H7 pv => ?_⟩
    · obtain ⟨rfl, hx⟩ := y
      obtain ⟨s7, p1, p2, p3, ⟨rs', hd7, sm7⟩, y4, y5, y6, y7, y8, y9, rfl⟩ := pv
      obtain ⟨Ti, sv, rr, rws, rfl, hTi, hsv, tl7, smw, shw, lw⟩ : ∃ Ti sv rr rws, x = .ref Ti ∧ SqT K H7 Ti [sv, .str rr.shown] ∧ Rows K H sv rws ∧ Tells P wl K mg base f rws rr H ∧ Small rws ∧ Shown rr ∧ rws.length = ps.length := by
        match i, hi with
        | 0, _ => exact ⟨T1, u, o, us, (Option.some.inj hx).symm, p1, hu, t2, sm2, sho, by rw [hln, lps]⟩
        | 1, _ => exact ⟨T2, v, r, rs, (Option.some.inj hx).symm, p2, hv, t1, sm1, shr, lps.symm⟩
      refine ⟨Ti, _, rfl, hTi, rfl, _, _, rfl, _, _, rfl, rfl, ?_⟩
      have hl7 := hd7.lists
      refine ⟨.ref hp, rfl, sv, rfl, hp, ps, rs', sv, rws, rm ps H7, rfl, hd7, rm_same, hsv.same (same_rm s7 nps), (fun p m => rm_none m), lw, smw, sm7, fun H8 s8 hd8 => ?_⟩
      have s08 : Same H H8 := (same_rm s7 nps).trans s8
      refine ⟨f, rfl, ft.same s08, .ref hp, rfl, ft.same s08, (tl7 H8 hp s08 hd8.rows).imp (Nat.le_refl _) (fun x H9 td => ?_) (fun _ _ _ z => z.elim)⟩
      obtain ⟨s9, t9, fx9, _, _, _, rfl, ht9, dfx9, _⟩ := td
      refine ⟨t9, _, 0, .ref fx9, rfl, rfl, ht9, atI_nat (j := 0) rfl, fx9, rr, rfl, dfx9, shw.a, shw.b, shw.c, shw.e, ?_⟩
      refine ⟨.str rr.shown, rfl, rfl, _, rfl, ?_⟩
      rw [decide_eq_true rfl]
      refine iteF ?_
      have s09 := s08.trans s9
      have hd9 := hd8.same s9
      refine ⟨.ref hp, rfl, sv, rfl, _, _, hd9.rows.dp, (hsv.same s09).dp, smw.all, smw.all, _, rfl, ?_⟩
      rw [eqv_same smw.all]
      have s79 := s8.trans s9
      exact iteF ⟨s09, Same.sqt s79 (rm_tup hl7 p1), Same.sqt s79 (rm_tup hl7 p2), Same.sqt s79 (rm_tup hl7 p3), ⟨rws, hd9, smw⟩, _, _, _, _, _, _, rfl⟩
    · obtain ⟨s7, _, _, _, _, y4, y5, y6, y7, y8, y9, rfl⟩ := pv
      exact q H7 s7
end
end Sk
namespace Sk
open PySem PySem.Spec PyProof.Rows L2 Sn LamX NdefX
theorem passF {X : Cx} : Passes (L2N.CX X.prog X.w) X (fun _ _ _ => False) := fun _ _ _ _ _ _ _ h => by
  obtain ⟨_, _, _, _, _, _, _, _, _, _, _, _, q⟩ := h
  exact q.elim
def spTwo (K : PySem.W.Frag) : Sp := fun vs H Q _ => ∃ v, vs = [v] ∧ ∀ H' t, Same H H' → SqT K H' t [v, v] → Q (.ref t) H'
def spDoors (P : Program) (w : World) (K : PySem.W.Frag) (mg : Str → Option Value) (base : Heap) : Sp := fun vs H Q _ => ∃ (la : Addr) (fs : List Addr) (v u : V) (rs us : List (List PyData)), vs = [.ref la, v, u] ∧ SqL K H la (fs.map V.ref) ∧ fs.length ≤ 1000 ∧ Rows K H v rs ∧ Rows K H u us ∧ us.length = rs.length ∧ Small rs ∧ Small us ∧
  (∀ f ∈ fs, FnTy K H f ∧ ∃ r o, Shown r ∧ Shown o ∧ Tells P w K mg base f rs r H ∧ Tells P w K mg base f us o H) ∧ ∀ H', Same H H' → Q (.bl true) H'
def jdD (F : List (List Nat)) (h w : Nat) (wd : List Nat) : PyData := .list [.bool (!decide (snakesOn F h w wd [] = [])), .bool true]
def spLJudged (K : PySem.W.Frag) : Sp := fun vs H Q _ => ∃ a F h w wd, vs = [.ref a, tv wd] ∧ FieldAt K H a F h w ∧ WordOk wd ∧ ∀ v H', Told K (jdD F h w wd) H v H' → Q v H'
section
variable {P : Program} {wl : World} {K : PySem.W.Frag} {mg : Str → Option Value} {base : Heap} {C_Found C_Stops : Addr}
theorem ok_law_two (D : Dfn K mg "_law_two" s__law_two) (B : Bi mg) : Cal P wl K mg base CX0 1 "_law_two" ["_law_found"] (spTwo K) := by
  refine D.cal sc__law_two bn__law_two (fun vs H Q E h => ?_) (fun f cdv A outer s H vs Q E hr h => ?_)
  · obtain ⟨v, rfl, _⟩ := h
    rfl
  · obtain ⟨v, rfl, q⟩ := h
    refine ⟨_, (pss_one (ps_ret (pe_tup (pa_cons (pv 0) (pa_cons (pv 0) pa_nil))))), ?_⟩
    exact ⟨v, rfl, v, rfl, by show 2 ≤ sizeLine; decide, fun t nt => q _ t (same_new nt) (SqT.of upd_same)⟩
theorem ok_law_doors_right (D : Dfn K mg "_law_doors_right" s__law_doors_right) (B : Bi mg) (c_law_door_right : CalG P wl K mg base (L2N.CX P wl) 16 "_law_door_right" ["_law_ask", "_law_lists", "_law_others"] (spDoor P wl K mg base)) :
    CalG P wl K mg base (L2N.CX P wl) 17 "_law_doors_right" ["_law_asks", "_law_lists", "_law_others"] (spDoors P wl K mg base) := by
  refine D.calGX sc__law_doors_right bn__law_doors_right (fun vs H Q E h => ?_) (fun f0 cdv A outer s H vs Q E hr gd h => ?_)
  · obtain ⟨la, fs, v, u, rs, us, rfl, _⟩ := h
    rfl
  · obtain ⟨la, fs, v, u, rs, us, rfl, ha, lf, hv, hu, hln, sm1, sm2, hf, q⟩ := h
    refine ⟨_, (pss_one (ps_ret (pe_callB (allK K rfl) (by rfl) B.all (by decide +kernel) (pa_cons (pe_lc (own := [("_law_ask", 3)]) (g := gName 3) (tt := tYes) (by rfl) sc__law_doors_right.nd (piL K (pv 0)) (blkOk_by (own := [("_law_ask", 3)]) (N := ["_law_asks", "_law_lists", "_law_others", "_law_ask"]) (sc := defScope s__law_doors_right) (by decide +kernel)) (fun _ _ _ _ _ => (pg_name (i := 3) sc__law_doors_right.nd rfl (Or.inl rfl))) (fun _ _ _ _ _ => pts_nil) (fun _ _ _ _ _ => (pcallG c_law_door_right (hr.mono (by omega)) gd (by rfl) passF (pa_cons (pv 3) (pa_cons (pv 1) (pa_cons (pv 2) pa_nil)))))) pa_nil)))), ?_⟩
    refine ⟨.ref la, rfl, la, rfl, ⟨_, ha⟩, lc_val (walk_list (xs := fs.map V.ref)) (by rw [List.length_map]; exact small_line (by omega)) (fun _ => .bl true) (fun H1 s1 => s1.seq ha) (fun D' i x H1o H1 Qe nD hi sm hy y qe => ?_) fun D' H1 nD sm hD => ?_⟩
    · obtain ⟨rfl, hx⟩ := y
      obtain ⟨fa, hfa, rfl⟩ : ∃ fa ∈ fs, x = .ref fa := by
        obtain ⟨fa, h1, h2⟩ := List.mem_map.mp (List.mem_of_getElem? hx)
        exact ⟨fa, h1, h2.symm⟩
      obtain ⟨ft, r, o, shr, sho, t1, t2⟩ := hf fa hfa
      exact ⟨rfl, .ref fa, rfl, v, rfl, u, rfl, fa, v, u, rs, us, r, o, rfl, ft.same sm, hv.same sm, hu.same sm, hln, sm1, sm2, shr, sho, t1.same sm, t2.same sm, fun H2 s2 => qe _ s2⟩
    · refine ⟨D', (List.range (fs.map V.ref).length).map fun _ => true, rfl, .inl (.inl (by rw [hD, List.map_map]; rfl)), ?_⟩
      rw [all_const]
      exact q H1 sm
theorem ok_law_judged (D : Dfn K mg "_law_judged" s__law_judged) (B : Bi mg) (k_Found : Kls K mg "Found" C_Found) (k_Stops : Kls K mg "Stops" C_Stops) (n_Found : NoAttr K C_Found "cells") (G0 : KlG K) (kFF : PySem.W.kitOne K (.ref C_Found) (.ref C_Found) = some true) (kSF : PySem.W.kitOne K (.ref C_Stops) (.ref C_Found) = some false)
    (c_judged : Cal P wl K mg base CX0 11 "judged" ["field", "word"] (spJudged K C_Found C_Stops)) (c_Found_shows : CalM P wl K mg base CX0 4 C_Found "shows" ["self", "field", "word"] (spFoundShows K C_Found)) (c_Stops_shows : CalM P wl K mg base CX0 11 C_Stops "shows" ["self", "field", "word"] (spStopsShows K C_Stops)) :
    Cal P wl K mg base CX0 12 "_law_judged" ["_law_field", "_law_word"] (spLJudged K) := by
  refine D.cal sc__law_judged bn__law_judged (fun vs H Q E h => ?_) (fun f cdv A outer s H vs Q E hr h => ?_)
  · obtain ⟨a, F, h, w, wd, rfl, _⟩ := h
    rfl
  · obtain ⟨a, F, h, w, wd, rfl, o, ow, q⟩ := h
    refine ⟨_, (pss_cons (ps_set (i := 2) sc__law_judged.nd rfl (.inl rfl) (pcall c_judged (hr.mono (by omega)) (by rfl) pass0 (pa_cons (pv 0) (pa_cons (pv 1) pa_nil))))
 (pss_one (ps_ret (pe_tup (pa_cons (pe_lst (pa_cons (pe_callB (isiK K) (by rfl) B.isinstance (by decide +kernel) (pa_cons (pv 2) (pa_cons (pe_glob (v := .ref C_Found) (by rfl) k_Found.g rfl) pa_nil))) (pa_cons (PE.or (pmeth c_Found_shows k_Found.cl (hr.mono (by omega)) pass0 (pv 2) (pa_cons (pe_callTy (listOf K) (by rfl) B.list (by decide +kernel) (pa_cons (pv 0) pa_nil)) (pa_cons (pv 1) pa_nil))) (pmeth c_Stops_shows k_Stops.cl (hr.mono (by omega)) pass0 (pv 2) (pa_cons (pe_callTy (listOf K) (by rfl) B.list (by decide +kernel) (pa_cons (pv 0) pa_nil)) (pa_cons (pv 1) pa_nil)))) pa_nil))) (pa_cons (pe_ifExp (pt_val (pe_callB (isiK K) (by rfl) B.isinstance (by decide +kernel) (pa_cons (pv 2) (pa_cons (pe_glob (v := .ref C_Found) (by rfl) k_Found.g rfl) pa_nil)))) (fldK K (pv 2) rfl) (pe_lst pa_nil)) pa_nil)))))), ?_⟩
    have h5 := o.2.h5
    have w5 := o.2.w5
    have l6 := ow.l6
    refine ⟨.ref a, rfl, tv wd, rfl, a, F, h, w, wd, rfl, o, ow, fun H1 p l sn r s1 np nl e hfa => ?_, fun H1 p m s1 np e hm hst => ?_⟩
    · obtain ⟨dx, xs, hp, hl, hc⟩ := hfa
      have hsn := snakes_mem h5 w5 (F := F) (word := wd) (s := sn) (by rw [e]; exact List.mem_cons_self)
      have lens : sn.length = wd.length := by have := congrArg List.length hsn.2; simpa [spell] using this
      have hne : sn ≠ [] := fun z => by have := ow.l1; rw [z] at lens; simp only [List.length_nil] at lens; omega
      have hfb : foundB F h w sn wd = true := by
        unfold foundB
        rw [snakeB_iff.mpr ⟨hne, hsn.1⟩, decide_eq_true hsn.2]; rfl
      refine ⟨.ref p, rfl, .ref p, .ref C_Found, _, _, true, rfl, .own C_Found, k_Found.ty G0 hp, kFF, Or.inl ⟨.ref p, rfl, p, dx, _, rfl, hp, rfl, .ref a, rfl, a, _, rfl, .inl (o.same s1).1, fun L nL => ?_⟩⟩
      have sL := same_new (o := .lst (F.map tv)) nL
      refine ⟨tv wd, rfl, p, dx, l, xs, sn, L, F, h, w, wd, rfl, sL _ _ hp, SqL.of (sL _ _ hl), hc.le (TupLe.of sL), by omega, ⟨SqL.of upd_same, o.2⟩, fun H2 s2 => ?_⟩
      rw [hfb]
      refine ⟨by show 2 ≤ sizeLine; decide, fun fx nfx => ?_⟩
      have sx := same_new (o := .lst [.bl true, .bl true]) nfx
      have s3 := sL.trans (s2.trans sx)
      refine ⟨.ref p, rfl, .ref p, .ref C_Found, _, _, true, rfl, .own C_Found, k_Found.ty G0 (s3 _ _ hp), kFF, true, rfl, iteT ⟨.ref p, rfl, p, C_Found, dx, _, .ref l, rfl, s3 _ _ hp, k_Found.cl, n_Found, rfl, by show 2 ≤ sizeLine; decide, fun t nt => ?_⟩⟩
      have st := same_new (o := .tup [.ref fx, .ref l]) nt
      have s4 := s3.trans st
      refine q _ _ ⟨s1.trans s4, t, fx, l, xs, sn.map cellD, rfl, SqT.of upd_same, ?_, nl, s4 _ _ hl, fls_cells (hc.le (TupLe.of s4)), by rw [hc.length]; omega⟩
      unfold jdD
      rw [e]
      exact .lst (SqL.of (st _ _ upd_same)) (.cons (.bl true) (.cons (.bl true) .nil))
    · obtain ⟨dx, hp⟩ := hst
      have hlt : m < wd.length := by
        rcases Nat.lt_or_eq_of_le hm.le with z | z
        · exact z
        · exfalso
          have y := hm.ne
          rw [z] at y
          unfold ne_ at y
          rw [List.take_length, e] at y
          cases y
      refine ⟨.ref p, rfl, .ref p, .ref C_Found, _, _, false, rfl, .own C_Found, k_Stops.ty G0 hp, kSF, Or.inr ⟨.ref p, rfl, p, dx, _, rfl, hp, rfl, .ref a, rfl, a, _, rfl, .inl (o.same s1).1, fun L nL => ?_⟩⟩
      have sL := same_new (o := .lst (F.map tv)) nL
      refine ⟨tv wd, rfl, p, dx, _, L, F, h, w, wd, rfl, sL _ _ hp, l6, ⟨SqL.of upd_same, o.2⟩, fun H2 k s2 hk => ?_⟩
      have ek : m = k := hm.inj hk
      subst ek
      rw [decide_eq_true (show ((m : Nat) : Int) < (wd.length : Int) by omega), decide_eq_true rfl]
      refine ⟨by show 2 ≤ sizeLine; decide, fun fx nfx => ?_⟩
      have sx := same_new (o := .lst [.bl false, .bl (true && true)]) nfx
      have s3 := sL.trans (s2.trans sx)
      refine ⟨.ref p, rfl, .ref p, .ref C_Found, _, _, false, rfl, .own C_Found, k_Stops.ty G0 (s3 _ _ hp), kSF, false, rfl, iteF ⟨Nat.zero_le _, fun l nl => ⟨by show 2 ≤ sizeLine; decide, fun t nt => ?_⟩⟩⟩
      have sl := same_new (o := .lst []) nl
      have st := same_new (o := .tup [.ref fx, .ref l]) nt
      refine q _ _ ⟨s1.trans (s3.trans (sl.trans st)), t, fx, l, [], [], rfl, SqT.of upd_same, ?_, (s1.trans s3).free nl, st _ _ upd_same, .nil, Nat.zero_le _⟩
      unfold jdD
      rw [e]
      exact .lst (SqL.of ((sl.trans st) _ _ upd_same)) (.cons (.bl false) (.cons (.bl true) .nil))
end
end Sk
/-! k08: lambdas by the reading of their body; what they tell. -/
namespace Sk
open PySem PySem.Spec PyProof.Rows L2 Sn LamX NdefX
def spT (N : List Str) (t : TE) (n m : Nat) : List (Option V) → Sp := fun ws vs H Q _ => vs.length = n ∧ ws.length = m ∧ t (startF N vs ws) H Q
theorem pe_lamR {X : Cx} {c P0 : Addr} {q : Str} {params : Arguments} {body : Expr} {scope : Scope} {pos : Pos} {k : Nat} {N ps fr : List Str} {js : List Nat} {t : TE} (sc : Scope) (TB : TabB X.base X.mg c P0) (hcode : X.env.code = .ref c) (hq : q = X.env.qual ++ "<lambda>")
    (hdef : defaultsOf params X.env = ([], [])) (hsc : X.env.scope = sc) (hB : lamB sc N ps fr scope = true) (hjs : js.map (fun j => X.N[j]?) = fr.map some)
    (hb : ∀ (q : Str) (cl : List (Str × Addr)) (c' : Addr) (pm ctv : Value) (us : List Value), us.length = ps.length → bindArgs (PySem.W.kla_fn "<lambda>" q params body scope cl pm (.ref c') ctv) ⟨us, []⟩ = pure (ps.zip us))
    (hbody : ∀ (f c' : Addr) (A : Around) (outer : List Env) (s : Shared) (H : Hp) (E : XK), Room k (A.deeper (envF (LF.nf ⟨X.env.qual ++ "<lambda>", params, body, scope, cloFrom X.env.cells scope.names [], c'⟩) f s.heap.objs.size)) →
      PE (ncx (L2N.CX X.prog X.w) X.prog X.w X.K X.mg X.base N (LF.nf ⟨X.env.qual ++ "<lambda>", params, body, scope, cloFrom X.env.cells scope.names [], c'⟩) f A outer s H E) body t) :
    PE X (.Lambda params body scope pos) (tFn X [(P0, q)] (k + 1) ps fr js (spT N t ps.length fr.length)) :=
  pe_lamB sc TB hcode hq hdef hsc hB hjs hb (fun ws vs H Q E h => h.1) fun f c' A outer s H vs ws Q E hr hw h => ⟨t, hbody f c' A outer s H E hr, h.2.2⟩
section
variable {K : PySem.W.Frag} {H H' : Hp}
theorem sq_dn (dn : ∀ b o, (∀ ob, o ≠ FzO b ob) → H b = some o → H' b = some o) {a : Addr} {xs : List V} (h : SqL K H a xs) : SqL K H' a xs := by
  rcases h with (h | ⟨o, h⟩) | h
  · exact .inl (.inl (dn _ _ (fun _ z => by unfold FzO at z; cases z) h))
  · exact .inl (.inr ⟨o, dn _ _ (fun _ z => by unfold FzO at z; cases z) h⟩)
  · exact .inr h
theorem tup_dn (dn : ∀ b o, (∀ ob, o ≠ FzO b ob) → H b = some o → H' b = some o) : TupLe H H' := fun a xs h => by
  rcases h with h | ⟨o, h⟩
  · exact .inl (dn _ _ (fun _ z => by unfold FzO at z; cases z) h)
  · exact .inr ⟨o, dn _ _ (fun _ z => by unfold FzO at z; cases z) h⟩
theorem Rows.dn (dn : ∀ b o, (∀ ob, o ≠ FzO b ob) → H b = some o → H' b = some o) {v : V} {rs : List (List PyData)} (h : Rows K H v rs) : Rows K H' v rs := by
  obtain ⟨a, xs, e, q, f⟩ := h
  refine ⟨a, xs, e, sq_dn dn q, Paired.mapP f fun _ _ r => ?_⟩
  obtain ⟨a', xs', e', q', f'⟩ := r
  exact ⟨a', xs', e', sq_dn dn q', f'.le (tup_dn dn)⟩
end
theorem tells_lam {X : Cx} {f : Addr} {H : Hp} {ps fr : List Str} {js : List Nat} {sp : List (Option V) → Sp} {D : Addr → Option Obj} {σ : L2.St} {rs : List (List PyData)} {r : PyData} (l : LamIs X f H 15 ps fr js sp) (cap : CapD X σ H D)
    (q : ∀ H2 hp, Same H H2 → Rows X.K H2 (.ref hp) rs → sp (js.map (slotAt σ)) [.ref hp] H2 (Told X.K r H2) (fun _ _ _ => False)) : Tells X.prog X.w X.K X.mg X.base f rs r (pl D H) := fun H1 hp s1 hr => by
  refine l.ask cap s1 (Q1 := fun H2 => Told X.K r H2) (E1 := fun _ _ _ _ => False) (fun H2 s2 dn _ => q H2 hp s2 (hr.dn dn)) (fun D' hD v H' nD td => ?_) (fun _ _ _ _ _ _ z => z.elim)
  obtain ⟨s, t, fx, tl, zs, ds, rfl, ht, dfx, ntl, htl, fl, lz⟩ := td
  have up := same_pl nD
  refine ⟨same_pl_mi hD s, t, fx, tl, zs, ds, rfl, Same.sqt up ht, Dp.same up _ _ dfx, ?_, up _ _ htl, fl.le (TupLe.of up), lz⟩
  cases z : D' tl with
  | some ob => rw [nD tl ob z] at htl; cases htl
  | none => rw [mi_of z] at ntl; exact ntl
end Sk
namespace Sk
open PySem PySem.Spec PyProof.Rows L2 Sn LamX NdefX
def lawQ : Str := (envOfC "law" (defScope s_law) 0 0 Value.none).qual ++ "<lambda>"
def spLawT (K : PySem.W.Frag) (P0 : Addr) : Sp := fun vs H Q _ => ∃ (a : Addr) (ns : List Int) (n : Nat), vs = [.ref a] ∧ SqL K H a (ns.map V.int) ∧ Bits n ns ∧ n ≤ 1900000 ∧ ns.length ≤ 63 ∧ Tabs [(P0, lawQ)] H ∧ ∀ H', Q (.bl true) H'
/-! ### what the doors tell -/
theorem told_two {K : PySem.W.Frag} {H H1 H2 : Hp} {p t : Addr} {zs : List V} {ds : List PyData} (s1 : Same H H1) (np : H p = none) (hp : H1 p = some (.lst zs)) (fl : Fls K H1 zs ds) (lz : zs.length ≤ 1000) (s2 : Same H1 H2) (ht : SqT K H2 t [.ref p, .ref p]) : Told K (.list ds) H (.ref t) H2 :=
  ⟨s1.trans s2, t, p, p, zs, ds, rfl, ht, .lst (SqL.of (s2 _ _ hp)) (fl.le (TupLe.of s2)).dp, np, s2 _ _ hp, fl.le (TupLe.of s2), lz⟩
theorem told_one {K : PySem.W.Frag} {H H1 H2 : Hp} {p t : Addr} {v : V} {d : PyData} (s1 : Same H H1) (np : H1 p = none) (fl : ∀ H', Fl K H' v d) (s2 : Same (upd H1 p (.lst [v])) H2) (ht : SqT K H2 t [.ref p, .ref p]) : Told K (.list [d]) H (.ref t) H2 :=
  told_two (s1.trans (same_new np)) (s1.free np) upd_same (.cons (fl _) .nil) (by show 1 ≤ 1000; decide) s2 ht
theorem rows1 {K : PySem.W.Frag} {H : Hp} {hp : Addr} {F : List (List Nat)} {h w : Nat} (o : FieldOk F h w) (hr : Rows K H (.ref hp) [F.map textD]) : ∃ a0, SqL K H hp [.ref a0] ∧ FieldAt K H a0 F h w := by
  obtain ⟨a, xs, e, q, f⟩ := hr
  cases e
  cases f with
  | cons r t =>
    cases t
    obtain ⟨a0, ys, rfl, q0, f0⟩ := r
    rw [texts_fls f0] at q0
    exact ⟨a0, q, q0, o⟩
theorem rows2 {K : PySem.W.Frag} {H : Hp} {hp : Addr} {F : List (List Nat)} {h w : Nat} {cs : List Cel} (o : FieldOk F h w) (hr : Rows K H (.ref hp) [F.map textD, cs.map cellD]) : ∃ a0 b0 xs, SqL K H hp [.ref a0, .ref b0] ∧ FieldAt K H a0 F h w ∧ SqL K H b0 xs ∧ Cells K H xs cs := by
  obtain ⟨a, xs, e, q, f⟩ := hr
  cases e
  cases f with
  | cons r t =>
    cases t with
    | cons r2 t =>
      cases t
      obtain ⟨a0, ys, rfl, q0, f0⟩ := r
      obtain ⟨b0, zs, rfl, q1, f1⟩ := r2
      rw [texts_fls f0] at q0
      exact ⟨a0, b0, zs, q, ⟨q0, o⟩, q1, cells_fls f1⟩
def Fa : List (List Nat) := [[97, 98, 99], [98, 97, 98]]
def Fb : List (List Nat) := [[97, 98, 98], [99, 97, 98]]
theorem okA : FieldOk Fa 2 3 := fieldB_ok (by decide)
theorem okB : FieldOk Fb 2 3 := fieldB_ok (by decide)
def W4 : List (List Nat) := [[97, 98], [97, 98, 97], [98, 97], [97, 99]]
def wdsA : List (List Nat) := [[97, 97], [97, 98], [97, 99], [98, 97], [98, 98], [98, 99], [99, 97], [99, 98]]
def wdsB : List (List Nat) := wdsA
theorem w4_ok {wd : List Nat} (h : wd ∈ W4) : WordOk wd := wordB_ok (List.all_eq_true.mp (show W4.all wordB = true by decide) wd h)
theorem shown_of {d : PyData} {m n : Nat} (hw : Shw m d) (hs : Shp n d) (hm : m ≤ sizeLine) (hn : n ≤ 64) : Shown d := ⟨hw.1, hw.2.1, Nat.le_trans hs.2 hn, Nat.le_trans hw.2.2 hm⟩
theorem shown_dec {d : PyData} (a : d.showable = true) (b : d.hasDict = false) (c : d.depth ≤ 64) (e : d.shown.length ≤ 1000) : Shown d := ⟨a, b, c, Nat.le_trans e (by decide)⟩
theorem shown_bool (b : Bool) : Shown (.list [.bool b]) := by
  cases b <;> exact shown_dec (by decide +kernel) (by decide +kernel) (by decide +kernel) (by decide +kernel)
theorem shown_bools (b c : Bool) : Shown (.list [.bool b, .bool c]) := by
  cases b <;> cases c <;> exact shown_dec (by decide +kernel) (by decide +kernel) (by decide +kernel) (by decide +kernel)
def cntB (F : List (List Nat)) (wd : List Nat) : Bool := decide ((snakesOn F 2 3 wd []).length < 100)
theorem shown_int {n : Nat} (h : n < 100) : Shown (.list [.int (n : Int)]) := by
  have all : (List.range 100).all (fun n => (PyData.list [.int (n : Int)]).showable && (!(PyData.list [.int (n : Int)]).hasDict && (decide ((PyData.list [.int (n : Int)]).depth ≤ 64) && decide ((PyData.list [.int (n : Int)]).shown.length ≤ 1000)))) = true := by decide +kernel
  have k := List.all_eq_true.mp all n (List.mem_range.mpr h)
  simp only [Bool.and_eq_true, Bool.not_eq_true', decide_eq_true_eq] at k
  exact shown_dec k.1 k.2.1 k.2.2.1 k.2.2.2
theorem cnt_ok {F : List (List Nat)} (hF : W4.all (cntB F) = true) {wd : List Nat} (h : wd ∈ W4) : (snakesOn F 2 3 wd []).length < 100 := of_decide_eq_true (List.all_eq_true.mp hF wd h)
theorem shown_cells {cs : List Cel} (h : ∀ c ∈ cs, c ∈ cellsL 2 3) (hl : cs.length ≤ 100) : Shown (.list (cs.map cellD)) := by
  refine shown_of (shw_cells (cs := cs) (fun c hc => ?_) hl) (shp_cells cs) (by decide) (by decide)
  have z := mem_cellsL.mp (h c hc)
  omega
theorem shown_field {F : List (List Nat)} (h : F.all (fun r => decide (r.length ≤ 5) && r.all letB) = true) (hl : F.length ≤ 10) : True := trivial
theorem srt_small (xs : List Cel) : (srtC 2 3 xs).length ≤ 100 := Nat.le_trans (List.length_filter_le _ _) (by decide)
theorem wAB : WordOk [97, 98] := wordB_ok (by decide)
theorem small2 {F : List (List Nat)} (o : FieldOk F 2 3) (cs : List Cel) (hl : cs.length ≤ 1000) : Small [F.map textD, cs.map cellD] := ⟨by show 2 ≤ 10; decide, fun ds m => by
  rcases List.mem_cons.mp m with rfl | m
  · refine ⟨by rw [List.length_map, o.high]; decide, fun d hd => ?_⟩
    obtain ⟨r, hr, rfl⟩ := List.mem_map.mp hd
    have z := shp_text (letter_cod (o.let_ r hr))
    exact ⟨z.1, Nat.le_trans z.2 (by decide)⟩
  · rw [List.mem_singleton.mp m]
    refine ⟨by rw [List.length_map]; exact hl, fun d hd => ?_⟩
    obtain ⟨c, _, rfl⟩ := List.mem_map.mp hd
    have z := shp_cell c
    exact ⟨z.1, Nat.le_trans z.2 (by decide)⟩⟩
theorem small1 {F : List (List Nat)} (o : FieldOk F 2 3) : Small [F.map textD] := ⟨by show 1 ≤ 10; decide, fun ds m => by
  rw [List.mem_singleton.mp m]
  refine ⟨by rw [List.length_map, o.high]; decide, fun d hd => ?_⟩
  obtain ⟨r, hr, rfl⟩ := List.mem_map.mp hd
  have z := shp_text (letter_cod (o.let_ r hr))
  exact ⟨z.1, Nat.le_trans z.2 (by decide)⟩⟩
/-- what judged told: a Found, a Stops -/
def HereAt (K : PySem.W.Frag) (CF CS : Addr) (H : Hp) (p : Addr) : Prop := (∃ l sn, FoundAt K CF H p l sn ∧ sn.length < 64) ∨ ∃ m : Int, StopsAt CS H p m
def spHere (K : PySem.W.Frag) (CF CS : Addr) : Sp := fun vs H Q _ => ∃ a F h w wd, vs = [.ref a, tv wd] ∧ FieldAt K H a F h w ∧ WordOk wd ∧ ∀ H' p, Same H H' → HereAt K CF CS H' p → Q (.ref p) H'
theorem here_of {K : PySem.W.Frag} {CF CS : Addr} (vs : List V) (H : Hp) (Q : VK) (E : XK) (h : spHere K CF CS vs H Q E) : spJudged K CF CS vs H Q E := by
  obtain ⟨a, F, h, w, wd, rfl, o, ow, q⟩ := h
  refine ⟨a, F, h, w, wd, rfl, o, ow, fun H' p l s r s1 _ _ e hf => q H' p s1 (.inl ⟨l, s, hf, ?_⟩), fun H' p m s1 _ _ _ hst => q H' p s1 (.inr ⟨_, hst⟩)⟩
  have hsn := snakes_mem o.2.h5 o.2.w5 (F := F) (word := wd) (s := s) (by rw [e]; exact List.mem_cons_self)
  have lens : s.length = wd.length := by have := congrArg List.length hsn.2; simpa [spell] using this
  have := ow.l6
  omega
theorem HereAt.ext {K : PySem.W.Frag} {CF CS p : Addr} {H H' : Hp} (h : HereAt K CF CS H p) (e : ExtN H H') : HereAt K CF CS H' p := by
  rcases h with ⟨l, sn, ⟨dx, xs, h1, h2, h3⟩, hl⟩ | ⟨m, dx, h1⟩
  · refine .inl ⟨l, sn, ⟨dx, xs, e _ _ h1 (fun _ z => nomatch z), e _ _ h2 (fun _ z => nomatch z), h3.le fun a ys h => ?_⟩, hl⟩
    rcases h with h | ⟨o, h⟩
    · exact .inl (e _ _ h (fun _ z => nomatch z))
    · exact .inr ⟨o, e _ _ h (fun _ z => nomatch z)⟩
  · exact .inr ⟨m, dx, e _ _ h1 (fun _ z => nomatch z)⟩
theorem ext_sq {K : PySem.W.Frag} {H H' : Hp} {a : Addr} {xs : List V} (s : ExtN H H') (h : SqL K H a xs) : SqL K H' a xs := by
  rcases h with (h | ⟨o, h⟩) | h
  · exact .inl (.inl (s _ _ h (fun _ z => nomatch z)))
  · exact .inl (.inr ⟨o, s _ _ h (fun _ z => nomatch z)⟩)
  · exact .inr h
theorem ext_tup {H H' : Hp} (e : ExtN H H') : TupLe H H' := fun a ys h => by
  rcases h with h | ⟨o, h⟩
  · exact .inl (e _ _ h (fun _ z => nomatch z))
  · exact .inr ⟨o, e _ _ h (fun _ z => nomatch z)⟩
theorem ext_lst {H H' : Hp} {a : Addr} {xs : List V} (e : ExtN H H') (h : H a = some (.lst xs)) : H' a = some (.lst xs) := e _ _ h (fun _ z => nomatch z)
/-- what the law holds all along -/
structure G8 (K : PySem.W.Frag) (T : List (Addr × Str)) (a fa fo : Addr) (ns : List Int) (H : Hp) : Prop where
  t : Tabs T H
  A : SqL K H fa (Fa.map tv)
  B : SqL K H fo (Fb.map tv)
  S : SqL K H a (ns.map V.int)
section
variable {K : PySem.W.Frag} {T : List (Addr × Str)} {a fa fo : Addr} {ns : List Int} {H H' : Hp}
theorem G8.ext (g : G8 K T a fa fo ns H) (e : ExtN H H') (t : Tabs T H') : G8 K T a fa fo ns H' := ⟨t, ext_sq e g.A, ext_sq e g.B, ext_sq e g.S⟩
theorem G8.same (g : G8 K T a fa fo ns H) (s : Same H H') : G8 K T a fa fo ns H' := ⟨g.t.ext s, s.seq g.A, s.seq g.B, s.seq g.S⟩
end
theorem w4_at {z : Int} (h0 : 0 ≤ z) (h4 : z < 4) : ∃ wd ∈ W4, atI [V.str "ab", V.str "aba", V.str "ba", V.str "ac"] z = some (tv wd) := by
  have : z = 0 ∨ z = 1 ∨ z = 2 ∨ z = 3 := by omega
  rcases this with rfl | rfl | rfl | rfl
  · exact ⟨[97, 98], by decide, by decide +kernel⟩
  · exact ⟨[97, 98, 97], by decide, by decide +kernel⟩
  · exact ⟨[98, 97], by decide, by decide +kernel⟩
  · exact ⟨[97, 99], by decide, by decide +kernel⟩
section
variable {P : Program} {wl : World} {K : PySem.W.Frag} {mg : Str → Option Value} {base : Heap} {c P0 C_Found C_Stops : Addr}
theorem ok_law (D : Dfn K mg "law" s_law) (B : Bi mg) (O : ∀ f, mg "law" = some (.ref f) → OwnC K f c P0) (TB : TabB base mg c P0) (k_Found : Kls K mg "Found" C_Found) (k_Stops : Kls K mg "Stops" C_Stops)
    (c_law_cell_at : Cal P wl K mg base CX0 1 "_law_cell_at" ["_law_script", "_law_k"] (spCellAt K)) (c_law_number : Cal P wl K mg base CX0 2 "_law_number" ["_law_cell", "_law_k", "_law_limit"] spNumber)
    (c_judged : Cal P wl K mg base CX0 11 "judged" ["field", "word"] (spHere K C_Found C_Stops)) (c_law_judged : Cal P wl K mg base CX0 12 "_law_judged" ["_law_field", "_law_word"] (spLJudged K)) (c_law_two : Cal P wl K mg base CX0 1 "_law_two" ["_law_found"] (spTwo K))
    (c_Found_shows : CalM P wl K mg base CX0 4 C_Found "shows" ["self", "field", "word"] (spFoundShows K C_Found)) (c_Stops_shows : CalM P wl K mg base CX0 11 C_Stops "shows" ["self", "field", "word"] (spStopsShows K C_Stops)) (c_Stops_init : CalI P wl K mg base CX0 1 C_Stops ["self", "many"] (spStopsInit C_Stops))
    (c_how_many : Cal P wl K mg base CX0 10 "how_many" ["field", "word"] (spHowMany K)) (c_gone_over : Cal P wl K mg base CX0 10 "gone_over" ["field", "word"] (spGoneOver K)) (c_near : Cal P wl K mg base CX0 3 "near" ["field", "cell"] (spNear K)) (c_turned : Cal P wl K mg base CX0 3 "turned" ["field"] (spTurned K)) (c_mirrored : Cal P wl K mg base CX0 3 "mirrored" ["field"] (spMirrored K))
    (c_words : Cal P wl K mg base CX0 3 "words" ["field", "many"] (spWords K)) (c_by_number : Cal P wl K mg base CX0 10 "by_number" ["field", "word", "number"] (spByNumber K)) (c_number_of : Cal P wl K mg base CX0 10 "number_of" ["field", "cells"] (spNumberOf K))
    (c_law_doors_right : CalG P wl K mg base (L2N.CX P wl) 17 "_law_doors_right" ["_law_asks", "_law_lists", "_law_others"] (spDoors P wl K mg base)) :
    CalG P wl K mg base CX0 18 "law" ["_law_script"] (spLawT K P0) := by
  refine D.calT O sc_law bn_law (fun vs H Q E h => ?_) (fun f A outer s H vs Q E hr gd h => ?_)
  · obtain ⟨a, ns, n, rfl, _⟩ := h
    rfl
  · obtain ⟨a, ns, n, rfl, hs, hb, hn, hlen, T0, q⟩ := h
    refine ⟨_, (pss_cons (ps_par (i := 1) (j := 2) (by rfl) sc_law.nd rfl rfl (by decide) rfl rfl (pa_cons (lit_list K (lits_cons K (lit_str K) (lits_cons K (lit_str K) (lits_nil K)))) (pa_cons (lit_list K (lits_cons K (lit_str K) (lits_cons K (lit_str K) (lits_nil K)))) pa_nil)) (by rfl))
 (pss_cons (ps_for PassesOwn.never rfl (pi_range1 (by rfl) B.range (pa_cons pe_int pa_nil)) (pg_name (i := 3) sc_law.nd rfl (.inl rfl))
 (pss_cons (ps_set (i := 4) sc_law.nd rfl (.inr rfl) (pe_ix (ixT K) (pe_tup (pa_cons pe_str (pa_cons pe_str (pa_cons pe_str (pa_cons pe_str pa_nil))))) (pcall c_law_number (hr.mono (by omega)) (by rfl) pass0 (pa_cons (pcall c_law_cell_at (hr.mono (by omega)) (by rfl) pass0 (pa_cons (pv 0) (pa_cons (pv 3) pa_nil))) (pa_cons (pe_op op_add (pv 3) pe_int) (pa_cons pe_int pa_nil)))) (fun _ _ => rfl)))
 (pss_cons (ps_set (i := 5) sc_law.nd rfl (.inr rfl) (pcall c_judged (hr.mono (by omega)) (by rfl) pass0 (pa_cons (pv 1) (pa_cons (pv 4) pa_nil))))
 (pss_cons (ps_set (i := 6) sc_law.nd rfl (.inl rfl) (pe_lst (pa_cons (pe_lamR (q := lawQ) (k := 14) (N := ["_law_some", "_law_word"]) (ps := ["_law_some"]) (fr := ["_law_word"]) (js := [4]) (defScope s_law) TB rfl rfl rfl rfl (by decide +kernel) rfl (fun _ _ _ _ _ us hl => match us, hl with | [_], _ => rfl) (fun f2 c2 A2 outer2 s2 H2 E2 hr => (pcall c_law_judged (hr.mono (by omega)) (by rfl) pass0 (pa_cons (pe_ix (ixL K) (pv 0) pe_int (fun _ _ => rfl)) (pa_cons (pv 1) pa_nil))))) (pa_cons (pe_lamR (q := lawQ) (k := 14) (N := ["_law_one", "_law_word"]) (ps := ["_law_one"]) (fr := ["_law_word"]) (js := [4]) (defScope s_law) TB rfl rfl rfl rfl (by decide +kernel) rfl (fun _ _ _ _ _ us hl => match us, hl with | [_], _ => rfl) (fun f2 c2 A2 outer2 s2 H2 E2 hr => (pcall c_law_two (hr.mono (by omega)) (by rfl) pass0 (pa_cons (pe_lst (pa_cons (pcall c_how_many (hr.mono (by omega)) (by rfl) pass0 (pa_cons (pe_ix (ixL K) (pv 0) pe_int (fun _ _ => rfl)) (pa_cons (pv 1) pa_nil))) pa_nil)) pa_nil)))) pa_nil))))
 (pss_cons (ps_set (i := 6) sc_law.nd rfl (.inl rfl) (pe_op op_cat (pv 6) (pe_lst (pa_cons (pe_lamR (q := lawQ) (k := 14) (N := ["_law_some", "_law_word"]) (ps := ["_law_some"]) (fr := ["_law_word"]) (js := [4]) (defScope s_law) TB rfl rfl rfl rfl (by decide +kernel) rfl (fun _ _ _ _ _ us hl => match us, hl with | [_], _ => rfl) (fun f2 c2 A2 outer2 s2 H2 E2 hr => (pcall c_law_two (hr.mono (by omega)) (by rfl) pass0 (pa_cons (pcall c_gone_over (hr.mono (by omega)) (by rfl) pass0 (pa_cons (pe_ix (ixL K) (pv 0) pe_int (fun _ _ => rfl)) (pa_cons (pv 1) pa_nil))) pa_nil)))) pa_nil))))
 (pss_cons (ps_set (i := 6) sc_law.nd rfl (.inl rfl) (pe_op op_cat (pv 6) (pe_lst (pa_cons (pe_lamR (q := lawQ) (k := 14) (N := ["_law_some", "_law_word", "_law_here"]) (ps := ["_law_some"]) (fr := ["_law_word", "_law_here"]) (js := [4, 5]) (defScope s_law) TB rfl rfl rfl rfl (by decide +kernel) rfl (fun _ _ _ _ _ us hl => match us, hl with | [_], _ => rfl) (fun f2 c2 A2 outer2 s2 H2 E2 hr => (pcall c_law_two (hr.mono (by omega)) (by rfl) pass0 (pa_cons (pe_lst (pa_cons (PE.or (pmeth c_Found_shows k_Found.cl (hr.mono (by omega)) pass0 (pv 2) (pa_cons (pe_ix (ixL K) (pv 0) pe_int (fun _ _ => rfl)) (pa_cons (pv 1) pa_nil))) (pmeth c_Stops_shows k_Stops.cl (hr.mono (by omega)) pass0 (pv 2) (pa_cons (pe_ix (ixL K) (pv 0) pe_int (fun _ _ => rfl)) (pa_cons (pv 1) pa_nil)))) pa_nil)) pa_nil)))) pa_nil))))
 (pss_cons (ps_set (i := 6) sc_law.nd rfl (.inl rfl) (pe_op op_cat (pv 6) (pe_lst (pa_cons (pe_lamR (q := lawQ) (k := 14) (N := ["_law_some", "_law_word"]) (ps := ["_law_some"]) (fr := ["_law_word"]) (js := [4]) (defScope s_law) TB rfl rfl rfl rfl (by decide +kernel) rfl (fun _ _ _ _ _ us hl => match us, hl with | [_], _ => rfl) (fun f2 c2 A2 outer2 s2 H2 E2 hr => (pcall c_law_two (hr.mono (by omega)) (by rfl) pass0 (pa_cons (pe_lst (pa_cons (pmeth c_Stops_shows k_Stops.cl (hr.mono (by omega)) pass0 (pmake c_Stops_init (hr.mono (by omega)) (by rfl) k_Stops.g pass0 (pa_cons pe_int pa_nil)) (pa_cons (pe_ix (ixL K) (pv 0) pe_int (fun _ _ => rfl)) (pa_cons (pv 1) pa_nil))) pa_nil)) pa_nil)))) pa_nil))))
 (pss_cons (ps_set (i := 6) sc_law.nd rfl (.inl rfl) (pe_op op_cat (pv 6) (pe_lst (pa_cons (pe_lamR (q := lawQ) (k := 14) (N := ["_law_some"]) (ps := ["_law_some"]) (fr := []) (js := []) (defScope s_law) TB rfl rfl rfl rfl (by decide +kernel) rfl (fun _ _ _ _ _ us hl => match us, hl with | [_], _ => rfl) (fun f2 c2 A2 outer2 s2 H2 E2 hr => (pcall c_law_two (hr.mono (by omega)) (by rfl) pass0 (pa_cons (pcall c_near (hr.mono (by omega)) (by rfl) pass0 (pa_cons (pe_ix (ixL K) (pv 0) pe_int (fun _ _ => rfl)) (pa_cons (lit_tup K (lits_cons K (lit_int K) (lits_cons K (lit_int K) (lits_nil K)))) pa_nil))) pa_nil)))) (pa_cons (pe_lamR (q := lawQ) (k := 14) (N := ["_law_one"]) (ps := ["_law_one"]) (fr := []) (js := []) (defScope s_law) TB rfl rfl rfl rfl (by decide +kernel) rfl (fun _ _ _ _ _ us hl => match us, hl with | [_], _ => rfl) (fun f2 c2 A2 outer2 s2 H2 E2 hr => (pcall c_law_two (hr.mono (by omega)) (by rfl) pass0 (pa_cons (pcall c_turned (hr.mono (by omega)) (by rfl) pass0 (pa_cons (pe_ix (ixL K) (pv 0) pe_int (fun _ _ => rfl)) pa_nil)) pa_nil)))) pa_nil)))))
 (pss_cons (ps_set (i := 6) sc_law.nd rfl (.inl rfl) (pe_op op_cat (pv 6) (pe_lst (pa_cons (pe_lamR (q := lawQ) (k := 14) (N := ["_law_some"]) (ps := ["_law_some"]) (fr := []) (js := []) (defScope s_law) TB rfl rfl rfl rfl (by decide +kernel) rfl (fun _ _ _ _ _ us hl => match us, hl with | [_], _ => rfl) (fun f2 c2 A2 outer2 s2 H2 E2 hr => (pcall c_law_two (hr.mono (by omega)) (by rfl) pass0 (pa_cons (pcall c_mirrored (hr.mono (by omega)) (by rfl) pass0 (pa_cons (pe_ix (ixL K) (pv 0) pe_int (fun _ _ => rfl)) pa_nil)) pa_nil)))) (pa_cons (pe_lamR (q := lawQ) (k := 14) (N := ["_law_one"]) (ps := ["_law_one"]) (fr := []) (js := []) (defScope s_law) TB rfl rfl rfl rfl (by decide +kernel) rfl (fun _ _ _ _ _ us hl => match us, hl with | [_], _ => rfl) (fun f2 c2 A2 outer2 s2 H2 E2 hr => (pcall c_law_two (hr.mono (by omega)) (by rfl) pass0 (pa_cons (pcall c_words (hr.mono (by omega)) (by rfl) pass0 (pa_cons (pe_ix (ixL K) (pv 0) pe_int (fun _ _ => rfl)) (pa_cons pe_int pa_nil))) pa_nil)))) pa_nil)))))
 (pss_one (ps_if (pt_not (pt_val (pcallBG c_law_doors_right (hr.mono (by omega)) gd (fun _ => rfl) (by rfl) (pa_cons (pv 6) (pa_cons (pe_lst (pa_cons (pv 1) pa_nil)) (pa_cons (pe_lst (pa_cons (pv 2) pa_nil)) pa_nil))))))
 (pss_one (ps_ret pe_bl)) pss_nil)))))))))))
 (pss_cons (ps_set (i := 6) sc_law.nd rfl (.inl rfl) (pe_lst (pa_cons (pe_lamR (q := lawQ) (k := 14) (N := ["_law_some"]) (ps := ["_law_some"]) (fr := []) (js := []) (defScope s_law) TB rfl rfl rfl rfl (by decide +kernel) rfl (fun _ _ _ _ _ us hl => match us, hl with | [_], _ => rfl) (fun f2 c2 A2 outer2 s2 H2 E2 hr => (pcall c_law_two (hr.mono (by omega)) (by rfl) pass0 (pa_cons (pcall c_by_number (hr.mono (by omega)) (by rfl) pass0 (pa_cons (pe_ix (ixL K) (pv 0) pe_int (fun _ _ => rfl)) (pa_cons pe_str (pa_cons pe_int pa_nil)))) pa_nil)))) pa_nil)))
 (pss_cons (ps_if (pt_not (pt_val (pcallBG c_law_doors_right (hr.mono (by omega)) gd (fun _ => rfl) (by rfl) (pa_cons (pv 6) (pa_cons (pe_lst (pa_cons (pv 1) pa_nil)) (pa_cons (pe_lst (pa_cons (pv 2) pa_nil)) pa_nil))))))
 (pss_one (ps_ret pe_bl)) pss_nil)
 (pss_cons (ps_par (i := 7) (j := 8) (by rfl) sc_law.nd rfl rfl (by decide) rfl rfl (pa_cons (pcall c_by_number (hr.mono (by omega)) (by rfl) pass0 (pa_cons (pv 1) (pa_cons pe_str (pa_cons pe_int pa_nil)))) (pa_cons (pcall c_by_number (hr.mono (by omega)) (by rfl) pass0 (pa_cons (pv 1) (pa_cons pe_str (pa_cons pe_int pa_nil)))) pa_nil)) (by rfl))
 (pss_one (ps_ret (pcallBG c_law_doors_right (hr.mono (by omega)) gd (fun _ => rfl) (by rfl) (pa_cons (pe_lst (pa_cons (pe_lamR (q := lawQ) (k := 14) (N := ["_law_some"]) (ps := ["_law_some"]) (fr := []) (js := []) (defScope s_law) TB rfl rfl rfl rfl (by decide +kernel) rfl (fun _ _ _ _ _ us hl => match us, hl with | [_], _ => rfl) (fun f2 c2 A2 outer2 s2 H2 E2 hr => (pcall c_law_two (hr.mono (by omega)) (by rfl) pass0 (pa_cons (pe_lst (pa_cons (pcall c_number_of (hr.mono (by omega)) (by rfl) pass0 (pa_cons (pe_ix (ixL K) (pv 0) pe_int (fun _ _ => rfl)) (pa_cons (pe_ix (ixL K) (pv 0) pe_int (fun _ _ => rfl)) pa_nil))) pa_nil)) pa_nil)))) pa_nil)) (pa_cons (pe_lst (pa_cons (pv 1) (pa_cons (pv 7) pa_nil))) (pa_cons (pe_lst (pa_cons (pv 1) (pa_cons (pv 8) pa_nil))) pa_nil))))))))))), ?_⟩
    refine fun vf Hf sf df vo Ho so do_ => ⟨_, _, rfl, ?_⟩
    obtain ⟨fa, ef, qf⟩ := dp_texts (F := Fa) df
    subst ef
    obtain ⟨fo, eo, qo⟩ := dp_texts (F := Fb) do_
    subst eo
    refine ⟨2, rfl, by decide, by decide, for_it walk_range (fun i σ H' => G8 K [(P0, lawQ)] a fa fo ns H' ∧ ∃ y3 y4 y5 y6, σ = [some (.ref a), some (.ref fa), some (.ref fo), y3, y4, y5, y6, none, none])
      ⟨⟨T0.ext (sf.trans so), so.seq qf, qo, (sf.trans so).seq hs⟩, none, none, none, none, rfl⟩ (fun _ _ _ _ _ => trivial) (fun i x σ H1o H1 hi pv y => ?_) fun σ H1 pv => ?_⟩
    · obtain ⟨rfl, rfl⟩ := y
      obtain ⟨g1, y3, y4, y5, y6, rfl⟩ := pv
      have hi2 : i < 2 := hi
      refine ⟨by show 4 ≤ sizeLine; decide, fun tp ntp => ?_⟩
      have st := same_new (o := .tup [V.str "ab", V.str "aba", V.str "ba", V.str "ac"]) ntp
      refine ⟨.ref a, rfl, .int (0 + i), rfl, a, ns, 0 + i, n, rfl, st.seq g1.S, by omega, hb, fun z hz => ?_⟩
      refine ⟨.int (0 + i), rfl, 0 + i, 1, rfl, rfl, z, 0 + i + 1, 4, n, rfl, hz, by omega, by omega, by omega, by decide, fun z2 H2 z0 z4 s2 => ?_⟩
      obtain ⟨wd, hwd, ew⟩ := w4_at z0 z4
      have ow := w4_ok hwd
      refine ⟨tp, _, z2, tv wd, rfl, rfl, Same.sqt s2 (SqT.of upd_same), ew, ?_⟩
      have g2 := g1.same (st.trans s2)
      refine ⟨.ref fa, rfl, tv wd, rfl, fa, Fa, 2, 3, wd, rfl, ⟨g2.A, okA⟩, ow, fun H3 p s3 hh => ?_⟩
      have g3 := g2.same s3
      refine ⟨g3.t, fun f1 H4 e4 T4 L1 => ⟨T4, fun f2 H5 e5 T5 L2 => ⟨by show 2 ≤ sizeLine; decide, fun p1 np1 => ?_⟩⟩⟩
      have a1 := same_new (o := .lst [.ref f1, .ref f2]) np1
      have g5 := ((g3.ext e4 T4).ext e5 T5).same a1
      refine ⟨.ref p1, rfl, g5.t, fun f3 H6 e6 T6 L3 => ⟨by show 1 ≤ sizeLine; decide, fun p2 np2 => ?_⟩⟩
      have b0 := same_new (o := .lst [.ref f3]) np2
      refine ⟨p1, p2, _, _, rfl, rfl, b0 _ _ (ext_lst e6 upd_same), upd_same, by show 3 ≤ sizeLine; decide, fun p3 np3 => ?_⟩
      have c0 := same_new (o := .lst ([.ref f1, .ref f2] ++ [.ref f3])) np3
      have g6 := (g5.ext e6 T6).same (b0.trans c0)
      refine ⟨.ref p3, rfl, g6.t, fun f4 H7 e7 T7 L4 => ⟨by show 1 ≤ sizeLine; decide, fun p4 np4 => ?_⟩⟩
      have b1 := same_new (o := .lst [.ref f4]) np4
      refine ⟨p3, p4, _, _, rfl, rfl, b1 _ _ (ext_lst e7 upd_same), upd_same, by show 4 ≤ sizeLine; decide, fun p5 np5 => ?_⟩
      have c1 := same_new (o := .lst (([.ref f1, .ref f2] ++ [.ref f3]) ++ [.ref f4])) np5
      have g7 := (g6.ext e7 T7).same (b1.trans c1)
      refine ⟨.ref p5, rfl, g7.t, fun f5 H8 e8 T8 L5 => ⟨by show 1 ≤ sizeLine; decide, fun p6 np6 => ?_⟩⟩
      have b2 := same_new (o := .lst [.ref f5]) np6
      refine ⟨p5, p6, _, _, rfl, rfl, b2 _ _ (ext_lst e8 upd_same), upd_same, by show 5 ≤ sizeLine; decide, fun p7 np7 => ?_⟩
      have c2 := same_new (o := .lst ((([.ref f1, .ref f2] ++ [.ref f3]) ++ [.ref f4]) ++ [.ref f5])) np7
      have g8 := (g7.ext e8 T8).same (b2.trans c2)
      refine ⟨.ref p7, rfl, g8.t, fun f6 H9 e9 T9 L6 => ⟨T9, fun f7 H10 e10 T10 L7 => ⟨by show 2 ≤ sizeLine; decide, fun p8 np8 => ?_⟩⟩⟩
      have b3 := same_new (o := .lst [.ref f6, .ref f7]) np8
      refine ⟨p7, p8, _, _, rfl, rfl, b3 _ _ (ext_lst e10 (ext_lst e9 upd_same)), upd_same, by show 7 ≤ sizeLine; decide, fun p9 np9 => ?_⟩
      have c3 := same_new (o := .lst (((([.ref f1, .ref f2] ++ [.ref f3]) ++ [.ref f4]) ++ [.ref f5]) ++ [.ref f6, .ref f7])) np9
      have g10 := ((g8.ext e9 T9).ext e10 T10).same (b3.trans c3)
      refine ⟨.ref p9, rfl, g10.t, fun f8 H11 e11 T11 L8 => ⟨T11, fun f9 H12 e12 T12 L9 => ⟨by show 2 ≤ sizeLine; decide, fun p10 np10 => ?_⟩⟩⟩
      have b4 := same_new (o := .lst [.ref f8, .ref f9]) np10
      refine ⟨p9, p10, _, _, rfl, rfl, b4 _ _ (ext_lst e12 (ext_lst e11 upd_same)), upd_same, by show 9 ≤ sizeLine; decide, fun p11 np11 => ?_⟩
      have c4 := same_new (o := .lst ((((([.ref f1, .ref f2] ++ [.ref f3]) ++ [.ref f4]) ++ [.ref f5]) ++ [.ref f6, .ref f7]) ++ [.ref f8, .ref f9])) np11
      have g12 := ((g10.ext e11 T11).ext e12 T12).same (b4.trans c4)
      refine ⟨.ref p11, rfl, .ref fa, rfl, by show 1 ≤ sizeLine; decide, fun q1 nq1 => ⟨.ref fo, rfl, by show 1 ≤ sizeLine; decide, fun q2 nq2 => fun D1 cap => ?_⟩⟩
      have d1 := same_new (o := .lst [.ref fa]) nq1
      have d2 := same_new (o := .lst [.ref fo]) nq2
      have gE := g12.same (d1.trans d2)
      have M1 := (((((((((((((((L1.ext e5).same a1).ext e6).same (b0.trans c0)).ext e7).same (b1.trans c1)).ext e8).same (b2.trans c2)).ext e9).ext e10).same (b3.trans c3)).ext e11).ext e12).same (b4.trans c4)).same (d1.trans d2))
      have M2 := ((((((((((((((L2.same a1).ext e6).same (b0.trans c0)).ext e7).same (b1.trans c1)).ext e8).same (b2.trans c2)).ext e9).ext e10).same (b3.trans c3)).ext e11).ext e12).same (b4.trans c4)).same (d1.trans d2))
      have M3 := ((((((((((((L3.same (b0.trans c0)).ext e7).same (b1.trans c1)).ext e8).same (b2.trans c2)).ext e9).ext e10).same (b3.trans c3)).ext e11).ext e12).same (b4.trans c4)).same (d1.trans d2))
      have M4 := ((((((((((L4.same (b1.trans c1)).ext e8).same (b2.trans c2)).ext e9).ext e10).same (b3.trans c3)).ext e11).ext e12).same (b4.trans c4)).same (d1.trans d2))
      have M5 := ((((((((L5.same (b2.trans c2)).ext e9).ext e10).same (b3.trans c3)).ext e11).ext e12).same (b4.trans c4)).same (d1.trans d2))
      have M6 := ((((((L6.ext e10).same (b3.trans c3)).ext e11).ext e12).same (b4.trans c4)).same (d1.trans d2))
      have M7 := (((((L7.same (b3.trans c3)).ext e11).ext e12).same (b4.trans c4)).same (d1.trans d2))
      have M8 := (((L8.ext e12).same (b4.trans c4)).same (d1.trans d2))
      have M9 := ((L9.same (b4.trans c4)).same (d1.trans d2))
      have hE := ((((((((((((((((hh.ext e4).ext e5).ext (ExtN.of a1)).ext e6).ext (ExtN.of (b0.trans c0))).ext e7).ext (ExtN.of (b1.trans c1))).ext e8).ext (ExtN.of (b2.trans c2))).ext e9).ext e10).ext (ExtN.of (b3.trans c3))).ext e11).ext e12).ext (ExtN.of (b4.trans c4))).ext (ExtN.of (d1.trans d2)))
      have up := same_pl cap.no
      obtain ⟨kA, hkA⟩ := lgst_ex (F := Fa) (h := 2) (w := 3) (by decide) (by decide) wd
      obtain ⟨kB, hkB⟩ := lgst_ex (F := Fb) (h := 2) (w := 3) (by decide) (by decide) wd
      have l6 := ow.l6
      have Q1 : ∀ F, FieldOk F 2 3 → Tells P wl K mg base f1 [F.map textD] (jdD F 2 3 wd) (pl D1 _) := fun F o => tells_lam M1 cap fun H2 hp s2 hr => by
        obtain ⟨a0, h1, fa0⟩ := rows1 o hr
        exact ⟨rfl, rfl, .ref hp, rfl, hp, _, 0, .ref a0, rfl, rfl, h1, atI_nat (j := 0) rfl, tv wd, rfl, a0, F, 2, 3, wd, rfl, fa0, ow, fun v H' td => td⟩
      have Q2 : ∀ F, FieldOk F 2 3 → Tells P wl K mg base f2 [F.map textD] (.list [.int (((snakesOn F 2 3 wd []).length : Nat) : Int)]) (pl D1 _) := fun F o => tells_lam M2 cap fun H2 hp s2 hr => by
        obtain ⟨a0, h1, fa0⟩ := rows1 o hr
        exact ⟨rfl, rfl, .ref hp, rfl, hp, _, 0, .ref a0, rfl, rfl, h1, atI_nat (j := 0) rfl, tv wd, rfl, a0, F, 2, 3, wd, rfl, fa0, ow, fun H3 s3 => ⟨by show 1 ≤ sizeLine; decide, fun p np => ⟨.ref p, rfl, fun H4 t s4 ht => told_one s3 np (fun H' => .inl ⟨_, rfl, rfl⟩) s4 ht⟩⟩⟩
      have Q3 : ∀ F, FieldOk F 2 3 → Tells P wl K mg base f3 [F.map textD] (.list ((srtC 2 3 (goneL (snakesOn F 2 3 wd []))).map cellD)) (pl D1 _) := fun F o => tells_lam M3 cap fun H2 hp s2 hr => by
        obtain ⟨a0, h1, fa0⟩ := rows1 o hr
        exact ⟨rfl, rfl, .ref hp, rfl, hp, _, 0, .ref a0, rfl, rfl, h1, atI_nat (j := 0) rfl, tv wd, rfl, a0, F, 2, 3, wd, rfl, fa0, ow, fun H3 p ys s3 np hp3 hc => ⟨.ref p, rfl, fun H4 t s4 ht => told_two s3 np hp3 (fls_cells hc) (by rw [hc.length]; exact Nat.le_trans (srt_small _) (by decide)) s4 ht⟩⟩
      have Q4 : ∀ F k, FieldOk F 2 3 → Lgst F 2 3 wd k → ∃ b, Tells P wl K mg base f4 [F.map textD] (.list [.bool b]) (pl D1 _) := fun F k o hk => by
        rcases hE with ⟨l, sn, ⟨dx, xs, k1, k2, k3⟩, hl⟩ | ⟨m, dx, k1⟩
        · refine ⟨foundB F 2 3 sn wd, tells_lam M4 cap fun H2 hp s2 hr => ?_⟩
          obtain ⟨a0, h1, fa0⟩ := rows1 o hr
          exact ⟨rfl, rfl, .inl ⟨.ref p, rfl, p, dx, _, rfl, s2 _ _ k1, rfl, .ref hp, rfl, hp, _, 0, .ref a0, rfl, rfl, h1, atI_nat (j := 0) rfl, tv wd, rfl, p, dx, l, xs, sn, a0, F, 2, 3, wd, rfl, s2 _ _ k1, SqL.of (s2 _ _ k2), k3.le (TupLe.of s2), hl, fa0, fun H3 s3 => ⟨by show 1 ≤ sizeLine; decide, fun p np => ⟨.ref p, rfl, fun H4 t s4 ht => told_one s3 np (fun H' => .inr (.inl ⟨_, rfl, rfl⟩)) s4 ht⟩⟩⟩⟩
        · refine ⟨decide (m < (wd.length : Int)) && decide (m = (k : Int)), tells_lam M4 cap fun H2 hp s2 hr => ?_⟩
          obtain ⟨a0, h1, fa0⟩ := rows1 o hr
          refine ⟨rfl, rfl, .inr ⟨.ref p, rfl, p, dx, _, rfl, s2 _ _ k1, rfl, .ref hp, rfl, hp, _, 0, .ref a0, rfl, rfl, h1, atI_nat (j := 0) rfl, tv wd, rfl, p, dx, m, a0, F, 2, 3, wd, rfl, s2 _ _ k1, l6, fa0, fun H3 k' s3 hk' => ?_⟩⟩
          have ek := hk.inj hk'
          subst ek
          exact ⟨by show 1 ≤ sizeLine; decide, fun p np => ⟨.ref p, rfl, fun H4 t s4 ht => told_one s3 np (fun H' => .inr (.inl ⟨_, rfl, rfl⟩)) s4 ht⟩⟩
      have Q5 : ∀ F k, FieldOk F 2 3 → Lgst F 2 3 wd k → Tells P wl K mg base f5 [F.map textD] (.list [.bool (decide ((1 : Int) < (wd.length : Int)) && decide ((1 : Int) = (k : Int)))]) (pl D1 _) := fun F k o hk => tells_lam M5 cap fun H2 hp s2 hr => by
        obtain ⟨a0, h1, fa0⟩ := rows1 o hr
        refine ⟨rfl, rfl, fun x dx nx nd ne => ⟨x, dx, 1, rfl, upd_same, fun H3 k3 h3 => ⟨rfl, ?_⟩⟩⟩
        have s3 := same_made nx nd k3
        have h1 := s3.seq h1
        refine ⟨x, dx, _, rfl, h3, rfl, .ref hp, rfl, hp, _, 0, .ref a0, rfl, rfl, h1, atI_nat (j := 0) rfl, tv wd, rfl, x, dx, 1, a0, F, 2, 3, wd, rfl, h3, l6, fa0.same s3, fun H4 k' s4 hk' => ?_⟩
        have ek := hk.inj hk'
        subst ek
        exact ⟨by show 1 ≤ sizeLine; decide, fun p np => ⟨.ref p, rfl, fun H5 t s5 ht => told_one (s3.trans s4) np (fun H' => .inr (.inl ⟨_, rfl, rfl⟩)) s5 ht⟩⟩
      have Q6 : ∀ F, FieldOk F 2 3 → Tells P wl K mg base f6 [F.map textD] (.list ((nearL 2 3 (0, 0)).map cellD)) (pl D1 _) := fun F o => tells_lam M6 cap fun H2 hp s2 hr => by
        obtain ⟨a0, h1, fa0⟩ := rows1 o hr
        exact ⟨rfl, rfl, .ref hp, rfl, hp, _, 0, .ref a0, rfl, rfl, h1, atI_nat (j := 0) rfl, fun vc H3 s3 dc => ⟨a0, F, 2, 3, vc, (0, 0), rfl, fa0.same s3, dp_cell dc, by decide, fun H4 p ys s4 np hp4 hc => ⟨.ref p, rfl, fun H5 t s5 ht => told_two (s3.trans s4) (s3.free np) hp4 (fls_cells hc) (by rw [hc.length]; decide) s5 ht⟩⟩⟩
      have Q7 : ∀ F, FieldOk F 2 3 → Tells P wl K mg base f7 [F.map textD] (.list ((turnedL F 3).map textD)) (pl D1 _) := fun F o => tells_lam M7 cap fun H2 hp s2 hr => by
        obtain ⟨a0, h1, fa0⟩ := rows1 o hr
        exact ⟨rfl, rfl, .ref hp, rfl, hp, _, 0, .ref a0, rfl, rfl, h1, atI_nat (j := 0) rfl, a0, F, 2, 3, rfl, fa0, fun H3 p s3 np hp3 => ⟨.ref p, rfl, fun H4 t s4 ht => told_two s3 np hp3 (fls_texts _) (by rw [List.length_map]; unfold turnedL; rw [List.length_map, List.length_range]; decide) s4 ht⟩⟩
      have Q8 : ∀ F, FieldOk F 2 3 → Tells P wl K mg base f8 [F.map textD] (.list ((mirroredL F).map textD)) (pl D1 _) := fun F o => tells_lam M8 cap fun H2 hp s2 hr => by
        obtain ⟨a0, h1, fa0⟩ := rows1 o hr
        exact ⟨rfl, rfl, .ref hp, rfl, hp, _, 0, .ref a0, rfl, rfl, h1, atI_nat (j := 0) rfl, a0, F, 2, 3, rfl, fa0, fun H3 p s3 np hp3 => ⟨.ref p, rfl, fun H4 t s4 ht => told_two s3 np hp3 (fls_texts _) (by rw [List.length_map]; unfold mirroredL; rw [List.length_map, o.high]; decide) s4 ht⟩⟩
      have Q9 : ∀ (F W : List (List Nat)), FieldOk F 2 3 → srtB W (wordsT F 2 3 2) = true → W.length ≤ 100 → Tells P wl K mg base f9 [F.map textD] (.list (W.map textD)) (pl D1 _) := fun F W o hW lW => tells_lam M9 cap fun H2 hp s2 hr => by
        obtain ⟨a0, h1, fa0⟩ := rows1 o hr
        refine ⟨rfl, rfl, .ref hp, rfl, hp, _, 0, .ref a0, rfl, rfl, h1, atI_nat (j := 0) rfl, a0, F, 2, 3, 2, wordsT F 2 3 2, rfl, fa0, by decide, by decide, ?_, fun x hx => hx, fun H3 p ys s3 np hp3 srt => ⟨.ref p, rfl, fun H4 t s4 ht => ?_⟩⟩
        · exact Nat.lt_of_le_of_lt (wordsT_len (by decide) (by decide) 1) (by decide)
        · have e := SrtT.is srt hW
          subst e
          exact told_two s3 np hp3 (fls_texts _) (by rw [List.length_map]; omega) s4 ht
      obtain ⟨bA, tA⟩ := Q4 Fa kA okA hkA
      obtain ⟨bB, tB⟩ := Q4 Fb kB okB hkB
      refine ⟨p11, [f1, f2, f3, f4, f5, f6, f7, f8, f9], .ref q1, .ref q2, [Fa.map textD], [Fb.map textD], rfl, SqL.of (up _ _ ((d1.trans d2) _ _ upd_same)), by show 9 ≤ 1000; decide, ⟨q1, [.ref fa], rfl, SqL.of (up _ _ (d2 _ _ upd_same)), .cons ⟨fa, _, rfl, up.seq gE.A, fls_texts Fa⟩ .nil⟩, ⟨q2, [.ref fo], rfl, SqL.of (up _ _ upd_same), .cons ⟨fo, _, rfl, up.seq gE.B, fls_texts Fb⟩ .nil⟩, rfl, small1 okA, small1 okB, ?_, fun H' s' => ⟨true, rfl, iteF ⟨gE.same (same_mi_pl cap.no s'), _, _, _, _, rfl⟩⟩⟩
      refine List.forall_mem_cons.mpr ⟨⟨M1.fn cap.no, _, _, shown_bools _ _, shown_bools _ _, Q1 Fa okA, Q1 Fb okB⟩, ?_⟩
      refine List.forall_mem_cons.mpr ⟨⟨M2.fn cap.no, _, _, shown_int (cnt_ok (by decide +kernel) hwd), shown_int (cnt_ok (by decide +kernel) hwd), Q2 Fa okA, Q2 Fb okB⟩, ?_⟩
      refine List.forall_mem_cons.mpr ⟨⟨M3.fn cap.no, _, _, shown_cells (fun c hc => (mem_srtC.mp hc).1) (srt_small _), shown_cells (fun c hc => (mem_srtC.mp hc).1) (srt_small _), Q3 Fa okA, Q3 Fb okB⟩, ?_⟩
      refine List.forall_mem_cons.mpr ⟨⟨M4.fn cap.no, _, _, shown_bool _, shown_bool _, tA, tB⟩, ?_⟩
      refine List.forall_mem_cons.mpr ⟨⟨M5.fn cap.no, _, _, shown_bool _, shown_bool _, Q5 Fa kA okA hkA, Q5 Fb kB okB hkB⟩, ?_⟩
      refine List.forall_mem_cons.mpr ⟨⟨M6.fn cap.no, _, _, shown_dec (by decide +kernel) (by decide +kernel) (by decide +kernel) (by decide +kernel), shown_dec (by decide +kernel) (by decide +kernel) (by decide +kernel) (by decide +kernel), Q6 Fa okA, Q6 Fb okB⟩, ?_⟩
      refine List.forall_mem_cons.mpr ⟨⟨M7.fn cap.no, _, _, shown_dec (by decide +kernel) (by decide +kernel) (by decide +kernel) (by decide +kernel), shown_dec (by decide +kernel) (by decide +kernel) (by decide +kernel) (by decide +kernel), Q7 Fa okA, Q7 Fb okB⟩, ?_⟩
      refine List.forall_mem_cons.mpr ⟨⟨M8.fn cap.no, _, _, shown_dec (by decide +kernel) (by decide +kernel) (by decide +kernel) (by decide +kernel), shown_dec (by decide +kernel) (by decide +kernel) (by decide +kernel) (by decide +kernel), Q8 Fa okA, Q8 Fb okB⟩, ?_⟩
      refine List.forall_mem_cons.mpr ⟨⟨M9.fn cap.no, _, _, shown_dec (by decide +kernel) (by decide +kernel) (by decide +kernel) (by decide +kernel), shown_dec (by decide +kernel) (by decide +kernel) (by decide +kernel) (by decide +kernel), Q9 Fa wdsA okA (by decide +kernel) (by decide), Q9 Fb wdsB okB (by decide +kernel) (by decide)⟩, ?_⟩
      exact fun _ z => absurd z List.not_mem_nil
    · obtain ⟨g1, y3, y4, y5, y6, rfl⟩ := pv
      refine ⟨g1.t, fun f1 H2 e2 T2 L1 => ⟨by show 1 ≤ sizeLine; decide, fun p1 np1 => ?_⟩⟩
      have a1 := same_new (o := .lst [.ref f1]) np1
      have g2 := (g1.ext e2 T2).same a1
      refine ⟨.ref p1, rfl, .ref fa, rfl, by show 1 ≤ sizeLine; decide, fun q1 nq1 => ⟨.ref fo, rfl, by show 1 ≤ sizeLine; decide, fun q2 nq2 => fun D1 cap => ?_⟩⟩
      have d1 := same_new (o := .lst [.ref fa]) nq1
      have d2 := same_new (o := .lst [.ref fo]) nq2
      have gE := g2.same (d1.trans d2)
      have M1 := (L1.same a1).same (d1.trans d2)
      have up := same_pl cap.no
      have Q1 : ∀ F sn, FieldOk F 2 3 → (snakesOn F 2 3 [97, 98] [])[0]? = some sn → sn.length ≤ 100 → Tells P wl K mg base f1 [F.map textD] (.list (sn.map cellD)) (pl D1 _) := fun F sn o hsn hl => tells_lam M1 cap fun H2 hp s2 hr => by
        obtain ⟨a0, h1, fa0⟩ := rows1 o hr
        exact ⟨rfl, rfl, .ref hp, rfl, hp, _, 0, .ref a0, rfl, rfl, h1, atI_nat (j := 0) rfl, a0, F, 2, 3, [97, 98], 0, sn, rfl, fa0, wAB, hsn, fun H3 p ys s3 np hp3 hc => ⟨.ref p, rfl, fun H4 t s4 ht => told_two s3 np hp3 (fls_cells hc) (by rw [hc.length]; omega) s4 ht⟩⟩
      refine ⟨p1, [f1], .ref q1, .ref q2, [Fa.map textD], [Fb.map textD], rfl, SqL.of (up _ _ ((d1.trans d2) _ _ upd_same)), by show 1 ≤ 1000; decide, ⟨q1, [.ref fa], rfl, SqL.of (up _ _ (d2 _ _ upd_same)), .cons ⟨fa, _, rfl, up.seq gE.A, fls_texts Fa⟩ .nil⟩, ⟨q2, [.ref fo], rfl, SqL.of (up _ _ upd_same), .cons ⟨fo, _, rfl, up.seq gE.B, fls_texts Fb⟩ .nil⟩, rfl, small1 okA, small1 okB, ?_, fun H3 s3 => ⟨true, rfl, iteF ?_⟩⟩
      · exact List.forall_mem_cons.mpr ⟨⟨M1.fn cap.no, _, _, shown_dec (by decide +kernel) (by decide +kernel) (by decide +kernel) (by decide +kernel), shown_dec (by decide +kernel) (by decide +kernel) (by decide +kernel) (by decide +kernel), Q1 Fa [(0, 0), (0, 1)] okA (by decide +kernel) (by decide), Q1 Fb [(0, 0), (0, 1)] okB (by decide +kernel) (by decide)⟩, fun _ z => absurd z List.not_mem_nil⟩
      have g3 := gE.same (same_mi_pl cap.no s3)
      generalize mi D1 H3 = Ha at g3
      clear Q1 M1 L1 cap up
      refine ⟨.ref fa, rfl, fa, Fa, 2, 3, [97, 98], 0, [(0, 0), (0, 1)], rfl, ⟨g3.A, okA⟩, wAB, by decide +kernel, fun H4 o1 x1 s4 no1 ho1 hc1 => ?_⟩
      refine ⟨.ref fa, rfl, fa, Fa, 2, 3, [97, 98], 1, [(0, 0), (1, 0)], rfl, ⟨s4.seq g3.A, okA⟩, wAB, by decide +kernel, fun H5 o2 x2 s5 no2 ho2 hc2 => ⟨_, _, rfl, ?_⟩⟩
      have g5 := g3.same (s4.trans s5)
      refine ⟨g5.t, fun f1 H6 e6 T6 L1 => ⟨by show 1 ≤ sizeLine; decide, fun p1 np1 => ⟨.ref fa, rfl, .ref o1, rfl, by show 2 ≤ sizeLine; decide, fun q1 nq1 => ⟨.ref fa, rfl, .ref o2, rfl, by show 2 ≤ sizeLine; decide, fun q2 nq2 => fun D1 cap => ?_⟩⟩⟩⟩
      have a1 := same_new (o := .lst [.ref f1]) np1
      have d1 := same_new (o := .lst [.ref fa, .ref o1]) nq1
      have d2 := same_new (o := .lst [.ref fa, .ref o2]) nq2
      have sE := a1.trans (d1.trans d2)
      have gE := (g5.ext e6 T6).same sE
      have M1 := L1.same sE
      have up := same_pl cap.no
      have Rw1 : Row K _ (.ref o1) ([(0, 0), (0, 1)].map cellD) := ⟨o1, x1, rfl, (sE.trans up).seq (SqL.of (ext_lst e6 (s5 _ _ ho1))), (Fls.le (fls_cells (hc1.le (TupLe.of s5))) (ext_tup e6)).le (TupLe.of (sE.trans up))⟩
      have Rw2 : Row K _ (.ref o2) ([(0, 0), (1, 0)].map cellD) := ⟨o2, x2, rfl, (sE.trans up).seq (SqL.of (ext_lst e6 ho2)), (Fls.le (fls_cells hc2) (ext_tup e6)).le (TupLe.of (sE.trans up))⟩
      have Q1 : ∀ cl i, cl ≠ [] → cl.length ≤ 6 → (snakesOn Fa 2 3 (spell Fa cl) [])[i]? = some cl → Tells P wl K mg base f1 [Fa.map textD, cl.map cellD] (.list [.int ((i : Nat) : Int)]) (pl D1 _) := fun cl i hne hl hi => tells_lam M1 cap fun H2 hp s2 hr => by
        obtain ⟨a0, b0, xs, h1, fa0, qb, cb⟩ := rows2 okA hr
        exact ⟨rfl, rfl, .ref hp, rfl, hp, _, 0, .ref a0, rfl, rfl, h1, atI_nat (j := 0) rfl, .ref hp, rfl, hp, _, 1, .ref b0, rfl, rfl, h1, atI_nat (j := 1) rfl, a0, Fa, 2, 3, b0, xs, cl, i, rfl, fa0, qb, cb, hne, hl, hi, fun H3 s3 => ⟨by show 1 ≤ sizeLine; decide, fun p np => ⟨.ref p, rfl, fun H4 t s4 ht => told_one s3 np (fun H' => .inl ⟨_, rfl, rfl⟩) s4 ht⟩⟩⟩
      refine ⟨p1, [f1], .ref q1, .ref q2, [Fa.map textD, [(0, 0), (0, 1)].map cellD], [Fa.map textD, [(0, 0), (1, 0)].map cellD], rfl, SqL.of (up _ _ ((d1.trans d2) _ _ upd_same)), by show 1 ≤ 1000; decide, ⟨q1, [.ref fa, .ref o1], rfl, SqL.of (up _ _ (d2 _ _ upd_same)), .cons ⟨fa, _, rfl, up.seq gE.A, fls_texts Fa⟩ (.cons Rw1 .nil)⟩, ⟨q2, [.ref fa, .ref o2], rfl, SqL.of (up _ _ upd_same), .cons ⟨fa, _, rfl, up.seq gE.A, fls_texts Fa⟩ (.cons Rw2 .nil)⟩, rfl, small2 okA _ (by decide), small2 okA _ (by decide), ?_, fun H3 s3 => q _⟩
      exact List.forall_mem_cons.mpr ⟨⟨M1.fn cap.no, _, _, shown_int (n := 0) (by decide), shown_int (n := 1) (by decide), Q1 _ 0 (by decide) (by decide) (by decide +kernel), Q1 _ 1 (by decide) (by decide) (by decide +kernel)⟩, fun _ z => absurd z List.not_mem_nil⟩
end
end Sk
namespace Sk
open PySem PySem.Spec PyProof.Rows L2 Sn LamX NdefX
def hd_fn : List He.DefD := [⟨("is_whole", none), "is_whole", "is_whole", defArgs s_is_whole, defBody s_is_whole, defScope s_is_whole, [], []⟩, ⟨("is_text", none), "is_text", "is_text", defArgs s_is_text, defBody s_is_text, defScope s_is_text, [], []⟩, ⟨("check_field", none), "check_field", "check_field", defArgs s_check_field, defBody s_check_field, defScope s_check_field, [], []⟩, ⟨("is_cell", none), "is_cell", "is_cell", defArgs s_is_cell, defBody s_is_cell, defScope s_is_cell, [], []⟩, ⟨("check_word", none), "check_word", "check_word", defArgs s_check_word, defBody s_check_word, defScope s_check_word, [], []⟩, ⟨("cells_in", none), "cells_in", "cells_in", defArgs s_cells_in, defBody s_cells_in, defScope s_cells_in, [], []⟩, ⟨("letter_at", none), "letter_at", "letter_at", defArgs s_letter_at, defBody s_letter_at, defScope s_letter_at, [], []⟩, ⟨("near_of", none), "near_of", "near_of", defArgs s_near_of, defBody s_near_of, defScope s_near_of, [], []⟩, ⟨("near", none), "near", "near", defArgs s_near, defBody s_near, defScope s_near, [], []⟩, ⟨("turned", none), "turned", "turned", defArgs s_turned, defBody s_turned, defScope s_turned, [], []⟩, ⟨("mirrored", none), "mirrored", "mirrored", defArgs s_mirrored, defBody s_mirrored, defScope s_mirrored, [], []⟩, ⟨("is_snake", none), "is_snake", "is_snake", defArgs s_is_snake, defBody s_is_snake, defScope s_is_snake, [], []⟩, ⟨("spelled", none), "spelled", "spelled", defArgs s_spelled, defBody s_spelled, defScope s_spelled, [], []⟩, ⟨("next_cells", none), "next_cells", "next_cells", defArgs s_next_cells, defBody s_next_cells, defScope s_next_cells, [], []⟩, ⟨("snakes_on", none), "snakes_on", "snakes_on", defArgs s_snakes_on, defBody s_snakes_on, defScope s_snakes_on, [], []⟩, ⟨("longest", none), "longest", "longest", defArgs s_longest, defBody s_longest, defScope s_longest, [], []⟩, ⟨("Found", some "__init__"), "__init__", "Found.__init__", defArgs s_Found___init__, defBody s_Found___init__, defScope s_Found___init__, [], []⟩, ⟨("Found", some "shows"), "shows", "Found.shows", defArgs s_Found_shows, defBody s_Found_shows, defScope s_Found_shows, [], []⟩, ⟨("Stops", some "__init__"), "__init__", "Stops.__init__", defArgs s_Stops___init__, defBody s_Stops___init__, defScope s_Stops___init__, [], []⟩, ⟨("Stops", some "shows"), "shows", "Stops.shows", defArgs s_Stops_shows, defBody s_Stops_shows, defScope s_Stops_shows, [], []⟩, ⟨("judged", none), "judged", "judged", defArgs s_judged, defBody s_judged, defScope s_judged, [], []⟩, ⟨("how_many", none), "how_many", "how_many", defArgs s_how_many, defBody s_how_many, defScope s_how_many, [], []⟩, ⟨("by_number", none), "by_number", "by_number", defArgs s_by_number, defBody s_by_number, defScope s_by_number, [], []⟩, ⟨("number_of", none), "number_of", "number_of", defArgs s_number_of, defBody s_number_of, defScope s_number_of, [], []⟩, ⟨("gone_over", none), "gone_over", "gone_over", defArgs s_gone_over, defBody s_gone_over, defScope s_gone_over, [], []⟩, ⟨("words", none), "words", "words", defArgs s_words, defBody s_words, defScope s_words, [], []⟩, ⟨("_law_cell_at", none), "_law_cell_at", "_law_cell_at", defArgs s__law_cell_at, defBody s__law_cell_at, defScope s__law_cell_at, [], []⟩, ⟨("_law_draw", none), "_law_draw", "_law_draw", defArgs s__law_draw, defBody s__law_draw, defScope s__law_draw, [], []⟩, ⟨("_law_number", none), "_law_number", "_law_number", defArgs s__law_number, defBody s__law_number, defScope s__law_number, [], []⟩, ⟨("_law_deep", none), "_law_deep", "_law_deep", defArgs s__law_deep, defBody s__law_deep, defScope s__law_deep, [], []⟩, ⟨("_law_spoilt", none), "_law_spoilt", "_law_spoilt", defArgs s__law_spoilt, defBody s__law_spoilt, defScope s__law_spoilt, [], []⟩, ⟨("_law_put", none), "_law_put", "_law_put", defArgs s__law_put, defBody s__law_put, defScope s__law_put, [], []⟩, ⟨("_law_door_right", none), "_law_door_right", "_law_door_right", defArgs s__law_door_right, defBody s__law_door_right, defScope s__law_door_right, [], []⟩, ⟨("_law_two", none), "_law_two", "_law_two", defArgs s__law_two, defBody s__law_two, defScope s__law_two, [], []⟩, ⟨("_law_doors_right", none), "_law_doors_right", "_law_doors_right", defArgs s__law_doors_right, defBody s__law_doors_right, defScope s__law_doors_right, [], []⟩, ⟨("_law_judged", none), "_law_judged", "_law_judged", defArgs s__law_judged, defBody s__law_judged, defScope s__law_judged, [], []⟩, ⟨("law", none), "law", "law", defArgs s_law, defBody s_law, defScope s_law, [], []⟩]
def hd_fa : List He.Fa := [.glo "is_whole", .glo "is_text", .glo "check_field", .glo "is_cell", .glo "check_word", .glo "cells_in", .glo "letter_at", .glo "near_of", .glo "near", .glo "turned", .glo "mirrored", .glo "is_snake", .glo "spelled", .glo "next_cells", .glo "snakes_on", .glo "longest", .glo "judged", .glo "how_many", .glo "by_number", .glo "number_of", .glo "gone_over", .glo "words", .glo "_law_cell_at", .glo "_law_draw", .glo "_law_number", .glo "_law_deep", .glo "_law_spoilt", .glo "_law_put", .glo "_law_door_right", .glo "_law_two", .glo "_law_doors_right", .glo "_law_judged", .glo "law", .free "all", .free "any", .free "bool", .free "int", .free "isinstance", .free "len", .free "list", .free "max", .free "min", .free "range", .free "set", .free "sorted", .free "str", .free "tuple", .free "zip", .int "WIDEST" 5, .int "LONGEST" 6, .str "LETTERS" "abcdefghijklmnopqrstuvwxyz", .int "FEW" 4, .glo "Answer", .cls "Answer", .glo "Found", .cls "Found", .glo "Stops", .cls "Stops", .noat "Found" "cells", .meth "Found" "shows", .mkr "Found", .noat "Stops" "many", .meth "Stops" "shows", .mkr "Stops"]
def hd_ex (K : PySem.W.Frag) : Bool := (klgB K && (clsB K "Answer" && (clsB K "Found" && (clsB K "Stops" && (kitB2 K "Found" "Found" true && (kitB2 K "Found" "Stops" false && (kitB2 K "Found" "Answer" true && (kitB2 K "Stops" "Found" false && (kitB2 K "Stops" "Stops" true && (kitB2 K "Stops" "Answer" true && (ownB K "law" && true)))))))))))
def hd_names : List PySem.Str := (["SnakeError", "BadField", "BadCell", "BadWord", "BadSnake", "BadNumber", "BadCount", "WIDEST", "LONGEST", "LETTERS", "is_whole", "is_text", "check_field", "is_cell", "check_word", "cells_in", "letter_at", "near_of", "near", "turned", "mirrored", "Answer", "is_snake", "spelled", "next_cells", "snakes_on", "longest", "Found", "Stops", "FEW"] : List PySem.Str) ++ (["judged", "how_many", "by_number", "number_of", "gone_over", "words", "_law_cell_at", "_law_draw", "_law_number", "_law_deep", "_law_spoilt", "_law_put", "_law_door_right", "_law_two", "_law_doors_right", "_law_judged"] : List PySem.Str)
abbrev hd_R : PySem.W.OpenRow := PySem.W.OpenLaw.row PySem.Challenge.rw_lettersnake_k08_whole_anew
abbrev hd_hk : PySem.W.Hook := hookT 5 hd_fa hd_fn hd_ex
def hd_ob (s : PySem.W.SharedT) : Bool × He.AlD := obT 5 hd_fa hd_fn hd_ex (HandSHeadRun.getT s)
theorem hd_obeq (s : PySem.W.SharedT) : hd_ob s = hd_hk.obs s.abs := obT_eq (HandSHeadRun.getT_eq s)
theorem hd_run (w : World) : HandSHeadRun.RunEq hd_R (PySem.W.view hd_R.prog [51]) hd_hk hd_ob 6000 hd_names w := by
  intro os
  kernel_rfl
section
variable {K : PySem.W.Frag} {h : Heap} {mg : Str → Option Value}
theorem hd_is_whole (X : K.In h) (G : h.Ns mainGlobals mg) (c : He.SaysD hd_fa hd_fn K) : Dfn K mg "is_whole" s_is_whole := by
  obtain ⟨fd, F⟩ := c.def_ 0 (d := ⟨("is_whole", none), "is_whole", "is_whole", defArgs s_is_whole, defBody s_is_whole, defScope s_is_whole, [], []⟩) rfl
  exact ⟨_, fd, F, He.glo_ok X G (c.fact 0 (f := .glo "is_whole") rfl)⟩
theorem hd_is_text (X : K.In h) (G : h.Ns mainGlobals mg) (c : He.SaysD hd_fa hd_fn K) : Dfn K mg "is_text" s_is_text := by
  obtain ⟨fd, F⟩ := c.def_ 1 (d := ⟨("is_text", none), "is_text", "is_text", defArgs s_is_text, defBody s_is_text, defScope s_is_text, [], []⟩) rfl
  exact ⟨_, fd, F, He.glo_ok X G (c.fact 1 (f := .glo "is_text") rfl)⟩
theorem hd_check_field (X : K.In h) (G : h.Ns mainGlobals mg) (c : He.SaysD hd_fa hd_fn K) : Dfn K mg "check_field" s_check_field := by
  obtain ⟨fd, F⟩ := c.def_ 2 (d := ⟨("check_field", none), "check_field", "check_field", defArgs s_check_field, defBody s_check_field, defScope s_check_field, [], []⟩) rfl
  exact ⟨_, fd, F, He.glo_ok X G (c.fact 2 (f := .glo "check_field") rfl)⟩
theorem hd_is_cell (X : K.In h) (G : h.Ns mainGlobals mg) (c : He.SaysD hd_fa hd_fn K) : Dfn K mg "is_cell" s_is_cell := by
  obtain ⟨fd, F⟩ := c.def_ 3 (d := ⟨("is_cell", none), "is_cell", "is_cell", defArgs s_is_cell, defBody s_is_cell, defScope s_is_cell, [], []⟩) rfl
  exact ⟨_, fd, F, He.glo_ok X G (c.fact 3 (f := .glo "is_cell") rfl)⟩
theorem hd_check_word (X : K.In h) (G : h.Ns mainGlobals mg) (c : He.SaysD hd_fa hd_fn K) : Dfn K mg "check_word" s_check_word := by
  obtain ⟨fd, F⟩ := c.def_ 4 (d := ⟨("check_word", none), "check_word", "check_word", defArgs s_check_word, defBody s_check_word, defScope s_check_word, [], []⟩) rfl
  exact ⟨_, fd, F, He.glo_ok X G (c.fact 4 (f := .glo "check_word") rfl)⟩
theorem hd_cells_in (X : K.In h) (G : h.Ns mainGlobals mg) (c : He.SaysD hd_fa hd_fn K) : Dfn K mg "cells_in" s_cells_in := by
  obtain ⟨fd, F⟩ := c.def_ 5 (d := ⟨("cells_in", none), "cells_in", "cells_in", defArgs s_cells_in, defBody s_cells_in, defScope s_cells_in, [], []⟩) rfl
  exact ⟨_, fd, F, He.glo_ok X G (c.fact 5 (f := .glo "cells_in") rfl)⟩
theorem hd_letter_at (X : K.In h) (G : h.Ns mainGlobals mg) (c : He.SaysD hd_fa hd_fn K) : Dfn K mg "letter_at" s_letter_at := by
  obtain ⟨fd, F⟩ := c.def_ 6 (d := ⟨("letter_at", none), "letter_at", "letter_at", defArgs s_letter_at, defBody s_letter_at, defScope s_letter_at, [], []⟩) rfl
  exact ⟨_, fd, F, He.glo_ok X G (c.fact 6 (f := .glo "letter_at") rfl)⟩
theorem hd_near_of (X : K.In h) (G : h.Ns mainGlobals mg) (c : He.SaysD hd_fa hd_fn K) : Dfn K mg "near_of" s_near_of := by
  obtain ⟨fd, F⟩ := c.def_ 7 (d := ⟨("near_of", none), "near_of", "near_of", defArgs s_near_of, defBody s_near_of, defScope s_near_of, [], []⟩) rfl
  exact ⟨_, fd, F, He.glo_ok X G (c.fact 7 (f := .glo "near_of") rfl)⟩
theorem hd_near (X : K.In h) (G : h.Ns mainGlobals mg) (c : He.SaysD hd_fa hd_fn K) : Dfn K mg "near" s_near := by
  obtain ⟨fd, F⟩ := c.def_ 8 (d := ⟨("near", none), "near", "near", defArgs s_near, defBody s_near, defScope s_near, [], []⟩) rfl
  exact ⟨_, fd, F, He.glo_ok X G (c.fact 8 (f := .glo "near") rfl)⟩
theorem hd_turned (X : K.In h) (G : h.Ns mainGlobals mg) (c : He.SaysD hd_fa hd_fn K) : Dfn K mg "turned" s_turned := by
  obtain ⟨fd, F⟩ := c.def_ 9 (d := ⟨("turned", none), "turned", "turned", defArgs s_turned, defBody s_turned, defScope s_turned, [], []⟩) rfl
  exact ⟨_, fd, F, He.glo_ok X G (c.fact 9 (f := .glo "turned") rfl)⟩
theorem hd_mirrored (X : K.In h) (G : h.Ns mainGlobals mg) (c : He.SaysD hd_fa hd_fn K) : Dfn K mg "mirrored" s_mirrored := by
  obtain ⟨fd, F⟩ := c.def_ 10 (d := ⟨("mirrored", none), "mirrored", "mirrored", defArgs s_mirrored, defBody s_mirrored, defScope s_mirrored, [], []⟩) rfl
  exact ⟨_, fd, F, He.glo_ok X G (c.fact 10 (f := .glo "mirrored") rfl)⟩
theorem hd_is_snake (X : K.In h) (G : h.Ns mainGlobals mg) (c : He.SaysD hd_fa hd_fn K) : Dfn K mg "is_snake" s_is_snake := by
  obtain ⟨fd, F⟩ := c.def_ 11 (d := ⟨("is_snake", none), "is_snake", "is_snake", defArgs s_is_snake, defBody s_is_snake, defScope s_is_snake, [], []⟩) rfl
  exact ⟨_, fd, F, He.glo_ok X G (c.fact 11 (f := .glo "is_snake") rfl)⟩
theorem hd_spelled (X : K.In h) (G : h.Ns mainGlobals mg) (c : He.SaysD hd_fa hd_fn K) : Dfn K mg "spelled" s_spelled := by
  obtain ⟨fd, F⟩ := c.def_ 12 (d := ⟨("spelled", none), "spelled", "spelled", defArgs s_spelled, defBody s_spelled, defScope s_spelled, [], []⟩) rfl
  exact ⟨_, fd, F, He.glo_ok X G (c.fact 12 (f := .glo "spelled") rfl)⟩
theorem hd_next_cells (X : K.In h) (G : h.Ns mainGlobals mg) (c : He.SaysD hd_fa hd_fn K) : Dfn K mg "next_cells" s_next_cells := by
  obtain ⟨fd, F⟩ := c.def_ 13 (d := ⟨("next_cells", none), "next_cells", "next_cells", defArgs s_next_cells, defBody s_next_cells, defScope s_next_cells, [], []⟩) rfl
  exact ⟨_, fd, F, He.glo_ok X G (c.fact 13 (f := .glo "next_cells") rfl)⟩
theorem hd_snakes_on (X : K.In h) (G : h.Ns mainGlobals mg) (c : He.SaysD hd_fa hd_fn K) : Dfn K mg "snakes_on" s_snakes_on := by
  obtain ⟨fd, F⟩ := c.def_ 14 (d := ⟨("snakes_on", none), "snakes_on", "snakes_on", defArgs s_snakes_on, defBody s_snakes_on, defScope s_snakes_on, [], []⟩) rfl
  exact ⟨_, fd, F, He.glo_ok X G (c.fact 14 (f := .glo "snakes_on") rfl)⟩
theorem hd_longest (X : K.In h) (G : h.Ns mainGlobals mg) (c : He.SaysD hd_fa hd_fn K) : Dfn K mg "longest" s_longest := by
  obtain ⟨fd, F⟩ := c.def_ 15 (d := ⟨("longest", none), "longest", "longest", defArgs s_longest, defBody s_longest, defScope s_longest, [], []⟩) rfl
  exact ⟨_, fd, F, He.glo_ok X G (c.fact 15 (f := .glo "longest") rfl)⟩
theorem hd_Found___init__ (c : He.SaysD hd_fa hd_fn K) : DfnI K (He.ga K "Found") "Found.__init__" s_Found___init__ := by
  obtain ⟨fd, F⟩ := c.def_ 16 (d := ⟨("Found", some "__init__"), "__init__", "Found.__init__", defArgs s_Found___init__, defBody s_Found___init__, defScope s_Found___init__, [], []⟩) rfl
  exact ⟨_, fd, F, He.mkr_ok (c.fact 60 (f := .mkr "Found") rfl)⟩
theorem hd_Found_shows (c : He.SaysD hd_fa hd_fn K) : DfnM K (He.ga K "Found") "shows" "Found.shows" s_Found_shows := by
  obtain ⟨fd, F⟩ := c.def_ 17 (d := ⟨("Found", some "shows"), "shows", "Found.shows", defArgs s_Found_shows, defBody s_Found_shows, defScope s_Found_shows, [], []⟩) rfl
  exact ⟨_, fd, F, He.meth_ok (c.fact 59 (f := .meth "Found" "shows") rfl)⟩
theorem hd_Stops___init__ (c : He.SaysD hd_fa hd_fn K) : DfnI K (He.ga K "Stops") "Stops.__init__" s_Stops___init__ := by
  obtain ⟨fd, F⟩ := c.def_ 18 (d := ⟨("Stops", some "__init__"), "__init__", "Stops.__init__", defArgs s_Stops___init__, defBody s_Stops___init__, defScope s_Stops___init__, [], []⟩) rfl
  exact ⟨_, fd, F, He.mkr_ok (c.fact 63 (f := .mkr "Stops") rfl)⟩
theorem hd_Stops_shows (c : He.SaysD hd_fa hd_fn K) : DfnM K (He.ga K "Stops") "shows" "Stops.shows" s_Stops_shows := by
  obtain ⟨fd, F⟩ := c.def_ 19 (d := ⟨("Stops", some "shows"), "shows", "Stops.shows", defArgs s_Stops_shows, defBody s_Stops_shows, defScope s_Stops_shows, [], []⟩) rfl
  exact ⟨_, fd, F, He.meth_ok (c.fact 62 (f := .meth "Stops" "shows") rfl)⟩
theorem hd_judged (X : K.In h) (G : h.Ns mainGlobals mg) (c : He.SaysD hd_fa hd_fn K) : Dfn K mg "judged" s_judged := by
  obtain ⟨fd, F⟩ := c.def_ 20 (d := ⟨("judged", none), "judged", "judged", defArgs s_judged, defBody s_judged, defScope s_judged, [], []⟩) rfl
  exact ⟨_, fd, F, He.glo_ok X G (c.fact 16 (f := .glo "judged") rfl)⟩
theorem hd_how_many (X : K.In h) (G : h.Ns mainGlobals mg) (c : He.SaysD hd_fa hd_fn K) : Dfn K mg "how_many" s_how_many := by
  obtain ⟨fd, F⟩ := c.def_ 21 (d := ⟨("how_many", none), "how_many", "how_many", defArgs s_how_many, defBody s_how_many, defScope s_how_many, [], []⟩) rfl
  exact ⟨_, fd, F, He.glo_ok X G (c.fact 17 (f := .glo "how_many") rfl)⟩
theorem hd_by_number (X : K.In h) (G : h.Ns mainGlobals mg) (c : He.SaysD hd_fa hd_fn K) : Dfn K mg "by_number" s_by_number := by
  obtain ⟨fd, F⟩ := c.def_ 22 (d := ⟨("by_number", none), "by_number", "by_number", defArgs s_by_number, defBody s_by_number, defScope s_by_number, [], []⟩) rfl
  exact ⟨_, fd, F, He.glo_ok X G (c.fact 18 (f := .glo "by_number") rfl)⟩
theorem hd_number_of (X : K.In h) (G : h.Ns mainGlobals mg) (c : He.SaysD hd_fa hd_fn K) : Dfn K mg "number_of" s_number_of := by
  obtain ⟨fd, F⟩ := c.def_ 23 (d := ⟨("number_of", none), "number_of", "number_of", defArgs s_number_of, defBody s_number_of, defScope s_number_of, [], []⟩) rfl
  exact ⟨_, fd, F, He.glo_ok X G (c.fact 19 (f := .glo "number_of") rfl)⟩
theorem hd_gone_over (X : K.In h) (G : h.Ns mainGlobals mg) (c : He.SaysD hd_fa hd_fn K) : Dfn K mg "gone_over" s_gone_over := by
  obtain ⟨fd, F⟩ := c.def_ 24 (d := ⟨("gone_over", none), "gone_over", "gone_over", defArgs s_gone_over, defBody s_gone_over, defScope s_gone_over, [], []⟩) rfl
  exact ⟨_, fd, F, He.glo_ok X G (c.fact 20 (f := .glo "gone_over") rfl)⟩
theorem hd_words (X : K.In h) (G : h.Ns mainGlobals mg) (c : He.SaysD hd_fa hd_fn K) : Dfn K mg "words" s_words := by
  obtain ⟨fd, F⟩ := c.def_ 25 (d := ⟨("words", none), "words", "words", defArgs s_words, defBody s_words, defScope s_words, [], []⟩) rfl
  exact ⟨_, fd, F, He.glo_ok X G (c.fact 21 (f := .glo "words") rfl)⟩
theorem hd__law_cell_at (X : K.In h) (G : h.Ns mainGlobals mg) (c : He.SaysD hd_fa hd_fn K) : Dfn K mg "_law_cell_at" s__law_cell_at := by
  obtain ⟨fd, F⟩ := c.def_ 26 (d := ⟨("_law_cell_at", none), "_law_cell_at", "_law_cell_at", defArgs s__law_cell_at, defBody s__law_cell_at, defScope s__law_cell_at, [], []⟩) rfl
  exact ⟨_, fd, F, He.glo_ok X G (c.fact 22 (f := .glo "_law_cell_at") rfl)⟩
theorem hd__law_draw (X : K.In h) (G : h.Ns mainGlobals mg) (c : He.SaysD hd_fa hd_fn K) : Dfn K mg "_law_draw" s__law_draw := by
  obtain ⟨fd, F⟩ := c.def_ 27 (d := ⟨("_law_draw", none), "_law_draw", "_law_draw", defArgs s__law_draw, defBody s__law_draw, defScope s__law_draw, [], []⟩) rfl
  exact ⟨_, fd, F, He.glo_ok X G (c.fact 23 (f := .glo "_law_draw") rfl)⟩
theorem hd__law_number (X : K.In h) (G : h.Ns mainGlobals mg) (c : He.SaysD hd_fa hd_fn K) : Dfn K mg "_law_number" s__law_number := by
  obtain ⟨fd, F⟩ := c.def_ 28 (d := ⟨("_law_number", none), "_law_number", "_law_number", defArgs s__law_number, defBody s__law_number, defScope s__law_number, [], []⟩) rfl
  exact ⟨_, fd, F, He.glo_ok X G (c.fact 24 (f := .glo "_law_number") rfl)⟩
theorem hd__law_deep (X : K.In h) (G : h.Ns mainGlobals mg) (c : He.SaysD hd_fa hd_fn K) : Dfn K mg "_law_deep" s__law_deep := by
  obtain ⟨fd, F⟩ := c.def_ 29 (d := ⟨("_law_deep", none), "_law_deep", "_law_deep", defArgs s__law_deep, defBody s__law_deep, defScope s__law_deep, [], []⟩) rfl
  exact ⟨_, fd, F, He.glo_ok X G (c.fact 25 (f := .glo "_law_deep") rfl)⟩
theorem hd__law_spoilt (X : K.In h) (G : h.Ns mainGlobals mg) (c : He.SaysD hd_fa hd_fn K) : Dfn K mg "_law_spoilt" s__law_spoilt := by
  obtain ⟨fd, F⟩ := c.def_ 30 (d := ⟨("_law_spoilt", none), "_law_spoilt", "_law_spoilt", defArgs s__law_spoilt, defBody s__law_spoilt, defScope s__law_spoilt, [], []⟩) rfl
  exact ⟨_, fd, F, He.glo_ok X G (c.fact 26 (f := .glo "_law_spoilt") rfl)⟩
theorem hd__law_put (X : K.In h) (G : h.Ns mainGlobals mg) (c : He.SaysD hd_fa hd_fn K) : Dfn K mg "_law_put" s__law_put := by
  obtain ⟨fd, F⟩ := c.def_ 31 (d := ⟨("_law_put", none), "_law_put", "_law_put", defArgs s__law_put, defBody s__law_put, defScope s__law_put, [], []⟩) rfl
  exact ⟨_, fd, F, He.glo_ok X G (c.fact 27 (f := .glo "_law_put") rfl)⟩
theorem hd__law_door_right (X : K.In h) (G : h.Ns mainGlobals mg) (c : He.SaysD hd_fa hd_fn K) : Dfn K mg "_law_door_right" s__law_door_right := by
  obtain ⟨fd, F⟩ := c.def_ 32 (d := ⟨("_law_door_right", none), "_law_door_right", "_law_door_right", defArgs s__law_door_right, defBody s__law_door_right, defScope s__law_door_right, [], []⟩) rfl
  exact ⟨_, fd, F, He.glo_ok X G (c.fact 28 (f := .glo "_law_door_right") rfl)⟩
theorem hd__law_two (X : K.In h) (G : h.Ns mainGlobals mg) (c : He.SaysD hd_fa hd_fn K) : Dfn K mg "_law_two" s__law_two := by
  obtain ⟨fd, F⟩ := c.def_ 33 (d := ⟨("_law_two", none), "_law_two", "_law_two", defArgs s__law_two, defBody s__law_two, defScope s__law_two, [], []⟩) rfl
  exact ⟨_, fd, F, He.glo_ok X G (c.fact 29 (f := .glo "_law_two") rfl)⟩
theorem hd__law_doors_right (X : K.In h) (G : h.Ns mainGlobals mg) (c : He.SaysD hd_fa hd_fn K) : Dfn K mg "_law_doors_right" s__law_doors_right := by
  obtain ⟨fd, F⟩ := c.def_ 34 (d := ⟨("_law_doors_right", none), "_law_doors_right", "_law_doors_right", defArgs s__law_doors_right, defBody s__law_doors_right, defScope s__law_doors_right, [], []⟩) rfl
  exact ⟨_, fd, F, He.glo_ok X G (c.fact 30 (f := .glo "_law_doors_right") rfl)⟩
theorem hd__law_judged (X : K.In h) (G : h.Ns mainGlobals mg) (c : He.SaysD hd_fa hd_fn K) : Dfn K mg "_law_judged" s__law_judged := by
  obtain ⟨fd, F⟩ := c.def_ 35 (d := ⟨("_law_judged", none), "_law_judged", "_law_judged", defArgs s__law_judged, defBody s__law_judged, defScope s__law_judged, [], []⟩) rfl
  exact ⟨_, fd, F, He.glo_ok X G (c.fact 31 (f := .glo "_law_judged") rfl)⟩
theorem hd_law (X : K.In h) (G : h.Ns mainGlobals mg) (c : He.SaysD hd_fa hd_fn K) : Dfn K mg "law" s_law := by
  obtain ⟨fd, F⟩ := c.def_ 36 (d := ⟨("law", none), "law", "law", defArgs s_law, defBody s_law, defScope s_law, [], []⟩) rfl
  exact ⟨_, fd, F, He.glo_ok X G (c.fact 32 (f := .glo "law") rfl)⟩
theorem hd_bi (X : K.In h) (G : h.Ns mainGlobals mg) (c : He.SaysD hd_fa hd_fn K) : Bi mg where
  all := He.free_ok X G (c.fact 33 (f := .free "all") rfl)
  any := He.free_ok X G (c.fact 34 (f := .free "any") rfl)
  bool := He.free_ok X G (c.fact 35 (f := .free "bool") rfl)
  int := He.free_ok X G (c.fact 36 (f := .free "int") rfl)
  isinstance := He.free_ok X G (c.fact 37 (f := .free "isinstance") rfl)
  len := He.free_ok X G (c.fact 38 (f := .free "len") rfl)
  list := He.free_ok X G (c.fact 39 (f := .free "list") rfl)
  max := He.free_ok X G (c.fact 40 (f := .free "max") rfl)
  min := He.free_ok X G (c.fact 41 (f := .free "min") rfl)
  range := He.free_ok X G (c.fact 42 (f := .free "range") rfl)
  set := He.free_ok X G (c.fact 43 (f := .free "set") rfl)
  sorted := He.free_ok X G (c.fact 44 (f := .free "sorted") rfl)
  str := He.free_ok X G (c.fact 45 (f := .free "str") rfl)
  tuple := He.free_ok X G (c.fact 46 (f := .free "tuple") rfl)
  zip := He.free_ok X G (c.fact 47 (f := .free "zip") rfl)
  g_WIDEST := He.int_ok X G (c.fact 48 (f := .int "WIDEST" 5) rfl)
  g_LONGEST := He.int_ok X G (c.fact 49 (f := .int "LONGEST" 6) rfl)
  g_LETTERS := He.str_ok X G (c.fact 50 (f := .str "LETTERS" "abcdefghijklmnopqrstuvwxyz") rfl)
  g_FEW := He.int_ok X G (c.fact 51 (f := .int "FEW" 4) rfl)
structure HdEx (K : PySem.W.Frag) : Prop where
  x0 : klgB K = true
  x1 : clsB K "Answer" = true
  x2 : clsB K "Found" = true
  x3 : clsB K "Stops" = true
  x4 : kitB2 K "Found" "Found" true = true
  x5 : kitB2 K "Found" "Stops" false = true
  x6 : kitB2 K "Found" "Answer" true = true
  x7 : kitB2 K "Stops" "Found" false = true
  x8 : kitB2 K "Stops" "Stops" true = true
  x9 : kitB2 K "Stops" "Answer" true = true
  x10 : ownB K "law" = true
theorem hd_exs (x : hd_ex K = true) : HdEx K := by
  unfold hd_ex at x
  simp only [Bool.and_eq_true] at x
  exact ⟨x.1, x.2.1, x.2.2.1, x.2.2.2.1, x.2.2.2.2.1, x.2.2.2.2.2.1, x.2.2.2.2.2.2.1, x.2.2.2.2.2.2.2.1, x.2.2.2.2.2.2.2.2.1, x.2.2.2.2.2.2.2.2.2.1, x.2.2.2.2.2.2.2.2.2.2.1⟩
theorem hd_k_Answer (X : K.In h) (G : h.Ns mainGlobals mg) (c : He.SaysD hd_fa hd_fn K) (x : hd_ex K = true) : Kls K mg "Answer" (He.ga K "Answer") := clsB_ok (He.glo_ok X G (c.fact 52 (f := .glo "Answer") rfl)) (He.cls_ok (c.fact 53 (f := .cls "Answer") rfl)) (hd_exs x).x1
theorem hd_k_Found (X : K.In h) (G : h.Ns mainGlobals mg) (c : He.SaysD hd_fa hd_fn K) (x : hd_ex K = true) : Kls K mg "Found" (He.ga K "Found") := clsB_ok (He.glo_ok X G (c.fact 54 (f := .glo "Found") rfl)) (He.cls_ok (c.fact 55 (f := .cls "Found") rfl)) (hd_exs x).x2
theorem hd_k_Stops (X : K.In h) (G : h.Ns mainGlobals mg) (c : He.SaysD hd_fa hd_fn K) (x : hd_ex K = true) : Kls K mg "Stops" (He.ga K "Stops") := clsB_ok (He.glo_ok X G (c.fact 56 (f := .glo "Stops") rfl)) (He.cls_ok (c.fact 57 (f := .cls "Stops") rfl)) (hd_exs x).x3
theorem hd_n_Found (c : He.SaysD hd_fa hd_fn K) : NoAttr K (He.ga K "Found") "cells" := He.noat_ok (c.fact 58 (f := .noat "Found" "cells") rfl)
theorem hd_n_Stops (c : He.SaysD hd_fa hd_fn K) : NoAttr K (He.ga K "Stops") "many" := He.noat_ok (c.fact 61 (f := .noat "Stops" "many") rfl)
theorem hd_own (X : K.In h) (G : h.Ns mainGlobals mg) (c : He.SaysD hd_fa hd_fn K) (x : hd_ex K = true) : ∃ c0 P0, ∀ f, mg "law" = some (.ref f) → OwnC K f c0 P0 := by
  obtain ⟨c0, P0, O⟩ := ownB_ok (hd_exs x).x10
  have g := He.glo_ok X G (c.fact 32 (f := .glo "law") rfl)
  refine ⟨c0, P0, fun f e => ?_⟩
  have z := e.symm.trans g
  cases z
  exact O
theorem hd_kt_Found_Found (x : hd_ex K = true) : PySem.W.kitOne K (.ref (He.ga K "Found")) (.ref (He.ga K "Found")) = some true := of_decide_eq_true (hd_exs x).x4
theorem hd_kt_Found_Stops (x : hd_ex K = true) : PySem.W.kitOne K (.ref (He.ga K "Found")) (.ref (He.ga K "Stops")) = some false := of_decide_eq_true (hd_exs x).x5
theorem hd_kt_Found_Answer (x : hd_ex K = true) : PySem.W.kitOne K (.ref (He.ga K "Found")) (.ref (He.ga K "Answer")) = some true := of_decide_eq_true (hd_exs x).x6
theorem hd_kt_Stops_Found (x : hd_ex K = true) : PySem.W.kitOne K (.ref (He.ga K "Stops")) (.ref (He.ga K "Found")) = some false := of_decide_eq_true (hd_exs x).x7
theorem hd_kt_Stops_Stops (x : hd_ex K = true) : PySem.W.kitOne K (.ref (He.ga K "Stops")) (.ref (He.ga K "Stops")) = some true := of_decide_eq_true (hd_exs x).x8
theorem hd_kt_Stops_Answer (x : hd_ex K = true) : PySem.W.kitOne K (.ref (He.ga K "Stops")) (.ref (He.ga K "Answer")) = some true := of_decide_eq_true (hd_exs x).x9
end
theorem law_start {K : PySem.W.Frag} {P0 a : Addr} {H : Hp} {ns : List Int} (hP : H P0 = some (.tbl #[])) (hS : SqL K H a (ns.map V.int)) (hl : ns.length ≤ 63) (hbits : ∀ z ∈ ns, Builtin.Int.intBits z ≤ 1048576) : spLawT K P0 [.ref a] H (fun v _ => v = .bl true) (fun _ _ _ => False) := ⟨a, ns, 1048576, rfl, hS, bits_of hbits, by decide, hl, tabs_one hP, fun _ => rfl⟩
theorem law_all {P : Program} {w : World} {K : PySem.W.Frag} {h : Heap} {mg : Str → Option Value} {c0 P0 : Addr} (X : K.In h) (G : h.Ns mainGlobals mg) (c : He.SaysD hd_fa hd_fn K) (x : hd_ex K = true) (base : Heap) (O : ∀ f, mg "law" = some (.ref f) → OwnC K f c0 P0) (TB : TabB base mg c0 P0) : CalG P w K mg base CX0 18 "law" ["_law_script"] (spLawT K P0) := by
  have B := hd_bi X G c
  have k_Found := hd_k_Found X G c x
  have k_Stops := hd_k_Stops X G c x
  have n_Found := hd_n_Found (K := K) c
  have n_Stops := hd_n_Stops (K := K) c
  have c_is_whole := ok_is_whole (P := P) (w := w) (base := base) (hd_is_whole X G c) B
  have c_is_text := ok_is_text (P := P) (w := w) (base := base) (hd_is_text X G c) B
  have c_check_field := ok_check_field (hd_check_field X G c) B c_is_text
  have c_check_word := ok_check_word (hd_check_word X G c) B c_is_text
  have c_is_cell := ok_is_cell (hd_is_cell X G c) B c_is_whole
  have c_near_of := ok_near_of (P := P) (w := w) (base := base) (hd_near_of X G c) B
  have c_near := ok_near (hd_near X G c) B c_check_field c_is_cell c_near_of
  have c_turned := ok_turned (hd_turned X G c) B c_check_field
  have c_mirrored := ok_mirrored (hd_mirrored X G c) B c_check_field
  have c_cells_in := ok_cells_in (P := P) (wl := w) (base := base) (hd_cells_in X G c) B
  have c_letter_at := ok_letter_at (P := P) (wl := w) (base := base) (hd_letter_at X G c) B
  have c_is_snake := ok_is_snake (hd_is_snake X G c) B c_is_cell c_near_of
  have c_spelled := ok_spelled (hd_spelled X G c) B c_letter_at
  have c_next_cells := ok_next_cells (hd_next_cells X G c) B c_cells_in c_near_of
  have c_snakes_on := ok_snakes_on (hd_snakes_on X G c) B c_next_cells c_letter_at 6
  have c_longest := ok_longest (hd_longest X G c) B c_snakes_on
  have c_Found_init := ok_Found_init (P := P) (wl := w) (base := base) (hd_Found___init__ c) B k_Found n_Found
  have c_Stops_init := ok_Stops_init (P := P) (wl := w) (base := base) (hd_Stops___init__ c) B k_Stops n_Stops
  have c_Found_shows := ok_Found_shows (hd_Found_shows c) B k_Found n_Found c_is_snake c_spelled
  have c_Stops_shows := ok_Stops_shows (hd_Stops_shows c) B k_Stops n_Stops c_longest
  have c_judged := ok_judged (hd_judged X G c) B k_Found k_Stops c_check_field c_check_word c_snakes_on c_longest c_Found_init c_Stops_init
  have c_how_many := ok_how_many (hd_how_many X G c) B c_check_field c_check_word c_snakes_on
  have c_gone_over := ok_gone_over (hd_gone_over X G c) B c_check_field c_check_word c_snakes_on
  have c_words := ok_words (hd_words X G c) B c_is_whole c_check_field c_next_cells c_spelled
  have c_by_number := ok_by_number (hd_by_number X G c) B c_is_whole c_check_field c_check_word c_snakes_on
  have c_number_of := ok_number_of (hd_number_of X G c) B c_check_field c_is_cell c_is_snake c_spelled c_snakes_on
  have c_law_cell_at := ok_law_cell_at (P := P) (w := w) (base := base) (hd__law_cell_at X G c) B
  have c_law_draw := ok_law_draw (P := P) (w := w) (base := base) (hd__law_draw X G c) B
  have c_law_number := ok_law_number (hd__law_number X G c) B c_law_draw
  have c_deepA := ok_law_deepA (P := P) (wl := w) (base := base) (hd__law_deep X G c) B
  have c_deepC := ok_law_deepC (hd__law_deep X G c) B c_deepA
  have c_deepF := ok_law_deepF c_deepA c_deepC
  have c_deepR := ok_law_deepR (hd__law_deep X G c) B c_deepF
  have c_deepL := ok_law_deepL (hd__law_deep X G c) B c_deepR
  have c_spA := ok_law_spA (P := P) (wl := w) (base := base) (hd__law_spoilt X G c) B
  have c_spC := ok_law_spC (hd__law_spoilt X G c) B c_spA
  have c_spF := ok_law_spF c_spA c_spC
  have c_spL := ok_law_spL (hd__law_spoilt X G c) B c_spF
  have c_law_spoilt := ok_law_spoilt c_spF c_spL
  have c_law_put := ok_law_put (hd__law_put X G c) B c_deepR
  have c_law_door_right := ok_law_door_right (hd__law_door_right X G c) B c_deepL c_law_spoilt c_law_put
  have c_law_doors_right := ok_law_doors_right (hd__law_doors_right X G c) B c_law_door_right
  have c_law_two := ok_law_two (P := P) (wl := w) (base := base) (hd__law_two X G c) B
  have c_law_judged := ok_law_judged (hd__law_judged X G c) B k_Found k_Stops n_Found (klgB_ok (hd_exs x).x0) (hd_kt_Found_Found x) (hd_kt_Stops_Found x) c_judged c_Found_shows c_Stops_shows
  exact ok_law (hd_law X G c) B O TB k_Found k_Stops c_law_cell_at c_law_number (c_judged.imp here_of) c_law_judged c_law_two c_Found_shows c_Stops_shows c_Stops_init c_how_many c_gone_over c_near c_turned c_mirrored c_words c_by_number c_number_of c_law_doors_right
end Sk
open PySem PySem.W PySem.Calls PyProof.Rows
set_option maxHeartbeats 0 in
theorem PySem.Challenge.cw_lettersnake_k08_whole_anew_holds : PySem.Challenge.rw_lettersnake_k08_whole_anew.Holds := by
  w_on; o_law
  refine HandSHeadRun.head_any (r := OpenLaw.row PySem.Challenge.rw_lettersnake_k08_whole_anew) (q := view (OpenLaw.row PySem.Challenge.rw_lettersnake_k08_whole_anew).prog [51]) (H := Sk.hd_hk) (ob := Sk.hd_ob) (loose := Sk.hd_names) (d := HandSHeadRun.topDef (OpenLaw.row PySem.Challenge.rw_lettersnake_k08_whole_anew).prog 51) (kwd := []) Sk.hd_obeq
    (by kernel_rfl) (fun s => by kernel_rfl) Sk.hd_run (by kernel_rfl) (by kernel_rfl) (by kernel_rfl) (by rfl) (by first | assumption | decide +kernel) (by decide +kernel) ⟨rfl, rfl, rfl, rfl, rfl, by decide +kernel⟩ ?hw ?hc
  case hw => w_witness2
  case hc =>
    refine Sk.walk_T (l := PySem.Challenge.rw_lettersnake_k08_whole_anew) (n := 63) (k := 18) (x := "_law_script") rfl (by decide) (by kernel_rfl) ⟨rfl, by decide, by decide⟩ (by kernel_rfl) ?F
    intro w mg fa h Y G hmg0
    obtain ⟨K, KX, c, cx⟩ := Y
    have hmg : mg ("law" : PySem.Str) = some (.ref fa) := by
      have e : (HandSHeadRun.topDef (OpenLaw.row PySem.Challenge.rw_lettersnake_k08_whole_anew).prog 51).name = ("law" : PySem.Str) := by kernel_rfl
      rw [← e]
      exact hmg0
    obtain ⟨c0, P0, O⟩ := Sk.hd_own KX G c cx
    obtain ⟨fa2, fd, g, hb, hF⟩ := Sk.law_endT (P := (PySem.Challenge.rw_lettersnake_k08_whole_anew).prog) (w := w) (c := c0) (P0 := P0) (Sk.hd_law KX G c) Sk.bn_law fun base TB => Sk.law_all (P := (PySem.Challenge.rw_lettersnake_k08_whole_anew).prog) (w := w) KX G c cx base O TB
    have e := hmg.symm.trans g
    cases e
    exact ⟨K, fd, c0, P0, Sk.spLawT K P0, KX, O _ g, hb, fun H a ns hl hbits hP hS => Sk.law_start hP hS hl hbits, hF⟩
