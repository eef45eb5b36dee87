import PyProof.Rows.All
import Wide.All
import OpenK.AllK
import Wide.FinOn
import KE.KStateDown
import Lean
import HandS.ForMost
import HandS.EndBits
import HandS.IsInst
import HandS.Style
import HandS.Deep
import HandS.WideBits
import HandS.Zip
import HandS.Defaults
import PyProof.ReprRoads
import PyProof.StrOps2
import HandS.TupSets
import HandS.HeadHook1
import HandS.HeadHook2
import HandS.Walk
import HandS.Head0
import HandS.Head1
import HandS.Head2
import HandS.HeadEnd
import PySem.Challenge.RW_lettersnake_k03_answers_by_hand
set_option Elab.async false
set_option linter.all false
set_option maxRecDepth 100000
set_option maxHeartbeats 8000000
/-! A layer of my own over HandS: calls that know that no repr runs (guards), str of data, texts backwards. -/
namespace Sk
open PySem PySem.Spec PyProof.Rows L2

/-! ### a def's promise where no guard is on the stack -/
structure FnG (P : Program) (w : World) (K : PySem.W.Frag) (mg : Str → Option Value) (base : Heap) (CX : CXT) (k : Nat) (f : Addr) (fd : FuncData) (ps : List Str) (sp : Sp) : Prop where
  len : ∀ vs H Q E, sp vs H Q E → vs.length = ps.length
  run : ∀ (A : Around) (outer : List Env) (s : Shared) (H : Hp) (args : Args) (us : List Value) (vs : List V) (Q : VK) (E : XK), Room k A → A.guards = some [] →
    Env0 P w K mg base A outer s H → BindsTo s fd args (ps.zip us) → Vals vs us → sp vs H Q E → codeAny (model P w) A (.call (.ref f) args) (CR CX outer P w H s Q E) s
section
variable {P : Program} {w : World} {K : PySem.W.Frag} {mg : Str → Option Value} {base : Heap} {CX : CXT} {k : Nat} {f : Addr} {fd : FuncData} {ps : List Str} {sp : Sp}
theorem toG (F : FnOk P w K mg base CX k f fd ps sp) : FnG P w K mg base CX k f fd ps sp :=
  ⟨F.len, fun A outer s H args us vs Q E hr _ e hb hv hs => F.run A outer s H args us vs Q E hr e hb hv hs⟩
theorem FnG.mono {j : Nat} (F : FnG P w K mg base CX j f fd ps sp) (h : j ≤ k) : FnG P w K mg base CX k f fd ps sp :=
  ⟨F.len, fun A outer s H args us vs Q E hr g => F.run A outer s H args us vs Q E (hr.mono h) g⟩
/-- a def by its body, the guards known -/
theorem fnG_of {x qual : Str} {params : Arguments} {body : List Stmt} {scope : Scope} {dvs : List V} {kws : List (Str × V)} {N : List Str}
    (F : FunD K x qual params body scope dvs kws f fd) (S : FnScope N ps scope) (len : ∀ vs H Q E, sp vs H Q E → vs.length = ps.length)
    (hbody : ∀ (cdv : Value) (A : Around) (outer : List Env) (s : Shared) (H : Hp) (vs : List V) (Q : VK) (E : XK), Room k (A.deeper (envOfC qual scope s.heap.objs.size f cdv)) → A.guards = some [] → sp vs H Q E →
      ∃ t, PSs (cxOf CX P w K mg base N qual scope f cdv A outer s H E) body t ∧ t { nx := fun _ H' => Q .non H', rt := Q } (start N vs) H) : FnG P w K mg base CX (k + 1) f fd ps sp := by
  obtain ⟨oc, od, dV, kV, doc, pm, an, cdv, ct, osl, rfl, lk, hcd, _, _⟩ := F.ex
  refine ⟨len, fun A outer s H args us vs Q E hr hgd e0 hb r hsp => ?_⟩
  have hl := len _ _ _ _ hsp
  have stays : ∀ b o, base.get? b = some o → s.heap.get? b = some o := fun b o e => (e0.bs b o e).1
  have KX := e0.mod.kin.keeps stays
  have lim := e0.mod.nolimit.keeps stays
  have hkind : ∀ y ∈ ps.zip us, scope.names.lookup y.1 = some .local ∨ (scope.names.lookup y.1 = some .cell ∧ ((cellsFrom (s.heap.objs.size + 1) scope.names []).lookup y.1).isSome = true) := by
    rintro ⟨n, v⟩ hy
    cases S.par n (List.of_mem_zip hy).1 with
    | inl q => exact Or.inl q
    | inr q => exact Or.inr ⟨q, PySem.W.cellsFrom_some _ _ _ (Or.inl q)⟩
  refine codeAny_call_function hr.depth (KX _ _ lk) rfl S.co S.gen rfl (PySem.W.codeRec_of KX hcd) (hb _ _ _ _ ?_)
  refine wpAny_newFunctionEnv_cells S.kind hkind fun env he s1 x => ?_
  subst he
  refine ⟨lim.keeps x.toInCall.keep, codeAny_func ?_⟩
  obtain ⟨t, ht, hq⟩ := hbody cdv A outer s H vs Q E (hr.deeper _) hgd hsp
  have I := inv_start (CX := CX) (qual := qual) (f := f) (cd := cdv) (E := E) S hr.hd e0 hl r x
  refine wpAny_mono (ht.run [] s1 (start N vs) H _ I hq) (fun fl s' hs => ?_) fun e s' hs => hs
  cases fl with
  | ret u =>
    obtain ⟨v, σ', H', J, rv, q⟩ := hs
    exact ⟨v, H', J.os, J.bare, J.base, J.hok, rv, q⟩
  | next =>
    obtain ⟨σ', H', J, q⟩ := hs
    exact ⟨V.non, H', J.os, J.bare, J.base, J.hok, rfl, q⟩
  | brk => obtain ⟨_, _, _, q⟩ := hs; exact q.elim
  | cont => obtain ⟨_, _, _, q⟩ := hs; exact q.elim
end

theorem _root_.L2.FunD.look {K : PySem.W.Frag} {x qual : Str} {params : Arguments} {body : List Stmt} {scope : Scope} {dvs : List V} {kws : List (Str × V)} {f : Addr} {fd : FuncData} (F : FunD K x qual params body scope dvs kws f fd) : ∃ oc od osl, K.lookup f = some ⟨oc, od, .func fd, osl⟩ := by
  obtain ⟨oc, od, _, _, _, _, _, _, _, osl, _, l, _⟩ := F.ex
  exact ⟨oc, od, osl, l⟩
/-! ### a def of the text by its global name -/
/-- the def st stands under the name x -/
def Dfn (K : PySem.W.Frag) (mg : Str → Option Value) (x : Str) (st : Stmt) : Prop :=
  ∃ f fd, FunD K x x (defArgs st) (defBody st) (defScope st) [] [] f fd ∧ mg x = some (.ref f)
/-- what a caller of the global name x needs -/
def Cal (P : Program) (w : World) (K : PySem.W.Frag) (mg : Str → Option Value) (base : Heap) (CX : CXT) (k : Nat) (x : Str) (ps : List Str) (sp : Sp) : Prop :=
  ∃ f fd, FnOk P w K mg base CX k f fd ps sp ∧ mg x = some (.ref f) ∧ PySem.W.keepIn K (.ref f) = true ∧ Binds K fd ps [] ∧ ∃ oc od osl, K.lookup f = some ⟨oc, od, .func fd, osl⟩
def CalG (P : Program) (w : World) (K : PySem.W.Frag) (mg : Str → Option Value) (base : Heap) (CX : CXT) (k : Nat) (x : Str) (ps : List Str) (sp : Sp) : Prop :=
  ∃ f fd, FnG P w K mg base CX k f fd ps sp ∧ mg x = some (.ref f) ∧ PySem.W.keepIn K (.ref f) = true ∧ Binds K fd ps [] ∧ ∃ oc od osl, K.lookup f = some ⟨oc, od, .func fd, osl⟩
/-- how its arguments bind -/
def Bnd (st : Stmt) (x : Str) (ps : List Str) : Prop :=
  ∀ (kV doc pm : Value) (an : Option Addr) (cdv ct : Value) (us : List Value), us.length = ps.length → bindArgs (PySem.W.fnOf x x (defArgs st) (defBody st) (defScope st) .none kV doc pm an cdv ct) ⟨us, []⟩ = pure (ps.zip us)
section
variable {P : Program} {w : World} {K : PySem.W.Frag} {mg : Str → Option Value} {base : Heap} {k : Nat} {x : Str} {ps N : List Str} {sp : Sp} {st : Stmt} {CX : CXT}
theorem Dfn.cal (D : Dfn K mg x st) (S : FnScope N ps (defScope st)) (hb : Bnd st x ps) (len : ∀ vs H Q E, sp vs H Q E → vs.length = ps.length)
    (hbody : ∀ (f : Addr) (cdv : Value) (A : Around) (outer : List Env) (s : Shared) (H : Hp) (vs : List V) (Q : VK) (E : XK), Room k (A.deeper (envOfC x (defScope st) s.heap.objs.size f cdv)) → sp vs H Q E →
      ∃ t, PSs (cxOf CX0 P w K mg base N x (defScope st) f cdv A outer s H E).nox (defBody st) t ∧ t { nx := fun _ H' => Q .non H', rt := Q } (start N vs) H) : Cal P w K mg base CX0 (k + 1) x ps sp := by
  obtain ⟨f, fd, F, g⟩ := D
  refine ⟨f, fd, F.ok S len fun cdv A outer s H vs Q E hr h => ?_, g, F.kp, F.bindsN hb, F.look⟩
  obtain ⟨t, ht, q⟩ := hbody f cdv A outer s H vs Q E hr h
  exact ⟨t, ht.nox, q⟩
theorem Dfn.calX (D : Dfn K mg x st) (S : FnScope N ps (defScope st)) (hb : Bnd st x ps) (len : ∀ vs H Q E, sp vs H Q E → vs.length = ps.length)
    (hbody : ∀ (f : Addr) (cdv : Value) (A : Around) (outer : List Env) (s : Shared) (H : Hp) (vs : List V) (Q : VK) (E : XK), Room k (A.deeper (envOfC x (defScope st) s.heap.objs.size f cdv)) → sp vs H Q E →
      ∃ t, PSs (cxOf CX P w K mg base N x (defScope st) f cdv A outer s H E) (defBody st) t ∧ t { nx := fun _ H' => Q .non H', rt := Q } (start N vs) H) : Cal P w K mg base CX (k + 1) x ps sp := by
  obtain ⟨f, fd, F, g⟩ := D
  exact ⟨f, fd, F.ok S len fun cdv A outer s H vs Q E hr h => hbody f cdv A outer s H vs Q E hr h, g, F.kp, F.bindsN hb, F.look⟩
theorem Dfn.calG (D : Dfn K mg x st) (S : FnScope N ps (defScope st)) (hb : Bnd st x ps) (len : ∀ vs H Q E, sp vs H Q E → vs.length = ps.length)
    (hbody : ∀ (f : Addr) (cdv : Value) (A : Around) (outer : List Env) (s : Shared) (H : Hp) (vs : List V) (Q : VK) (E : XK), Room k (A.deeper (envOfC x (defScope st) s.heap.objs.size f cdv)) → (A.deeper (envOfC x (defScope st) s.heap.objs.size f cdv)).guards = some [] → sp vs H Q E →
      ∃ t, PSs (cxOf CX0 P w K mg base N x (defScope st) f cdv A outer s H E).nox (defBody st) t ∧ t { nx := fun _ H' => Q .non H', rt := Q } (start N vs) H) : CalG P w K mg base CX0 (k + 1) x ps sp := by
  obtain ⟨f, fd, F, g⟩ := D
  refine ⟨f, fd, fnG_of F S len fun cdv A outer s H vs Q E hr hg h => ?_, g, F.kp, F.bindsN hb, F.look⟩
  obtain ⟨t, ht, q⟩ := hbody f cdv A outer s H vs Q E hr hg h
  exact ⟨t, ht.nox, q⟩
theorem Cal.toG (c : Cal P w K mg base CX k x ps sp) : CalG P w K mg base CX k x ps sp := by
  obtain ⟨f, fd, F, g, kp, b⟩ := c
  exact ⟨f, fd, Sk.toG F, g, kp, b⟩
/-- the law's own def, for the end -/
theorem law_end {x' : Str} (D : Dfn K mg x st) (hb : Bnd st x [x']) (h : ∀ base : Heap, K.In base → base.Ns mainGlobals mg → CalG P w K mg base CX0 k x [x'] sp) :
    ∃ fa fd, mg x = some (.ref fa) ∧ (∀ (s : Shared) (u : Value), BindsTo s fd ⟨[u], []⟩ [(x', u)]) ∧ ∀ base : Heap, K.In base → base.Ns mainGlobals mg → FnG P w K mg base CX0 k fa fd [x'] sp := by
  obtain ⟨f, fd, F, g⟩ := D
  have b := FunD.bindsA (ps := [x']) F hb
  refine ⟨f, fd, g, fun s u => b s [u] rfl, fun base h1 h2 => ?_⟩
  obtain ⟨f2, fd2, G, g2, _, _, oc, od, osl, l2⟩ := h base h1 h2
  obtain ⟨oc1, od1, osl1, l1⟩ := F.look
  have e : f2 = f := by
    have z := g2.symm.trans g
    cases z
    rfl
  subst e
  rw [l1] at l2
  cases l2
  exact G
end
/-! ### calls of such -/
def tCal (sp : Sp) (E : XK) (t : TA) : TE := fun σ H Q => t σ H fun vs H1 => sp vs H1 Q E
section
variable {X : Cx} {CX : CXT} {k : Nat} {ps : List Str} {sp : Sp} {E : XK} {x : Str} {p pos : Pos} {e : Expr} {es : List Expr} {t : TA}
theorem pcall (C : Cal X.prog X.w X.K X.mg X.base CX k x ps sp) (hr : Room k X.A) (hg : Gl X x) (hx : Passes CX X E) (ha : PA X (e :: es) t)
    (hdb : (x == ("__debug__" : Str)) = false := by decide) (he : starEach (e :: es) X.env = (false, eval e X.env) :: starEach es X.env := by rfl) (hpl : (backTo pos (starEach es X.env)).any (·.1) = false := by rfl) :
    PE X (.Call (.Name x p) (e :: es) [] pos) (tCal sp E t) := by
  obtain ⟨f, fd, F, g, kp, b, _⟩ := C
  have q := pe_call (p := p) (pos := pos) F hr hg g kp b .nil hx ha hdb he hpl
  refine ⟨fun pins s σ H Q I h => q.run pins s σ H Q I ?_⟩
  have h2 : t σ H fun vs H1 => sp vs H1 Q E := h
  show t σ H fun vs H1 => sp (vs ++ []) H1 Q E
  simpa only [List.append_nil] using h2
theorem pcall0 (C : Cal X.prog X.w X.K X.mg X.base CX k x ps sp) (hr : Room k X.A) (hg : Gl X x) (hx : Passes CX X E)
    (hdb : (x == ("__debug__" : Str)) = false := by decide) : PE X (.Call (.Name x p) [] [] pos) (tCal sp E tNil) := by
  obtain ⟨f, fd, F, g, kp, b, _⟩ := C
  exact pe_call0 (p := p) (pos := pos) F hr hg g kp b .nil hx hdb
theorem run_fnG {f : Addr} {fd : FuncData} {pins : List (Addr × Obj)} {σ : L2.St} {H : Hp} {s : Shared} {Q : VK} {us : List Value} {vs : List V} (F : FnG X.prog X.w X.K X.mg X.base CX k f fd ps sp) (hr : Room k X.A) (gd : X.A.guards = some []) (hb : Binds X.K fd ps []) (hx : Passes CX X E)
    (I : Inv X pins σ H s) (r : Vals vs us) (h : sp vs H Q E) : wpAny (model X.prog X.w) X.A (call (.ref f) us) (EP X pins σ Q) X.xe s := by
  have hl : us.length = ps.length := by rw [← r.length]; exact F.len _ _ _ _ h
  have hb1 := hb s us I.kIn (by simpa using hl)
  rw [List.append_nil] at hb1
  refine wpAny_call (codeAny_mono (F.run X.A X.stack s H ⟨us, []⟩ us vs Q E hr gd I.env0 hb1 r h) fun res s' hq => ?_)
  cases res with
  | error e => exact hx pins σ H s e s' I hq
  | ok fl =>
    cases fl with
    | ret u => exact I.after hq
    | next => exact hq.elim
    | brk => exact hq.elim
    | cont => exact hq.elim
theorem pcallG (C : CalG X.prog X.w X.K X.mg X.base CX k x ps sp) (hr : Room k X.A) (gd : X.A.guards = some []) (hg : Gl X x) (hx : Passes CX X E) (ha : PA X (e :: es) t)
    (hdb : (x == ("__debug__" : Str)) = false := by decide) (he : starEach (e :: es) X.env = (false, eval e X.env) :: starEach es X.env := by rfl) (hpl : (backTo pos (starEach es X.env)).any (·.1) = false := by rfl) :
    PE X (.Call (.Name x p) (e :: es) [] pos) (tCal sp E t) := by
  obtain ⟨f, fd, F, g, kp, b, _⟩ := C
  refine ⟨fun pins s σ H Q I h => ?_⟩
  refine wpAny_Call_Name_kw (ld_glob I hg g ?_ hdb)
  refine PySem.W.callWith_K (h₀ := X.base) I.ok.mod.kin kp (thn (ha.run pos pins s σ H _ I h) fun us s1 ⟨vs, H1, I1, r, q⟩ => ⟨I1.kIn, ?_⟩) he hpl
  exact run_fnG F hr gd b hx I1 r q
end
theorem hu65 {k : Nat} {A : Around} (hr : Room k A) : A.units + 65 < cLine := by have := hr.un; omega

/-! ### str of data -/
def rStrD (K : PySem.W.Frag) : List V → Hp → VK → Prop := fun xs H Q => ∃ (a : Addr) (d : PyData), xs = [V.ref a] ∧ Dp K H (.ref a) d ∧ d.showable = true ∧ d.hasDict = false ∧ d.depth ≤ 64 ∧ d.shown.length ≤ sizeLine ∧ Q (.str d.shown) H
theorem call_strD {X : Cx} {k : Nat} (gd : X.A.guards = some []) (hr : Room k X.A) : CallR X (.type "str") (rStrD X.K) := by
  intro pins s σ H xs us Q I r h
  obtain ⟨a, d, rfl, hd, h1, h2, h3, h4, q⟩ := h
  obtain ⟨u, rfl, ru⟩ := vals1 r
  cases (show u = Value.ref a from ru)
  obtain ⟨as, rd⟩ := Dp.reads I d (.ref a) (.ref a) hd rfl
  have hu := hr.un
  exact str_of_reads rd h1 (fun z => by rw [h2] at z; cases z) gd (by omega) (fun _ _ e => e) (fun h' t tk hk => ⟨.str d.shown, H, I.kept (t' := tk) hk, ⟨_, rfl⟩, q⟩) h4

/-! ### a text backwards; a text repeated -/
def revS (z : Str) : Str := ⟨z.cps.toList.reverse.toArray⟩
def tRevS (te : TE) : TE := fun σ H Q => te σ H fun x H1 => ∃ z, x = .str z ∧ z.length ≤ sizeLine ∧ Q (.str (revS z)) H1
theorem picked_back (z : Str) (tk : Tok) : (slicePicked z none none (some (-1, tk))).filterMap (z.cps[·]?) = z.cps.toList.reverse := by
  have e : slicePicked z none none (some (-1, tk)) = sliceRange ((z.cps.size : Int) - 1) (-1) (-1) := rfl
  rw [e, PySem.W.krv_sliceRange, PySem.W.krv_range, List.filterMap_reverse, PySem.W.krv_all]
theorem pe_revS {X : Cx} {e : Expr} {te : TE} {k : Nat} {p1 p2 p3 pos : Pos} (he : PE X e te) :
    PE X (.Subscript e (.Slice none none (some (.UnaryOp .USub (.Constant (.int 1) k p1) p2)) p3) pos) (tRevS te) := by
  refine ⟨fun pins s σ H Q I h => ?_⟩
  refine Subscript_ (thn (he.run pins s σ H _ I h) fun v s1 ⟨x, H1, I1, r1, q1⟩ => ?_)
  obtain ⟨z, rfl, hz, q⟩ := q1
  obtain ⟨tz, rfl⟩ := r1
  have hst : PE X (.UnaryOp .USub (.Constant (.int 1) k p1) p2) (tUn (rU fun i => .int (-i)) (tC (.int 1))) := pe_un un_neg pe_int
  refine wpAny_Slice ?_
  rw [evalPart_none]
  refine wpAny_pure (wpAny_pure ?_)
  refine thn (hst.run pins s1 σ H1 (fun y H2 => y = .int (-1) ∧ H2 = H1) I1 ⟨1, rfl, rfl, rfl⟩) fun vs s4 ⟨y, H4, I4, ry, ey, e4⟩ => ?_
  subst ey e4
  obtain ⟨tk, rfl⟩ := ry
  refine tail_any (T := "str") (typeIs_str _ z tz) F.slot_str_getitem.lookup ?_ (by with_unfolding_all rfl)
  refine wpAny_getItem_str_slice (l := none) (u := none) (st := some (-1, tk)) ⟨_, Heap.get?_push_size _ rfl, rfl, rfl⟩ rfl ?_
  unfold sliceMade
  rw [if_neg (by show ¬ ((-1 : Int) == 1 && _) = true; simp), picked_back]
  refine ⟨?_, .str (revS z), H4, ?_, ⟨_, rfl⟩, q⟩
  · show (z.cps.toList.reverse.toArray).size ≤ sizeLine
    rw [List.size_toArray, List.length_reverse, Array.length_toList]
    exact hz
  · exact (I4.kept (t' := s4.toks) (fun b o e => Heap.get?_push_of_some _ e)).tok _
/-- x * n, n small and positive -/
def repS (z : Str) (n : Nat) : Str := ⟨(List.replicate n z.cps.toList).flatten.toArray⟩
def rRepS : R2 := fun x y H Q => ∃ (z : Str) (n : Nat), x = .str z ∧ y = .int (n : Int) ∧ 2 ≤ n ∧ n ≤ 1000 ∧ 1 ≤ z.length ∧ z.length ≤ 1000 ∧ Q (.str (repS z n)) H
theorem fold_app (x : Array Nat) : ∀ (n : Nat) (acc : Array Nat), ((List.replicate n x).foldl (· ++ ·) acc).toList = acc.toList ++ (List.replicate n x.toList).flatten
  | 0, acc => by simp
  | n + 1, acc => by
    rw [List.replicate_succ, List.foldl_cons, fold_app x n, List.replicate_succ, List.flatten_cons]
    simp
theorem flat_len (x : List Nat) : ∀ n : Nat, (List.replicate n x).flatten.length = n * x.length
  | 0 => by simp
  | n + 1 => by rw [List.replicate_succ, List.flatten_cons, List.length_append, flat_len x n, Nat.succ_mul]; omega
theorem op_repS {X : Cx} : OpR X (binaryOp .Mult) rRepS := by
  intro pins s σ H x y v u Q I rx ry h
  obtain ⟨z, n, rfl, rfl, h2, h3, h4, h5, q⟩ := h
  obtain ⟨t, rfl⟩ := rx
  obtain ⟨t', rfl⟩ := ry
  have hm : z.length * n ≤ 1000000 := by
    calc z.length * n ≤ 1000 * n := Nat.mul_le_mul_right _ h5
      _ ≤ 1000 * 1000 := Nat.mul_le_mul_left _ h3
  have hs : 1000000 ≤ sizeLine := by rw [sizeLine_eq]; decide
  have e1 : (decide ((n : Int) < -(2 ^ 63 : Int)) || decide ((n : Int) ≥ 2 ^ 63)) = false := by
    rw [decide_eq_false (by omega), decide_eq_false (by omega)]; rfl
  have e2 : (((n : Int) == 1) || z.length == 0) = false := by
    have a : ((n : Int) == 1) = false := beq_eq_false_iff_ne.mpr (by omega)
    have b : (z.length == 0) = false := beq_eq_false_iff_ne.mpr (by omega)
    rw [a, b]; rfl
  refine P.mul_str e1 (fun _ _ => ?_) (fun _ _ => ?_) ?_
  · have : (1000 : Int) ≤ (2 ^ 63 - 1) / n := by
      rw [Int.le_ediv_iff_mul_le (by omega)]
      omega
    omega
  · rw [Int.toNat_natCast]
    unfold Builtin.Str.tooLong
    exact decide_eq_false (by omega)
  · rw [if_neg (by omega), if_neg (by rw [e2]; exact Bool.false_ne_true), Int.toNat_natCast]
    have e3 : ((List.replicate n z.cps).foldl (· ++ ·) #[] : Array Nat) = (List.replicate n z.cps.toList).flatten.toArray := by
      apply Array.toList_inj.mp
      rw [fold_app]
      simp
    rw [e3]
    refine ⟨?_, .str (repS z n), H, I.tok _, ⟨_, rfl⟩, q⟩
    show ((List.replicate n z.cps.toList).flatten.toArray).size ≤ sizeLine
    rw [List.size_toArray, flat_len, Array.length_toList]
    have e4 : n * z.cps.size = z.length * n := Nat.mul_comm _ _
    omega

/-! ### the law's call, the guards told -/
theorem law_callG {P : Program} {w : World} {K : PySem.W.Frag} {mg mb : Str → Option Value} {k : Nat} {fa a : Addr} {fd : FuncData} {x : Str} {sp : Sp} {s₁ : Shared} {vs : List Value} {ns : List Int}
    (KX : K.In s₁.heap) (hns : s₁.heap.Ns mainGlobals mg) (hb : s₁.heap.Ns builtinsNs mb) (hbb : ∀ x : Str, x ≠ "__name__" → mb x = bootBuiltins x) (hlim : s₁.heap.NoLimit) (hg : s₁.gens = #[])
    (ha : s₁.heap.get? a = some { cls := .type "list", data := .seq vs.toArray }) (hi : IntsAre vs ns) (hl : ns.length ≤ sizeLine) (hr : Room k callerA)
    (F : ∀ base : Heap, K.In base → base.Ns mainGlobals mg → FnG P w K mg base CX0 k fa fd [x] sp) (hbind : ∀ (s : Shared) (u : Value), BindsTo s fd ⟨[u], []⟩ [(x, u)])
    (hsp : ∀ H : Hp, Only H → SqL K H a (ns.map V.int) → sp [.ref a] H (fun v _ => v = .bl true) fun _ _ _ => False) :
    codeAny (model P w) callerA (.call (.ref fa) ⟨[.ref a], []⟩) (fun r s' => r = .ok (.ret (.bool true)) ∧ OldK s₁.heap s'.heap ∧ s'.os = s₁.os ∧ AllBare s'.gens) s₁ := by
  have rv := vals_ints hi
  have lenV := hi.length
  have core : ∀ H : Hp, Only H → SqL K H a (ns.map V.int) → HOk P w H s₁.heap → (∀ b, H b ≠ none → b = a) → (H a ≠ none → K.lookup a = none) →
      codeAny (model P w) callerA (.call (.ref fa) ⟨[.ref a], []⟩) (fun r s' => r = .ok (.ret (.bool true)) ∧ OldK s₁.heap s'.heap ∧ s'.os = s₁.os ∧ AllBare s'.gens) s₁ := by
    intro H hO hS hok hA hK
    have isA : ∀ {b : Addr} {u : HO}, H b = some u → b = a := fun {b u} q => hA b (by rw [q]; exact fun z => nomatch z)
    have noA : ∀ {b : Addr} {o : Obj} {es : Array DictEntry} {ep : Nat}, s₁.heap.get? b = some o → o.data = .dict es ep → H b = none := by
      intro b o es ep e d
      cases q : H b with
      | none => rfl
      | some u =>
        cases isA q
        rw [ha] at e
        cases e
        exact nomatch (show Data.seq vs.toArray _ = Data.dict es ep from d)
    have nsK : ∀ {b : Addr} {m : Str → Option Value}, s₁.heap.Ns b m → (hidT s₁.heap H).Ns b m := by
      rintro b m ⟨o, es, ep, e, d, r⟩
      exact ⟨o, es, ep, hidT_get e (noA e d), d, r⟩
    have hKb : K.In (hidT s₁.heap H) := by
      intro b o e
      refine hidT_get (KX b o e) ?_
      cases q : H b with
      | none => rfl
      | some u =>
        cases isA q
        rw [hK (by rw [q]; exact fun z => nomatch z)] at e
        cases e
    have hM : Mod K mg (hidT s₁.heap H) := by
      obtain ⟨mc, h1, h2⟩ := hlim
      exact ⟨hKb, nsK hns, ⟨mb, nsK hb, hbb⟩, ⟨mc, nsK h1, h2⟩⟩
    have e0 : Env0 P w K mg (hidT s₁.heap H) callerA [] s₁ H :=
      ⟨rfl, hM, fun b o e => of_hidT e, Nat.le_of_eq (hidT_size _ _), trivial, fun b hb => (nomatch (show b ∈ ([] : List Addr) from hb)), hok, .of_eq hg⟩
    refine codeAny_mono ((F _ hKb (nsK hns)).run callerA [] s₁ H ⟨[.ref a], []⟩ [.ref a] [.ref a] _ _ hr rfl e0 (hbind s₁ (.ref a)) (.cons rfl .nil) (hsp H hO hS)) fun r s' h => ?_
    cases r with
    | error e => exact False.elim h
    | ok fl =>
      cases fl with
      | next => exact h.elim
      | brk => exact h.elim
      | cont => exact h.elim
      | ret u =>
        obtain ⟨v, H', os, bare, un, hok', r', q⟩ := h
        cases (show v = .bl true from q)
        cases (show u = Value.bool true from r')
        refine ⟨rfl, OldK.of_keep fun b o e => ?_, os, bare⟩
        cases q : H b with
        | none => exact un.keep b o e q (fun z => (nomatch (show b ∈ ([] : List Addr) from z))) (fun z => (nomatch z))
        | some u =>
          cases hO b with
          | inl z => rw [q] at z; cases z
          | inr z =>
            obtain ⟨ob, xs, z⟩ := z
            obtain ⟨e1, _⟩ := hok b _ z
            obtain ⟨e2, _⟩ := hok' b _ (un.frzs b ob _ z)
            rw [e] at e1
            cases e1
            exact e2
  cases hk : K.lookup a with
  | some o =>
    have e := KX a o hk
    rw [ha] at e
    cases e
    refine core (fun _ => none) (fun _ => .inl rfl) (.inr ⟨_, vs.toArray, _, hk, rfl, rfl, rfl, ?_, by simpa using rv⟩) (fun b u z => (nomatch (show (none : Option HO) = some u from z))) (fun b z => absurd rfl z) fun z => absurd rfl z
    rw [List.size_toArray, lenV]
    exact hl
  | none =>
    refine core (fun b => if b = a then some (.frz { cls := .type "list", data := .seq vs.toArray } (.lst (ns.map V.int))) else none) (fun b => ?_) (.inl (.inr ⟨_, if_pos rfl⟩)) (fun b u z => ?_) (fun b z => ?_) fun _ => hk
    · by_cases hb : b = a
      · exact .inr ⟨_, _, if_pos hb⟩
      · exact .inl (if_neg hb)
    · by_cases hb : b = a
      · cases (if_pos hb).symm.trans z
        subst hb
        exact ⟨ha, by rw [List.length_map]; exact hl, vs, _, rv, ha⟩
      · cases (if_neg hb).symm.trans z
    · by_cases hb : b = a
      · exact hb
      · exact absurd (if_neg hb) z
/-- the law's end over a head by facts, the script's bits and the guards told -/
theorem walk_G {l : PySem.W.OpenLaw} {n k : Nat} {q : Program} {loose : List Str} {XP : (Str → Option Value) → Heap → Prop} {YP : World → Heap → Prop} {d : DefRec} {x : Str}
    (hn : l.most = some n) (hn2 : n ≤ sizeLine) (hdf : d.params.defaults = []) (hr : Room k callerA)
    (F : ∀ (w : World) (mg : Str → Option Value) (fa : Addr) (h : Heap), YP w h → h.Ns mainGlobals mg → mg d.name = some (.ref fa) →
      ∃ (K : PySem.W.Frag) (fd : FuncData) (sp : Sp), K.In h ∧ (∀ (s : Shared) (u : Value), BindsTo s fd ⟨[u], []⟩ [(x, u)]) ∧
        (∀ (H : Hp) (a : Addr) (ns : List Int), ns.length ≤ n → (∀ z ∈ ns, Builtin.Int.intBits z ≤ 1048576) → Only H → SqL K H a (ns.map V.int) → sp [.ref a] H (fun v _ => v = .bl true) fun _ _ _ => False) ∧
        ∀ base : Heap, K.In base → base.Ns mainGlobals mg → FnG l.prog w K mg base CX0 k fa fd [x] sp) :
    PySem.W.WalkO q loose XP YP l.row.toRowW d [] (fun f vs => PySem.call f vs) := by
  refine Att.attach_callB hn hdf fun w s₀ s₁ mg mb fa o pm cd doc a vs ns G Y ho hd hcd hmg hobj hints hlen hbits hg => ?_
  obtain ⟨K, fd, sp, KX, hb, hsp, hF⟩ := F w mg fa _ Y G.T.g hmg
  exact law_callG KX G.T.g G.T.b G.T.builtins G.T.nolimit hg hobj hints (Nat.le_trans hlen hn2) hr hF hb fun H hO hS => hsp H a ns hlen hbits hO hS

/-! ### rules with the written part named: for use inside comprehensions -/
section
variable {X : Cx} {e o : Expr} {te to : TE} {pos : Pos} {tg : Expr}
theorem ixL (K : PySem.W.Frag) (h : X.K = K := by rfl) : IxR X (rIxL K) := by subst h; exact ix_list
theorem ixT (K : PySem.W.Frag) (h : X.K = K := by rfl) : IxR X (rIxT K) := by subst h; exact ix_tup
def rLenSq (K : PySem.W.Frag) : List V → Hp → VK → Prop := fun xs H Q => ∃ p ys, xs = [.ref p] ∧ (SqL K H p ys ∨ SqT K H p ys) ∧ Q (.int ys.length) H
theorem lenSq (K : PySem.W.Frag) (h : X.K = K := by rfl) : CallR X (.builtin "len") (rLenSq K) := by subst h; exact call_len_seq
theorem isiK (K : PySem.W.Frag) (h : X.K = K := by rfl) : CallR X (.builtin "isinstance") (rIsi K) := by subst h; exact call_isi
theorem eqDK (K : PySem.W.Frag) (hu : X.A.units + 64 < cLine) (h : X.K = K := by rfl) : OpR X (compareOp .Eq) (rEqD K) := by subst h; exact op_eqD hu
theorem neDK (K : PySem.W.Frag) (hu : X.A.units + 64 < cLine) (h : X.K = K := by rfl) : OpR X (compareOp .NotEq) (rNeD K) := by subst h; exact op_neD hu
theorem inDK (K : PySem.W.Frag) (hu : X.A.units + 65 < cLine) (h : X.K = K := by rfl) : OpR X (compareOp .In) (rInD K) := by subst h; exact op_inD hu
theorem notInDK (K : PySem.W.Frag) (hu : X.A.units + 65 < cLine) (h : X.K = K := by rfl) : OpR X (compareOp .NotIn) (rNotInD K) := by subst h; exact op_notInD hu
theorem allK (K : PySem.W.Frag) (hc : X.calm = true) (h : X.K = K := by rfl) : CallR X (.builtin "all") (rAll K) := by subst h; exact cr_all hc
theorem anyK (K : PySem.W.Frag) (hc : X.calm = true) (h : X.K = K := by rfl) : CallR X (.builtin "any") (rAny K) := by subst h; exact cr_any hc
def rListOf (K : PySem.W.Frag) : List V → Hp → VK → Prop := fun xs H Q => ∃ p ys, xs = [.ref p] ∧ (SqL K H p ys ∨ SqT K H p ys) ∧ ∀ l, H l = none → Q (.ref l) (upd H l (.lst ys))
theorem listOf (K : PySem.W.Frag) (h : X.K = K := by rfl) : CallR X (.type "list") (rListOf K) := by subst h; exact call_list_of
theorem slL (K : PySem.W.Frag) (h : X.K = K := by rfl) : SlR X (rSlL K) := by subst h; exact sl_list
theorem piL (K : PySem.W.Frag) (hl : PE X e te) (h : X.K = K := by rfl) : PI X tg e (iList K te) := by subst h; exact pi_list hl
theorem piT (K : PySem.W.Frag) (hl : PE X e te) (h : X.K = K := by rfl) : PI X tg e (iTup K te) := by subst h; exact pi_tup hl
theorem revL (K : PySem.W.Frag) {k : Nat} {p1 p2 p3 : Pos} (he : PE X e te) (h : X.K = K := by rfl) : PE X (.Subscript e (.Slice none none (some (.UnaryOp .USub (.Constant (.int 1) k p1) p2)) p3) pos) (tRevL K te) := by subst h; exact pe_revL he
def tJoin (K : PySem.W.Frag) (to te : TE) : TE := tM1 (fun x xs H Q => ∃ a p, ∃ ys : List Str, x = .str a ∧ xs = [.ref p] ∧ (SqL K H p (ys.map V.str) ∨ SqT K H p (ys.map V.str)) ∧ (ys.map (·.length)).sum + ys.length * a.length ≤ 16777216 ∧ Q (.str (Txt.join a ys)) H) to te
theorem joinK (K : PySem.W.Frag) {apos : Pos} (ho : PE X o to) (he : PE X e te) (h : X.K = K := by rfl) (hs : starEach [e] X.env = [(false, eval e X.env)] := by rfl) (hbase : attributeBase o "join" X.env (eval o X.env) = eval o X.env := by rfl) (hline : (apos.endLine == pos.line) = true := by rfl) :
    PE X (.Call (.Attribute o "join" apos) [e] [] pos) (tJoin K to te) := by subst h; exact pe_join ho he hs hbase hline
end
end Sk
/-! Own classes: methods and makers by their promises; a choice of two readings; len of a set of tuples. -/
namespace Sk
open PySem PySem.Spec PyProof.Rows L2
theorem PE.or {X : Cx} {e : Expr} {t u : TE} (a : PE X e t) (b : PE X e u) : PE X e (fun σ H Q => t σ H Q ∨ u σ H Q) :=
  ⟨fun pins s σ H Q I h => h.elim (fun q => a.run pins s σ H Q I q) fun q => b.run pins s σ H Q I q⟩
/-! ### methods -/
def DfnM (K : PySem.W.Frag) (C : Addr) (m qual : Str) (st : Stmt) : Prop := ∃ f fd, FunD K m qual (defArgs st) (defBody st) (defScope st) [] [] f fd ∧ Meth K C m f
def DfnI (K : PySem.W.Frag) (C : Addr) (qual : Str) (st : Stmt) : Prop := ∃ f fd, FunD K "__init__" qual (defArgs st) (defBody st) (defScope st) [] [] f fd ∧ Mk K C f
def CalM (P : Program) (w : World) (K : PySem.W.Frag) (mg : Str → Option Value) (base : Heap) (CX : CXT) (k : Nat) (C : Addr) (m : Str) (ps : List Str) (sp : Sp) : Prop :=
  ∃ f fd, FnOk P w K mg base CX k f fd ps sp ∧ Meth K C m f ∧ Binds K fd ps []
def CalI (P : Program) (w : World) (K : PySem.W.Frag) (mg : Str → Option Value) (base : Heap) (CX : CXT) (k : Nat) (C : Addr) (ps : List Str) (sp : Sp) : Prop :=
  ∃ f fd, FnOk P w K mg base CX k f fd ps sp ∧ Mk K C f ∧ Binds K fd ps []
def BndM (st : Stmt) (x qual : Str) (ps : List Str) : Prop :=
  ∀ (kV doc pm : Value) (an : Option Addr) (cdv ct : Value) (us : List Value), us.length = ps.length → bindArgs (PySem.W.fnOf x qual (defArgs st) (defBody st) (defScope st) .none kV doc pm an cdv ct) ⟨us, []⟩ = pure (ps.zip us)
section
variable {P : Program} {w : World} {K : PySem.W.Frag} {mg : Str → Option Value} {base : Heap} {k : Nat} {x qual : Str} {ps N : List Str} {sp : Sp} {st : Stmt} {C : Addr}
theorem DfnM.cal (D : DfnM K C x qual st) (S : FnScope N ps (defScope st)) (hb : BndM st x qual ps) (len : ∀ vs H Q E, sp vs H Q E → vs.length = ps.length)
    (hbody : ∀ (f : Addr) (cdv : Value) (A : Around) (outer : List Env) (s : Shared) (H : Hp) (vs : List V) (Q : VK) (E : XK), Room k (A.deeper (envOfC qual (defScope st) s.heap.objs.size f cdv)) → sp vs H Q E →
      ∃ t, PSs (cxOf CX0 P w K mg base N qual (defScope st) f cdv A outer s H E).nox (defBody st) t ∧ t { nx := fun _ H' => Q .non H', rt := Q } (start N vs) H) : CalM P w K mg base CX0 (k + 1) C x ps sp := by
  obtain ⟨f, fd, F, g⟩ := D
  refine ⟨f, fd, F.ok S len fun cdv A outer s H vs Q E hr h => ?_, g, F.bindsN hb⟩
  obtain ⟨t, ht, q⟩ := hbody f cdv A outer s H vs Q E hr h
  exact ⟨t, ht.nox, q⟩
theorem DfnI.cal (D : DfnI K C qual st) (S : FnScope N ps (defScope st)) (hb : BndM st "__init__" qual ps) (len : ∀ vs H Q E, sp vs H Q E → vs.length = ps.length)
    (hbody : ∀ (f : Addr) (cdv : Value) (A : Around) (outer : List Env) (s : Shared) (H : Hp) (vs : List V) (Q : VK) (E : XK), Room k (A.deeper (envOfC qual (defScope st) s.heap.objs.size f cdv)) → sp vs H Q E →
      ∃ t, PSs (cxOf CX0 P w K mg base N qual (defScope st) f cdv A outer s H E).nox (defBody st) t ∧ t { nx := fun _ H' => Q .non H', rt := Q } (start N vs) H) : CalI P w K mg base CX0 (k + 1) C ps sp := by
  obtain ⟨f, fd, F, g⟩ := D
  refine ⟨f, fd, F.ok S len fun cdv A outer s H vs Q E hr h => ?_, g, F.bindsN hb⟩
  obtain ⟨t, ht, q⟩ := hbody f cdv A outer s H vs Q E hr h
  exact ⟨t, ht.nox, q⟩
/-- a promise that is never asked, for the bottom of a recursion -/
theorem Dfn.cal0 {CX : CXT} (D : Dfn K mg x st) (hb : Bnd st x ps) : Cal P w K mg base CX k x ps (fun _ _ _ _ => False) := by
  obtain ⟨f, fd, F, g⟩ := D
  exact ⟨f, fd, ⟨fun _ _ _ _ h => h.elim, fun _ _ _ _ _ _ _ _ _ _ _ _ _ h => h.elim⟩, g, F.kp, F.bindsN hb, F.look⟩
end
def tMth (C : Addr) (m : Str) (sp : Sp) (E : XK) (ta : TE) (t : TA) : TE := fun σ H Q => ta σ H fun x H1 => ∃ a dx fs, x = .ref a ∧ H1 a = some (.ins C dx fs) ∧ fs.lookup m = none ∧ t σ H1 fun vs H2 => sp (x :: vs) H2 Q E
def tMk (C : Addr) (sp : Sp) (E : XK) (t : TA) : TE := fun σ H Q => t σ H fun vs H1 => ∀ x dx, H1 x = none → H1 dx = none → dx ≠ x → sp (.ref x :: vs) (upd (upd H1 dx (.own x)) x (.ins C dx [])) (fun v H2 => v = .non ∧ Q (.ref x) H2) E
section
variable {X : Cx} {CX : CXT} {k : Nat} {ps : List Str} {sp : Sp} {E : XK} {x m : Str} {p pos apos : Pos} {e o : Expr} {es : List Expr} {ta : TE} {t : TA} {C : Addr}
theorem pmeth {pl : Sem Bool} (c : CalM X.prog X.w X.K X.mg X.base CX k C m ps sp) (cl : Cls X.K C) (hr : Room k X.A) (hx : Passes CX X E) (he : PE X o ta) (ha : PA X (e :: es) t)
    (hst : starEach (e :: es) X.env = (false, eval e X.env) :: starEach es X.env := by rfl) (hpl : (backTo pos (starEach es X.env)).any (·.1) = false := by rfl)
    (ht : eval (.Call (.Attribute o m apos) (e :: es) [] pos) X.env = (do
      let ov ← eval o X.env
      standAt apos.atName
      let (f, first) ← holding [ov] (getMethod ov m pl)
      callWith pos f first (backTo pos (starEach (e :: es) X.env)) (backToKw pos (keywordEach [] X.env))) := by rfl) : PE X (.Call (.Attribute o m apos) (e :: es) [] pos) (tMth C m sp E ta t) := by
  obtain ⟨f, fd, F, g, b⟩ := c
  have q := pe_meth (pl := pl) he cl g F hr b .nil hx ha hst hpl ht
  refine ⟨fun pins s σ H Q I h => q.run pins s σ H Q I ?_⟩
  have h2 : ta σ H fun x H1 => ∃ a dx fs, x = .ref a ∧ H1 a = some (.ins C dx fs) ∧ fs.lookup m = none ∧ t σ H1 fun vs H2 => sp (x :: vs) H2 Q E := h
  show ta σ H fun x H1 => ∃ a dx fs, x = .ref a ∧ H1 a = some (.ins C dx fs) ∧ fs.lookup m = none ∧ t σ H1 fun vs H2 => sp (x :: (vs ++ [])) H2 Q E
  simpa only [List.append_nil] using h2
theorem pmake (c : CalI X.prog X.w X.K X.mg X.base CX k C ps sp) (hr : Room (k + 1) X.A) (hg : Gl X x) (hm : X.mg x = some (.ref C)) (hx : Passes CX X E) (ha : PA X (e :: es) t)
    (hdb : (x == ("__debug__" : Str)) = false := by decide) (he : starEach (e :: es) X.env = (false, eval e X.env) :: starEach es X.env := by rfl) (hpl : (backTo pos (starEach es X.env)).any (·.1) = false := by rfl) :
    PE X (.Call (.Name x p) (e :: es) [] pos) (tMk C sp E t) := by
  obtain ⟨f, fd, F, g, b⟩ := c
  have q := pe_make (p := p) (pos := pos) g F hr hg hm b .nil hx ha hdb he hpl
  refine ⟨fun pins s σ H Q I h => q.run pins s σ H Q I ?_⟩
  have h2 : t σ H fun vs H1 => ∀ x dx, H1 x = none → H1 dx = none → dx ≠ x → sp (.ref x :: vs) (upd (upd H1 dx (.own x)) x (.ins C dx [])) (fun v H2 => v = .non ∧ Q (.ref x) H2) E := h
  show t σ H fun vs H1 => ∀ x dx, H1 x = none → H1 dx = none → dx ≠ x → sp (.ref x :: (vs ++ [])) (upd (upd H1 dx (.own x)) x (.ins C dx [])) (fun v H2 => v = .non ∧ Q (.ref x) H2) E
  simpa only [List.append_nil] using h2
theorem fldK (K : PySem.W.Frag) {f : Str} (he : PE X e ta) (hb : attributeBase e f X.env (eval e X.env) = eval e X.env) (h : X.K = K := by rfl) : PE X (.Attribute e f pos) (tFld K ta f) := by subst h; exact pe_fld he hb
end
/-! ### a class of the text -/
structure Kls (K : PySem.W.Frag) (mg : Str → Option Value) (x : Str) (C : Addr) : Prop where
  g : mg x = some (.ref C)
  cl : Cls K C
  ha : PySem.W.findIn K (.ref C) "__class__" = some (some (.builtin "object.__class__"))
  hm : PySem.W.mroIn K C (.type "object") = some true
structure KlG (K : PySem.W.Frag) : Prop where
  hn : PySem.W.specialIn K (.builtin "object.__class__") "__get__" = some (some (.builtin "getset_descriptor.__get__"))
  htk : PySem.W.takesIn K (.builtin "object.__class__") = some true
theorem Kls.ty {K : PySem.W.Frag} {mg : Str → Option Value} {x : Str} {C : Addr} {H : Hp} {a dx : Addr} {fs : List (Str × V)} (k : Kls K mg x C) (G : KlG K) (e : H a = some (.ins C dx fs)) : TyX K H (.ref a) (.ref C) :=
  .base (.ins e k.cl k.ha G.hn G.htk k.hm)
/-! ### the head with one more Bool -/
def hookX (n : Nat) (fa : List He.Fa) (fn : List He.DefD) (ex : PySem.W.Frag → Bool) : PySem.W.Hook where
  α := Bool × He.AlD
  obs := fun s => (ex (He.frG s.heap.get? (He.asD s.heap.get? n)), He.obsDG n fa fn s.heap.get?)
  val := fun _ => (true, He.valD fn)
  says := fun _ h => ∃ K : PySem.W.Frag, K.In h ∧ He.SaysD fa fn K ∧ ex K = true
  of := fun _ _ e => ⟨_, He.frG_in, congrArg (fun z : Bool × He.AlD => z.2) e, congrArg (fun z : Bool × He.AlD => z.1) e⟩
  keeps := fun _ _ _ ⟨K, hK, c⟩ k => ⟨K, PySem.W.Frag.In.keeps hK k, c⟩
def obX (n : Nat) (fa : List He.Fa) (fn : List He.DefD) (ex : PySem.W.Frag → Bool) (g : Addr → Option Obj) : Bool × He.AlD := (ex (He.frG g (He.asD g n)), He.obsDG n fa fn g)
theorem obX_eq {n : Nat} {fa : List He.Fa} {fn : List He.DefD} {ex : PySem.W.Frag → Bool} {g : Addr → Option Obj} {s : Shared} (h : ∀ a, g a = s.heap.get? a) : obX n fa fn ex g = (hookX n fa fn ex).obs s := by
  have e : g = s.heap.get? := funext h
  rw [e] <;> rfl
def clsB (K : PySem.W.Frag) (x : Str) : Bool := He.eqO (PySem.W.findIn K (.ref (He.ga K x)) "__class__") (some (some (.builtin "object.__class__"))) && decide (PySem.W.mroIn K (He.ga K x) (.type "object") = some true)
def klgB (K : PySem.W.Frag) : Bool := He.eqO (PySem.W.specialIn K (.builtin "object.__class__") "__get__") (some (some (.builtin "getset_descriptor.__get__"))) && decide (PySem.W.takesIn K (.builtin "object.__class__") = some true)
def kitB2 (K : PySem.W.Frag) (x y : Str) (b : Bool) : Bool := decide (PySem.W.kitOne K (.ref (He.ga K x)) (.ref (He.ga K y)) = some b)
theorem klgB_ok {K : PySem.W.Frag} (h : klgB K = true) : KlG K := by
  obtain ⟨h1, h2⟩ := He.ba h
  exact ⟨He.eqO_ok h1, of_decide_eq_true h2⟩
theorem clsB_ok {K : PySem.W.Frag} {mg : Str → Option Value} {x : Str} (g : mg x = some (.ref (He.ga K x))) (cl : Cls K (He.ga K x)) (h : clsB K x = true) : Kls K mg x (He.ga K x) := by
  obtain ⟨h1, h2⟩ := He.ba h
  exact ⟨g, cl, He.eqO_ok h1, of_decide_eq_true h2⟩
/-! ### len(set(..)) of tuples of ints -/
theorem erase_sub {α : Type} [DecidableEq α] {l m : List α} {a : α} (hl : a ∉ l) (h : ∀ b ∈ l, b ∈ m) : ∀ b ∈ l, b ∈ m.erase a := fun b hb =>
  (List.mem_erase_of_ne (fun z : b = a => hl (z ▸ hb))).mpr (h b hb)
theorem nodup_sub_len {α : Type} [DecidableEq α] : ∀ {l m : List α}, l.Nodup → (∀ a ∈ l, a ∈ m) → l.length ≤ m.length
  | [], _, _, _ => Nat.zero_le _
  | a :: l, m, nd, h => by
    obtain ⟨h1, h2⟩ := List.nodup_cons.mp nd
    have hm := h a List.mem_cons_self
    have ih := nodup_sub_len (m := m.erase a) h2 (erase_sub h1 fun b hb => h b (List.mem_cons_of_mem _ hb))
    rw [List.length_erase_of_mem hm] at ih
    have : 0 < m.length := List.length_pos_of_mem hm
    rw [List.length_cons]
    omega
theorem twice_of {α : Type} [DecidableEq α] : ∀ {m : List α}, ¬ m.Nodup → ∃ a, a ∈ m ∧ a ∈ m.erase a
  | [], h => absurd List.nodup_nil h
  | x :: m, h => by
    by_cases hx : x ∈ m
    · exact ⟨x, List.mem_cons_self, by rw [List.erase_cons_head]; exact hx⟩
    · have h2 : ¬ m.Nodup := fun z => h (List.nodup_cons.mpr ⟨hx, z⟩)
      obtain ⟨a, ha, hb⟩ := twice_of h2
      have ne : a ≠ x := fun z => hx (z ▸ ha)
      refine ⟨a, List.mem_cons_of_mem _ ha, ?_⟩
      rw [List.erase_cons_tail (by simpa using fun z : x = a => ne z.symm)]
      exact List.mem_cons_of_mem _ hb
/-- a list without repeats of the same members is as long iff there is no repeat -/
theorem dedup_len {α : Type} [DecidableEq α] {l m : List α} (nd : l.Nodup) (h1 : ∀ a ∈ l, a ∈ m) (h2 : ∀ a ∈ m, a ∈ l) : decide (l.length = m.length) = decide m.Nodup := by
  by_cases hm : m.Nodup
  · have a := nodup_sub_len nd h1
    have b := nodup_sub_len hm h2
    rw [decide_eq_true hm, decide_eq_true (by omega)]
  · obtain ⟨a, ha, hb⟩ := twice_of hm
    have c := nodup_sub_len (l := l) (m := m.erase a) nd fun b hb' => by
      by_cases e : b = a
      · rw [e]; exact hb
      · exact (List.mem_erase_of_ne e).mpr (h1 b hb')
    rw [List.length_erase_of_mem ha] at c
    have : 0 < m.length := List.length_pos_of_mem ha
    rw [decide_eq_false hm, decide_eq_false (by omega)]
def rLenT (K : PySem.W.Frag) (P : Program) (w : World) : List V → Hp → VK → Prop := fun vs H Q => ∃ (a : Addr) (L : List (Addr × List Int)), vs = [V.ref a] ∧ H a = some (SetTO P w a L) ∧ (∀ p ∈ L, SqT K H p.1 (p.2.map V.int)) ∧ ((L.map (·.2)).Nodup → Q (.int L.length) H)
theorem call_lenT {X : Cx} : CallR X (.builtin "len") (rLenT X.K X.prog X.w) := by
  intro pins s σ H vs us Q I r h
  obtain ⟨a, L, rfl, ha, hk, q⟩ := h
  have R0 : SetT0 X.prog X.w s.heap a L := (I.hok a _ ha).1
  obtain ⟨es, ep, t, R⟩ := R0.full fun p hp => I.isT (hk p hp)
  rw [Vals.ref1 r]
  obtain ⟨o, ho, hex, hd⟩ := R.ob
  have hn := R.size
  have few := R.few
  refine call_len_set ho hex hd R.fits (by omega) ⟨.int L.length, H, I.tok _, ⟨_, by rw [hn]⟩, q R.nd⟩
end Sk
/-! The mathematics of fields, cells and snakes: plain Lean, no program. -/
namespace Sn
/-- a row: its letters' codes; a field: its rows -/
abbrev Row := List Nat
abbrev Cel := Int × Int
def letter (c : Nat) : Prop := 97 ≤ c ∧ c ≤ 122
structure FieldOk (F : List Row) (h w : Nat) : Prop where
  high : F.length = h
  h1 : 1 ≤ h
  h5 : h ≤ 5
  w1 : 1 ≤ w
  w5 : w ≤ 5
  wide : ∀ r ∈ F, r.length = w
  let_ : ∀ r ∈ F, ∀ c ∈ r, letter c
/-- lo, lo + 1, .. : n of them -/
def rng (lo : Int) (n : Nat) : List Int := (List.range n).map fun (i : Nat) => lo + (i : Int)
theorem rng_length (lo : Int) (n : Nat) : (rng lo n).length = n := by simp [rng]
theorem rng_succ (lo : Int) (n : Nat) : rng lo (n + 1) = rng lo n ++ [lo + (n : Int)] := by
  unfold rng; rw [List.range_succ, List.map_append]; rfl
theorem mem_rng {lo x : Int} {n : Nat} : x ∈ rng lo n ↔ lo ≤ x ∧ x < lo + n := by
  unfold rng
  rw [List.mem_map]
  constructor
  · rintro ⟨i, hi, rfl⟩
    have := List.mem_range.mp hi
    omega
  · rintro ⟨h1, h2⟩
    exact ⟨(x - lo).toNat, List.mem_range.mpr (by omega), by omega⟩
def iabs (x : Int) : Int := if x < 0 then -x else x
def beside (a b : Cel) : Bool := (!decide (a = b)) && decide (iabs (a.1 - b.1) < 2) && decide (iabs (a.2 - b.2) < 2)
def cellsL (h w : Nat) : List Cel := (rng 0 h).flatMap fun r => (rng 0 w).map fun p => (r, p)
theorem mem_cellsL {h w : Nat} {c : Cel} : c ∈ cellsL h w ↔ (0 ≤ c.1 ∧ c.1 < h) ∧ (0 ≤ c.2 ∧ c.2 < w) := by
  unfold cellsL
  rw [List.mem_flatMap]
  constructor
  · rintro ⟨r, hr, hc⟩
    obtain ⟨p, hp, rfl⟩ := List.mem_map.mp hc
    have h1 := mem_rng.mp hr
    have h2 := mem_rng.mp hp
    exact ⟨by simpa using h1, by simpa using h2⟩
  · rintro ⟨h1, h2⟩
    refine ⟨c.1, mem_rng.mpr (by simpa using h1), List.mem_map.mpr ⟨c.2, mem_rng.mpr (by simpa using h2), rfl⟩⟩
/-- what near_of goes through: rows from max(0, r - 1) to min(h, r + 2), places alike -/
def loN (x : Int) : Int := if x - 1 > 0 then x - 1 else 0
def hiN (n : Nat) (x : Int) : Int := if x + 2 < (n : Int) then x + 2 else (n : Int)
def nearRow (w : Nat) (c : Cel) (row : Int) : List Cel := ((rng (loN c.2) (hiN w c.2 - loN c.2).toNat).filter fun p => !decide ((row, p) = c)).map fun p => (row, p)
def nearL (h w : Nat) (c : Cel) : List Cel := (rng (loN c.1) (hiN h c.1 - loN c.1).toNat).flatMap fun row => nearRow w c row
def nearChk (h w r p : Nat) : Bool := decide (nearL h w ((r : Int), (p : Int)) = (cellsL h w).filter (beside ((r : Int), (p : Int))))
set_option maxRecDepth 100000 in
theorem nearChk_all : ((List.range 6).all fun h => (List.range 6).all fun w => (List.range h).all fun r => (List.range w).all fun p => nearChk h w r p) = true := by decide +kernel
theorem near_eq {h w : Nat} (h5 : h ≤ 5) (w5 : w ≤ 5) {c : Cel} (hc : c ∈ cellsL h w) : nearL h w c = (cellsL h w).filter (beside c) := by
  obtain ⟨⟨a1, a2⟩, a3, a4⟩ := mem_cellsL.mp hc
  have k := nearChk_all
  rw [List.all_eq_true] at k
  have k1 := k h (List.mem_range.mpr (by omega))
  rw [List.all_eq_true] at k1
  have k2 := k1 w (List.mem_range.mpr (by omega))
  rw [List.all_eq_true] at k2
  have k3 := k2 c.1.toNat (List.mem_range.mpr (by omega))
  rw [List.all_eq_true] at k3
  have k4 := k3 c.2.toNat (List.mem_range.mpr (by omega))
  have k5 : nearL h w ((c.1.toNat : Int), (c.2.toNat : Int)) = (cellsL h w).filter (beside ((c.1.toNat : Int), (c.2.toNat : Int))) := of_decide_eq_true k4
  have e : (((c.1.toNat : Int), (c.2.toNat : Int)) : Cel) = c := by
    apply Prod.ext
    · show ((c.1.toNat : Int)) = c.1; omega
    · show ((c.2.toNat : Int)) = c.2; omega
  rw [e] at k5
  exact k5
theorem near_mem {h w : Nat} (h5 : h ≤ 5) (w5 : w ≤ 5) {c d : Cel} (hc : c ∈ cellsL h w) : d ∈ nearL h w c ↔ d ∈ cellsL h w ∧ beside c d = true := by
  rw [near_eq h5 w5 hc, List.mem_filter]
theorem getD_of {α : Type} {l : List α} {i : Nat} {x d : α} (h : l[i]? = some x) : l.getD i d = x := by
  rw [List.getD_eq_getElem?_getD, h]; rfl
/-- the field's letter at a cell -/
def at_ (F : List Row) (c : Cel) : Nat := (F.getD c.1.toNat []).getD c.2.toNat 0
/-! ### turned, mirrored -/
def col (F : List Row) (p : Nat) : Row := F.reverse.map fun r => r.getD p 0
def turnedL (F : List Row) (w : Nat) : List Row := (List.range w).map fun p => col F p
def mirroredL (F : List Row) : List Row := F.map List.reverse
theorem FieldOk.turned {F : List Row} {h w : Nat} (o : FieldOk F h w) : FieldOk (turnedL F w) w h := by
  refine ⟨by simp [turnedL], o.w1, o.w5, o.h1, o.h5, fun r hr => ?_, fun r hr c hc => ?_⟩
  · obtain ⟨p, _, rfl⟩ := List.mem_map.mp hr
    simp [col, o.high]
  · obtain ⟨p, hp, rfl⟩ := List.mem_map.mp hr
    obtain ⟨q, hq, rfl⟩ := List.mem_map.mp hc
    have hq' : q ∈ F := List.mem_reverse.mp hq
    have hl : p < q.length := by rw [o.wide q hq']; exact List.mem_range.mp hp
    rw [List.getD_eq_getElem?_getD, List.getElem?_eq_getElem hl]
    exact o.let_ q hq' _ (List.getElem_mem hl)
theorem FieldOk.mirrored {F : List Row} {h w : Nat} (o : FieldOk F h w) : FieldOk (mirroredL F) h w := by
  refine ⟨by simp [mirroredL, o.high], o.h1, o.h5, o.w1, o.w5, fun r hr => ?_, fun r hr c hc => ?_⟩
  · obtain ⟨p, hp, rfl⟩ := List.mem_map.mp hr
    rw [List.length_reverse]; exact o.wide p hp
  · obtain ⟨p, hp, rfl⟩ := List.mem_map.mp hr
    exact o.let_ p hp c (List.mem_reverse.mp hc)
theorem mirrored_twice (F : List Row) : mirroredL (mirroredL F) = F := by
  unfold mirroredL
  rw [List.map_map]
  conv => rhs; rw [← List.map_id F]
  apply List.map_congr_left
  intro r _
  simp
theorem turned_get {F : List Row} {w : Nat} {p : Nat} (hp : p < w) : (turnedL F w)[p]? = some (col F p) := by
  unfold turnedL
  rw [List.getElem?_map, List.getElem?_range hp]; rfl
theorem col_get {F : List Row} {h w : Nat} (o : FieldOk F h w) {p r : Nat} (hr : r < h) : (col F p)[h - 1 - r]? = some ((F.getD r []).getD p 0) := by
  unfold col
  rw [List.getElem?_map, List.getElem?_reverse (by rw [o.high]; omega)]
  have e : F.length - 1 - (h - 1 - r) = r := by rw [o.high]; omega
  have hl : r < F.length := by rw [o.high]; exact hr
  rw [e, List.getElem?_eq_getElem hl]
  simp [List.getD_eq_getElem?_getD, List.getElem?_eq_getElem hl]
theorem row_len {F : List Row} {h w : Nat} (o : FieldOk F h w) {r : Nat} (hr : r < h) : (F.getD r []).length = w := by
  have hl : r < F.length := by rw [o.high]; exact hr
  rw [List.getD_eq_getElem?_getD, List.getElem?_eq_getElem hl]
  exact o.wide _ (List.getElem_mem hl)
theorem turned_at {F : List Row} {h w : Nat} (o : FieldOk F h w) {i j : Nat} (hi : i < w) (hj : j < h) : ((turnedL F w).getD i []).getD j 0 = (F.getD (h - 1 - j) []).getD i 0 := by
  have h1 := turned_get (F := F) hi
  have h2 := col_get o (p := i) (r := h - 1 - j) (by omega)
  have e : h - 1 - (h - 1 - j) = j := by omega
  rw [e] at h2
  rw [getD_of h1, getD_of h2]
/-- two fields are the same if all their letters are -/
theorem field_ext {F G : List Row} {h w : Nat} (o : FieldOk F h w) (q : FieldOk G h w) (e : ∀ i j, i < h → j < w → (F.getD i []).getD j 0 = (G.getD i []).getD j 0) : F = G := by
  apply List.ext_getElem (by rw [o.high, q.high])
  intro i h1 h2
  have hi : i < h := by rw [← o.high]; exact h1
  apply List.ext_getElem
  · rw [o.wide _ (List.getElem_mem h1), q.wide _ (List.getElem_mem h2)]
  intro j k1 k2
  have hj : j < w := by rw [← o.wide _ (List.getElem_mem h1)]; exact k1
  have z := e i j hi hj
  rw [getD_of (List.getElem?_eq_getElem h1), getD_of (List.getElem?_eq_getElem h2), getD_of (List.getElem?_eq_getElem k1), getD_of (List.getElem?_eq_getElem k2)] at z
  exact z
theorem turned_four {F : List Row} {h w : Nat} (o : FieldOk F h w) : turnedL (turnedL (turnedL (turnedL F w) h) w) h = F := by
  have o1 := o.turned
  have o2 := o1.turned
  have o3 := o2.turned
  have o4 := o3.turned
  refine field_ext o4 o fun i j hi hj => ?_
  rw [turned_at o3 hi hj, turned_at o2 (by omega) hi, turned_at o1 (by omega) (by omega), turned_at o (by omega) (by omega)]
  have e1 : h - 1 - (h - 1 - i) = i := by omega
  have e2 : w - 1 - (w - 1 - j) = j := by omega
  rw [e1, e2]
end Sn
/-! The mathematics of snakes: plain Lean, no program. -/
namespace Sn
/-- where a snake may go on -/
def nextL (h w : Nat) (cs : List Cel) : List Cel := match cs.getLast? with
  | none => cellsL h w
  | some c => (nearL h w c).filter fun d => !decide (d ∈ cs)
/-- all snakes that begin with cs and then spell the rest -/
def snakesOn (F : List (List Nat)) (h w : Nat) : List Nat → List Cel → List (List Cel)
  | [], cs => [cs]
  | l :: r, cs => (nextL h w cs).flatMap fun c => if at_ F c = l then snakesOn F h w r (cs ++ [c]) else []
def Vld (h w : Nat) (cs : List Cel) : Prop := ∀ c ∈ cs, c ∈ cellsL h w
theorem Vld.snoc {h w : Nat} {cs : List Cel} {c : Cel} (v : Vld h w cs) (hc : c ∈ cellsL h w) : Vld h w (cs ++ [c]) := fun d hd => by
  rcases List.mem_append.mp hd with hd | hd
  · exact v d hd
  · rw [List.mem_singleton.mp hd]; exact hc
theorem Vld.last {h w : Nat} {cs : List Cel} {c : Cel} (v : Vld h w cs) (e : cs.getLast? = some c) : c ∈ cellsL h w := v c (List.mem_of_getLast? e)
def nearLen (h w r p : Nat) : Bool := decide ((nearL h w ((r : Int), (p : Int))).length ≤ 8)
set_option maxRecDepth 100000 in
theorem nearLen_all : ((List.range 6).all fun h => (List.range 6).all fun w => (List.range h).all fun r => (List.range w).all fun p => nearLen h w r p) = true := by decide +kernel
theorem near_len {h w : Nat} (h5 : h ≤ 5) (w5 : w ≤ 5) {c : Cel} (hc : c ∈ cellsL h w) : (nearL h w c).length ≤ 8 := by
  obtain ⟨⟨a1, a2⟩, a3, a4⟩ := mem_cellsL.mp hc
  have k := nearLen_all
  rw [List.all_eq_true] at k
  have k1 := k h (List.mem_range.mpr (by omega))
  rw [List.all_eq_true] at k1
  have k2 := k1 w (List.mem_range.mpr (by omega))
  rw [List.all_eq_true] at k2
  have k3 := k2 c.1.toNat (List.mem_range.mpr (by omega))
  rw [List.all_eq_true] at k3
  have k4 := k3 c.2.toNat (List.mem_range.mpr (by omega))
  have e : (((c.1.toNat : Int), (c.2.toNat : Int)) : Cel) = c := by
    apply Prod.ext
    · show ((c.1.toNat : Int)) = c.1; omega
    · show ((c.2.toNat : Int)) = c.2; omega
  unfold nearLen at k4
  rw [e] at k4
  exact of_decide_eq_true k4
theorem next_mem {h w : Nat} (h5 : h ≤ 5) (w5 : w ≤ 5) {cs : List Cel} (v : Vld h w cs) {c : Cel} (hc : c ∈ nextL h w cs) : c ∈ cellsL h w := by
  unfold nextL at hc
  split at hc
  · exact hc
  · rename_i d e
    exact ((near_mem h5 w5 (v.last e)).mp (List.mem_filter.mp hc).1).1
theorem next_len {h w : Nat} (h5 : h ≤ 5) (w5 : w ≤ 5) {cs : List Cel} (v : Vld h w cs) : (nextL h w cs).length ≤ if cs = [] then 25 else 8 := by
  unfold nextL
  split
  · rename_i e
    rw [if_pos (List.getLast?_eq_none_iff.mp e)]
    have : (cellsL h w).length = h * w := by
      unfold cellsL
      clear e v
      induction h with
      | zero => simp [rng]
      | succ h ih => rw [rng_succ, List.flatMap_append, List.length_append, ih (by omega), List.flatMap_cons, List.flatMap_nil, List.append_nil, List.length_map, rng_length, Nat.succ_mul]
    rw [this]
    exact Nat.mul_le_mul h5 w5
  · rename_i d e
    have hne : cs ≠ [] := fun z => by rw [z] at e; cases e
    rw [if_neg hne]
    exact Nat.le_trans (List.length_filter_le _ _) (near_len h5 w5 (v.last e))
theorem flat_le {α β : Type} (f : α → List β) (m : Nat) : ∀ l : List α, (∀ a ∈ l, (f a).length ≤ m) → (l.flatMap f).length ≤ l.length * m
  | [], _ => by simp
  | a :: l, h => by
    rw [List.flatMap_cons, List.length_append, List.length_cons, Nat.succ_mul]
    have := flat_le f m l fun b hb => h b (List.mem_cons_of_mem _ hb)
    have := h a List.mem_cons_self
    omega
theorem snakes_len8 {F : List (List Nat)} {h w : Nat} (h5 : h ≤ 5) (w5 : w ≤ 5) : ∀ (r : List Nat) (cs : List Cel), cs ≠ [] → Vld h w cs → (snakesOn F h w r cs).length ≤ 8 ^ r.length
  | [], cs, _, _ => by simp [snakesOn]
  | l :: r, cs, hn, v => by
    show ((nextL h w cs).flatMap _).length ≤ _
    have h1 := next_len h5 w5 v
    rw [if_neg hn] at h1
    refine Nat.le_trans (flat_le _ (8 ^ r.length) _ fun c hc => ?_) ?_
    · show (if at_ F c = l then snakesOn F h w r (cs ++ [c]) else []).length ≤ _
      split
      · exact snakes_len8 h5 w5 r (cs ++ [c]) (by simp) (v.snoc (next_mem h5 w5 v hc))
      · exact Nat.zero_le _
    · rw [List.length_cons, Nat.pow_succ, Nat.mul_comm]
      exact Nat.mul_le_mul_left _ h1
theorem snakes_len {F : List (List Nat)} {h w : Nat} (h5 : h ≤ 5) (w5 : w ≤ 5) {r : List Nat} {cs : List Cel} (v : Vld h w cs) (hr : r.length ≤ 6) : (snakesOn F h w r cs).length ≤ 1000000 := by
  by_cases hn : cs = []
  · subst hn
    cases r with
    | nil => simp [snakesOn]
    | cons l r =>
      show ((nextL h w []).flatMap _).length ≤ _
      have h1 := next_len h5 w5 v
      rw [if_pos rfl] at h1
      refine Nat.le_trans (flat_le _ (8 ^ 5) _ fun c hc => ?_) (Nat.le_trans (Nat.mul_le_mul_right _ h1) (by decide))
      show (if at_ F c = l then snakesOn F h w r ([] ++ [c]) else []).length ≤ _
      split
      · exact Nat.le_trans (snakes_len8 h5 w5 r ([] ++ [c]) (by simp) (v.snoc (next_mem h5 w5 v hc))) (Nat.pow_le_pow_right (by decide) (by rw [List.length_cons] at hr; omega))
      · exact Nat.zero_le _
  · exact Nat.le_trans (snakes_len8 h5 w5 r cs hn v) (Nat.le_trans (Nat.pow_le_pow_right (by decide) hr) (by decide))
/-! ### letter by letter, all snakes at once -/
def stepB (F : List (List Nat)) (l : Nat) (cs : List Cel) (c : Cel) : Bool := (decide (at_ F c = l) && !decide (c ∈ cs)) && (decide (cs = []) || (match cs.getLast? with | none => false | some d => beside d c))
def stepL (F : List (List Nat)) (h w l : Nat) (cs : List Cel) : List (List Cel) := ((cellsL h w).filter (stepB F l cs)).map fun c => cs ++ [c]
def bfs (F : List (List Nat)) (h w : Nat) (word : List Nat) : List (List Cel) := word.foldl (fun fs l => fs.flatMap (stepL F h w l)) [[]]
theorem flat_if {α β : Type} (p : α → Bool) (f : α → List β) : ∀ l : List α, (l.flatMap fun a => if p a = true then f a else []) = (l.filter p).flatMap f
  | [] => rfl
  | a :: l => by
    rw [List.flatMap_cons, flat_if p f l, List.filter_cons]
    split
    · rw [List.flatMap_cons]
    · rfl
theorem step_eq {F : List (List Nat)} {h w : Nat} (h5 : h ≤ 5) (w5 : w ≤ 5) {l : Nat} {cs : List Cel} (v : Vld h w cs) : (cellsL h w).filter (stepB F l cs) = (nextL h w cs).filter fun c => decide (at_ F c = l) := by
  unfold nextL
  split
  · rename_i e
    have hn := List.getLast?_eq_none_iff.mp e
    subst hn
    apply List.filter_congr
    intro c _
    simp [stepB]
  · rename_i d e
    have hne : cs ≠ [] := fun z => by rw [z] at e; cases e
    rw [near_eq h5 w5 (v.last e), List.filter_filter, List.filter_filter]
    apply List.filter_congr
    intro c _
    unfold stepB
    rw [e, decide_eq_false hne, Bool.false_or, Bool.and_assoc]
theorem snakes_cons {F : List (List Nat)} {h w : Nat} (h5 : h ≤ 5) (w5 : w ≤ 5) {l : Nat} {r : List Nat} {cs : List Cel} (v : Vld h w cs) : snakesOn F h w (l :: r) cs = (stepL F h w l cs).flatMap (snakesOn F h w r) := by
  have e : snakesOn F h w (l :: r) cs = (nextL h w cs).flatMap fun c => if decide (at_ F c = l) = true then snakesOn F h w r (cs ++ [c]) else [] := by
    show (nextL h w cs).flatMap _ = _
    congr 1
    funext c
    simp only [decide_eq_true_eq]
  rw [e, flat_if, ← step_eq h5 w5 v]
  unfold stepL
  rw [List.flatMap_map]
theorem step_vld {F : List (List Nat)} {h w l : Nat} {cs s : List Cel} (v : Vld h w cs) (hs : s ∈ stepL F h w l cs) : Vld h w s := by
  obtain ⟨c, hc, rfl⟩ := List.mem_map.mp hs
  exact v.snoc (List.mem_filter.mp hc).1
theorem bfs_from {F : List (List Nat)} {h w : Nat} (h5 : h ≤ 5) (w5 : w ≤ 5) : ∀ (word : List Nat) (fs : List (List Cel)), (∀ s ∈ fs, Vld h w s) → word.foldl (fun fs l => fs.flatMap (stepL F h w l)) fs = fs.flatMap (snakesOn F h w word)
  | [], fs, _ => by
    show fs = fs.flatMap fun s => [s]
    simp
  | l :: r, fs, hv => by
    rw [List.foldl_cons, bfs_from h5 w5 r _ fun s hs => ?_, List.flatMap_assoc]
    · apply flatMap_congr_left
      intro s hs
      exact (snakes_cons h5 w5 (hv s hs)).symm
    · obtain ⟨t, ht, hs⟩ := List.mem_flatMap.mp hs
      exact step_vld (hv t ht) hs
where
  flatMap_congr_left {α β : Type} {f g : α → List β} {l : List α} (h : ∀ a ∈ l, f a = g a) : l.flatMap f = l.flatMap g := by
    induction l with
    | nil => rfl
    | cons a l ih => rw [List.flatMap_cons, List.flatMap_cons, h a List.mem_cons_self, ih fun b hb => h b (List.mem_cons_of_mem _ hb)]
theorem vld_nil (h w : Nat) : Vld h w [] := fun _ z => nomatch z
theorem bfs_eq {F : List (List Nat)} {h w : Nat} (h5 : h ≤ 5) (w5 : w ≤ 5) (word : List Nat) : bfs F h w word = snakesOn F h w word [] := by
  unfold bfs
  rw [bfs_from h5 w5 word [[]] fun s hs => by rw [List.mem_singleton.mp hs]; exact vld_nil h w]
  simp
/-! ### what snakes are -/
def adjB (cs : List Cel) : Bool := (cs.zip (cs.drop 1)).all fun p => beside p.1 p.2
def snakeB (h w : Nat) (cs : List Cel) : Bool := !decide (cs = []) && (decide cs.Nodup && ((cs.all fun c => decide (c ∈ cellsL h w)) && adjB cs))
def spell (F : List (List Nat)) (cs : List Cel) : List Nat := cs.map (at_ F)
theorem adj_snoc : ∀ {cs : List Cel} {c : Cel}, adjB cs = true → (∀ d, cs.getLast? = some d → beside d c = true) → adjB (cs ++ [c]) = true
  | [], c, _, _ => rfl
  | [a], c, _, h => by
    have := h a rfl
    simp [adjB, this]
  | a :: b :: r, c, h, hl => by
    have h' : beside a b = true ∧ adjB (b :: r) = true := by
      simpa [adjB] using h
    have ih := adj_snoc (cs := b :: r) (c := c) h'.2 (fun d hd => hl d (by rw [List.getLast?_cons_cons]; exact hd))
    have : adjB (a :: b :: r ++ [c]) = (beside a b && adjB (b :: r ++ [c])) := by simp [adjB]
    rw [this, h'.1, ih]; rfl
structure Snk (h w : Nat) (cs : List Cel) : Prop where
  vld : Vld h w cs
  nd : cs.Nodup
  adj : adjB cs = true
theorem snk_nil (h w : Nat) : Snk h w [] := ⟨vld_nil h w, List.nodup_nil, rfl⟩
theorem snakeB_iff {h w : Nat} {cs : List Cel} : snakeB h w cs = true ↔ cs ≠ [] ∧ Snk h w cs := by
  unfold snakeB
  simp only [Bool.and_eq_true, Bool.not_eq_true', decide_eq_false_iff_not, decide_eq_true_eq, List.all_eq_true]
  constructor
  · rintro ⟨a, b, c, d⟩
    exact ⟨a, c, b, d⟩
  · rintro ⟨a, c, b, d⟩
    exact ⟨a, b, c, d⟩
theorem Snk.snoc {F : List (List Nat)} {h w l : Nat} {cs : List Cel} {c : Cel} (k : Snk h w cs) (hc : c ∈ cellsL h w) (hb : stepB F l cs c = true) : Snk h w (cs ++ [c]) := by
  unfold stepB at hb
  simp only [Bool.and_eq_true, Bool.or_eq_true, decide_eq_true_eq, Bool.not_eq_true', decide_eq_false_iff_not] at hb
  obtain ⟨⟨_, hn⟩, hb⟩ := hb
  refine ⟨k.vld.snoc hc, ?_, adj_snoc k.adj fun d hd => ?_⟩
  · rw [List.nodup_append]
    refine ⟨k.nd, by simp, fun a ha b hb' z => ?_⟩
    rw [List.mem_singleton.mp hb'] at z
    exact hn (z ▸ ha)
  · rcases hb with hb | hb
    · rw [hb] at hd; cases hd
    · rw [hd] at hb; exact hb
theorem snakes_are {F : List (List Nat)} {h w : Nat} (h5 : h ≤ 5) (w5 : w ≤ 5) : ∀ (r : List Nat) (cs s : List Cel), Snk h w cs → s ∈ snakesOn F h w r cs → Snk h w s ∧ ∃ t, s = cs ++ t ∧ spell F t = r
  | [], cs, s, k, hs => by
    rw [List.mem_singleton.mp hs]
    exact ⟨k, [], by simp, rfl⟩
  | l :: r, cs, s, k, hs => by
    rw [snakes_cons h5 w5 k.vld] at hs
    obtain ⟨cs', hc', hs⟩ := List.mem_flatMap.mp hs
    obtain ⟨c, hc, rfl⟩ := List.mem_map.mp hc'
    obtain ⟨hc1, hc2⟩ := List.mem_filter.mp hc
    obtain ⟨k2, t, rfl, ht⟩ := snakes_are h5 w5 r _ s (k.snoc hc1 hc2) hs
    refine ⟨k2, c :: t, by simp, ?_⟩
    have hl : at_ F c = l := by
      unfold stepB at hc2
      simp only [Bool.and_eq_true, decide_eq_true_eq] at hc2
      exact hc2.1.1
    show at_ F c :: spell F t = _
    rw [hl, ht]
theorem snakes_mem {F : List (List Nat)} {h w : Nat} (h5 : h ≤ 5) (w5 : w ≤ 5) {word : List Nat} {s : List Cel} (hs : s ∈ snakesOn F h w word []) : Snk h w s ∧ spell F s = word := by
  obtain ⟨k, t, rfl, ht⟩ := snakes_are h5 w5 word [] s (snk_nil h w) hs
  exact ⟨k, by simpa using ht⟩
/-! ### how far snakes come -/
def ne_ (F : List (List Nat)) (h w : Nat) (word : List Nat) (m : Nat) : Bool := !decide (snakesOn F h w (word.take m) [] = [])
theorem bfs_snoc (F : List (List Nat)) (h w : Nat) (word : List Nat) (l : Nat) : bfs F h w (word ++ [l]) = (bfs F h w word).flatMap (stepL F h w l) := by
  unfold bfs
  rw [List.foldl_append]; rfl
theorem ne_down {F : List (List Nat)} {h w : Nat} (h5 : h ≤ 5) (w5 : w ≤ 5) {word : List Nat} {m : Nat} (hm : m < word.length) (h1 : ne_ F h w word (m + 1) = true) : ne_ F h w word m = true := by
  unfold ne_ at h1 ⊢
  rw [Bool.not_eq_true', decide_eq_false_iff_not] at h1 ⊢
  intro z
  apply h1
  rw [← bfs_eq h5 w5] at z ⊢
  rw [List.take_add_one, List.getElem?_eq_getElem hm]
  show bfs F h w (word.take m ++ [word[m]]) = []
  rw [bfs_snoc, z]
  rfl
theorem ne_le {F : List (List Nat)} {h w : Nat} (h5 : h ≤ 5) (w5 : w ≤ 5) {word : List Nat} : ∀ {k m : Nat}, m ≤ k → k ≤ word.length → ne_ F h w word k = true → ne_ F h w word m = true
  | 0, m, h1, _, h => by
    have : m = 0 := by omega
    rw [this]; exact h
  | k + 1, m, h1, h2, h => by
    by_cases e : m = k + 1
    · rw [e]; exact h
    · exact ne_le h5 w5 (by omega) (by omega) (ne_down h5 w5 (by omega) h)
/-- m letters are spelled by some snake, no more are -/
structure Lgst (F : List (List Nat)) (h w : Nat) (word : List Nat) (m : Nat) : Prop where
  le : m ≤ word.length
  ne : ne_ F h w word m = true
  most : ∀ k, m < k → k ≤ word.length → ne_ F h w word k = false
theorem Lgst.inj {F : List (List Nat)} {h w : Nat} {word : List Nat} {m k : Nat} (a : Lgst F h w word m) (b : Lgst F h w word k) : m = k := by
  rcases Nat.lt_trichotomy m k with c | c | c
  · have := a.most k c b.le
    rw [b.ne] at this; cases this
  · exact c
  · have := b.most m c a.le
    rw [a.ne] at this; cases this
theorem lgst_of {F : List (List Nat)} {h w : Nat} (h5 : h ≤ 5) (w5 : w ≤ 5) {word : List Nat} {m : Nat} (le : m ≤ word.length) (ne : ne_ F h w word m = true) (st : m < word.length → ne_ F h w word (m + 1) = false) : Lgst F h w word m := by
  refine ⟨le, ne, fun k h1 h2 => ?_⟩
  cases e : ne_ F h w word k with
  | false => rfl
  | true =>
    have := ne_le h5 w5 (show m + 1 ≤ k by omega) h2 e
    rw [st (by omega)] at this
    cases this
theorem ne_zero (F : List (List Nat)) (h w : Nat) (word : List Nat) : ne_ F h w word 0 = true := by simp [ne_, snakesOn]
end Sn
/-! How fields, cells and snakes stand in the heap; comprehensions by one lemma. -/
namespace Sk
open PySem PySem.Spec PyProof.Rows L2 Sn

/-! ### heaps -/
theorem same_new {H : Hp} {p : Addr} {o : HO} (h : H p = none) : Same H (upd H p o) := fun b x e => by
  rw [upd_ne (ne_of_none e h)]; exact e
theorem same_upd {H0 H : Hp} {p : Addr} {o : HO} (s : Same H0 H) (h : H0 p = none) : Same H0 (upd H p o) := fun b x e => by
  rw [upd_ne (ne_of_none e h)]; exact s b x e
/-- all but D stays -/
def Kb (D : Addr) (H H' : Hp) : Prop := ∀ b o, b ≠ D → H b = some o → H' b = some o
theorem Kb.of {D : Addr} {H H' : Hp} (s : Same H H') : Kb D H H' := fun b o _ e => s b o e
theorem Kb.upd {D : Addr} {H H' : Hp} {o : HO} (s : Kb D H H') : Kb D H (upd H' D o) := fun b x n e => by
  rw [upd_ne n]; exact s b x n e
theorem Kb.trans {D : Addr} {H H1 H2 : Hp} (a : Kb D H H1) (b : Kb D H1 H2) : Kb D H H2 := fun c o n e => b c o n (a c o n e)
/-- tuples stay -/
def TupLe (H H' : Hp) : Prop := ∀ a xs, Rd H a (.tup xs) → Rd H' a (.tup xs)
theorem TupLe.refl (H : Hp) : TupLe H H := fun _ _ h => h
theorem TupLe.trans {H H1 H2 : Hp} (a : TupLe H H1) (b : TupLe H1 H2) : TupLe H H2 := fun c xs h => b c xs (a c xs h)
theorem TupLe.of {H H' : Hp} (s : Same H H') : TupLe H H' := fun a xs h => by
  rcases h with h | ⟨o, h⟩
  · exact .inl (s _ _ h)
  · exact .inr ⟨o, s _ _ h⟩
theorem TupLe.kb {D : Addr} {H H' : Hp} {ys : List V} (hD : H D = some (.lst ys)) (s : Kb D H H') : TupLe H H' := fun a xs h => by
  rcases h with h | ⟨o, h⟩
  · exact .inl (s _ _ (ne_of h hD (fun z => by cases z)) h)
  · exact .inr ⟨o, s _ _ (ne_of h hD (fun z => by cases z)) h⟩
theorem TupLe.upd {H H' : Hp} {D : Addr} {ys : List V} {o : HO} (hD : H' D = some (.lst ys)) (s : TupLe H H') : TupLe H (upd H' D o) := fun a xs h => by
  rcases s a xs h with h | ⟨o, h⟩
  · exact .inl (by rw [upd_ne (ne_of h hD (fun z => by cases z))]; exact h)
  · exact .inr ⟨o, by rw [upd_ne (ne_of h hD (fun z => by cases z))]; exact h⟩
theorem TupLe.sqt {K : PySem.W.Frag} {H H' : Hp} {a : Addr} {xs : List V} (s : TupLe H H') (h : SqT K H a xs) : SqT K H' a xs := by
  rcases h with h | h
  · exact .inl (s _ _ h)
  · exact .inr h
theorem Same.sqt {K : PySem.W.Frag} {H H' : Hp} {a : Addr} {xs : List V} (s : Same H H') (h : SqT K H a xs) : SqT K H' a xs := (TupLe.of s).sqt h

/-! ### texts -/
/-- a text by its codes -/
def tx (r : List Nat) : Str := ⟨r.toArray⟩
abbrev tv (r : List Nat) : V := .str (tx r)
theorem tx_len (r : List Nat) : (tx r).length = r.length := by show r.toArray.size = _; simp
theorem tx_cps (r : List Nat) : (tx r).cps.toList = r := by show r.toArray.toList = r; simp
theorem tx_inj {a b : List Nat} (h : tx a = tx b) : a = b := by
  have := congrArg (fun z : Str => z.cps.toList) h
  simpa only [tx_cps] using this
theorem tx_eq (a b : List Nat) : decide (tx a = tx b) = decide (a = b) := by
  by_cases h : a = b
  · subst h; simp
  · rw [decide_eq_false h, decide_eq_false (fun z => h (tx_inj z))]
theorem str_tx (z : Str) : ∃ r, z = tx r := ⟨z.cps.toList, by cases z; simp [tx]⟩
theorem revS_tx (r : List Nat) : revS (tx r) = tx r.reverse := by unfold revS; rw [tx_cps]; rfl
theorem tx_app (a b : List Nat) : tx a ++ tx b = tx (a ++ b) := by
  show (⟨a.toArray ++ b.toArray⟩ : Str) = ⟨(a ++ b).toArray⟩
  simp
/-! ### cells -/
def CellV (K : PySem.W.Frag) (H : Hp) (v : V) (c : Cel) : Prop := ∃ t, v = .ref t ∧ SqT K H t [.int c.1, .int c.2]
abbrev Cells (K : PySem.W.Frag) (H : Hp) (xs : List V) (cs : List Cel) : Prop := Paired (CellV K H) xs cs
theorem CellV.le {K : PySem.W.Frag} {H H' : Hp} {v : V} {c : Cel} (h : CellV K H v c) (s : TupLe H H') : CellV K H' v c := by
  obtain ⟨t, e, q⟩ := h
  exact ⟨t, e, s.sqt q⟩
theorem Cells.le {K : PySem.W.Frag} {H H' : Hp} {xs : List V} {cs : List Cel} (h : Cells K H xs cs) (s : TupLe H H') : Cells K H' xs cs := Paired.mapP h fun _ _ q => q.le s
theorem Paired.get {α β : Type} {F : α → β → Prop} : ∀ {l₁ : List α} {l₂ : List β} {i : Nat} {a : α}, Paired F l₁ l₂ → l₁[i]? = some a → ∃ b, l₂[i]? = some b ∧ F a b
  | _, _, _, _, .nil, e => by simp at e
  | _, _, 0, _, .cons r _, e => by simp at e; subst e; exact ⟨_, rfl, r⟩
  | _, _, i + 1, a, .cons _ t, e => by
    obtain ⟨u, h1, h2⟩ := Paired.get (i := i) (a := a) t (by simpa using e)
    exact ⟨u, by simpa using h1, h2⟩
theorem Paired.get' {α β : Type} {F : α → β → Prop} : ∀ {l₁ : List α} {l₂ : List β} {i : Nat} {b : β}, Paired F l₁ l₂ → l₂[i]? = some b → ∃ a, l₁[i]? = some a ∧ F a b
  | _, _, _, _, .nil, e => by simp at e
  | _, _, 0, _, .cons r _, e => by simp at e; subst e; exact ⟨_, rfl, r⟩
  | _, _, i + 1, b, .cons _ t, e => by
    obtain ⟨u, h1, h2⟩ := Paired.get' (i := i) (b := b) t (by simpa using e)
    exact ⟨u, by simpa using h1, h2⟩
theorem Paired.app {α β : Type} {F : α → β → Prop} : ∀ {a b : List α} {c d : List β}, Paired F a c → Paired F b d → Paired F (a ++ b) (c ++ d)
  | _, _, _, _, .nil, h => h
  | _, _, _, _, .cons r t, h => .cons r (Paired.app t h)
theorem Paired.mapR {α β γ : Type} {F : α → β → Prop} {G : α → γ → Prop} (f : β → γ) : ∀ {a : List α} {b : List β}, Paired F a b → (∀ x y, F x y → G x (f y)) → Paired G a (b.map f)
  | _, _, .nil, _ => .nil
  | _, _, .cons r t, h => .cons (h _ _ r) (Paired.mapR f t h)
theorem Paired.eqs {α β : Type} {f : β → α} : ∀ {a : List α} {b : List β}, Paired (fun x y => x = f y) a b → a = b.map f
  | _, _, .nil => rfl
  | _, _, .cons r t => by rw [List.map_cons, r, Paired.eqs t]
theorem Paired.drop {α β : Type} {F : α → β → Prop} : ∀ {a : List α} {b : List β} (n : Nat), Paired F a b → Paired F (a.drop n) (b.drop n)
  | _, _, 0, h => h
  | _, _, _ + 1, .nil => .nil
  | _, _, n + 1, .cons _ t => Paired.drop n t
theorem Paired.take {α β : Type} {F : α → β → Prop} : ∀ {a : List α} {b : List β} (n : Nat), Paired F a b → Paired F (a.take n) (b.take n)
  | _, _, 0, _ => .nil
  | _, _, _ + 1, .nil => .nil
  | _, _, n + 1, .cons r t => .cons r (Paired.take n t)
theorem Paired.rev {α β : Type} {F : α → β → Prop} : ∀ {a : List α} {b : List β}, Paired F a b → Paired F a.reverse b.reverse
  | _, _, .nil => .nil
  | _, _, .cons r t => by rw [List.reverse_cons, List.reverse_cons]; exact Paired.snoc (Paired.rev t) r
/-! ### data -/
def cellD (c : Cel) : PyData := .tuple [.int c.1, .int c.2]
def cellsD (cs : List Cel) : PyData := .list (cs.map cellD)
def snakesD (ss : List (List Cel)) : PyData := .list (ss.map cellsD)
def textD (r : List Nat) : PyData := .str (tx r)
def textsD (F : List (List Nat)) : PyData := .list (F.map textD)
section
variable {K : PySem.W.Frag} {H H' : Hp}
theorem CellV.dp {v : V} {c : Cel} (h : CellV K H v c) : Dp K H v (cellD c) := by
  obtain ⟨t, rfl, q⟩ := h
  exact .tup q (.cons (.int _) (.cons (.int _) .nil))
theorem Cells.dp {xs : List V} {cs : List Cel} (h : Cells K H xs cs) : DpAll K H xs (cs.map cellD) := by
  induction h with
  | nil => exact .nil
  | cons r _ ih => exact .cons r.dp ih
theorem cells_dp {a : Addr} {xs : List V} {cs : List Cel} (hs : SqL K H a xs) (h : Cells K H xs cs) : Dp K H (.ref a) (cellsD cs) := .lst hs h.dp
theorem texts_all (F : List (List Nat)) : DpAll K H (F.map tv) (F.map textD) := by
  induction F with
  | nil => exact .nil
  | cons r _ ih => exact .cons (.str _) ih
theorem texts_dp {a : Addr} {F : List (List Nat)} (hs : SqL K H a (F.map tv)) : Dp K H (.ref a) (textsD F) := .lst hs (texts_all F)
mutual
theorem Dp.same (s : Same H H') : ∀ (d : PyData) (v : V), Dp K H v d → Dp K H' v d
  | .none, _, h => by cases h; exact .non
  | .bool b, _, h => by cases h; exact .bl b
  | .int i, _, h => by cases h; exact .int i
  | .str x, _, h => by cases h; exact .str x
  | .list ds, _, h => by
    cases h with
    | lst q r => exact .lst (s.seq q) (DpAll.same s ds _ r)
  | .tuple ds, _, h => by
    cases h with
    | tup q r => exact .tup (Same.sqt s q) (DpAll.same s ds _ r)
  | .dict _, _, h => nomatch h
theorem DpAll.same (s : Same H H') : ∀ (ds : List PyData) (vs : List V), DpAll K H vs ds → DpAll K H' vs ds
  | [], _, h => by cases h; exact .nil
  | d :: ds, _, h => by
    cases h with
    | cons a b => exact .cons (Dp.same s d _ a) (DpAll.same s ds _ b)
end
end

/-! ### equality of data -/
theorem eqv_cell (a b : Cel) : PyData.eqv (cellD a) (cellD b) = decide (a = b) := by
  obtain ⟨a1, a2⟩ := a
  obtain ⟨b1, b2⟩ := b
  have e : PyData.eqv (cellD (a1, a2)) (cellD (b1, b2)) = ((a1 == b1) && ((a2 == b2) && true)) := by simp only [cellD, PyData.eqv, PyData.eqvAll]
  rw [e, Bool.and_true]
  by_cases h1 : a1 = b1
  · by_cases h2 : a2 = b2
    · subst h1 h2; simp
    · rw [decide_eq_false (fun z => h2 (congrArg Prod.snd z)), beq_eq_false_iff_ne.mpr h2, Bool.and_false]
  · rw [decide_eq_false (fun z => h1 (congrArg Prod.fst z)), beq_eq_false_iff_ne.mpr h1, Bool.false_and]
theorem eqv_text (a b : List Nat) : PyData.eqv (textD a) (textD b) = decide (a = b) := by
  have e : PyData.eqv (textD a) (textD b) = (tx a == tx b) := by simp only [textD, PyData.eqv]
  rw [e, ← tx_eq]
  by_cases h : tx a = tx b
  · rw [h]; simp
  · rw [decide_eq_false h, beq_eq_false_iff_ne.mpr h]
theorem eqv_maps {α : Type} [DecidableEq α] {f : α → PyData} (hf : ∀ a b, PyData.eqv (f a) (f b) = decide (a = b)) : ∀ xs ys : List α, PyData.eqvAll (xs.map f) (ys.map f) = decide (xs = ys)
  | [], [] => by simp only [List.map_nil, PyData.eqvAll]; rfl
  | [], y :: ys => by simp only [List.map_nil, List.map_cons, PyData.eqvAll]; rfl
  | x :: xs, [] => by simp only [List.map_nil, List.map_cons, PyData.eqvAll]; rfl
  | x :: xs, y :: ys => by
    simp only [List.map_cons, PyData.eqvAll]
    rw [hf, eqv_maps hf xs ys]
    by_cases h1 : x = y
    · by_cases h2 : xs = ys
      · subst h1 h2; simp
      · rw [decide_eq_false h2, decide_eq_false (fun z => h2 (List.cons.inj z).2), Bool.and_false]
    · rw [decide_eq_false h1, decide_eq_false (fun z => h1 (List.cons.inj z).1), Bool.false_and]
theorem eqv_lists {α : Type} [DecidableEq α] {f : α → PyData} (hf : ∀ a b, PyData.eqv (f a) (f b) = decide (a = b)) (xs ys : List α) : PyData.eqv (.list (xs.map f)) (.list (ys.map f)) = decide (xs = ys) := by
  simp only [PyData.eqv]
  exact eqv_maps hf xs ys
theorem eqv_cells (a b : List Cel) : PyData.eqv (cellsD a) (cellsD b) = decide (a = b) := eqv_lists eqv_cell a b
theorem eqv_snakes (a b : List (List Cel)) : PyData.eqv (snakesD a) (snakesD b) = decide (a = b) := eqv_lists eqv_cells a b
theorem eqv_texts (a b : List (List Nat)) : PyData.eqv (textsD a) (textsD b) = decide (a = b) := eqv_lists eqv_text a b
/-! ### shapes -/
def Shp (n : Nat) (d : PyData) : Prop := d.canLay0 = true ∧ d.depth ≤ n
theorem Shp.ok {n : Nat} {d : PyData} (h : Shp n d) (hn : n ≤ 64 := by decide) : SeqAt.shaped d = true := by
  unfold SeqAt.shaped
  rw [h.1, decide_eq_true (Nat.le_trans h.2 hn)]; rfl
theorem shp_all {n : Nat} : ∀ ds : List PyData, (∀ d ∈ ds, Shp n d) → PyData.canLayAll0 ds = true ∧ PyData.depthAll ds ≤ n
  | [], _ => by simp [PyData.canLayAll0, PyData.depthAll]
  | d :: ds, h => by
    obtain ⟨h1, h2⟩ := shp_all ds fun e he => h e (List.mem_cons_of_mem _ he)
    obtain ⟨h3, h4⟩ := h d List.mem_cons_self
    simp only [PyData.canLayAll0, PyData.depthAll]
    exact ⟨by rw [h3, h1]; rfl, by omega⟩
theorem shp_list {n : Nat} {ds : List PyData} (h : ∀ d ∈ ds, Shp n d) : Shp (n + 1) (.list ds) := by
  obtain ⟨h1, h2⟩ := shp_all ds h
  exact ⟨by simp only [PyData.canLay0]; exact h1, by simp only [PyData.depth]; omega⟩
theorem shp_map {α : Type} {n : Nat} {f : α → PyData} (h : ∀ a, Shp n (f a)) (xs : List α) : Shp (n + 1) (.list (xs.map f)) :=
  shp_list fun d hd => by obtain ⟨a, _, rfl⟩ := List.mem_map.mp hd; exact h a
theorem shp_cell (c : Cel) : Shp 1 (cellD c) := ⟨by simp [cellD, PyData.canLay0, PyData.canLayAll0], by simp [cellD, PyData.depth, PyData.depthAll]⟩
/-- codes that a text may have -/
def Cod (r : List Nat) : Prop := ∀ c ∈ r, c < 0x110000
theorem shp_text {r : List Nat} (h : Cod r) : Shp 1 (textD r) := by
  refine ⟨?_, by simp [textD, PyData.depth]⟩
  simp only [textD, PyData.canLay0]
  unfold PyData.strOk
  rw [Array.all_eq_true']
  intro c hc
  have hc' : c ∈ r := by simpa [tx] using hc
  exact decide_eq_true (h c hc')
theorem shp_cells (cs : List Cel) : Shp 2 (cellsD cs) := shp_map shp_cell cs
theorem shp_texts {F : List (List Nat)} (h : ∀ r ∈ F, Cod r) : Shp 2 (textsD F) := shp_list fun d hd => by
  obtain ⟨r, hr, rfl⟩ := List.mem_map.mp hd
  exact shp_text (h r hr)
theorem letter_cod {r : List Nat} (h : ∀ c ∈ r, letter c) : Cod r := fun c hc => by
  have := h c hc
  unfold letter at this
  omega
theorem shp_field {F : List (List Nat)} {h w : Nat} (o : FieldOk F h w) : Shp 2 (textsD F) := shp_texts fun r hr => letter_cod (o.let_ r hr)
theorem shp_snakes (ss : List (List Cel)) : Shp 3 (snakesD ss) := shp_map shp_cells ss
/-! ### what is shown of few cells of small numbers -/
theorem textFrom_le : ∀ (ts : List Str) (k : Nat) (acc : Str) (m : Nat), (∀ t ∈ ts, t.length ≤ m) → (textFrom k acc ts).length ≤ acc.length + ts.length * (m + 2)
  | [], k, acc, m, _ => by show acc.length ≤ _; simp
  | t :: r, k, acc, m, h => by
    have ih := textFrom_le r (k + 1) (acc ++ (if k > 0 then ", " else "" : String) ++ t) m fun u hu => h u (List.mem_cons_of_mem _ hu)
    have ht := h t List.mem_cons_self
    show (textFrom (k + 1) _ r).length ≤ _
    have e : (acc ++ (if k > 0 then ", " else "" : String) ++ t).length ≤ acc.length + 2 + t.length := by
      rw [strLen_append, strLen_append]
      have : ((if k > 0 then ", " else "" : String) : Str).length ≤ 2 := by split <;> decide +kernel
      omega
    rw [List.length_cons, Nat.succ_mul]
    omega
theorem listText_le {ts : List Str} {m : Nat} (h : ∀ t ∈ ts, t.length ≤ m) : (listText ts).length ≤ 2 + ts.length * (m + 2) := by
  unfold listText
  rw [strLen_append]
  have h1 := textFrom_le ts 0 "[" m h
  have e1 : (("[" : String) : Str).length = 1 := by decide +kernel
  have e2 : (("]" : String) : Str).length = 1 := by decide +kernel
  omega
theorem shownAll_map : ∀ ds : List PyData, PyData.shownAll ds = ds.map PyData.shown
  | [] => by simp only [PyData.shownAll, List.map_nil]
  | d :: ds => by simp only [PyData.shownAll, List.map_cons, shownAll_map ds]
/-- a datum that str may show: few signs -/
def Shw (m : Nat) (d : PyData) : Prop := d.showable = true ∧ d.hasDict = false ∧ d.shown.length ≤ m
theorem shw_all : ∀ ds : List PyData, (∀ d ∈ ds, d.showable = true ∧ d.hasDict = false) → PyData.showableAll ds = true ∧ PyData.hasDictAll ds = false
  | [], _ => by simp only [PyData.showableAll, PyData.hasDictAll, and_self]
  | d :: ds, h => by
    obtain ⟨h1, h2⟩ := shw_all ds fun e he => h e (List.mem_cons_of_mem _ he)
    obtain ⟨h3, h4⟩ := h d List.mem_cons_self
    simp only [PyData.showableAll, PyData.hasDictAll]
    rw [h1, h2, h3, h4]
    exact ⟨rfl, rfl⟩
theorem shw_list {m n : Nat} {ds : List PyData} (h : ∀ d ∈ ds, Shw m d) (hn : ds.length ≤ n) : Shw (2 + n * (m + 2)) (.list ds) := by
  obtain ⟨h1, h2⟩ := shw_all ds fun d hd => ⟨(h d hd).1, (h d hd).2.1⟩
  refine ⟨by simp only [PyData.showable]; exact h1, by simp only [PyData.hasDict]; exact h2, ?_⟩
  simp only [PyData.shown]
  rw [shownAll_map]
  refine Nat.le_trans (listText_le (m := m) fun t ht => ?_) ?_
  · obtain ⟨d, hd, rfl⟩ := List.mem_map.mp ht
    exact (h d hd).2.2
  · rw [List.length_map]
    exact Nat.add_le_add_left (Nat.mul_le_mul_right _ hn) _
def celChk (r p : Nat) : Bool := (cellD ((r : Int), (p : Int))).showable && decide ((cellD ((r : Int), (p : Int))).shown.length ≤ 6)
set_option maxRecDepth 100000 in
theorem celChk_all : ((List.range 10).all fun r => (List.range 10).all fun p => celChk r p) = true := by decide +kernel
theorem shw_cell {c : Cel} (h1 : 0 ≤ c.1 ∧ c.1 < 10) (h2 : 0 ≤ c.2 ∧ c.2 < 10) : Shw 6 (cellD c) := by
  have k := celChk_all
  rw [List.all_eq_true] at k
  have k1 := k c.1.toNat (List.mem_range.mpr (by omega))
  rw [List.all_eq_true] at k1
  have k2 := k1 c.2.toNat (List.mem_range.mpr (by omega))
  have e : (((c.1.toNat : Int), (c.2.toNat : Int)) : Cel) = c := by
    apply Prod.ext
    · show ((c.1.toNat : Int)) = c.1; omega
    · show ((c.2.toNat : Int)) = c.2; omega
  unfold celChk at k2
  rw [e, Bool.and_eq_true] at k2
  exact ⟨k2.1, by simp only [cellD, PyData.hasDict, PyData.hasDictAll]; rfl, of_decide_eq_true k2.2⟩
theorem shw_cells {cs : List Cel} (h : ∀ c ∈ cs, (0 ≤ c.1 ∧ c.1 < 10) ∧ (0 ≤ c.2 ∧ c.2 < 10)) (hn : cs.length ≤ 100) : Shw (2 + 100 * (6 + 2)) (cellsD cs) :=
  shw_list (fun d hd => by
    obtain ⟨c, hc, rfl⟩ := List.mem_map.mp hd
    exact shw_cell (h c hc).1 (h c hc).2) (by rw [List.length_map]; exact hn)
/-- what call_strD asks -/
theorem str_asks {d : PyData} {m n : Nat} (hw : Shw m d) (hs : Shp n d) (hm : m ≤ sizeLine := by first | decide | (rw [sizeLine_eq]; decide)) (hn : n ≤ 64 := by decide) : d.showable = true ∧ d.hasDict = false ∧ d.depth ≤ 64 ∧ d.shown.length ≤ sizeLine :=
  ⟨hw.1, hw.2.1, Nat.le_trans hs.2 hn, Nat.le_trans hw.2.2 hm⟩
/-! ### a comprehension by one lemma -/
section
variable {J : It} {n : Nat} {G : Hp → Prop} {Y : Nat → Hp → V → Hp → Prop}
theorem lc_gen (w : Walk J n G Y) {g : TG} {tt : TT} {te : TE} {vs : List Nat} {σ : L2.St} {H1 : Hp} {Q : Addr → Hp → Prop} (hn : n ≤ sizeLine) (keep : Nat → Bool)
    (R : Addr → Nat → V → Hp → Prop) (hR : ∀ D i v H H' ys, H1 D = none → H D = some (.lst ys) → Kb D H H' → R D i v H → R D i v H')
    (hG : ∀ H, Same H1 H → G H)
    (he : ∀ D i x H H' (Qe : VK) (Qn : Hp → Prop), H1 D = none → i < n → Same H1 H → (∃ ys, H D = some (.lst ys)) → Y i H x H' →
      (∀ y H4, keep i = true → Same H H4 → R D i y H4 → Qe y H4) → (∀ H3, keep i = false → Same H H3 → Qn H3) →
      g x (wipe σ vs) H' fun σ2 H2 => wipe σ2 vs = wipe σ vs ∧ tt σ2 H2 fun b H3 => if b = true then te σ2 H3 Qe else Qn H3)
    (hd : ∀ D ys H, H1 D = none → Same H1 H → H D = some (.lst ys) → Paired (fun v i => R D i v H) ys ((List.range n).filter keep) → Q D H) :
    ∀ D, H1 D = none → ∃ W : Nat → Nat → Hp → Prop, (∃ m, W 0 m (upd H1 D (.lst []))) ∧ ∀ i m H, W i m H →
      (J.stop i H ∧ Q D H) ∨ (J.go i H ∧ ∃ Nx : Hp → Prop, (∀ H', Nx H' → ∃ m', m' < m ∧ W (i + 1) m' H') ∧ ∀ x H', J.yld i H x H' → g x (wipe σ vs) H' fun σ2 H2 => wipe σ2 vs = wipe σ vs ∧ tt σ2 H2 fun b H3 =>
        if b = true then te σ2 H3 fun y H4 => ∃ acc, H4 D = some (.lst acc) ∧ acc.length < sizeLine ∧ Nx (upd H4 D (.lst (acc ++ [y]))) else Nx H3) := by
  intro D nD
  refine lc_it w (fun i H => Same H1 H ∧ ∃ ys, H D = some (.lst ys) ∧ Paired (fun v i => R D i v H) ys ((List.range i).filter keep)) ⟨same_new nD, [], upd_same, .nil⟩ (fun i H _ p => hG H p.1) (fun i x H H' hi p y => ?_) fun H p => ?_
  · obtain ⟨sm, ys, hD, hp⟩ := p
    refine he D i x H H' _ _ nD hi sm ⟨ys, hD⟩ y (fun z H4 hk s4 r4 => ?_) fun H3 hk s3 => ?_
    · have hD4 : H4 D = some (.lst ys) := s4 _ _ hD
      refine ⟨ys, hD4, ?_, same_upd (sm.trans s4) nD, ys ++ [z], upd_same, ?_⟩
      · have e1 := hp.length
        have e2 := List.length_filter_le keep (List.range i)
        rw [List.length_range] at e2
        omega
      · rw [List.range_succ, List.filter_append, List.filter_cons, hk, if_pos rfl, List.filter_nil]
        refine Paired.snoc (Paired.mapP hp fun v j q => ?_) ?_
        · exact hR D j v H _ ys nD hD (Kb.upd (Kb.of s4)) q
        · exact hR D i z H4 _ ys nD hD4 (Kb.upd (Kb.of (Same.refl _))) r4
    · refine ⟨sm.trans s3, ys, s3 _ _ hD, ?_⟩
      rw [List.range_succ, List.filter_append, List.filter_cons, hk, if_neg Bool.false_ne_true, List.filter_nil, List.append_nil]
      exact Paired.mapP hp fun v j q => hR D j v H _ ys nD hD (Kb.of s3) q
  · obtain ⟨sm, ys, hD, hp⟩ := p
    exact hd D ys H nD sm hD hp
/-- no test, the values told by the turn -/
theorem lc_val (w : Walk J n G Y) {g : TG} {te : TE} {vs : List Nat} {σ : L2.St} {H1 : Hp} {Q : Addr → Hp → Prop} (hn : n ≤ sizeLine) (f : Nat → V)
    (hG : ∀ H, Same H1 H → G H)
    (he : ∀ D i x H H' (Qe : VK), H1 D = none → i < n → Same H1 H → (∃ ys, H D = some (.lst ys)) → Y i H x H' → (∀ H4, Same H H4 → Qe (f i) H4) →
      g x (wipe σ vs) H' fun σ2 H2 => wipe σ2 vs = wipe σ vs ∧ te σ2 H2 Qe)
    (hd : ∀ D H, H1 D = none → Same H1 H → H D = some (.lst ((List.range n).map f)) → Q D H) :
    ∀ D, H1 D = none → ∃ W : Nat → Nat → Hp → Prop, (∃ m, W 0 m (upd H1 D (.lst []))) ∧ ∀ i m H, W i m H →
      (J.stop i H ∧ Q D H) ∨ (J.go i H ∧ ∃ Nx : Hp → Prop, (∀ H', Nx H' → ∃ m', m' < m ∧ W (i + 1) m' H') ∧ ∀ x H', J.yld i H x H' → g x (wipe σ vs) H' fun σ2 H2 => wipe σ2 vs = wipe σ vs ∧ tYes σ2 H2 fun b H3 =>
        if b = true then te σ2 H3 fun y H4 => ∃ acc, H4 D = some (.lst acc) ∧ acc.length < sizeLine ∧ Nx (upd H4 D (.lst (acc ++ [y]))) else Nx H3) := by
  refine lc_gen w hn (fun _ => true) (fun _ i v _ => v = f i) (fun _ _ _ _ _ _ _ _ _ q => q) hG (fun D i x H H' Qe Qn nD hi sm hy y qe _ => ?_) fun D ys H nD sm hD hp => ?_
  · exact he D i x H H' _ nD hi sm hy y fun H4 s4 => qe _ H4 rfl s4 rfl
  · rw [Paired.eqs hp, List.filter_eq_self.mpr (fun _ _ => rfl)] at hD
    exact hd D H nD sm hD
/-- cells, with a test -/
theorem lc_cel {K : PySem.W.Frag} (w : Walk J n G Y) {g : TG} {tt : TT} {te : TE} {vs : List Nat} {σ : L2.St} {H1 : Hp} {Q : Addr → Hp → Prop} (hn : n ≤ sizeLine) (keep : Nat → Bool) (c : Nat → Cel)
    (hG : ∀ H, Same H1 H → G H)
    (he : ∀ D i x H H' (Qe : VK) (Qn : Hp → Prop), H1 D = none → i < n → Same H1 H → (∃ ys, H D = some (.lst ys)) → Y i H x H' →
      (∀ y H4, keep i = true → Same H H4 → CellV K H4 y (c i) → Qe y H4) → (∀ H3, keep i = false → Same H H3 → Qn H3) →
      g x (wipe σ vs) H' fun σ2 H2 => wipe σ2 vs = wipe σ vs ∧ tt σ2 H2 fun b H3 => if b = true then te σ2 H3 Qe else Qn H3)
    (hd : ∀ D ys H, H1 D = none → Same H1 H → H D = some (.lst ys) → Cells K H ys (((List.range n).filter keep).map c) → Q D H) :
    ∀ D, H1 D = none → ∃ W : Nat → Nat → Hp → Prop, (∃ m, W 0 m (upd H1 D (.lst []))) ∧ ∀ i m H, W i m H →
      (J.stop i H ∧ Q D H) ∨ (J.go i H ∧ ∃ Nx : Hp → Prop, (∀ H', Nx H' → ∃ m', m' < m ∧ W (i + 1) m' H') ∧ ∀ x H', J.yld i H x H' → g x (wipe σ vs) H' fun σ2 H2 => wipe σ2 vs = wipe σ vs ∧ tt σ2 H2 fun b H3 =>
        if b = true then te σ2 H3 fun y H4 => ∃ acc, H4 D = some (.lst acc) ∧ acc.length < sizeLine ∧ Nx (upd H4 D (.lst (acc ++ [y]))) else Nx H3) :=
  lc_gen w hn keep (fun _ i v H => CellV K H v (c i)) (fun D i v H H' ys _ hD k q => q.le (TupLe.kb hD k)) hG he fun D ys H nD sm hD hp => hd D ys H nD sm hD (Paired.mapR c hp fun _ _ q => q)
end
end Sk
/-! What the defs of fields.py promise. -/
namespace Sk
open PySem PySem.Spec PyProof.Rows L2 Sn
section
variable {X : Cx}
theorem pglobI {x : Str} {i : Int} {pos : Pos} (hg : Gl X x) (h : ∃ t, X.mg x = some (.int i t)) (hd : (x == ("__debug__" : Str)) = false := by decide) : PE X (.Name x pos) (tC (.int i)) := by
  obtain ⟨t, h⟩ := h
  exact pe_glob hg h ⟨t, rfl⟩ hd
theorem pglobS {x z : Str} {pos : Pos} (hg : Gl X x) (h : ∃ t, X.mg x = some (.str z t)) (hd : (x == ("__debug__" : Str)) = false := by decide) : PE X (.Name x pos) (tC (.str z)) := by
  obtain ⟨t, h⟩ := h
  exact pe_glob hg h ⟨t, rfl⟩ hd
end
def lettersS : Str := "abcdefghijklmnopqrstuvwxyz"
theorem mem_letters (c : Nat) : decide (c ∈ lettersS.cps.toList) = decide (97 ≤ c ∧ c ≤ 122) := by
  have e : lettersS.cps.toList = (List.range 26).map (· + 97) := by decide +kernel
  rw [e]
  congr 1
  apply propext
  rw [List.mem_map]
  constructor
  · rintro ⟨i, hi, rfl⟩
    have := List.mem_range.mp hi
    omega
  · rintro ⟨h1, h2⟩
    exact ⟨c - 97, List.mem_range.mpr (by omega), by omega⟩
def letB (c : Nat) : Bool := decide (97 ≤ c ∧ c ≤ 122)
def isTextB (r : List Nat) (n : Int) : Bool := decide (1 ≤ (r.length : Int)) && (decide ((r.length : Int) ≤ n) && r.all letB)
theorem letB_letter {c : Nat} : letB c = true ↔ letter c := by unfold letB letter; exact decide_eq_true_iff
theorem range_map_get {α β : Type} (f : α → β) (l : List α) (g : Nat → β) (h : ∀ i x, l[i]? = some x → g i = f x) : (List.range l.length).map g = l.map f := by
  apply List.ext_getElem
  · simp
  · intro i h1 h2
    have hi : i < l.length := by simpa using h1
    simp only [List.getElem_map, List.getElem_range]
    exact h i _ (List.getElem?_eq_getElem hi)
/-! promises -/
abbrev tyInt : Value := .type "int"
abbrev tyBool : Value := .type "bool"
def spIsWhole (K : PySem.W.Frag) : Sp := fun vs H Q _ => ∃ (x : V) (t : Value) (b c : Bool), vs = [x] ∧ TyX K H x t ∧ PySem.W.kitOne K t tyInt = some b ∧ PySem.W.kitOne K t tyBool = some c ∧ Q (.bl (b && !c)) H
theorem isWhole_int {K : PySem.W.Frag} {H : Hp} {Q : VK} {E : XK} (i : Int) (q : Q (.bl true) H) : spIsWhole K [.int i] H Q E :=
  ⟨.int i, .type "int", true, false, rfl, .base (.int i), kit_ty (by decide +kernel), kit_ty (by decide +kernel), q⟩
def spIsText (K : PySem.W.Frag) : Sp := fun vs H Q _ =>
  (∃ (r : List Nat) (n : Int), vs = [tv r, .int n] ∧ r.length ≤ sizeLine ∧ ∀ H', Same H H' → Q (.bl (isTextB r n)) H') ∨
  ∃ (x : V) (t : Value) (n : Int), vs = [x, .int n] ∧ TyX K H x t ∧ PySem.W.kitOne K t (.type "str") = some false ∧ Q (.bl false) H
/-- a valid field stands at a -/
def FieldAt (K : PySem.W.Frag) (H : Hp) (a : Addr) (F : List (List Nat)) (h w : Nat) : Prop := SqL K H a (F.map tv) ∧ FieldOk F h w
theorem FieldAt.same {K : PySem.W.Frag} {H H' : Hp} {a : Addr} {F : List (List Nat)} {h w : Nat} (o : FieldAt K H a F h w) (s : Same H H') : FieldAt K H' a F h w := ⟨s.seq o.1, o.2⟩
theorem FieldAt.row {K : PySem.W.Frag} {H : Hp} {a : Addr} {F : List (List Nat)} {h w : Nat} (o : FieldAt K H a F h w) {i : Nat} (hi : i < h) : (F.map tv)[i]? = some (tv (F.getD i [])) ∧ (F.getD i []).length = w := by
  have hl : i < F.length := by rw [o.2.high]; exact hi
  refine ⟨?_, row_len o.2 hi⟩
  rw [List.getElem?_map, List.getElem?_eq_getElem hl]
  rw [getD_of (List.getElem?_eq_getElem hl)]
  rfl
def spCheckField (K : PySem.W.Frag) : Sp := fun vs H Q _ => ∃ a F h w, vs = [.ref a] ∧ FieldAt K H a F h w ∧ ∀ H', Same H H' → Q .non H'
def inB (h w : Nat) (c : Cel) : Bool := (decide (0 ≤ c.1) && decide (c.1 < (h : Int))) && (decide (0 ≤ c.2) && decide (c.2 < (w : Int)))
theorem inB_mem {h w : Nat} {c : Cel} : inB h w c = true ↔ c ∈ cellsL h w := by
  unfold inB
  rw [mem_cellsL]
  simp only [Bool.and_eq_true, decide_eq_true_eq]
def spIsCell (K : PySem.W.Frag) : Sp := fun vs H Q _ => ∃ a F h w v c, vs = [.ref a, v] ∧ FieldAt K H a F h w ∧ CellV K H v c ∧ ∀ H', Same H H' → Q (.bl (inB h w c)) H'
def spNear (K : PySem.W.Frag) : Sp := fun vs H Q _ => ∃ a F h w v c, vs = [.ref a, v] ∧ FieldAt K H a F h w ∧ CellV K H v c ∧ c ∈ cellsL h w ∧
  ∀ H' p ys, Same H H' → H p = none → H' p = some (.lst ys) → Cells K H' ys (nearL h w c) → Q (.ref p) H'
def spTurned (K : PySem.W.Frag) : Sp := fun vs H Q _ => ∃ a F h w, vs = [.ref a] ∧ FieldAt K H a F h w ∧ ∀ H' p, Same H H' → H p = none → H' p = some (.lst ((turnedL F w).map tv)) → Q (.ref p) H'
def spMirrored (K : PySem.W.Frag) : Sp := fun vs H Q _ => ∃ a F h w, vs = [.ref a] ∧ FieldAt K H a F h w ∧ ∀ H' p, Same H H' → H p = none → H' p = some (.lst ((mirroredL F).map tv)) → Q (.ref p) H'
theorem small_line {n : Nat} (h : n ≤ 1000000) : n ≤ sizeLine := Nat.le_trans h (by rw [sizeLine_eq]; decide)
theorem atN_of {xs : List Nat} {z : Int} {j : Nat} {v : Nat} (e : z = (j : Int)) (h : xs[j]? = some v) : atI xs z = some v := by
  rw [e]; exact atI_nat h
theorem sum_ones : ∀ r : List Nat, (r.map ((fun z : Str => z.length) ∘ fun c => (⟨#[c]⟩ : Str))).sum = r.length
  | [] => rfl
  | c :: r => by rw [List.map_cons, List.sum_cons, sum_ones r, List.length_cons]; show 1 + r.length = _; omega
theorem join_signs (r : List Nat) : Txt.join (tx []) (r.map fun c => (⟨#[c]⟩ : Str)) = tx r := by
  unfold Txt.join
  rw [StrLaws.glued_eq_join]
  induction r with
  | nil => rfl
  | cons c r ih =>
    cases r with
    | nil => rfl
    | cons d r =>
      show (tx [c]) ++ (tx []) ++ Str.join (tx []) (((d :: r).map fun c => (⟨#[c]⟩ : Str))) = _
      rw [ih, tx_app, tx_app]
      rfl
end Sk
/-! What the laws' own helpers promise: some number below the limit, some field. -/
namespace Sk
open PySem PySem.Spec PyProof.Rows L2 Sn
/-- the script's numbers have at most n bits -/
def Bits (n : Nat) (ns : List Int) : Prop := ∀ z ∈ ns, z.natAbs < 2 ^ n
theorem bits_of {ns : List Int} {n : Nat} (h : ∀ z ∈ ns, Builtin.Int.intBits z ≤ n) : Bits n ns := fun z hz => by
  have h1 := h z hz
  unfold Builtin.Int.intBits at h1
  by_cases h0 : z = 0
  · subst h0; exact Nat.two_pow_pos n
  · rw [if_neg (by simpa using h0)] at h1
    have hp : z.natAbs ≠ 0 := by omega
    have : z.natAbs < 2 ^ (z.natAbs.log2 + 1) := Nat.lt_log2_self
    exact Nat.lt_of_lt_of_le this (Nat.pow_le_pow_right (by decide) h1)
theorem big_add {x y : Int} {n : Nat} (hx : x.natAbs < 2 ^ n) (hy : y.natAbs < 1000000) : (x + y).natAbs < 2 ^ (n + 21) := by
  have h1 : (2 : Nat) ^ n * 2 ^ 20 ≥ 2 ^ n := Nat.le_mul_of_pos_right _ (by decide)
  have h2 : (2 : Nat) ^ n * 2 ^ 20 ≥ 2 ^ 20 := Nat.le_mul_of_pos_left _ (Nat.two_pow_pos n)
  have h3 : (2 : Nat) ^ (n + 21) = 2 ^ n * 2 ^ 20 + 2 ^ n * 2 ^ 20 := by
    rw [Nat.pow_add, show (2 : Nat) ^ 21 = 2 ^ 20 + 2 ^ 20 by decide, Nat.mul_add]
  have h4 : (2 : Nat) ^ 20 = 1048576 := by decide
  have := Int.natAbs_add_le x y
  omega
theorem small_mul {i j : Int} (hi : i.natAbs < 2 ^ 30) (hj : j.natAbs < 2 ^ 30) : CMulX i j := mulx_ok hi hj (by decide)
theorem lt30 {i : Int} (h1 : -1000000 < i) (h2 : i < 1000000) : i.natAbs < 2 ^ 30 := by
  have : (2 : Nat) ^ 30 = 1073741824 := by decide
  omega
def primesL : List Int := [1000003, 1000033, 1000037, 1000039, 1000081, 1000099, 1000117, 1000121, 1000133, 1000151, 1000159, 1000171, 1000183, 1000187, 1000193, 1000199]
theorem primes_at {k : Int} (h : 0 ≤ k) : ∃ p : Int, atI (primesL.map V.int) (k % 16) = some (.int p) ∧ 0 < p := by
  have h1 : 0 ≤ k % 16 := Int.emod_nonneg _ (by decide)
  have h2 : k % 16 < 16 := Int.emod_lt_of_pos _ (by decide)
  have hj : (k % 16).toNat < 16 := by omega
  have all : (List.range 16).all (fun j => match primesL[j]? with | some p => decide (0 < p) | none => false) = true := by decide
  have q := List.all_eq_true.mp all _ (List.mem_range.mpr hj)
  cases e : primesL[(k % 16).toNat]? with
  | none => rw [e] at q; cases q
  | some p =>
    rw [e] at q
    exact ⟨p, at_of (j := (k % 16).toNat) (by omega) (by rw [List.getElem?_map, e]; rfl), of_decide_eq_true q⟩
def sevensL : List Int := [1, 7, 49, 343, 2401]
theorem sevens_at {k : Int} (h : 0 ≤ k) : ∃ p : Int, atI (sevensL.map V.int) (k % 5) = some (.int p) ∧ 0 < p ∧ p < 1073741824 := by
  have h1 : 0 ≤ k % 5 := Int.emod_nonneg _ (by decide)
  have h2 : k % 5 < 5 := Int.emod_lt_of_pos _ (by decide)
  have hj : (k % 5).toNat < 5 := by omega
  have all : (List.range 5).all (fun j => match sevensL[j]? with | some p => decide (0 < p ∧ p < 1073741824) | none => false) = true := by decide
  have q := List.all_eq_true.mp all _ (List.mem_range.mpr hj)
  cases e : sevensL[(k % 5).toNat]? with
  | none => rw [e] at q; cases q
  | some p =>
    rw [e] at q
    exact ⟨p, at_of (j := (k % 5).toNat) (by omega) (by rw [List.getElem?_map, e]; rfl), of_decide_eq_true q⟩
/-! promises -/
def spCellAt (K : PySem.W.Frag) : Sp := fun vs H Q _ => ∃ a ns k n, vs = [.ref a, .int k] ∧ SqL K H a (ns.map V.int) ∧ 0 ≤ k ∧ Bits n ns ∧ ∀ z : Int, z.natAbs < 2 ^ n → Q (.int z) H
def spDraw : Sp := fun vs H Q _ => ∃ (c k m : Int) (n : Nat), vs = [.int c, .int k, .int m] ∧ c.natAbs < 2 ^ n ∧ n ≤ 100000000 ∧ 0 ≤ k ∧ k < 1000 ∧ 0 < m ∧ ∀ z H', 0 ≤ z → z < m → Same H H' → Q (.int z) H'
def spNumber : Sp := fun vs H Q _ => ∃ (c k m : Int) (n : Nat), vs = [.int c, .int k, .int m] ∧ c.natAbs < 2 ^ n ∧ n ≤ 2000000 ∧ 0 ≤ k ∧ k < 1000 ∧ 0 < m ∧ ∀ z H', 0 ≤ z → z < m → Same H H' → Q (.int z) H'
def spField (K : PySem.W.Frag) : Sp := fun vs H Q _ => ∃ a ns k m n, vs = [.ref a, .int k, .int m] ∧ SqL K H a (ns.map V.int) ∧ Bits n ns ∧ n ≤ 1900000 ∧ 0 ≤ k ∧ k ≤ 100 ∧ 1 ≤ m ∧ m ≤ 5 ∧
  ∀ H' p F h w, Same H H' → H p = none → H' p = some (.lst (F.map tv)) → FieldOk F h w → (h : Int) ≤ m → (w : Int) ≤ m → Q (.ref p) H'
def spBeside (K : PySem.W.Frag) : Sp := fun vs H Q _ => ∃ u v a b, vs = [u, v] ∧ CellV K H u a ∧ CellV K H v b ∧ Q (.bl (beside a b)) H
def spCells (K : PySem.W.Frag) : Sp := fun vs H Q _ => ∃ a F h w, vs = [.ref a] ∧ FieldAt K H a F h w ∧ ∀ H' p ys, Same H H' → H p = none → H' p = some (.lst ys) → Cells K H' ys (cellsL h w) → Q (.ref p) H'
theorem range_map_rng (lo : Int) (n : Nat) {β : Type} (f : Int → β) : (List.range n).map (fun i : Nat => f (lo + (i : Int))) = (rng lo n).map f := by
  unfold rng; rw [List.map_map]; rfl
theorem cellsL_succ (h w : Nat) : cellsL (h + 1) w = cellsL h w ++ (rng 0 w).map fun p => ((h : Int), p) := by
  unfold cellsL
  rw [rng_succ, List.flatMap_append, List.flatMap_cons, List.flatMap_nil, List.append_nil, Int.zero_add]
theorem cellsL_len (h w : Nat) : (cellsL h w).length = h * w := by
  induction h with
  | zero => simp [cellsL, rng]
  | succ h ih => rw [cellsL_succ, List.length_append, ih, List.length_map, rng_length, Nat.succ_mul]
/-- four texts of letters -/
def lettL : List (List Nat) := ["ab".toList.map Char.toNat, "abc".toList.map Char.toNat, "aeinrst".toList.map Char.toNat, "abcdefghijklmnopqrstuvwxyz".toList.map Char.toNat]
theorem lett_at {z : Int} (h0 : 0 ≤ z) (h1 : z < 4) : ∃ r, atI (lettL.map tv) z = some (tv r) ∧ 1 ≤ r.length ∧ r.length ≤ 26 ∧ ∀ c ∈ r, letter c := by
  have hj : z.toNat < 4 := by omega
  have all : (List.range 4).all (fun j => match lettL[j]? with | some r => decide (1 ≤ r.length) && decide (r.length ≤ 26) && r.all letB | none => false) = true := by decide +kernel
  have q := List.all_eq_true.mp all _ (List.mem_range.mpr hj)
  cases e : lettL[z.toNat]? with
  | none => rw [e] at q; cases q
  | some r =>
    rw [e] at q
    simp only [Bool.and_eq_true, decide_eq_true_eq] at q
    exact ⟨r, at_of (j := z.toNat) (by omega) (by rw [List.getElem?_map, e]; rfl), q.1.1, q.1.2, fun c hc => letB_letter.mp (List.all_eq_true.mp q.2 c hc)⟩
end Sk
/-! Readings of written lists; the laws' outer loop. -/
namespace Sk
open PySem PySem.Spec PyProof.Rows L2 Sn
/-! ### written data -/
def tLit (K : PySem.W.Frag) (d : PyData) : TE := fun _ H Q => ∀ v H', Same H H' → Dp K H' v d → Q v H'
def tLits (K : PySem.W.Frag) (ds : List PyData) : TA := fun _ H Q => ∀ vs H', Same H H' → DpAll K H' vs ds → Q vs H'
theorem DpAll.len {K : PySem.W.Frag} {H : Hp} : ∀ {vs : List V} {ds : List PyData}, DpAll K H vs ds → vs.length = ds.length
  | _, _, .nil => rfl
  | _, _, .cons _ t => by rw [List.length_cons, List.length_cons, DpAll.len t]
section
variable {X : Cx} {e : Expr} {es : List Expr} {pos : Pos} {d : PyData} {ds : List PyData}
theorem PE.weak {t t' : TE} (h : PE X e t) (hw : ∀ σ H Q, t' σ H Q → t σ H Q) : PE X e t' := ⟨fun pins s σ H Q I q => h.run pins s σ H Q I (hw σ H Q q)⟩
theorem PA.weak {t t' : TA} (h : PA X es t) (hw : ∀ σ H Q, t' σ H Q → t σ H Q) : PA X es t' := ⟨fun pos pins s σ H Q I q => h.run pos pins s σ H Q I (hw σ H Q q)⟩
theorem lit_int (K : PySem.W.Frag) {i : Int} {j} : PE X (.Constant (.int i) j pos) (tLit K (.int i)) := PE.weak pe_int fun _ H Q q => q _ _ (Same.refl _) (.int i)
theorem lit_neg (K : PySem.W.Frag) {i : Int} {j} {p : Pos} : PE X (.UnaryOp .USub (.Constant (.int i) j p) pos) (tLit K (.int (-i))) := PE.weak (pe_un un_neg pe_int) fun _ H Q q => ⟨i, rfl, q _ _ (Same.refl _) (.int _)⟩
theorem lit_str (K : PySem.W.Frag) {x : Str} {j} : PE X (.Constant (.str x) j pos) (tLit K (.str x)) := PE.weak pe_str fun _ H Q q => q _ _ (Same.refl _) (.str x)
theorem lit_bl (K : PySem.W.Frag) {b : Bool} {j} : PE X (.Constant (.bool b) j pos) (tLit K (.bool b)) := PE.weak pe_bl fun _ H Q q => q _ _ (Same.refl _) (.bl b)
theorem lit_non (K : PySem.W.Frag) {j} : PE X (.Constant .none j pos) (tLit K .none) := PE.weak pe_non fun _ H Q q => q _ _ (Same.refl _) .non
theorem lits_nil (K : PySem.W.Frag) : PA X [] (tLits K []) := PA.weak pa_nil fun _ H Q q => q _ _ (Same.refl _) .nil
theorem lits_cons (K : PySem.W.Frag) (h : PE X e (tLit K d)) (t : PA X es (tLits K ds)) (hs : starEach (e :: es) X.env = (false, eval e X.env) :: starEach es X.env := by rfl) : PA X (e :: es) (tLits K (d :: ds)) :=
  PA.weak (pa_cons h t hs) fun σ H Q q v H1 s1 d1 vs H2 s2 d2 => q (v :: vs) H2 (s1.trans s2) (.cons (Dp.same s2 d v d1) d2)
theorem lit_list (K : PySem.W.Frag) (h : PA X es (tLits K ds)) (hl : ds.length ≤ 1000 := by decide) : PE X (.List es pos) (tLit K (.list ds)) :=
  PE.weak (pe_lst h) fun σ H Q q vs H1 s1 d1 => ⟨by rw [DpAll.len d1]; exact small_line (by omega), fun p np => q _ _ (s1.trans (same_new np)) (.lst (SqL.of upd_same) (DpAll.same (same_new np) ds vs d1))⟩
theorem lit_tup (K : PySem.W.Frag) {c} (h : PA X es (tLits K ds)) (hl : ds.length ≤ 1000 := by decide) : PE X (.Tuple es c pos) (tLit K (.tuple ds)) :=
  PE.weak (pe_tup h) fun σ H Q q vs H1 s1 d1 => ⟨by rw [DpAll.len d1]; exact small_line (by omega), fun p np => q _ _ (s1.trans (same_new np)) (.tup (SqT.of upd_same) (DpAll.same (same_new np) ds vs d1))⟩
end
section
variable {K : PySem.W.Frag} {H : Hp}
theorem dp_cell {v : V} {r p : Int} (h : Dp K H v (.tuple [.int r, .int p])) : CellV K H v (r, p) := by
  cases h with
  | tup q t =>
    cases t with
    | cons a t =>
      cases t with
      | cons b t =>
        cases t
        cases a
        cases b
        exact ⟨_, rfl, q⟩
theorem dp_texts_all : ∀ {F : List (List Nat)} {vs : List V}, DpAll K H vs (F.map textD) → vs = F.map tv
  | [], _, h => by cases h; rfl
  | r :: F, _, h => by
    cases h with
    | cons a t =>
      cases a
      rw [dp_texts_all t]
      rfl
theorem dp_texts {v : V} {F : List (List Nat)} (h : Dp K H v (textsD F)) : ∃ a, v = .ref a ∧ SqL K H a (F.map tv) := by
  cases h with
  | lst q t => exact ⟨_, rfl, by rw [← dp_texts_all t]; exact q⟩
theorem dp_cells_all : ∀ {cs : List Cel} {vs : List V}, DpAll K H vs (cs.map cellD) → Cells K H vs cs
  | [], _, h => by cases h; exact .nil
  | c :: cs, _, h => by
    cases h with
    | cons a t => exact .cons (dp_cell a) (dp_cells_all t)
theorem dp_cells {v : V} {cs : List Cel} (h : Dp K H v (cellsD cs)) : ∃ a xs, v = .ref a ∧ SqL K H a xs ∧ Cells K H xs cs := by
  cases h with
  | lst q t => exact ⟨_, _, rfl, q, dp_cells_all t⟩
end
def fieldB (F : List (List Nat)) (h w : Nat) : Bool := decide (F.length = h) && decide (1 ≤ h) && decide (h ≤ 5) && decide (1 ≤ w) && decide (w ≤ 5) && F.all fun r => decide (r.length = w) && r.all letB
theorem fieldB_ok {F : List (List Nat)} {h w : Nat} (e : fieldB F h w = true) : FieldOk F h w := by
  unfold fieldB at e
  simp only [Bool.and_eq_true, decide_eq_true_eq, List.all_eq_true] at e
  obtain ⟨⟨⟨⟨⟨e1, e2⟩, e3⟩, e4⟩, e5⟩, e6⟩ := e
  exact ⟨e1, e2, e3, e4, e5, fun r hr => (e6 r hr).1, fun r hr c hc => letB_letter.mp ((e6 r hr).2 c hc)⟩
/-- range(0, max(1, min(8, n)), 4) -/
theorem range4 {j : Int} (h1 : 1 ≤ j) (h8 : j ≤ 8) : ∃ n : Nat, n ≤ 2 ∧ RgC 0 j 4 n := by
  have : j = 1 ∨ j = 2 ∨ j = 3 ∨ j = 4 ∨ j = 5 ∨ j = 6 ∨ j = 7 ∨ j = 8 := by omega
  rcases this with rfl | rfl | rfl | rfl | rfl | rfl | rfl | rfl
  · exact ⟨1, by decide, by decide, by decide, by decide, by decide⟩
  · exact ⟨1, by decide, by decide, by decide, by decide, by decide⟩
  · exact ⟨1, by decide, by decide, by decide, by decide, by decide⟩
  · exact ⟨1, by decide, by decide, by decide, by decide, by decide⟩
  · exact ⟨2, by decide, by decide, by decide, by decide, by decide⟩
  · exact ⟨2, by decide, by decide, by decide, by decide, by decide⟩
  · exact ⟨2, by decide, by decide, by decide, by decide, by decide⟩
  · exact ⟨2, by decide, by decide, by decide, by decide, by decide⟩
def top8 (n : Nat) : Int := if (if (n : Int) < 8 then (n : Int) else 8) > 1 then (if (n : Int) < 8 then (n : Int) else 8) else 1
theorem top8_bd (n : Nat) : 1 ≤ top8 n ∧ top8 n ≤ 8 := by
  unfold top8
  constructor <;> split <;> split <;> omega
/-- xs[:-1] of a list with one more -/
theorem cut_last (xs : List V) (x : V) : cutV (xs ++ [x]) none (some (-1)) = xs := by
  have e : HT.sIx (xs ++ [x]).length (xs ++ [x]).length (some (-1)) = xs.length := by
    rw [List.length_append]
    unfold HT.sIx
    simp only [List.length_cons, List.length_nil]
    split <;> omega
  unfold cutV
  rw [e, HT.sIx_none, List.drop_zero, Nat.sub_zero, List.take_left']
  rfl
/-- the i-th of n cells -/
theorem range_filter_get {α : Type} (l : List α) (d : α) (p : α → Bool) : ((List.range l.length).filter fun i => p (l.getD i d)).map (fun i => l.getD i d) = l.filter p := by
  have e : l = (List.range l.length).map fun i => l.getD i d := by
    have := range_map_get id l (fun i => l.getD i d) (fun i x hx => getD_of hx)
    rw [this, List.map_id]
  conv => rhs; rw [e]
  rw [List.filter_map]
  rfl
end Sk
/-! What the defs of answers.py and snakes.py promise. -/
namespace Sk
open PySem PySem.Spec PyProof.Rows L2 Sn
structure WordOk (r : List Nat) : Prop where
  l1 : 1 ≤ r.length
  l6 : r.length ≤ 6
  let_ : ∀ c ∈ r, letter c
def spCheckWord : Sp := fun vs H Q _ => ∃ r, vs = [tv r] ∧ WordOk r ∧ ∀ H', Same H H' → Q .non H'
def spLetterAt (K : PySem.W.Frag) : Sp := fun vs H Q _ => ∃ a F h w v c, vs = [.ref a, v] ∧ FieldAt K H a F h w ∧ CellV K H v c ∧ c ∈ cellsL h w ∧ Q (tv [at_ F c]) H
theorem FieldAt.at_cell {K : PySem.W.Frag} {H : Hp} {a : Addr} {F : List (List Nat)} {h w : Nat} (o : FieldAt K H a F h w) {c : Cel} (hc : c ∈ cellsL h w) :
    ∃ r, atI (F.map tv) c.1 = some (tv r) ∧ r.length = w ∧ atI r c.2 = some (at_ F c) := by
  obtain ⟨⟨a1, a2⟩, a3, a4⟩ := mem_cellsL.mp hc
  obtain ⟨g1, g2⟩ := o.row (i := c.1.toNat) (by omega)
  refine ⟨F.getD c.1.toNat [], at_of (j := c.1.toNat) (by omega) g1, g2, ?_⟩
  have hl : c.2.toNat < (F.getD c.1.toNat []).length := by rw [g2]; omega
  refine atN_of (j := c.2.toNat) (by omega) ?_
  unfold at_
  rw [getD_of (List.getElem?_eq_getElem hl)]
  exact List.getElem?_eq_getElem hl
def spIsSnake (K : PySem.W.Frag) : Sp := fun vs H Q _ => ∃ a F h w b xs cs, vs = [.ref a, .ref b] ∧ FieldAt K H a F h w ∧ SqL K H b xs ∧ Cells K H xs cs ∧ cs.length < 64 ∧ ∀ H', Same H H' → Q (.bl (snakeB h w cs)) H'
def spSpelled (K : PySem.W.Frag) : Sp := fun vs H Q _ => ∃ a F h w b xs cs, vs = [.ref a, .ref b] ∧ FieldAt K H a F h w ∧ SqL K H b xs ∧ Cells K H xs cs ∧ Vld h w cs ∧ cs.length ≤ 1000 ∧ ∀ H', Same H H' → Q (tv (spell F cs)) H'
def spNext (K : PySem.W.Frag) : Sp := fun vs H Q _ => ∃ a F h w b xs cs, vs = [.ref a, .ref b] ∧ FieldAt K H a F h w ∧ SqL K H b xs ∧ Cells K H xs cs ∧ Vld h w cs ∧ ∀ H' p ys, Same H H' → H p = none → H' p = some (.lst ys) → Cells K H' ys (nextL h w cs) → Q (.ref p) H'
/-- a list of lists of cells; N tells of each list's address -/
def SnkV (K : PySem.W.Frag) (N : Addr → Prop) (H : Hp) (v : V) (cs : List Cel) : Prop := ∃ q ys, v = .ref q ∧ N q ∧ H q = some (.lst ys) ∧ Cells K H ys cs
abbrev Snks (K : PySem.W.Frag) (N : Addr → Prop) (H : Hp) (xs : List V) (ss : List (List Cel)) : Prop := Paired (SnkV K N H) xs ss
theorem SnkV.same {K : PySem.W.Frag} {N : Addr → Prop} {H H' : Hp} {v : V} {cs : List Cel} (h : SnkV K N H v cs) (s : Same H H') : SnkV K N H' v cs := by
  obtain ⟨q, ys, e, n, hq, hy⟩ := h
  exact ⟨q, ys, e, n, s _ _ hq, hy.le (TupLe.of s)⟩
theorem Snks.same {K : PySem.W.Frag} {N : Addr → Prop} {H H' : Hp} {xs : List V} {ss : List (List Cel)} (h : Snks K N H xs ss) (s : Same H H') : Snks K N H' xs ss := Paired.mapP h fun _ _ q => q.same s
/-- .. where a list that is none of them is changed -/
theorem SnkV.upd {K : PySem.W.Frag} {N : Addr → Prop} {H : Hp} {v : V} {cs : List Cel} {p : Addr} {zs : List V} {o : HO} (h : SnkV K N H v cs) (hp : H p = some (.lst zs)) (hn : ∀ q, N q → q ≠ p) : SnkV K N (upd H p o) v cs := by
  obtain ⟨q, ys, e, n, hq, hy⟩ := h
  exact ⟨q, ys, e, n, by rw [upd_ne (hn q n)]; exact hq, hy.le (TupLe.upd hp (TupLe.refl _))⟩
theorem Snks.upd {K : PySem.W.Frag} {N : Addr → Prop} {H : Hp} {xs : List V} {ss : List (List Cel)} {p : Addr} {zs : List V} {o : HO} (h : Snks K N H xs ss) (hp : H p = some (.lst zs)) (hn : ∀ q, N q → q ≠ p) : Snks K N (upd H p o) xs ss := Paired.mapP h fun _ _ q => q.upd hp hn
theorem Snks.imp {K : PySem.W.Frag} {N N' : Addr → Prop} {H : Hp} {xs : List V} {ss : List (List Cel)} (h : Snks K N H xs ss) (f : ∀ q, N q → N' q) : Snks K N' H xs ss := Paired.mapP h fun _ _ ⟨q, ys, e, n, r⟩ => ⟨q, ys, e, f q n, r⟩
theorem Snks.dp {K : PySem.W.Frag} {N : Addr → Prop} {H : Hp} {xs : List V} {ss : List (List Cel)} (h : Snks K N H xs ss) : DpAll K H xs (ss.map cellsD) := by
  induction h with
  | nil => exact .nil
  | cons r _ ih =>
    obtain ⟨q, ys, rfl, _, hq, hy⟩ := r
    exact .cons (cells_dp (SqL.of hq) hy) ih
theorem snks_dp {K : PySem.W.Frag} {N : Addr → Prop} {H : Hp} {a : Addr} {xs : List V} {ss : List (List Cel)} (hs : SqL K H a xs) (h : Snks K N H xs ss) : Dp K H (.ref a) (snakesD ss) := .lst hs h.dp
def spSnakesOn (K : PySem.W.Frag) (r : Nat) : Sp := fun vs H Q _ => ∃ a F h w wd b xs cs, vs = [.ref a, tv wd, .ref b] ∧ FieldAt K H a F h w ∧ H b = some (.lst xs) ∧ Cells K H xs cs ∧ Vld h w cs ∧ wd.length ≤ 6 ∧ cs.length ≤ wd.length ∧ wd.length ≤ cs.length + r ∧
  ∀ H' p ys, Same H H' → H p = none → H' p = some (.lst ys) → Snks K (fun q => H q = none ∨ (q = b ∧ cs.length = wd.length)) H' ys (snakesOn F h w (wd.drop cs.length) cs) → Q (.ref p) H'
def spLongest (K : PySem.W.Frag) : Sp := fun vs H Q _ => ∃ a F h w wd, vs = [.ref a, tv wd] ∧ FieldAt K H a F h w ∧ wd.length ≤ 6 ∧ ∀ H' m, Same H H' → Lgst F h w wd m → Q (.int m) H'
theorem lgst_ex {F : List (List Nat)} {h w : Nat} (h5 : h ≤ 5) (w5 : w ≤ 5) (wd : List Nat) : ∃ m, Lgst F h w wd m := by
  have go : ∀ n m, n + m = wd.length → ne_ F h w wd m = true → ∃ m, Lgst F h w wd m := by
    intro n
    induction n with
    | zero => intro m e ne; exact ⟨m, by omega, ne, fun k h1 h2 => by omega⟩
    | succ n ih =>
      intro m e ne
      cases e2 : ne_ F h w wd (m + 1) with
      | true => exact ih (m + 1) (by omega) e2
      | false => exact ⟨m, lgst_of h5 w5 (by omega) ne fun _ => e2⟩
  exact go wd.length 0 (by omega) (ne_zero F h w wd)
/-! the classes -/
def spFoundInit (K : PySem.W.Frag) (C : Addr) : Sp := fun vs H Q _ => ∃ x dx l0 xs, vs = [.ref x, .ref l0] ∧ H x = some (.ins C dx []) ∧ SqL K H l0 xs ∧
  ∀ H' l, Kb x H H' → H' x = some (.ins C dx [("cells", .ref l)]) → H l = none → H' l = some (.lst xs) → Q .non H'
def spStopsInit (C : Addr) : Sp := fun vs H Q _ => ∃ x dx m, vs = [.ref x, .int m] ∧ H x = some (.ins C dx []) ∧ ∀ H', Kb x H H' → H' x = some (.ins C dx [("many", .int m)]) → Q .non H'
def foundB (F : List (List Nat)) (h w : Nat) (cs : List Cel) (wd : List Nat) : Bool := snakeB h w cs && decide (spell F cs = wd)
def spFoundShows (K : PySem.W.Frag) (C : Addr) : Sp := fun vs H Q _ => ∃ x dx l xs cs a F h w wd, vs = [.ref x, .ref a, tv wd] ∧ H x = some (.ins C dx [("cells", .ref l)]) ∧ SqL K H l xs ∧ Cells K H xs cs ∧ cs.length < 64 ∧ FieldAt K H a F h w ∧
  ∀ H', Same H H' → Q (.bl (foundB F h w cs wd)) H'
def spStopsShows (K : PySem.W.Frag) (C : Addr) : Sp := fun vs H Q _ => ∃ (x dx : Addr) (m : Int) (a : Addr) (F : List (List Nat)) (h w : Nat) (wd : List Nat), vs = [.ref x, .ref a, tv wd] ∧ H x = some (.ins C dx [("many", .int m)]) ∧ wd.length ≤ 6 ∧ FieldAt K H a F h w ∧
  ∀ H' (k : Nat), Same H H' → Lgst F h w wd k → Q (.bl (decide (m < (wd.length : Int)) && decide (m = (k : Int)))) H'
/-- an answer: a Found, a Stops -/
def FoundAt (K : PySem.W.Frag) (C : Addr) (H : Hp) (p l : Addr) (cs : List Cel) : Prop := ∃ dx xs, H p = some (.ins C dx [("cells", .ref l)]) ∧ H l = some (.lst xs) ∧ Cells K H xs cs
def StopsAt (C : Addr) (H : Hp) (p : Addr) (m : Int) : Prop := ∃ dx, H p = some (.ins C dx [("many", .int m)])
def spJudged (K : PySem.W.Frag) (CF CS : Addr) : Sp := fun vs H Q _ => ∃ a F h w wd, vs = [.ref a, tv wd] ∧ FieldAt K H a F h w ∧ WordOk wd ∧
  (∀ H' p l s r, Same H H' → H p = none → H l = none → snakesOn F h w wd [] = s :: r → FoundAt K CF H' p l s → Q (.ref p) H') ∧
  ∀ H' p (m : Nat), Same H H' → H p = none → snakesOn F h w wd [] = [] → Lgst F h w wd m → StopsAt CS H' p m → Q (.ref p) H'
/-- what is made and its __init__ leave all as it was -/
theorem same_made {H H1 : Hp} {x dx C : Addr} (nx : H x = none) (nd : H dx = none) (k : Kb x (upd (upd H dx (.own x)) x (.ins C dx [])) H1) : Same H H1 := fun b o e => by
  have n1 := ne_of_none e nx
  exact k b o n1 (by rw [upd_ne n1, upd_ne (ne_of_none e nd)]; exact e)
end Sk
/-! What the laws' own helpers about snakes promise. -/
namespace Sk
open PySem PySem.Spec PyProof.Rows L2 Sn
def spBroad (K : PySem.W.Frag) : Sp := fun vs H Q _ => ∃ a ns k n, vs = [.ref a, .int k] ∧ SqL K H a (ns.map V.int) ∧ Bits n ns ∧ n ≤ 1900000 ∧ 0 ≤ k ∧ k ≤ 100 ∧
  ∀ H' p F, Same H H' → H p = none → H' p = some (.lst (F.map tv)) → FieldOk F 5 5 → Q (.ref p) H'
def spLSnakes (K : PySem.W.Frag) : Sp := fun vs H Q _ => ∃ a F h w wd, vs = [.ref a, tv wd] ∧ FieldAt K H a F h w ∧ wd.length ≤ 6 ∧
  ∀ H' p ys, Same H H' → H p = none → H' p = some (.lst ys) → Snks K (fun q => H q = none) H' ys (snakesOn F h w wd []) → Q (.ref p) H'
def spLWord (K : PySem.W.Frag) : Sp := fun vs H Q _ => ∃ a ns k n b F h w m, vs = [.ref a, .int k, .ref b, .int m] ∧ SqL K H a (ns.map V.int) ∧ Bits n ns ∧ n ≤ 1900000 ∧ 0 ≤ k ∧ k ≤ 100 ∧ FieldAt K H b F h w ∧ 1 ≤ m ∧ m ≤ 6 ∧
  ∀ H' r, Same H H' → 1 ≤ r.length → (r.length : Int) ≤ m → (∀ c ∈ r, letter c) → Q (tv r) H'
def spSays : Sp := fun vs H Q _ => ∃ x y : Bool, vs = [.bl x, .bl y] ∧ Q (.bl (decide (x = y))) H
def spDue (K : PySem.W.Frag) (CF CS : Addr) : Sp := fun vs H Q _ => ∃ a F h w wd p, vs = [.ref a, tv wd, .ref p] ∧ FieldAt K H a F h w ∧ wd.length ≤ 6 ∧
  ((∃ l cs, FoundAt K CF H p l cs ∧ cs.length < 64 ∧ ∀ H', Same H H' → Q (.bl (foundB F h w cs wd)) H') ∨
   ∃ m : Int, StopsAt CS H p m ∧ ∀ H' (k : Nat), Same H H' → Lgst F h w wd k → Q (.bl (decide (m < (wd.length : Int)) && decide (m = (k : Int)))) H')
def spNumbers (K : PySem.W.Frag) : Sp := fun vs H Q _ => ∃ l xs cs, vs = [.ref l] ∧ SqL K H l xs ∧ Cells K H xs cs ∧ Q (.bl true) H
def sevenL : List Nat := "aeinrst".toList.map Char.toNat
theorem seven_at {z : Int} (h0 : 0 ≤ z) (h1 : z < 7) : ∃ c, atI sevenL z = some c ∧ letter c := by
  have hj : z.toNat < 7 := by omega
  have all : (List.range 7).all (fun j => match sevenL[j]? with | some c => letB c | none => false) = true := by decide +kernel
  have q := List.all_eq_true.mp all _ (List.mem_range.mpr hj)
  cases e : sevenL[z.toNat]? with
  | none => rw [e] at q; cases q
  | some c => rw [e] at q; exact ⟨c, atN_of (j := z.toNat) (by omega) e, letB_letter.mp q⟩
def abzL : List Nat := "abz".toList.map Char.toNat
theorem abz_at {z : Int} (h0 : 0 ≤ z) (h1 : z < 3) : ∃ c, atI abzL z = some c ∧ letter c := by
  have hj : z.toNat < 3 := by omega
  have all : (List.range 3).all (fun j => match abzL[j]? with | some c => letB c | none => false) = true := by decide +kernel
  have q := List.all_eq_true.mp all _ (List.mem_range.mpr hj)
  cases e : abzL[z.toNat]? with
  | none => rw [e] at q; cases q
  | some c => rw [e] at q; exact ⟨c, atN_of (j := z.toNat) (by omega) e, letB_letter.mp q⟩
theorem cutS_last (r : List Nat) : cutS (tx r) none (some (-1)) = tx r.dropLast := by
  unfold cutS
  rw [HT.sIx_none, tx_cps, tx_len, List.drop_zero, Nat.sub_zero]
  have e : HT.sIx r.length r.length (some (-1)) = r.length - 1 := by
    show (if (-1 : Int) < 0 then (-1 + (r.length : Int)).toNat else min (-1 : Int).toNat r.length) = _
    rw [if_pos (by decide)]
    omega
  rw [e]
  show tx (r.take (r.length - 1)) = _
  rw [List.dropLast_eq_take]
/-- the last of the cells -/
theorem cells_last {K : PySem.W.Frag} {H : Hp} {xs : List V} {cs : List Cel} (hc : Cells K H xs cs) {d : Cel} (hd : cs.getLast? = some d) : ∃ v, atI xs (-1) = some v ∧ CellV K H v d := by
  have hd2 : cs[cs.length - 1]? = some d := by rw [← List.getLast?_eq_getElem?]; exact hd
  have hne : cs ≠ [] := fun z => by rw [z] at hd; cases hd
  have l0 : 0 < cs.length := List.length_pos_iff.mpr hne
  obtain ⟨v, gv, vd⟩ := Paired.get' hc hd2
  refine ⟨v, ?_, vd⟩
  unfold atI ixN
  rw [if_neg (by decide), if_pos (by rw [hc.length]; omega)]
  show xs[(-1 + (xs.length : Int)).toNat]? = some v
  rw [← gv]
  congr 1
  rw [hc.length]
  omega
end Sk
/-! The text of the law: its defs by place, their names. -/
namespace Sk
open PySem PySem.Spec PyProof.Rows L2 Sn
def topS (i : Nat) : Stmt := PySem.Challenge.pw_lettersnake_k03_answers_by_hand.main.body.getD i (.Pass ⟨0, 0, 0, 0⟩)
abbrev s_is_whole : Stmt := topS 1
theorem sc_is_whole : FnScope ["thing"] ["thing"] (defScope s_is_whole) := ⟨rfl, rfl, rfl, by decide +kernel, rfl, by decide +kernel, by decide +kernel⟩
theorem bn_is_whole : Bnd s_is_whole "is_whole" ["thing"] := fun _ _ _ _ _ _ us hl => match us, hl with | [_], _ => rfl
abbrev s_is_cell : Stmt := topS 2
theorem sc_is_cell : FnScope ["field", "thing", "one"] ["field", "thing"] (defScope s_is_cell) := ⟨rfl, rfl, rfl, by decide +kernel, rfl, by decide +kernel, by decide +kernel⟩
theorem bn_is_cell : Bnd s_is_cell "is_cell" ["field", "thing"] := fun _ _ _ _ _ _ us hl => match us, hl with | [_, _], _ => rfl
abbrev s_cells_in : Stmt := topS 3
theorem sc_cells_in : FnScope ["field", "found", "row", "place"] ["field"] (defScope s_cells_in) := ⟨rfl, rfl, rfl, by decide +kernel, rfl, by decide +kernel, by decide +kernel⟩
theorem bn_cells_in : Bnd s_cells_in "cells_in" ["field"] := fun _ _ _ _ _ _ us hl => match us, hl with | [_], _ => rfl
abbrev s_letter_at : Stmt := topS 4
theorem sc_letter_at : FnScope ["field", "cell"] ["field", "cell"] (defScope s_letter_at) := ⟨rfl, rfl, rfl, by decide +kernel, rfl, by decide +kernel, by decide +kernel⟩
theorem bn_letter_at : Bnd s_letter_at "letter_at" ["field", "cell"] := fun _ _ _ _ _ _ us hl => match us, hl with | [_, _], _ => rfl
abbrev s_near_of : Stmt := topS 5
theorem sc_near_of : FnScope ["field", "cell", "found", "row", "place"] ["field", "cell"] (defScope s_near_of) := ⟨rfl, rfl, rfl, by decide +kernel, rfl, by decide +kernel, by decide +kernel⟩
theorem bn_near_of : Bnd s_near_of "near_of" ["field", "cell"] := fun _ _ _ _ _ _ us hl => match us, hl with | [_, _], _ => rfl
abbrev s_is_snake : Stmt := topS 8
theorem sc_is_snake : FnScope ["field", "cells", "cell", "one", "other"] ["field", "cells"] (defScope s_is_snake) := ⟨rfl, rfl, rfl, by decide +kernel, rfl, by decide +kernel, by decide +kernel⟩
theorem bn_is_snake : Bnd s_is_snake "is_snake" ["field", "cells"] := fun _ _ _ _ _ _ us hl => match us, hl with | [_, _], _ => rfl
abbrev s_spelled : Stmt := topS 9
theorem sc_spelled : FnScope ["field", "cells", "cell"] ["field", "cells"] (defScope s_spelled) := ⟨rfl, rfl, rfl, by decide +kernel, rfl, by decide +kernel, by decide +kernel⟩
theorem bn_spelled : Bnd s_spelled "spelled" ["field", "cells"] := fun _ _ _ _ _ _ us hl => match us, hl with | [_, _], _ => rfl
abbrev s_next_cells : Stmt := topS 10
theorem sc_next_cells : FnScope ["field", "cells", "cell"] ["field", "cells"] (defScope s_next_cells) := ⟨rfl, rfl, rfl, by decide +kernel, rfl, by decide +kernel, by decide +kernel⟩
theorem bn_next_cells : Bnd s_next_cells "next_cells" ["field", "cells"] := fun _ _ _ _ _ _ us hl => match us, hl with | [_, _], _ => rfl
abbrev s_snakes_on : Stmt := topS 11
theorem sc_snakes_on : FnScope ["field", "word", "cells", "found", "cell"] ["field", "word", "cells"] (defScope s_snakes_on) := ⟨rfl, rfl, rfl, by decide +kernel, rfl, by decide +kernel, by decide +kernel⟩
theorem bn_snakes_on : Bnd s_snakes_on "snakes_on" ["field", "word", "cells"] := fun _ _ _ _ _ _ us hl => match us, hl with | [_, _, _], _ => rfl
abbrev s_longest : Stmt := topS 12
theorem sc_longest : FnScope ["field", "word", "many"] ["field", "word"] (defScope s_longest) := ⟨rfl, rfl, rfl, by decide +kernel, rfl, by decide +kernel, by decide +kernel⟩
theorem bn_longest : Bnd s_longest "longest" ["field", "word"] := fun _ _ _ _ _ _ us hl => match us, hl with | [_, _], _ => rfl
abbrev s_Found___init__ : Stmt := inClass (topS 13) 0
theorem sc_Found___init__ : FnScope ["self", "cells"] ["self", "cells"] (defScope s_Found___init__) := ⟨rfl, rfl, rfl, by decide +kernel, rfl, by decide +kernel, by decide +kernel⟩
theorem bn_Found___init__ : BndM s_Found___init__ "__init__" "Found.__init__" ["self", "cells"] := fun _ _ _ _ _ _ us hl => match us, hl with | [_, _], _ => rfl
abbrev s_Found_shows : Stmt := inClass (topS 13) 1
theorem sc_Found_shows : FnScope ["self", "field", "word"] ["self", "field", "word"] (defScope s_Found_shows) := ⟨rfl, rfl, rfl, by decide +kernel, rfl, by decide +kernel, by decide +kernel⟩
theorem bn_Found_shows : BndM s_Found_shows "shows" "Found.shows" ["self", "field", "word"] := fun _ _ _ _ _ _ us hl => match us, hl with | [_, _, _], _ => rfl
abbrev s_Stops___init__ : Stmt := inClass (topS 14) 0
theorem sc_Stops___init__ : FnScope ["self", "many"] ["self", "many"] (defScope s_Stops___init__) := ⟨rfl, rfl, rfl, by decide +kernel, rfl, by decide +kernel, by decide +kernel⟩
theorem bn_Stops___init__ : BndM s_Stops___init__ "__init__" "Stops.__init__" ["self", "many"] := fun _ _ _ _ _ _ us hl => match us, hl with | [_, _], _ => rfl
abbrev s_Stops_shows : Stmt := inClass (topS 14) 1
theorem sc_Stops_shows : FnScope ["self", "field", "word"] ["self", "field", "word"] (defScope s_Stops_shows) := ⟨rfl, rfl, rfl, by decide +kernel, rfl, by decide +kernel, by decide +kernel⟩
theorem bn_Stops_shows : BndM s_Stops_shows "shows" "Stops.shows" ["self", "field", "word"] := fun _ _ _ _ _ _ us hl => match us, hl with | [_, _, _], _ => rfl
abbrev s__law_cell_at : Stmt := topS 16
theorem sc__law_cell_at : FnScope ["_law_script", "_law_k"] ["_law_script", "_law_k"] (defScope s__law_cell_at) := ⟨rfl, rfl, rfl, by decide +kernel, rfl, by decide +kernel, by decide +kernel⟩
theorem bn__law_cell_at : Bnd s__law_cell_at "_law_cell_at" ["_law_script", "_law_k"] := fun _ _ _ _ _ _ us hl => match us, hl with | [_, _], _ => rfl
abbrev s__law_draw : Stmt := topS 17
theorem sc__law_draw : FnScope ["_law_cell", "_law_k", "_law_most", "_law_primes"] ["_law_cell", "_law_k", "_law_most"] (defScope s__law_draw) := ⟨rfl, rfl, rfl, by decide +kernel, rfl, by decide +kernel, by decide +kernel⟩
theorem bn__law_draw : Bnd s__law_draw "_law_draw" ["_law_cell", "_law_k", "_law_most"] := fun _ _ _ _ _ _ us hl => match us, hl with | [_, _, _], _ => rfl
abbrev s__law_number : Stmt := topS 18
theorem sc__law_number : FnScope ["_law_cell", "_law_k", "_law_limit"] ["_law_cell", "_law_k", "_law_limit"] (defScope s__law_number) := ⟨rfl, rfl, rfl, by decide +kernel, rfl, by decide +kernel, by decide +kernel⟩
theorem bn__law_number : Bnd s__law_number "_law_number" ["_law_cell", "_law_k", "_law_limit"] := fun _ _ _ _ _ _ us hl => match us, hl with | [_, _, _], _ => rfl
abbrev s__law_field : Stmt := topS 19
theorem sc__law_field : FnScope ["_law_script", "_law_by", "_law_most", "_law_cell", "_law_high", "_law_wide", "_law_letters", "_law_found", "_law_row", "_law_text", "_law_place", "_law_spot"] ["_law_script", "_law_by", "_law_most"] (defScope s__law_field) := ⟨rfl, rfl, rfl, by decide +kernel, rfl, by decide +kernel, by decide +kernel⟩
theorem bn__law_field : Bnd s__law_field "_law_field" ["_law_script", "_law_by", "_law_most"] := fun _ _ _ _ _ _ us hl => match us, hl with | [_, _, _], _ => rfl
abbrev s__law_beside : Stmt := topS 20
theorem sc__law_beside : FnScope ["_law_one", "_law_other"] ["_law_one", "_law_other"] (defScope s__law_beside) := ⟨rfl, rfl, rfl, by decide +kernel, rfl, by decide +kernel, by decide +kernel⟩
theorem bn__law_beside : Bnd s__law_beside "_law_beside" ["_law_one", "_law_other"] := fun _ _ _ _ _ _ us hl => match us, hl with | [_, _], _ => rfl
abbrev s__law_cells : Stmt := topS 21
theorem sc__law_cells : FnScope ["_law_field_here", "_law_found", "_law_row", "_law_place"] ["_law_field_here"] (defScope s__law_cells) := ⟨rfl, rfl, rfl, by decide +kernel, rfl, by decide +kernel, by decide +kernel⟩
theorem bn__law_cells : Bnd s__law_cells "_law_cells" ["_law_field_here"] := fun _ _ _ _ _ _ us hl => match us, hl with | [_], _ => rfl
abbrev s__law_snakes : Stmt := topS 22
theorem sc__law_snakes : FnScope ["_law_field_here", "_law_word_here", "_law_found", "_law_letter", "_law_longer", "_law_cells_here", "_law_cell", "_law_good"] ["_law_field_here", "_law_word_here"] (defScope s__law_snakes) := ⟨rfl, rfl, rfl, by decide +kernel, rfl, by decide +kernel, by decide +kernel⟩
theorem bn__law_snakes : Bnd s__law_snakes "_law_snakes" ["_law_field_here", "_law_word_here"] := fun _ _ _ _ _ _ us hl => match us, hl with | [_, _], _ => rfl
abbrev s__law_word : Stmt := topS 23
theorem sc__law_word : FnScope ["_law_script", "_law_by", "_law_field_here", "_law_most", "_law_cell", "_law_many", "_law_here", "_law_every", "_law_text", "_law_gone", "_law_k", "_law_some", "_law_one"] ["_law_script", "_law_by", "_law_field_here", "_law_most"] (defScope s__law_word) := ⟨rfl, rfl, rfl, by decide +kernel, rfl, by decide +kernel, by decide +kernel⟩
theorem bn__law_word : Bnd s__law_word "_law_word" ["_law_script", "_law_by", "_law_field_here", "_law_most"] := fun _ _ _ _ _ _ us hl => match us, hl with | [_, _, _, _], _ => rfl
abbrev s__law_says : Stmt := topS 24
theorem sc__law_says : FnScope ["_law_said", "_law_due"] ["_law_said", "_law_due"] (defScope s__law_says) := ⟨rfl, rfl, rfl, by decide +kernel, rfl, by decide +kernel, by decide +kernel⟩
theorem bn__law_says : Bnd s__law_says "_law_says" ["_law_said", "_law_due"] := fun _ _ _ _ _ _ us hl => match us, hl with | [_, _], _ => rfl
abbrev s__law_is_snake : Stmt := topS 25
theorem sc__law_is_snake : FnScope ["_law_field_here", "_law_cells_here", "_law_every", "_law_cell", "_law_at", "_law_one", "_law_other"] ["_law_field_here", "_law_cells_here"] (defScope s__law_is_snake) := ⟨rfl, rfl, rfl, by decide +kernel, rfl, by decide +kernel, by decide +kernel⟩
theorem bn__law_is_snake : Bnd s__law_is_snake "_law_is_snake" ["_law_field_here", "_law_cells_here"] := fun _ _ _ _ _ _ us hl => match us, hl with | [_, _], _ => rfl
abbrev s__law_spelled : Stmt := topS 26
theorem sc__law_spelled : FnScope ["_law_field_here", "_law_cells_here", "_law_row", "_law_place"] ["_law_field_here", "_law_cells_here"] (defScope s__law_spelled) := ⟨rfl, rfl, rfl, by decide +kernel, rfl, by decide +kernel, by decide +kernel⟩
theorem bn__law_spelled : Bnd s__law_spelled "_law_spelled" ["_law_field_here", "_law_cells_here"] := fun _ _ _ _ _ _ us hl => match us, hl with | [_, _], _ => rfl
abbrev s__law_longest : Stmt := topS 27
theorem sc__law_longest : FnScope ["_law_field_here", "_law_word_here", "_law_many"] ["_law_field_here", "_law_word_here"] (defScope s__law_longest) := ⟨rfl, rfl, rfl, by decide +kernel, rfl, by decide +kernel, by decide +kernel⟩
theorem bn__law_longest : Bnd s__law_longest "_law_longest" ["_law_field_here", "_law_word_here"] := fun _ _ _ _ _ _ us hl => match us, hl with | [_, _], _ => rfl
abbrev s__law_found_right : Stmt := topS 28
theorem sc__law_found_right : FnScope ["_law_field_here", "_law_cells_here", "_law_texts", "_law_handed", "_law_answer", "_law_good", "_law_word_here", "_law_due"] ["_law_field_here", "_law_cells_here", "_law_texts"] (defScope s__law_found_right) := ⟨rfl, rfl, rfl, by decide +kernel, rfl, by decide +kernel, by decide +kernel⟩
theorem bn__law_found_right : Bnd s__law_found_right "_law_found_right" ["_law_field_here", "_law_cells_here", "_law_texts"] := fun _ _ _ _ _ _ us hl => match us, hl with | [_, _, _], _ => rfl
abbrev s_law : Stmt := topS 29
theorem sc_law : FnScope ["_law_script", "_law_by", "_law_field_here", "_law_word_here", "_law_other", "_law_every", "_law_texts", "_law_tried", "_law_cells_here", "_law_some", "_law_most", "_law_many", "_law_due", "_law_answer", "_law_one", "_law_none", "_law_said", "_law_stop"] ["_law_script"] (defScope s_law) := ⟨rfl, rfl, rfl, by decide +kernel, rfl, by decide +kernel, by decide +kernel⟩
theorem bn_law : Bnd s_law "law" ["_law_script"] := fun _ _ _ _ _ _ us hl => match us, hl with | [_], _ => rfl
/-- the names that the top leaves alone, its constants -/
structure Bi (mg : Str → Option Value) : Prop where
  abs : mg "abs" = none
  all : mg "all" = none
  any : mg "any" = none
  bool : mg "bool" = none
  enumerate : mg "enumerate" = none
  int : mg "int" = none
  isinstance : mg "isinstance" = none
  len : mg "len" = none
  list : mg "list" = none
  max : mg "max" = none
  min : mg "min" = none
  range : mg "range" = none
  set : mg "set" = none
  tuple : mg "tuple" = none
  zip : mg "zip" = none
end Sk
namespace Sk
open PySem PySem.Spec PyProof.Rows L2 Sn
section
variable {P : Program} {w : World} {K : PySem.W.Frag} {mg : Str → Option Value} {base : Heap}
theorem ok_is_whole (D : Dfn K mg "is_whole" s_is_whole) (B : Bi mg) : Cal P w K mg base CX0 1 "is_whole" ["thing"] (spIsWhole K) := by
  refine D.cal sc_is_whole bn_is_whole (fun vs H Q E h => ?_) (fun f cdv A outer s H vs Q E hr h => ?_)
  · obtain ⟨x, t, b, c, rfl, _⟩ := h
    rfl
  · obtain ⟨x, t, b, c, rfl, ty, k1, k2, q⟩ := h
    refine ⟨_, (pss_one (ps_ret (pe_and (pe_callB (isiK K) (by rfl) B.isinstance (by decide +kernel) (pa_cons (pv 0) (pa_cons (pe_bltn (v := .ty "int") (by rfl) B.int (by decide +kernel) rfl) pa_nil))) (pe_one (pe_not (pe_callB (isiK K) (by rfl) B.isinstance (by decide +kernel) (pa_cons (pv 0) (pa_cons (pe_bltn (v := .ty "bool") (by rfl) B.bool (by decide +kernel) rfl) pa_nil)))))))), ?_⟩
    refine ⟨x, rfl, x, .ty "int", t, _, b, rfl, .ty "int", ty, k1, b, rfl, ?_⟩
    cases b with
    | false => exact iteF q
    | true => exact iteT ⟨x, rfl, x, .ty "bool", t, _, c, rfl, .ty "bool", ty, k2, c, rfl, q⟩
end
end Sk
namespace Sk
open PySem PySem.Spec PyProof.Rows L2 Sn
/-- what is read first of a field: its first row -/
theorem FieldAt.row0 {K : PySem.W.Frag} {H : Hp} {a : Addr} {F : List (List Nat)} {h w : Nat} (o : FieldAt K H a F h w) : atI (F.map tv) 0 = some (tv (F.getD 0 [])) := atI_nat (j := 0) (o.row (by have := o.2.h1; omega)).1
theorem FieldAt.len0 {K : PySem.W.Frag} {H : Hp} {a : Addr} {F : List (List Nat)} {h w : Nat} (o : FieldAt K H a F h w) : (tx (F.getD 0 [])).length = w := by rw [tx_len]; exact (o.row (by have := o.2.h1; omega)).2
theorem FieldAt.w_line {K : PySem.W.Frag} {H : Hp} {a : Addr} {F : List (List Nat)} {h w : Nat} (o : FieldAt K H a F h w) : w ≤ sizeLine := small_line (by have := o.2.w5; omega)
theorem FieldAt.len_map {K : PySem.W.Frag} {H : Hp} {a : Addr} {F : List (List Nat)} {h w : Nat} (o : FieldAt K H a F h w) : (F.map tv).length = h := by rw [List.length_map]; exact o.2.high
theorem FieldAt.line {K : PySem.W.Frag} {H : Hp} {a : Addr} {F : List (List Nat)} {h w : Nat} (o : FieldAt K H a F h w) : (F.map tv).length ≤ sizeLine := by rw [o.len_map]; exact small_line (by have := o.2.h5; omega)
theorem FieldAt.item {K : PySem.W.Frag} {H : Hp} {a : Addr} {F : List (List Nat)} {h w : Nat} (o : FieldAt K H a F h w) {i : Nat} {x : V} (hx : (F.map tv)[i]? = some x) : ∃ r ∈ F, x = tv r := by
  rw [List.getElem?_map] at hx
  cases e : F[i]? with
  | none => rw [e] at hx; cases hx
  | some r => rw [e] at hx; exact ⟨r, List.mem_of_getElem? e, (Option.some.inj hx).symm⟩
theorem tyx_list {K : PySem.W.Frag} {H : Hp} {a : Addr} {xs : List V} (h : SqL K H a xs) : TyX K H (.ref a) (.type "list") := by
  rcases h with (h | ⟨o, h⟩) | ⟨o, _, _, hk, hc, _⟩
  · exact .base (.lst h)
  · exact .base (.frz h)
  · exact .kList hk hc
theorem tyx_tup {K : PySem.W.Frag} {H : Hp} {a : Addr} {xs : List V} (h : SqT K H a xs) : TyX K H (.ref a) (.type "tuple") := by
  rcases h with (h | ⟨o, h⟩) | ⟨o, _, _, hk, hc, _⟩
  · exact .base (.tup h)
  · exact .fTuple h
  · exact .kTuple hk hc
theorem all_const : ∀ n : Nat, (((List.range n).map fun _ => true).all id) = true := fun n => by rw [List.all_eq_true]; intro b hb; obtain ⟨_, _, rfl⟩ := List.mem_map.mp hb; rfl
theorem any_const : ∀ n : Nat, (((List.range n).map fun _ => false).any id) = false := fun n => by rw [List.any_eq_false]; intro b hb; obtain ⟨_, _, rfl⟩ := List.mem_map.mp hb; decide
section
variable {P : Program} {w : World} {K : PySem.W.Frag} {mg : Str → Option Value} {base : Heap}
theorem ok_is_cell (D : Dfn K mg "is_cell" s_is_cell) (B : Bi mg) (c_is_whole : Cal P w K mg base CX0 1 "is_whole" ["thing"] (spIsWhole K)) : Cal P w K mg base CX0 2 "is_cell" ["field", "thing"] (spIsCell K) := by
  refine D.cal sc_is_cell bn_is_cell (fun vs H Q E h => ?_) (fun f cdv A outer s H vs Q E hr h => ?_)
  · obtain ⟨a, F, h, w, v, c, rfl, _⟩ := h
    rfl
  · obtain ⟨a, F, h, w, v, c, rfl, o, ⟨t, rfl, ht⟩, q⟩ := h
    refine ⟨_, (pss_cons (ps_if (PW.pt (pw_or (pt_not (pt_val (pe_callB (isiK K) (by rfl) B.isinstance (by decide +kernel) (pa_cons (pv 1) (pa_cons (pe_bltn (v := .ty "tuple") (by rfl) B.tuple (by decide +kernel) rfl) pa_nil))))) (pw_or (pt_cmpR op_ne (pe_callB (lenSq K) (by rfl) B.len PySem.boot_len (pa_cons (pv 1) pa_nil)) pe_int (nomark _)) (pw_or1 (pt_not (pt_val (pe_callB (allK K rfl) (by rfl) B.all (by decide +kernel) (pa_cons (pe_lc (own := [("one", 2)]) (g := gName 2) (tt := tYes) (by rfl) sc_is_cell.nd (piT K (pv 1)) (blkOk_by (own := [("one", 2)]) (N := ["field", "thing", "one"]) (sc := defScope s_is_cell) (by decide +kernel)) (fun _ _ _ _ _ => (pg_name (i := 2) sc_is_cell.nd rfl (Or.inl rfl))) (fun _ _ _ _ _ => pts_nil) (fun _ _ _ _ _ => (pcall c_is_whole (hr.mono (by omega)) (by rfl) pass0 (pa_cons (pv 2) pa_nil)))) pa_nil))))))))
 (pss_one (ps_ret pe_bl)) pss_nil)
 (pss_one (ps_ret (pe_and (pe_chain op_le op_lt pe_int (pe_ix (ixT K) (pv 1) pe_int (fun _ _ => rfl)) (pe_callB (lenSq K) (by rfl) B.len PySem.boot_len (pa_cons (pv 0) pa_nil))) (pe_one (pe_chain op_le op_lt pe_int (pe_ix (ixT K) (pv 1) pe_int (fun _ _ => rfl)) (pe_callB call_len_str (by rfl) B.len PySem.boot_len (pa_cons (pe_ix (ixL K) (pv 0) pe_int (fun _ _ => rfl)) pa_nil)))))))), ?_⟩
    refine ⟨.ref t, rfl, .ref t, .ty "tuple", .type "tuple", _, true, rfl, .ty "tuple", tyx_tup ht, kit_ty (by decide +kernel), true, rfl, iteF ?_⟩
    refine ⟨.ref t, rfl, t, _, rfl, .inr ht, rfl, false, rfl, iteF ?_⟩
    refine ⟨.ref t, rfl, t, rfl, ⟨_, ht⟩, lc_val (walk_tup (xs := [.int c.1, .int c.2])) (small_line (by show 2 ≤ 1000000; decide)) (fun _ => .bl true) (fun H1 s1 => Same.sqt s1 ht) (fun D' i x H1 H2 Qe nD hi sm hy y qe => ?_) fun D' H1 nD sm hD => ?_⟩
    · obtain ⟨rfl, hx⟩ := y
      have hx2 : ∃ n : Int, x = .int n := by
        match i, hi with
        | 0, _ => exact ⟨c.1, (Option.some.inj hx).symm⟩
        | 1, _ => exact ⟨c.2, (Option.some.inj hx).symm⟩
      obtain ⟨n, rfl⟩ := hx2
      exact ⟨rfl, .int n, rfl, isWhole_int (E := E0) n (qe _ (Same.refl _))⟩
    · refine ⟨D', [true, true], rfl, .inl (.inl hD), true, rfl, iteF ?_⟩
      have o1 := o.same sm
      have ht1 := Same.sqt sm ht
      have q1 := q H1 sm
      unfold inB at q1
      refine ⟨.ref t, rfl, t, _, 0, .int c.1, rfl, rfl, ht1, atI_nat (j := 0) rfl, 0, c.1, rfl, rfl, _, rfl, ?_⟩
      by_cases h1 : (0 : Int) ≤ c.1
      · rw [decide_eq_true h1] at q1 ⊢
        refine iteT ⟨.ref a, rfl, a, _, rfl, .inl o1.1, _, _, rfl, rfl, _, rfl, ?_⟩
        rw [o.len_map]
        by_cases h2 : c.1 < (h : Int)
        · rw [decide_eq_true h2] at q1 ⊢
          refine iteT ⟨.ref t, rfl, t, _, 1, .int c.2, rfl, rfl, ht1, atI_nat (j := 1) rfl, 0, c.2, rfl, rfl, _, rfl, ?_⟩
          by_cases h3 : (0 : Int) ≤ c.2
          · rw [decide_eq_true h3] at q1 ⊢
            refine iteT ⟨.ref a, rfl, a, _, 0, _, rfl, rfl, o1.1, o.row0, tx (F.getD 0 []), rfl, by rw [o.len0]; exact o.w_line, _, _, rfl, rfl, ?_⟩
            rw [o.len0]
            exact q1
          · rw [decide_eq_false h3] at q1 ⊢
            exact iteF q1
        · rw [decide_eq_false h2] at q1 ⊢
          exact iteF q1
      · rw [decide_eq_false h1] at q1 ⊢
        exact iteF ⟨_, rfl, iteF q1⟩
end
end Sk
namespace Sk
open PySem PySem.Spec PyProof.Rows L2 Sn
theorem loN_bd {h : Nat} {x : Int} (h0 : 0 ≤ x) (h1 : x < h) (h5 : h ≤ 5) : 0 ≤ loN x ∧ loN x ≤ 5 ∧ 0 ≤ hiN h x ∧ hiN h x ≤ 5 := by
  unfold loN hiN
  refine ⟨?_, ?_, ?_, ?_⟩ <;> split <;> omega
theorem nearRow_upto (w : Nat) (c : Cel) (row : Int) : nearRow w c row = ((rng (loN c.2) (hiN w c.2 - loN c.2).toNat).filter fun p => !decide ((row, p) = c)).map fun p => (row, p) := rfl
theorem flat_len_le {α β : Type} (f : α → List β) (m : Nat) (h : ∀ a, (f a).length ≤ m) : ∀ l : List α, (l.flatMap f).length ≤ l.length * m
  | [] => by simp
  | a :: l => by
    rw [List.flatMap_cons, List.length_append, List.length_cons, Nat.succ_mul]
    have := flat_len_le f m h l
    have := h a
    omega
section
variable {P : Program} {w : World} {K : PySem.W.Frag} {mg : Str → Option Value} {base : Heap}
theorem ok_near_of (D : Dfn K mg "near_of" s_near_of) (B : Bi mg) : Cal P w K mg base CX0 1 "near_of" ["field", "cell"] (spNear K) := by
  refine D.cal sc_near_of bn_near_of (fun vs H Q E h => ?_) (fun f cdv A outer s H vs Q E hr h => ?_)
  · obtain ⟨a, F, h, w, v, c, rfl, _⟩ := h
    rfl
  · obtain ⟨a, F, h, w, v, c, rfl, o, ⟨t, rfl, ht⟩, hc, q⟩ := h
    refine ⟨_, (pss_cons (ps_set (i := 2) sc_near_of.nd rfl (.inl rfl) (pe_lst pa_nil))
 (pss_cons (ps_for PassesOwn.never rfl (pi_range2 (by rfl) B.range (pa_cons (pe_callB (call_max2 rfl) (by rfl) B.max (by decide +kernel) (pa_cons pe_int (pa_cons (pe_op op_sub (pe_ix (ixT K) (pv 1) pe_int (fun _ _ => rfl)) pe_int) pa_nil))) (pa_cons (pe_callB (call_min2 rfl) (by rfl) B.min (by decide +kernel) (pa_cons (pe_callB (lenSq K) (by rfl) B.len PySem.boot_len (pa_cons (pv 0) pa_nil)) (pa_cons (pe_op op_add (pe_ix (ixT K) (pv 1) pe_int (fun _ _ => rfl)) pe_int) pa_nil))) pa_nil))) (pg_name (i := 3) sc_near_of.nd rfl (.inl rfl))
 (pss_one (ps_for PassesOwn.never rfl (pi_range2 (by rfl) B.range (pa_cons (pe_callB (call_max2 rfl) (by rfl) B.max (by decide +kernel) (pa_cons pe_int (pa_cons (pe_op op_sub (pe_ix (ixT K) (pv 1) pe_int (fun _ _ => rfl)) pe_int) pa_nil))) (pa_cons (pe_callB (call_min2 rfl) (by rfl) B.min (by decide +kernel) (pa_cons (pe_callB call_len_str (by rfl) B.len PySem.boot_len (pa_cons (pe_ix (ixL K) (pv 0) pe_int (fun _ _ => rfl)) pa_nil)) (pa_cons (pe_op op_add (pe_ix (ixT K) (pv 1) pe_int (fun _ _ => rfl)) pe_int) pa_nil))) pa_nil))) (pg_name (i := 4) sc_near_of.nd rfl (.inl rfl))
 (pss_one (ps_if (pt_cmpR (neDK K hr.units) (pe_tup (pa_cons (pv 3) (pa_cons (pv 4) pa_nil))) (pv 1) (nomark _))
 (pss_one (ps_expr (pe_bm PySem.F.plainAttrs_list PySem.F.slot_list_append PySem.F.type_list_append mt_append (pv 2) (pa_cons (pe_tup (pa_cons (pv 3) (pa_cons (pv 4) pa_nil))) pa_nil)))) pss_nil)))))
 (pss_one (ps_ret (pv 2))))), ?_⟩
    obtain ⟨⟨a1, a2⟩, a3, a4⟩ := mem_cellsL.mp hc
    obtain ⟨b1, b2, b3, b4⟩ := loN_bd a1 a2 o.2.h5
    obtain ⟨d1, d2, d3, d4⟩ := loN_bd a3 a4 o.2.w5
    refine ⟨Nat.zero_le _, fun p np => ?_⟩
    have s1 : Same H (upd H p (.lst [])) := same_new np
    have o1 := o.same s1
    have ht1 := Same.sqt s1 ht
    refine ⟨.ref t, rfl, t, _, 0, .int c.1, rfl, rfl, ht1, atI_nat (j := 0) rfl, _, 1, rfl, rfl, 0, _, rfl, .ref a, rfl, a, _, rfl, .inl o1.1, .ref t, rfl, t, _, 0, .int c.1, rfl, rfl, ht1, atI_nat (j := 0) rfl, _, 2, rfl, rfl, _, _, rfl, loN c.1, hiN h c.1, ?_, ⟨by omega, by omega, by omega, by omega⟩, ?_⟩
    · rw [o.len_map]; rfl
    refine for_it walk_range (fun i σ H' => ∃ y3 y4 ys, σ = [some (.ref a), some (.ref t), some (.ref p), y3, y4] ∧ Same H H' ∧ H' p = some (.lst ys) ∧ Cells K H' ys ((rng (loN c.1) i).flatMap (nearRow w c)))
      ⟨none, none, [], rfl, s1, upd_same, .nil⟩ (fun _ _ _ _ _ => trivial) (fun i x σ H1 H2 hi pv y => ?_) fun σ H1 pv => ?_
    · obtain ⟨rfl, rfl⟩ := y
      obtain ⟨y3, y4, ys, rfl, sm, hp, hy⟩ := pv
      have o2 := o.same sm
      have ht2 := Same.sqt sm ht
      refine ⟨.ref t, rfl, t, _, 1, .int c.2, rfl, rfl, ht2, atI_nat (j := 1) rfl, _, 1, rfl, rfl, 0, _, rfl, .ref a, rfl, a, _, 0, _, rfl, rfl, o2.1, o.row0, tx (F.getD 0 []), rfl, by rw [o.len0]; exact o.w_line, .ref t, rfl, t, _, 1, .int c.2, rfl, rfl, ht2, atI_nat (j := 1) rfl, _, 2, rfl, rfl, _, _, rfl, loN c.2, hiN w c.2, ?_, ⟨by omega, by omega, by omega, by omega⟩, ?_⟩
      · rw [o.len0]; rfl
      refine for_it walk_range (fun j σ H' => ∃ y4 zs, σ = [some (.ref a), some (.ref t), some (.ref p), some (.int (loN c.1 + i)), y4] ∧ Same H H' ∧ H' p = some (.lst zs) ∧ Cells K H' zs ((rng (loN c.1) i).flatMap (nearRow w c) ++ ((rng (loN c.2) j).filter fun p => !decide ((loN c.1 + (i : Int), p) = c)).map fun p => (loN c.1 + (i : Int), p)))
        ⟨y4, ys, rfl, sm, hp, by simpa [rng] using hy⟩ (fun _ _ _ _ _ => trivial) (fun j x σ H3 H4 hj pv y => ?_) fun σ H3 pv => ?_
      · obtain ⟨rfl, rfl⟩ := y
        obtain ⟨y4, zs, rfl, sm2, hp2, hz⟩ := pv
        have hlen : zs.length < sizeLine := by
          rw [hz.length, List.length_append, List.length_map]
          have e1 := flat_len_le (nearRow w c) 5 (fun r => by
            unfold nearRow
            rw [List.length_map]
            refine Nat.le_trans (List.length_filter_le _ _) ?_
            rw [rng_length]; omega) (rng (loN c.1) i)
          have e2 := List.length_filter_le (fun p => !decide ((loN c.1 + (i : Int), p) = c)) (rng (loN c.2) j)
          rw [rng_length] at e1 e2
          exact small1000 (by omega)
        -- (row, place) != cell
        refine ⟨.int (loN c.1 + i), rfl, .int (loN c.2 + j), rfl, by show 2 ≤ sizeLine; decide, fun T nT => ?_⟩
        have sT : Same H4 (upd H4 T (.tup [.int (loN c.1 + i), .int (loN c.2 + j)])) := same_new nT
        have vT : CellV K (upd H4 T (.tup [.int (loN c.1 + i), .int (loN c.2 + j)])) (.ref T) (loN c.1 + i, loN c.2 + j) := ⟨T, rfl, SqT.of upd_same⟩
        have vc : CellV K (upd H4 T (.tup [.int (loN c.1 + i), .int (loN c.2 + j)])) (.ref t) c := ⟨t, rfl, Same.sqt (sm2.trans sT) ht⟩
        refine ⟨.ref t, rfl, _, _, vT.dp, vc.dp, (shp_cell _).ok, (shp_cell _).ok, _, rfl, ?_⟩
        rw [eqv_cell]
        by_cases hne : ((loN c.1 + (i : Int), loN c.2 + (j : Int)) : Cel) = c
        · rw [decide_eq_true hne]
          refine iteF ⟨_, zs, rfl, sm2.trans sT, sT _ _ hp2, ?_⟩
          rw [rng_succ, List.filter_append, List.filter_cons, decide_eq_true hne]
          simp only [Bool.not_true, Bool.false_eq_true, if_false, List.filter_nil, List.append_nil]
          exact hz.le (TupLe.of sT)
        · rw [decide_eq_false hne]
          refine iteT ⟨.ref p, rfl, .inl ⟨rfl, _, SqL.of (sT _ _ hp2)⟩, .int (loN c.1 + i), rfl, .int (loN c.2 + j), rfl, by show 2 ≤ sizeLine; decide, fun U nU => ?_⟩
          have sU := same_new (o := .tup [.int (loN c.1 + i), .int (loN c.2 + j)]) nU
          have hpU := sU _ _ (sT _ _ hp2)
          refine ⟨p, zs, .ref U, rfl, rfl, hpU, hlen, _, _, rfl, same_upd (sm2.trans (sT.trans sU)) np, upd_same, ?_⟩
          rw [rng_succ, List.filter_append, List.filter_cons, decide_eq_false hne]
          simp only [Bool.not_false, if_true, List.filter_nil, List.map_append, List.map_cons, List.map_nil]
          rw [← List.append_assoc]
          refine Paired.snoc ((hz.le (TupLe.of (sT.trans sU))).le (TupLe.upd hpU (TupLe.refl _))) ⟨U, rfl, (TupLe.upd hpU (TupLe.refl _)).sqt (SqT.of upd_same)⟩
      · obtain ⟨y4, zs, rfl, sm2, hp2, hz⟩ := pv
        refine ⟨_, y4, zs, rfl, sm2, hp2, ?_⟩
        rw [rng_succ, List.flatMap_append, List.flatMap_cons, List.flatMap_nil, List.append_nil]
        exact hz
    · obtain ⟨y3, y4, ys, rfl, sm, hp, hy⟩ := pv
      exact ⟨.ref p, rfl, q H1 p ys sm np hp hy⟩
end
end Sk
namespace Sk
open PySem PySem.Spec PyProof.Rows L2 Sn
section
variable {P : Program} {w : World} {K : PySem.W.Frag} {mg : Str → Option Value} {base : Heap}
theorem ok_law_cell_at (D : Dfn K mg "_law_cell_at" s__law_cell_at) (B : Bi mg) : Cal P w K mg base CX0 1 "_law_cell_at" ["_law_script", "_law_k"] (spCellAt K) := by
  refine D.cal sc__law_cell_at bn__law_cell_at (fun vs H Q E h => ?_) (fun f cdv A outer s H vs Q E hr h => ?_)
  · obtain ⟨a, ns, k, n, rfl, _⟩ := h
    rfl
  · obtain ⟨a, ns, k, n, rfl, hs, hk, hb, q⟩ := h
    refine ⟨_, (pss_cons (ps_if (pt_cmpR op_lt (pv 1) (pe_callB (lenSq K) (by rfl) B.len PySem.boot_len (pa_cons (pv 0) pa_nil)) (nomark _))
 (pss_one (ps_ret (pe_ix (ixL K) (pv 0) (pv 1) (fun _ _ => rfl)))) pss_nil)
 (pss_one (ps_ret pe_int))), ?_⟩
    refine ⟨.int k, rfl, .ref a, rfl, a, _, rfl, .inl hs, _, _, rfl, rfl, _, rfl, ite2 (fun e => ?_) (fun e => ?_)⟩
    · have e1 : k < ((ns.map V.int).length : Int) := of_decide_eq_true e
      rw [List.length_map] at e1
      have hj : k.toNat < ns.length := by omega
      refine ⟨.ref a, rfl, .int k, rfl, a, _, k, .int ns[k.toNat], rfl, rfl, hs, at_of (j := k.toNat) (by omega) ?_, q _ (hb _ (List.getElem_mem hj))⟩
      rw [List.getElem?_map, List.getElem?_eq_getElem hj]; rfl
    · exact q 0 (Nat.two_pow_pos n)
theorem ok_law_draw (D : Dfn K mg "_law_draw" s__law_draw) (B : Bi mg) : Cal P w K mg base CX0 1 "_law_draw" ["_law_cell", "_law_k", "_law_most"] spDraw := by
  refine D.cal sc__law_draw bn__law_draw (fun vs H Q E h => ?_) (fun f cdv A outer s H vs Q E hr h => ?_)
  · obtain ⟨c, k, m, n, rfl, _⟩ := h
    rfl
  · obtain ⟨c, k, m, n, rfl, hc, hn, hk, hk2, hm, q⟩ := h
    refine ⟨_, (pss_cons (ps_set (i := 3) sc__law_draw.nd rfl (.inl rfl) (pe_tup (pa_cons pe_int (pa_cons pe_int (pa_cons pe_int (pa_cons pe_int (pa_cons pe_int (pa_cons pe_int (pa_cons pe_int (pa_cons pe_int (pa_cons pe_int (pa_cons pe_int (pa_cons pe_int (pa_cons pe_int (pa_cons pe_int (pa_cons pe_int (pa_cons pe_int (pa_cons pe_int pa_nil))))))))))))))))))
 (pss_one (ps_ret (pe_op op_mod (pe_op op_mod (pe_op op_add (pe_op op_mulX (pv 0) pe_int) (pe_op op_mulX (pv 1) pe_int)) (pe_ix (ixT K) (pv 3) (pe_op op_mod (pv 1) pe_int) (fun _ _ => rfl))) (pv 2))))), ?_⟩
    refine ⟨by show 16 ≤ sizeLine; decide, fun p np => ?_⟩
    obtain ⟨r, hr1, hr2⟩ := primes_at hk
    refine ⟨.int c, rfl, c, 48271, rfl, rfl, mulx_ok hc (lt30 (by decide) (by decide)) (by omega), .int k, rfl, k, 69621, rfl, rfl, small_mul (lt30 (by omega) (by omega)) (lt30 (by decide) (by decide)), _, _, rfl, rfl, .ref p, rfl, .int k, rfl, k, 16, rfl, rfl, (show (0 : Int) < 16 by decide), p, _, _, _, rfl, rfl, SqT.of upd_same, hr1, _, r, rfl, rfl, hr2, .int m, rfl, _, m, rfl, rfl, hm, ?_⟩
    exact q _ _ (Int.emod_nonneg _ (by omega)) (Int.emod_lt_of_pos _ hm) (same_new np)
theorem ok_law_number (D : Dfn K mg "_law_number" s__law_number) (B : Bi mg) (c_law_draw : Cal P w K mg base CX0 1 "_law_draw" ["_law_cell", "_law_k", "_law_most"] spDraw) : Cal P w K mg base CX0 2 "_law_number" ["_law_cell", "_law_k", "_law_limit"] spNumber := by
  refine D.cal sc__law_number bn__law_number (fun vs H Q E h => ?_) (fun f cdv A outer s H vs Q E hr h => ?_)
  · obtain ⟨c, k, m, n, rfl, _⟩ := h
    rfl
  · obtain ⟨c, k, m, n, rfl, hc, hn, hk, hk2, hm, q⟩ := h
    refine ⟨_, (pss_cons (ps_if (pt_cmpR op_ge (pv 0) (pe_op op_pow pe_int pe_int) (nomark _))
 (pss_one (ps_ret (pe_op op_mod (pe_op op_fdiv (pe_op op_sub (pv 0) (pe_op op_pow pe_int pe_int)) (pe_ix (ixT K) (pe_tup (pa_cons pe_int (pa_cons pe_int (pa_cons pe_int (pa_cons pe_int (pa_cons pe_int pa_nil)))))) (pe_op op_mod (pv 1) pe_int) (fun _ _ => rfl))) (pv 2)))) pss_nil)
 (pss_one (ps_ret (pe_op op_mod (pcall c_law_draw (hr.mono (by omega)) (by rfl) pass0 (pa_cons (pe_op op_mulX (pe_op op_add (pv 0) (pe_op op_mulX pe_int (pv 1))) (pe_op op_add (pe_op op_add (pv 0) (pe_op op_mulX pe_int (pv 1))) pe_int)) (pa_cons (pe_op op_add (pe_op op_mod (pv 1) pe_int) pe_int) (pa_cons pe_int pa_nil)))) (pv 2))))), ?_⟩
    refine ⟨.int c, rfl, 10, 18, rfl, rfl, ⟨by decide, by decide, by decide⟩, _, _, rfl, rfl, _, rfl, ite2 (fun e => ?_) (fun e => ?_)⟩
    · obtain ⟨r, hr1, hr2, hr3⟩ := sevens_at hk
      refine ⟨.int c, rfl, 10, 18, rfl, rfl, ⟨by decide, by decide, by decide⟩, _, _, rfl, rfl, by show 5 ≤ sizeLine; decide, fun p np => ?_⟩
      refine ⟨.int k, rfl, k, 5, rfl, rfl, (show (0 : Int) < 5 by decide), p, _, _, _, rfl, rfl, SqT.of upd_same, hr1, _, r, rfl, rfl, ⟨hr2, hr3⟩, .int m, rfl, _, m, rfl, rfl, hm, ?_⟩
      exact q _ _ (Int.emod_nonneg _ (by omega)) (Int.emod_lt_of_pos _ hm) (same_new np)
    · have k9 : 0 ≤ k % 9 := Int.emod_nonneg _ (by decide)
      have k99 : k % 9 < 9 := Int.emod_lt_of_pos _ (by decide)
      have b1 : (c + 977 * k).natAbs < 2 ^ (n + 21) := big_add hc (by omega)
      have b2 : (c + 31 * k + 5).natAbs < 2 ^ (n + 21 + 21) := big_add (big_add hc (by omega)) (by omega)
      refine ⟨.int c, rfl, .int k, rfl, 977, k, rfl, rfl, small_mul (lt30 (by decide) (by decide)) (lt30 (by omega) (by omega)), _, _, rfl, rfl, .int c, rfl, .int k, rfl, 31, k, rfl, rfl, small_mul (lt30 (by decide) (by decide)) (lt30 (by omega) (by omega)), _, _, rfl, rfl, _, 5, rfl, rfl, _, _, rfl, rfl, mulx_ok b1 b2 (by omega),
        .int k, rfl, k, 9, rfl, rfl, (show (0 : Int) < 9 by decide), _, 1, rfl, rfl, ?_⟩
      refine ⟨_, _, _, n + 21 + (n + 21 + 21), rfl, wide_lt b1 b2, by omega, by omega, by omega, by decide, fun z H1 z0 z1 s1 => ?_⟩
      exact ⟨.int m, rfl, z, m, rfl, rfl, hm, q _ _ (Int.emod_nonneg _ (by omega)) (Int.emod_lt_of_pos _ hm) s1⟩
theorem ok_law_beside (D : Dfn K mg "_law_beside" s__law_beside) (B : Bi mg) : Cal P w K mg base CX0 1 "_law_beside" ["_law_one", "_law_other"] (spBeside K) := by
  refine D.cal sc__law_beside bn__law_beside (fun vs H Q E h => ?_) (fun f cdv A outer s H vs Q E hr h => ?_)
  · obtain ⟨u, v, a, b, rfl, _⟩ := h
    rfl
  · obtain ⟨u, v, a, b, rfl, hu, hv, q⟩ := h
    refine ⟨_, (pss_one (ps_ret (pe_and (pe_cmpR (neDK K hr.units) (pv 0) (pv 1) (nomark _)) (pe_and (pe_cmpR op_lt (pe_callB call_abs (by rfl) B.abs (by decide +kernel) (pa_cons (pe_op op_sub (pe_ix (ixT K) (pv 0) pe_int (fun _ _ => rfl)) (pe_ix (ixT K) (pv 1) pe_int (fun _ _ => rfl))) pa_nil)) pe_int (nomark _)) (pe_one (pe_cmpR op_lt (pe_callB call_abs (by rfl) B.abs (by decide +kernel) (pa_cons (pe_op op_sub (pe_ix (ixT K) (pv 0) pe_int (fun _ _ => rfl)) (pe_ix (ixT K) (pv 1) pe_int (fun _ _ => rfl))) pa_nil)) pe_int (nomark _))))))), ?_⟩
    refine ⟨u, rfl, v, rfl, _, _, hu.dp, hv.dp, (shp_cell _).ok, (shp_cell _).ok, _, rfl, ?_⟩
    obtain ⟨t, rfl, ht⟩ := hu
    obtain ⟨t2, rfl, ht2⟩ := hv
    rw [eqv_cell]
    unfold beside at q
    cases e : (!decide (a = b)) with
    | false =>
      rw [e] at q
      exact iteF q
    | true =>
      rw [e] at q
      refine iteT ⟨.ref t, rfl, t, _, 0, .int a.1, rfl, rfl, ht, atI_nat (j := 0) rfl, .ref t2, rfl, t2, _, 0, .int b.1, rfl, rfl, ht2, atI_nat (j := 0) rfl, _, _, rfl, rfl, _, rfl, _, 2, rfl, rfl, _, rfl, ?_⟩
      have q2 : Q (.bl (decide (iabs (a.1 - b.1) < 2) && decide (iabs (a.2 - b.2) < 2))) H := by simpa using q
      cases e2 : decide (iabs (a.1 - b.1) < 2) with
      | false =>
        rw [e2] at q2
        rw [show decide ((if a.1 - b.1 < 0 then -(a.1 - b.1) else a.1 - b.1) < 2) = false from e2]
        exact iteF q2
      | true =>
        rw [e2, Bool.true_and] at q2
        rw [show decide ((if a.1 - b.1 < 0 then -(a.1 - b.1) else a.1 - b.1) < 2) = true from e2]
        exact iteT ⟨.ref t, rfl, t, _, 1, .int a.2, rfl, rfl, ht, atI_nat (j := 1) rfl, .ref t2, rfl, t2, _, 1, .int b.2, rfl, rfl, ht2, atI_nat (j := 1) rfl, _, _, rfl, rfl, _, rfl, _, 2, rfl, rfl, q2⟩
theorem ok_law_cells (D : Dfn K mg "_law_cells" s__law_cells) (B : Bi mg) : Cal P w K mg base CX0 1 "_law_cells" ["_law_field_here"] (spCells K) := by
  refine D.cal sc__law_cells bn__law_cells (fun vs H Q E h => ?_) (fun f cdv A outer s H vs Q E hr h => ?_)
  · obtain ⟨a, F, h, w, rfl, _⟩ := h
    rfl
  · obtain ⟨a, F, h, w, rfl, o, q⟩ := h
    refine ⟨_, (pss_cons (ps_set (i := 1) sc__law_cells.nd rfl (.inl rfl) (pe_lst pa_nil))
 (pss_cons (ps_for PassesOwn.never rfl (pi_range1 (by rfl) B.range (pa_cons (pe_callB (lenSq K) (by rfl) B.len PySem.boot_len (pa_cons (pv 0) pa_nil)) pa_nil)) (pg_name (i := 2) sc__law_cells.nd rfl (.inr rfl))
 (pss_one (ps_expr (pe_bm PySem.F.plainAttrs_list PySem.F.slot_list_extend PySem.F.type_list_extend mt_extend (pv 1) (pa_cons (pe_lc (own := [("_law_place", 3)]) (g := gName 3) (tt := tYes) (by rfl) sc__law_cells.nd (pi_range1 (by rfl) B.range (pa_cons (pe_callB call_len_str (by rfl) B.len PySem.boot_len (pa_cons (pe_ix (ixL K) (pv 0) pe_int (fun _ _ => rfl)) pa_nil)) pa_nil)) (blkOk_by (own := [("_law_place", 3)]) (N := ["_law_field_here", "_law_found", "_law_row", "_law_place"]) (sc := defScope s__law_cells) (by decide +kernel)) (fun _ _ _ _ _ => (pg_name (i := 3) sc__law_cells.nd rfl (Or.inl rfl))) (fun _ _ _ _ _ => pts_nil) (fun _ _ _ _ _ => (pe_tup (pa_cons (pv 2) (pa_cons (pv 3) pa_nil))))) pa_nil)))))
 (pss_one (ps_ret (pv 1))))), ?_⟩
    have h5 := o.2.h5
    have w5 := o.2.w5
    refine ⟨Nat.zero_le _, fun p np => ?_⟩
    have s1 : Same H (upd H p (.lst [])) := same_new np
    have o1 := o.same s1
    refine ⟨.ref a, rfl, a, _, rfl, .inl o1.1, (h : Int), by rw [o.len_map], by omega, by omega, ?_⟩
    rw [Int.toNat_natCast]
    refine for_it walk_range (fun i σ H' => i ≤ h ∧ ∃ y2 ys, σ = [some (.ref a), some (.ref p), y2, none] ∧ Same H H' ∧ H' p = some (.lst ys) ∧ Cells K H' ys (cellsL i w))
      ⟨Nat.zero_le _, none, [], rfl, s1, upd_same, .nil⟩ (fun _ _ _ _ _ => trivial) (fun i x σ H1 H2 hi pv y => ?_) fun σ H1 pv => ?_
    · obtain ⟨rfl, rfl⟩ := y
      obtain ⟨_, y2, ys, rfl, sm, hp, hy⟩ := pv
      have o2 := o.same sm
      have lys : ys.length ≤ 1000 := by rw [hy.length, cellsL_len]; exact Nat.le_trans (Nat.mul_le_mul (by omega : i ≤ 5) w5) (by decide)
      refine ⟨.ref p, rfl, .inl ⟨rfl, _, SqL.of hp⟩, .ref a, rfl, a, _, 0, _, rfl, rfl, o2.1, o.row0, tx (F.getD 0 []), rfl, by rw [o.len0]; exact o.w_line, (w : Int), by rw [o.len0], by omega, by omega, ?_⟩
      rw [Int.toNat_natCast]
      refine lc_cel (K := K) walk_range o.w_line (fun _ => true) (fun j => ((i : Int), (j : Int))) (fun _ _ => trivial) (fun D' j x H3 H4 Qe Qn nD hj sm3 hy3 y qe _ => ?_) fun D' zs H3 nD sm3 hD hz => ?_
      · obtain ⟨rfl, rfl⟩ := y
        refine ⟨rfl, .int (0 + i), rfl, .int (0 + j), rfl, by show 2 ≤ sizeLine; decide, fun T nT => ?_⟩
        refine qe (.ref T) _ rfl (same_new nT) ⟨T, rfl, ?_⟩
        rw [Int.zero_add, Int.zero_add]
        exact SqT.of upd_same
      · have hp3 := sm3 _ _ hp
        have ez : zs.length ≤ 1000 := by
          rw [hz.length, List.length_map]
          refine Nat.le_trans (List.length_filter_le _ _) ?_
          rw [List.length_range]; omega
        refine ⟨p, D', ys, zs, rfl, rfl, hp3, hD, small_line (by omega), ?_⟩
        refine ⟨hi, _, _, rfl, same_upd (sm.trans sm3) np, upd_same, ?_⟩
        rw [cellsL_succ]
        have le1 : TupLe H3 (upd H3 p (.lst (ys ++ zs))) := TupLe.upd hp3 (TupLe.refl _)
        refine Paired.app ((hy.le (TupLe.of sm3)).le le1) ?_
        rw [List.filter_eq_self.mpr (fun _ _ => rfl)] at hz
        have e := range_map_rng 0 w (fun p : Int => ((i : Int), p))
        simp only [Int.zero_add] at e
        rw [e] at hz
        exact hz.le le1
    · obtain ⟨_, y2, ys, rfl, sm, hp, hy⟩ := pv
      exact ⟨.ref p, rfl, q H1 p ys sm np hp hy⟩
end
end Sk
namespace Sk
open PySem PySem.Spec PyProof.Rows L2 Sn
section
variable {P : Program} {w : World} {K : PySem.W.Frag} {mg : Str → Option Value} {base : Heap}
theorem ok_law_field (D : Dfn K mg "_law_field" s__law_field) (B : Bi mg) (c_law_cell_at : Cal P w K mg base CX0 1 "_law_cell_at" ["_law_script", "_law_k"] (spCellAt K))
    (c_law_number : Cal P w K mg base CX0 2 "_law_number" ["_law_cell", "_law_k", "_law_limit"] spNumber) : Cal P w K mg base CX0 3 "_law_field" ["_law_script", "_law_by", "_law_most"] (spField K) := by
  refine D.cal sc__law_field bn__law_field (fun vs H Q E h => ?_) (fun f cdv A outer s H vs Q E hr h => ?_)
  · obtain ⟨a, ns, k, m, n, rfl, _⟩ := h
    rfl
  · obtain ⟨a, ns, k, m, n, rfl, hs, hb, hn, hk, hk2, hm, hm5, q⟩ := h
    refine ⟨_, (pss_cons (ps_set (i := 3) sc__law_field.nd rfl (.inl rfl) (pcall c_law_cell_at (hr.mono (by omega)) (by rfl) pass0 (pa_cons (pv 0) (pa_cons (pv 1) pa_nil))))
 (pss_cons (ps_par (i := 4) (j := 5) (by rfl) sc__law_field.nd rfl rfl (by decide) rfl rfl (pa_cons (pe_op op_add pe_int (pcall c_law_number (hr.mono (by omega)) (by rfl) pass0 (pa_cons (pv 3) (pa_cons (pe_op op_add (pv 1) pe_int) (pa_cons (pv 2) pa_nil))))) (pa_cons (pe_op op_add pe_int (pcall c_law_number (hr.mono (by omega)) (by rfl) pass0 (pa_cons (pv 3) (pa_cons (pe_op op_add (pv 1) pe_int) (pa_cons (pv 2) pa_nil))))) pa_nil)) (by rfl))
 (pss_cons (ps_set (i := 6) sc__law_field.nd rfl (.inl rfl) (pe_ix (ixT K) (pe_tup (pa_cons pe_str (pa_cons pe_str (pa_cons pe_str (pa_cons pe_str pa_nil))))) (pcall c_law_number (hr.mono (by omega)) (by rfl) pass0 (pa_cons (pv 3) (pa_cons (pe_op op_add (pv 1) pe_int) (pa_cons pe_int pa_nil)))) (fun _ _ => rfl)))
 (pss_cons (ps_set (i := 7) sc__law_field.nd rfl (.inl rfl) (pe_lst pa_nil))
 (pss_cons (ps_for PassesOwn.never rfl (pi_range1 (by rfl) B.range (pa_cons (pv 4) pa_nil)) (pg_name (i := 8) sc__law_field.nd rfl (.inl rfl))
 (pss_cons (ps_set (i := 9) sc__law_field.nd rfl (.inl rfl) pe_str)
 (pss_cons (ps_for PassesOwn.never rfl (pi_range1 (by rfl) B.range (pa_cons (pv 5) pa_nil)) (pg_name (i := 10) sc__law_field.nd rfl (.inl rfl))
 (pss_cons (ps_set (i := 11) sc__law_field.nd rfl (.inl rfl) (pe_op op_add (pe_op op_mulX (pv 8) (pv 5)) (pv 10)))
 (pss_one (ps_set (i := 9) sc__law_field.nd rfl (.inl rfl) (pe_op op_add_str (pv 9) (pe_ix ix_str (pv 6) (pcall c_law_number (hr.mono (by omega)) (by rfl) pass0 (pa_cons (pe_op op_add (pcall c_law_cell_at (hr.mono (by omega)) (by rfl) pass0 (pa_cons (pv 0) (pa_cons (pe_op op_add (pv 1) (pv 11)) pa_nil))) (pe_op op_mulX pe_int (pv 11))) (pa_cons (pe_op op_add (pv 11) (pv 1)) (pa_cons (pe_callB call_len_str (by rfl) B.len PySem.boot_len (pa_cons (pv 6) pa_nil)) pa_nil)))) (fun _ _ => rfl)))))))
 (pss_one (ps_expr (pe_bm PySem.F.plainAttrs_list PySem.F.slot_list_append PySem.F.type_list_append mt_append (pv 7) (pa_cons (pv 9) pa_nil)))))))
 (pss_one (ps_ret (pv 7)))))))), ?_⟩
    refine ⟨.ref a, rfl, .int k, rfl, a, ns, k, n, rfl, hs, hk, hb, fun z hz => ?_⟩
    -- high, wide
    refine ⟨.int z, rfl, .int k, rfl, k, 1, rfl, rfl, .int m, rfl, z, k + 1, m, n, rfl, hz, by omega, by omega, by omega, by omega, fun z1 H1 a1 b1 s1 => ?_⟩
    refine ⟨1, z1, rfl, rfl, .int z, rfl, .int k, rfl, k, 2, rfl, rfl, .int m, rfl, z, k + 2, m, n, rfl, hz, by omega, by omega, by omega, by omega, fun z2 H2 a2 b2 s2 => ?_⟩
    refine ⟨1, z2, rfl, rfl, _, _, rfl, ?_⟩
    -- letters
    refine ⟨by show 4 ≤ sizeLine; decide, fun T nT => ?_⟩
    refine ⟨.int z, rfl, .int k, rfl, k, 3, rfl, rfl, z, k + 3, 4, n, rfl, hz, by omega, by omega, by omega, by decide, fun z3 H3 a3 b3 s3 => ?_⟩
    obtain ⟨lr, hl1, hl2, hl3, hl4⟩ := lett_at a3 b3
    refine ⟨T, lettL.map tv, z3, tv lr, rfl, rfl, Same.sqt s3 (SqT.of upd_same), hl1, ?_⟩
    have sH3 : Same H H3 := (s1.trans s2).trans ((same_new nT).trans s3)
    -- found = []
    refine ⟨Nat.zero_le _, fun p np => ?_⟩
    have npH : H p = none := sH3.free np
    obtain ⟨h, eh⟩ : ∃ h : Nat, 1 + z1 = (h : Int) := ⟨(1 + z1).toNat, by omega⟩
    obtain ⟨w, ew⟩ : ∃ w : Nat, 1 + z2 = (w : Int) := ⟨(1 + z2).toNat, by omega⟩
    refine ⟨.int (1 + z1), rfl, 1 + z1, rfl, by omega, by omega, ?_⟩
    rw [show (1 + z1).toNat = h by omega]
    refine for_it walk_range (fun i σ H' => i ≤ h ∧ ∃ y8 y9 y10 y11 F, σ = [some (.ref a), some (.int k), some (.int m), some (.int z), some (.int (1 + z1)), some (.int (1 + z2)), some (tv lr), some (.ref p), y8, y9, y10, y11] ∧ Same H H' ∧ H' p = some (.lst (F.map tv)) ∧ F.length = i ∧ ∀ r ∈ F, r.length = w ∧ ∀ c ∈ r, letter c)
      ⟨Nat.zero_le _, none, none, none, none, [], rfl, same_upd sH3 npH, upd_same, rfl, fun _ h => nomatch h⟩ (fun _ _ _ _ _ => trivial) (fun i x σ H4 H5 hi pv y => ?_) fun σ H4 pv => ?_
    · obtain ⟨rfl, rfl⟩ := y
      obtain ⟨hih, y8, y9, y10, y11, F, rfl, sm, hp, hF, hF2⟩ := pv
      refine ⟨.int (1 + z2), rfl, 1 + z2, rfl, by omega, by omega, ?_⟩
      rw [show (1 + z2).toNat = w by omega]
      refine for_it walk_range (fun j σ H' => j ≤ w ∧ ∃ y10 y11 r, σ = [some (.ref a), some (.int k), some (.int m), some (.int z), some (.int (1 + z1)), some (.int (1 + z2)), some (tv lr), some (.ref p), some (.int (0 + i)), some (tv r), y10, y11] ∧ Same H H' ∧ H' p = some (.lst (F.map tv)) ∧ r.length = j ∧ ∀ c ∈ r, letter c)
        ⟨Nat.zero_le _, y10, y11, [], rfl, sm, hp, rfl, fun _ h => nomatch h⟩ (fun _ _ _ _ _ => trivial) (fun j x σ H6 H7 hj pv y => ?_) fun σ H6 pv => ?_
      · obtain ⟨rfl, rfl⟩ := y
        obtain ⟨hjw, y10, y11, r, rfl, sm6, hp6, hr1, hr2⟩ := pv
        have hiw : (0 + (i : Int)) * (1 + z2) ≤ 5 * 5 := Int.mul_le_mul (by omega) (by omega) (by omega) (by omega)
        have hiw0 : 0 ≤ (0 + (i : Int)) * (1 + z2) := Int.mul_nonneg (by omega) (by omega)
        refine ⟨.int (0 + i), rfl, .int (1 + z2), rfl, _, _, rfl, rfl, small_mul (lt30 (by omega) (by omega)) (lt30 (by omega) (by omega)), .int (0 + j), rfl, _, _, rfl, rfl, ?_⟩
        refine ⟨tv r, rfl, tv lr, rfl, .ref a, rfl, .int k, rfl, .int ((0 + (i : Int)) * (1 + z2) + (0 + (j : Int))), rfl, k, ((0 + (i : Int)) * (1 + z2) + (0 + (j : Int))), rfl, rfl, a, ns, k + ((0 + (i : Int)) * (1 + z2) + (0 + (j : Int))), n, rfl, sm6.seq hs, by omega, hb, fun zc hzc => ?_⟩
        refine ⟨.int ((0 + (i : Int)) * (1 + z2) + (0 + (j : Int))), rfl, 31, ((0 + (i : Int)) * (1 + z2) + (0 + (j : Int))), rfl, rfl, small_mul (lt30 (by decide) (by decide)) (lt30 (by omega) (by omega)), zc, 31 * ((0 + (i : Int)) * (1 + z2) + (0 + (j : Int))), rfl, rfl, .int ((0 + (i : Int)) * (1 + z2) + (0 + (j : Int))), rfl, .int k, rfl, ((0 + (i : Int)) * (1 + z2) + (0 + (j : Int))), k, rfl, rfl, tv lr, rfl, tx lr, rfl, by rw [tx_len]; exact small_line (by omega), ?_⟩
        refine ⟨zc + 31 * ((0 + (i : Int)) * (1 + z2) + (0 + (j : Int))), ((0 + (i : Int)) * (1 + z2) + (0 + (j : Int))) + k, _, n + 21, rfl, big_add hzc (by omega), by omega, by omega, by omega, by rw [tx_len]; omega, fun z4 H8 a4 b4 s8 => ?_⟩
        rw [tx_len] at b4
        have hz4 : z4.toNat < lr.length := by omega
        refine ⟨tx lr, z4, lr[z4.toNat], rfl, rfl, by rw [tx_len]; exact small_line (by omega), by rw [tx_cps]; exact atN_of (j := z4.toNat) (by omega) (List.getElem?_eq_getElem hz4), tx r, tx [lr[z4.toNat]], rfl, rfl, ?_, ?_⟩
        · rw [tx_len, tx_len]; exact small_line (by show r.length + 1 ≤ _; omega)
        · refine ⟨hj, some (.int (0 + j)), some (.int ((0 + (i : Int)) * (1 + z2) + (0 + (j : Int)))), r ++ [lr[z4.toNat]], by rw [tx_app]; rfl, sm6.trans s8, s8 _ _ hp6, by rw [List.length_append, hr1]; rfl, fun c hc => ?_⟩
          rcases List.mem_append.mp hc with hc | hc
          · exact hr2 c hc
          · rw [List.mem_singleton.mp hc]; exact hl4 _ (List.getElem_mem hz4)
      · obtain ⟨_, y10, y11, r, rfl, sm6, hp6, hr1, hr2⟩ := pv
        refine ⟨.ref p, rfl, .inl ⟨rfl, _, SqL.of hp6⟩, tv r, rfl, p, _, tv r, rfl, rfl, hp6, ?_, ?_⟩
        · rw [List.length_map, hF]; exact small1000 (by omega)
        · refine ⟨hi, _, _, _, _, F ++ [r], rfl, same_upd sm6 npH, ?_, by rw [List.length_append, hF]; rfl, fun r2 hr => ?_⟩
          · rw [upd_same, List.map_append]; rfl
          · rcases List.mem_append.mp hr with hr | hr
            · exact hF2 r2 hr
            · rw [List.mem_singleton.mp hr]; exact ⟨hr1, hr2⟩
    · obtain ⟨_, y8, y9, y10, y11, F, rfl, sm, hp, hF, hF2⟩ := pv
      exact ⟨.ref p, rfl, q H4 p F h w sm npH hp ⟨hF, by omega, by omega, by omega, by omega, fun r hr => (hF2 r hr).1, fun r hr => (hF2 r hr).2⟩ (by omega) (by omega)⟩
end
end Sk
namespace Sk
open PySem PySem.Spec PyProof.Rows L2 Sn
/-- the cells of a list, as the set rule wants them -/
theorem cells_keys {K : PySem.W.Frag} {H : Hp} : ∀ {xs : List V} {cs : List Cel}, Cells K H xs cs → ∃ ks : List (Addr × List Int), xs = ks.map (fun p => V.ref p.1) ∧ (∀ p ∈ ks, SqT K H p.1 (p.2.map V.int)) ∧ ks.map (·.2) = cs.map fun c => [c.1, c.2]
  | _, _, .nil => ⟨[], rfl, fun _ h => (nomatch h), rfl⟩
  | _, _, .cons (b := c) ⟨t, e, ht⟩ r => by
    obtain ⟨ks, h1, h2, h3⟩ := cells_keys r
    refine ⟨(t, [c.1, c.2]) :: ks, by rw [e, h1]; rfl, fun p hp => ?_, by rw [List.map_cons, h3]; rfl⟩
    rcases List.mem_cons.mp hp with rfl | hp
    · exact ht
    · exact h2 p hp
theorem keys_nodup (cs : List Cel) : decide (cs.map fun c => [c.1, c.2]).Nodup = decide cs.Nodup := by
  have e : (cs.map fun c : Cel => [c.1, c.2]).Nodup ↔ cs.Nodup := by
    unfold List.Nodup
    rw [List.pairwise_map]
    constructor
    · exact fun h => h.imp fun {a b} n z => n (by rw [z])
    · refine fun h => h.imp fun {a b} n z => n ?_
      simp only [List.cons.injEq, and_true] at z
      exact Prod.ext z.1 z.2
  by_cases h : cs.Nodup
  · rw [decide_eq_true h, decide_eq_true (e.mpr h)]
  · rw [decide_eq_false h, decide_eq_false fun z => h (e.mp z)]
theorem all_ids (n : Nat) (f : Nat → Bool) : (((List.range n).map f).all id) = (List.range n).all f := by rw [List.all_map]; rfl
theorem any_cells (cs : List Cel) (d : Cel) : ((cs.map cellD).any fun z => PyData.eqv z (cellD d)) = decide (d ∈ cs) := by
  induction cs with
  | nil => rfl
  | cons c cs ih =>
    rw [List.map_cons, List.any_cons, ih, eqv_cell]
    by_cases h : c = d
    · subst h; simp
    · rw [decide_eq_false h, Bool.false_or]
      by_cases h2 : d ∈ cs
      · rw [decide_eq_true h2, decide_eq_true (List.mem_cons_of_mem _ h2)]
      · rw [decide_eq_false h2, decide_eq_false fun z => (List.mem_cons.mp z).elim (fun e => h e.symm) h2]
theorem cut_one (xs : List V) : cutV xs (some 1) none = xs.drop 1 := by
  unfold cutV
  have e1 : HT.sIx xs.length 0 (some 1) = min 1 xs.length := HT.sIx_nat xs.length 0 1
  rw [e1, HT.sIx_none]
  cases xs with
  | nil => rfl
  | cons x r =>
    have e2 : min 1 (x :: r).length = 1 := by rw [List.length_cons]; omega
    rw [e2]
    exact List.take_of_length_le (by simp)
/-- all([f(pair) for pair in zip(cs, cs[1:])]) -/
theorem adj_range (cs : List Cel) (f : Cel → Cel → Bool) : ((List.range (min cs.length (cs.drop 1).length)).all fun i => f (cs.getD i (0, 0)) ((cs.drop 1).getD i (0, 0))) = (cs.zip (cs.drop 1)).all fun p => f p.1 p.2 := by
  have e : cs.zip (cs.drop 1) = (List.range (min cs.length (cs.drop 1).length)).map fun i => (cs.getD i (0, 0), (cs.drop 1).getD i (0, 0)) := by
    apply List.ext_getElem
    · simp
    · intro i h1 h2
      have hi : i < min cs.length (cs.drop 1).length := by simpa using h2
      have a1 : i < cs.length := by omega
      have a2 : i < (cs.drop 1).length := by omega
      rw [List.getElem_zip, List.getElem_map, List.getElem_range, getD_of (List.getElem?_eq_getElem a1), getD_of (List.getElem?_eq_getElem a2)]
  rw [e, List.all_map]
  rfl
section
variable {P : Program} {wl : World} {K : PySem.W.Frag} {mg : Str → Option Value} {base : Heap}
theorem ok_cells_in (D : Dfn K mg "cells_in" s_cells_in) (B : Bi mg) : Cal P wl K mg base CX0 1 "cells_in" ["field"] (spCells K) := by
  refine D.cal sc_cells_in bn_cells_in (fun vs H Q E h => ?_) (fun f cdv A outer s H vs Q E hr h => ?_)
  · obtain ⟨a, F, h, w, rfl, _⟩ := h
    rfl
  · obtain ⟨a, F, h, w, rfl, o, q⟩ := h
    refine ⟨_, (pss_cons (ps_set (i := 1) sc_cells_in.nd rfl (.inl rfl) (pe_lst pa_nil))
 (pss_cons (ps_for PassesOwn.never rfl (pi_range1 (by rfl) B.range (pa_cons (pe_callB (lenSq K) (by rfl) B.len PySem.boot_len (pa_cons (pv 0) pa_nil)) pa_nil)) (pg_name (i := 2) sc_cells_in.nd rfl (.inr rfl))
 (pss_one (ps_expr (pe_bm PySem.F.plainAttrs_list PySem.F.slot_list_extend PySem.F.type_list_extend mt_extend (pv 1) (pa_cons (pe_lc (own := [("place", 3)]) (g := gName 3) (tt := tYes) (by rfl) sc_cells_in.nd (pi_range1 (by rfl) B.range (pa_cons (pe_callB call_len_str (by rfl) B.len PySem.boot_len (pa_cons (pe_ix (ixL K) (pv 0) pe_int (fun _ _ => rfl)) pa_nil)) pa_nil)) (blkOk_by (own := [("place", 3)]) (N := ["field", "found", "row", "place"]) (sc := defScope s_cells_in) (by decide +kernel)) (fun _ _ _ _ _ => (pg_name (i := 3) sc_cells_in.nd rfl (Or.inl rfl))) (fun _ _ _ _ _ => pts_nil) (fun _ _ _ _ _ => (pe_tup (pa_cons (pv 2) (pa_cons (pv 3) pa_nil))))) pa_nil)))))
 (pss_one (ps_ret (pv 1))))), ?_⟩
    have h5 := o.2.h5
    have w5 := o.2.w5
    refine ⟨Nat.zero_le _, fun p np => ?_⟩
    have s1 : Same H (upd H p (.lst [])) := same_new np
    have o1 := o.same s1
    refine ⟨.ref a, rfl, a, _, rfl, .inl o1.1, (h : Int), by rw [o.len_map], by omega, by omega, ?_⟩
    rw [Int.toNat_natCast]
    refine for_it walk_range (fun i σ H' => i ≤ h ∧ ∃ y2 ys, σ = [some (.ref a), some (.ref p), y2, none] ∧ Same H H' ∧ H' p = some (.lst ys) ∧ Cells K H' ys (cellsL i w))
      ⟨Nat.zero_le _, none, [], rfl, s1, upd_same, .nil⟩ (fun _ _ _ _ _ => trivial) (fun i x σ H1 H2 hi pv y => ?_) fun σ H1 pv => ?_
    · obtain ⟨rfl, rfl⟩ := y
      obtain ⟨_, y2, ys, rfl, sm, hp, hy⟩ := pv
      have o2 := o.same sm
      have lys : ys.length ≤ 1000 := by rw [hy.length, cellsL_len]; exact Nat.le_trans (Nat.mul_le_mul (by omega : i ≤ 5) w5) (by decide)
      refine ⟨.ref p, rfl, .inl ⟨rfl, _, SqL.of hp⟩, .ref a, rfl, a, _, 0, _, rfl, rfl, o2.1, o.row0, tx (F.getD 0 []), rfl, by rw [o.len0]; exact o.w_line, (w : Int), by rw [o.len0], by omega, by omega, ?_⟩
      rw [Int.toNat_natCast]
      refine lc_cel (K := K) walk_range o.w_line (fun _ => true) (fun j => ((i : Int), (j : Int))) (fun _ _ => trivial) (fun D' j x H3 H4 Qe Qn nD hj sm3 hy3 y qe _ => ?_) fun D' zs H3 nD sm3 hD hz => ?_
      · obtain ⟨rfl, rfl⟩ := y
        refine ⟨rfl, .int (0 + i), rfl, .int (0 + j), rfl, by show 2 ≤ sizeLine; decide, fun T nT => ?_⟩
        refine qe (.ref T) _ rfl (same_new nT) ⟨T, rfl, ?_⟩
        rw [Int.zero_add, Int.zero_add]
        exact SqT.of upd_same
      · have hp3 := sm3 _ _ hp
        have ez : zs.length ≤ 1000 := by
          rw [hz.length, List.length_map]
          refine Nat.le_trans (List.length_filter_le _ _) ?_
          rw [List.length_range]; omega
        refine ⟨p, D', ys, zs, rfl, rfl, hp3, hD, small_line (by omega), ?_⟩
        refine ⟨hi, _, _, rfl, same_upd (sm.trans sm3) np, upd_same, ?_⟩
        rw [cellsL_succ]
        have le1 : TupLe H3 (upd H3 p (.lst (ys ++ zs))) := TupLe.upd hp3 (TupLe.refl _)
        refine Paired.app ((hy.le (TupLe.of sm3)).le le1) ?_
        rw [List.filter_eq_self.mpr (fun _ _ => rfl)] at hz
        have e := range_map_rng 0 w (fun p : Int => ((i : Int), p))
        simp only [Int.zero_add] at e
        rw [e] at hz
        exact hz.le le1
    · obtain ⟨_, y2, ys, rfl, sm, hp, hy⟩ := pv
      exact ⟨.ref p, rfl, q H1 p ys sm np hp hy⟩
theorem ok_letter_at (D : Dfn K mg "letter_at" s_letter_at) (B : Bi mg) : Cal P wl K mg base CX0 1 "letter_at" ["field", "cell"] (spLetterAt K) := by
  refine D.cal sc_letter_at bn_letter_at (fun vs H Q E h => ?_) (fun f cdv A outer s H vs Q E hr h => ?_)
  · obtain ⟨a, F, h, w, v, c, rfl, _⟩ := h
    rfl
  · obtain ⟨a, F, h, w, v, c, rfl, o, ⟨t, rfl, ht⟩, hc, q⟩ := h
    refine ⟨_, (pss_one (ps_ret (pe_ix ix_str (pe_ix (ixL K) (pv 0) (pe_ix (ixT K) (pv 1) pe_int (fun _ _ => rfl)) (fun _ _ => rfl)) (pe_ix (ixT K) (pv 1) pe_int (fun _ _ => rfl)) (fun _ _ => rfl)))), ?_⟩
    obtain ⟨r, g1, g2, g3⟩ := o.at_cell hc
    refine ⟨.ref a, rfl, .ref t, rfl, t, _, 0, .int c.1, rfl, rfl, ht, atI_nat (j := 0) rfl, a, _, c.1, _, rfl, rfl, o.1, g1, .ref t, rfl, t, _, 1, .int c.2, rfl, rfl, ht, atI_nat (j := 1) rfl, tx r, c.2, at_ F c, rfl, rfl, by rw [tx_len, g2]; exact o.w_line, by rw [tx_cps]; exact g3, q⟩
theorem ok_is_snake (D : Dfn K mg "is_snake" s_is_snake) (B : Bi mg) (c_is_cell : Cal P wl K mg base CX0 2 "is_cell" ["field", "thing"] (spIsCell K)) (c_near_of : Cal P wl K mg base CX0 1 "near_of" ["field", "cell"] (spNear K)) : Cal P wl K mg base CX0 3 "is_snake" ["field", "cells"] (spIsSnake K) := by
  refine D.cal sc_is_snake bn_is_snake (fun vs H Q E h => ?_) (fun f cdv A outer s H vs Q E hr h => ?_)
  · obtain ⟨a, F, h, w, b, xs, cs, rfl, _⟩ := h
    rfl
  · obtain ⟨a, F, h, w, b, xs, cs, rfl, o, hb, hc, h64, q⟩ := h
    refine ⟨_, (pss_cons (ps_if (PW.pt (pw_or (pt_cmpR (eqDK K hr.units) (pv 1) (pe_lst pa_nil) (nomark _)) (pw_or (pt_cmpR op_ne (pe_callB call_lenT (by rfl) B.len PySem.boot_len (pa_cons (pe_callTy (cr_setOfT rfl hr.units) (by rfl) B.set PyProof.Rows.boot_set (pa_cons (pv 1) pa_nil)) pa_nil)) (pe_callB (lenSq K) (by rfl) B.len PySem.boot_len (pa_cons (pv 1) pa_nil)) (nomark _)) (pw_or1 (pt_not (pt_val (pe_callB (allK K rfl) (by rfl) B.all (by decide +kernel) (pa_cons (pe_lc (own := [("cell", 2)]) (g := gName 2) (tt := tYes) (by rfl) sc_is_snake.nd (piL K (pv 1)) (blkOk_by (own := [("cell", 2)]) (N := ["field", "cells", "cell", "one", "other"]) (sc := defScope s_is_snake) (by decide +kernel)) (fun _ _ _ _ _ => (pg_name (i := 2) sc_is_snake.nd rfl (Or.inl rfl))) (fun _ _ _ _ _ => pts_nil) (fun _ _ _ _ _ => (pcall c_is_cell (hr.mono (by omega)) (by rfl) pass0 (pa_cons (pv 0) (pa_cons (pv 2) pa_nil))))) pa_nil))))))))
 (pss_one (ps_ret pe_bl)) pss_nil)
 (pss_one (ps_ret (pe_callB (allK K rfl) (by rfl) B.all (by decide +kernel) (pa_cons (pe_lc (own := [("one", 3), ("other", 4)]) (g := gTup K 2 (gCons (gName 3) (gCons (gName 4) gNil))) (tt := tYes) (by rfl) sc_is_snake.nd (pi_zip (by rfl) B.zip (pa_cons (pv 1) (pa_cons (pe_slice (slL K) (pv 1) (po_some pe_int) po_none) pa_nil))) (blkOk_by (own := [("one", 3), ("other", 4)]) (N := ["field", "cells", "cell", "one", "other"]) (sc := defScope s_is_snake) (by decide +kernel)) (fun _ _ _ _ _ => (pg_tup rfl (pgs_cons (pg_name (i := 3) sc_is_snake.nd rfl (Or.inl rfl)) (pgs_cons (pg_name (i := 4) sc_is_snake.nd rfl (Or.inl rfl)) pgs_nil)))) (fun _ _ _ _ _ => pts_nil) (fun _ _ _ _ _ => (pe_cmpR (inDK K (hu65 hr)) (pv 4) (pcall c_near_of (hr.mono (by omega)) (by rfl) pass0 (pa_cons (pv 0) (pa_cons (pv 3) pa_nil))) (by rfl)))) pa_nil))))), ?_⟩
    have h5 := o.2.h5
    have w5 := o.2.w5
    -- cells == []
    refine ⟨.ref b, rfl, Nat.zero_le _, fun e ne => ?_⟩
    have s1 := same_new (o := .lst []) ne
    have hb1 := s1.seq hb
    have hc1 := hc.le (TupLe.of s1)
    refine ⟨_, cellsD [], cells_dp hb1 hc1, cells_dp (SqL.of upd_same) .nil, (shp_cells _).ok, (shp_cells _).ok, _, rfl, ?_⟩
    rw [eqv_cells]
    unfold snakeB at q
    by_cases hcs : cs = []
    · rw [decide_eq_true hcs] at q ⊢
      exact iteT (q _ s1)
    rw [decide_eq_false hcs] at q ⊢
    refine iteF ?_
    -- len(set(cells)) != len(cells)
    obtain ⟨ks, k1, k2, k3⟩ := cells_keys hc1
    have lks : ks.length = cs.length := by
      have := congrArg List.length k3
      simpa using this
    refine ⟨.ref b, rfl, b, ks, rfl, by rw [← k1]; exact hb1, k2, by omega, fun st L nst hL1 hL2 => ?_⟩
    have s2 := same_new (o := SetTO P wl st L) nst
    refine ⟨st, L, rfl, upd_same, fun p hp => Same.sqt s2 (k2 p (hL1 p hp)), fun nd => ?_⟩
    refine ⟨.ref b, rfl, b, _, rfl, .inl (s2.seq hb1), rfl, _, rfl, ?_⟩
    have eL : decide (V.int (L.length : Int) = V.int (xs.length : Int)) = decide cs.Nodup := by
      rw [hc.length, ← keys_nodup cs, ← k3, ← dedup_len nd (m := ks.map (·.2)) ?_ ?_]
      · rw [List.length_map, List.length_map, lks]
        by_cases z : L.length = cs.length
        · rw [z]; simp
        · rw [decide_eq_false z, decide_eq_false fun y => z (by have := V.int.inj y; omega)]
      · intro z hz
        obtain ⟨p, hp, rfl⟩ := List.mem_map.mp hz
        exact List.mem_map.mpr ⟨p, hL1 p hp, rfl⟩
      · intro z hz
        obtain ⟨p, hp, rfl⟩ := List.mem_map.mp hz
        exact hL2 p hp
    rw [eL]
    have s12 := s1.trans s2
    by_cases hnd : cs.Nodup
    case neg =>
      rw [decide_eq_false hnd] at q ⊢
      exact iteT (q _ s12)
    rw [decide_eq_true hnd] at q ⊢
    refine iteF ?_
    -- all are cells
    have o2 := o.same s12
    have hb2 := s12.seq hb
    have hc2 := hc.le (TupLe.of s12)
    refine ⟨.ref b, rfl, b, rfl, ⟨_, hb2⟩, lc_val (walk_list (xs := xs)) (by rw [hc.length]; exact small_line (by omega)) (fun i => .bl (inB h w (cs.getD i (0, 0)))) (fun H' s' => s'.seq hb2) (fun D' i x H3 H3' Qe nD hi s3 _ y qe => ?_) fun D' H3 nD s3 hD => ?_⟩
    · obtain ⟨rfl, hx⟩ := y
      obtain ⟨c, hci, vc⟩ := Paired.get hc2 hx
      rw [getD_of hci] at qe
      exact ⟨rfl, .ref a, rfl, x, rfl, a, F, h, w, x, c, rfl, o2.same s3, vc.le (TupLe.of s3), fun H4 s4 => qe H4 s4⟩
    have eA : ((List.range xs.length).map fun i => inB h w (cs.getD i (0, 0))) = cs.map (inB h w) := by
      rw [hc.length]
      exact range_map_get (inB h w) cs _ fun i c hci => by rw [getD_of hci]
    refine ⟨D', (List.range xs.length).map fun i => inB h w (cs.getD i (0, 0)), rfl, .inl (.inl (by rw [hD, List.map_map]; rfl)), _, rfl, ?_⟩
    have eB : ((cs.map (inB h w)).all id) = cs.all fun c => decide (c ∈ cellsL h w) := by
      rw [List.all_map]
      congr 1
      funext c
      show inB h w c = _
      by_cases z : c ∈ cellsL h w
      · rw [decide_eq_true z, inB_mem.mpr z]
      · rw [decide_eq_false z]
        cases e : inB h w c with
        | false => rfl
        | true => exact absurd (inB_mem.mp e) z
    rw [eA, eB]
    have s13 := s12.trans s3
    cases hv : (cs.all fun c => decide (c ∈ cellsL h w)) with
    | false =>
      rw [hv] at q
      exact iteT (q _ s13)
    | true =>
      rw [hv] at q
      refine iteF ?_
      have vl : Vld h w cs := fun c hcm => of_decide_eq_true (List.all_eq_true.mp hv c hcm)
      have o3 := o.same s13
      have hb3 := s13.seq hb
      have hc3 := hc.le (TupLe.of s13)
      refine ⟨.ref b, rfl, .ref b, rfl, 1, rfl, b, _, rfl, hb3, fun sl nsl => ?_⟩
      rw [cut_one]
      have s4 := same_new (o := .lst (xs.drop 1)) nsl
      have hsl : SqL K (upd H3 sl (.lst (xs.drop 1))) sl (xs.drop 1) := SqL.of upd_same
      have hcd := (Paired.drop 1 hc3)
      refine ⟨b, sl, xs, xs.drop 1, rfl, s4.seq hb3, hsl, lc_val (walk_zip rfl) (by rw [hc.length]; exact small_line (by omega)) (fun i => .bl (beside (cs.getD i (0, 0)) ((cs.drop 1).getD i (0, 0)))) (fun H' s' => ⟨s'.seq (s4.seq hb3), s'.seq hsl⟩) (fun D2 i x H5 H5' Qe nD2 hi s5 _ y qe => ?_) fun D2 H5 nD2 s5 hD2 => ?_⟩
      · obtain ⟨T, x1, x2, rfl, nT, rfl, g1, g2⟩ := y
        obtain ⟨c1, hc1', v1⟩ := Paired.get hc3 g1
        obtain ⟨c2, hc2', v2⟩ := Paired.get hcd g2
        rw [getD_of hc1', getD_of hc2'] at qe
        have sT := same_new (o := .tup [x1, x2]) nT
        have s45 := s4.trans (s5.trans sT)
        have m1 : c1 ∈ cellsL h w := vl c1 (List.mem_of_getElem? hc1')
        have m2 : c2 ∈ cellsL h w := vl c2 (List.mem_of_mem_drop (List.mem_of_getElem? hc2'))
        refine ⟨T, [x1, x2], rfl, SqT.of upd_same, rfl, x1, [x2], rfl, x2, [], rfl, rfl, rfl, ?_⟩
        refine ⟨x2, rfl, .ref a, rfl, x1, rfl, a, F, h, w, x1, c1, rfl, o3.same s45, v1.le (TupLe.of s45), m1, fun H6 q6 zs s6 n6 h6 hz => ?_⟩
        refine ⟨_, _, (v2.le (TupLe.of (s45.trans s6))).dp, cells_dp (SqL.of h6) hz, (shp_cell _).ok, (shp_cells _).ok, ?_⟩
        rw [any_cells]
        have e6 : decide (c2 ∈ nearL h w c1) = beside c1 c2 := by
          by_cases z : beside c1 c2 = true
          · rw [z, decide_eq_true ((near_mem h5 w5 m1).mpr ⟨m2, z⟩)]
          · rw [decide_eq_false fun y => z ((near_mem h5 w5 m1).mp y).2]
            cases e : beside c1 c2 with
            | false => rfl
            | true => exact absurd e z
        rw [e6]
        exact qe H6 (sT.trans s6)
      · refine ⟨D2, (List.range (min xs.length (xs.drop 1).length)).map fun i => beside (cs.getD i (0, 0)) ((cs.drop 1).getD i (0, 0)), rfl, .inl (.inl (by rw [hD2, List.map_map]; rfl)), ?_⟩
        rw [all_ids, hc.length, hcd.length, adj_range cs beside]
        exact q _ (s13.trans (s4.trans s5))
theorem ok_spelled (D : Dfn K mg "spelled" s_spelled) (B : Bi mg) (c_letter_at : Cal P wl K mg base CX0 1 "letter_at" ["field", "cell"] (spLetterAt K)) : Cal P wl K mg base CX0 2 "spelled" ["field", "cells"] (spSpelled K) := by
  refine D.cal sc_spelled bn_spelled (fun vs H Q E h => ?_) (fun f cdv A outer s H vs Q E hr h => ?_)
  · obtain ⟨a, F, h, w, b, xs, cs, rfl, _⟩ := h
    rfl
  · obtain ⟨a, F, h, w, b, xs, cs, rfl, o, hb, hc, hv, hl, q⟩ := h
    refine ⟨_, (pss_one (ps_ret (joinK K pe_str (pe_lc (own := [("cell", 2)]) (g := gName 2) (tt := tYes) (by rfl) sc_spelled.nd (piL K (pv 1)) (blkOk_by (own := [("cell", 2)]) (N := ["field", "cells", "cell"]) (sc := defScope s_spelled) (by decide +kernel)) (fun _ _ _ _ _ => (pg_name (i := 2) sc_spelled.nd rfl (Or.inl rfl))) (fun _ _ _ _ _ => pts_nil) (fun _ _ _ _ _ => (pcall c_letter_at (hr.mono (by omega)) (by rfl) pass0 (pa_cons (pv 0) (pa_cons (pv 2) pa_nil)))))))), ?_⟩
    refine ⟨⟨_, rfl⟩, .ref b, rfl, b, rfl, ⟨_, hb⟩, lc_val (walk_list (xs := xs)) (by rw [hc.length]; exact small_line (by omega)) (fun i => tv [at_ F (cs.getD i (0, 0))]) (fun H' s' => s'.seq hb) (fun D' i x H1 H1' Qe nD hi s1 _ y qe => ?_) fun D' H1 nD s1 hD => ?_⟩
    · obtain ⟨rfl, hx⟩ := y
      obtain ⟨c, hci, vc⟩ := Paired.get hc hx
      rw [getD_of hci] at qe
      exact ⟨rfl, .ref a, rfl, x, rfl, a, F, h, w, x, c, rfl, o.same s1, vc.le (TupLe.of s1), hv c (List.mem_of_getElem? hci), qe _ (Same.refl _)⟩
    · refine ⟨tx [], D', (spell F cs).map fun c => ⟨#[c]⟩, rfl, rfl, .inl (.inl (.inl ?_)), ?_, ?_⟩
      · rw [hD, List.map_map, hc.length]
        unfold spell
        rw [List.map_map]
        congr 2
        exact range_map_get _ cs _ fun i c hci => by rw [getD_of hci]; rfl
      · rw [List.map_map, sum_ones, List.length_map]
        have e5 : (spell F cs).length = cs.length := by simp [spell]
        rw [e5]; show cs.length + cs.length * 0 ≤ _; omega
      · rw [join_signs]
        exact q H1 s1
theorem ok_next_cells (D : Dfn K mg "next_cells" s_next_cells) (B : Bi mg) (c_cells_in : Cal P wl K mg base CX0 1 "cells_in" ["field"] (spCells K)) (c_near_of : Cal P wl K mg base CX0 1 "near_of" ["field", "cell"] (spNear K)) : Cal P wl K mg base CX0 2 "next_cells" ["field", "cells"] (spNext K) := by
  refine D.cal sc_next_cells bn_next_cells (fun vs H Q E h => ?_) (fun f cdv A outer s H vs Q E hr h => ?_)
  · obtain ⟨a, F, h, w, b, xs, cs, rfl, _⟩ := h
    rfl
  · obtain ⟨a, F, h, w, b, xs, cs, rfl, o, hb, hc, hv, q⟩ := h
    refine ⟨_, (pss_cons (ps_if (pt_cmpR (eqDK K hr.units) (pv 1) (pe_lst pa_nil) (nomark _))
 (pss_one (ps_ret (pcall c_cells_in (hr.mono (by omega)) (by rfl) pass0 (pa_cons (pv 0) pa_nil)))) pss_nil)
 (pss_one (ps_ret (pe_lc (own := [("cell", 2)]) (g := gName 2) (by rfl) sc_next_cells.nd (piL K (pcall c_near_of (hr.mono (by omega)) (by rfl) pass0 (pa_cons (pv 0) (pa_cons (pe_ix (ixL K) (pv 1) (pe_un un_neg pe_int) (fun _ _ => rfl)) pa_nil)))) (blkOk_by (own := [("cell", 2)]) (N := ["field", "cells", "cell"]) (sc := defScope s_next_cells) (by decide +kernel)) (fun _ _ _ _ _ => (pg_name (i := 2) sc_next_cells.nd rfl (Or.inl rfl))) (fun _ _ _ _ _ => (pts_one (pt_cmpR (notInDK K (hu65 hr)) (pv 2) (pv 1) (by rfl)))) (fun _ _ _ _ _ => (pv 2)))))), ?_⟩
    have h5 := o.2.h5
    have w5 := o.2.w5
    refine ⟨.ref b, rfl, Nat.zero_le _, fun e ne => ?_⟩
    have s1 := same_new (o := .lst []) ne
    have hb1 := s1.seq hb
    have hc1 := hc.le (TupLe.of s1)
    refine ⟨_, cellsD [], cells_dp hb1 hc1, cells_dp (SqL.of upd_same) .nil, (shp_cells _).ok, (shp_cells _).ok, _, rfl, ?_⟩
    rw [eqv_cells]
    by_cases hcs : cs = []
    · rw [decide_eq_true hcs]
      refine iteT ⟨.ref a, rfl, a, F, h, w, rfl, o.same s1, fun H2 p ys s2 np hp hy => ?_⟩
      subst hcs
      exact q H2 p ys (s1.trans s2) (s1.free np) hp hy
    · rw [decide_eq_false hcs]
      refine iteF ?_
      obtain ⟨d, hd⟩ : ∃ d, cs.getLast? = some d := by
        cases e : cs.getLast? with
        | none => exact absurd (List.getLast?_eq_none_iff.mp e) hcs
        | some d => exact ⟨d, rfl⟩
      have hdm := hv.last hd
      have hdl := hd
      have hd2 : cs[cs.length - 1]? = some d := by rw [← List.getLast?_eq_getElem?]; exact hd
      obtain ⟨v, gv, vd⟩ := Paired.get' hc1 hd2
      have gl : atI xs (-1) = some v := by
        have l0 : 0 < cs.length := List.length_pos_iff.mpr hcs
        unfold atI ixN
        rw [if_neg (by decide), if_pos (by rw [hc.length]; omega)]
        show xs[(-1 + (xs.length : Int)).toNat]? = some v
        rw [← gv]
        congr 1
        rw [hc.length]
        omega
      refine ⟨.ref a, rfl, .ref b, rfl, 1, rfl, b, _, -1, v, rfl, rfl, hb1, gl, a, F, h, w, v, d, rfl, o.same s1, vd, hdm, fun H2 p ys s2 np hp hy => ?_⟩
      refine ⟨p, rfl, ⟨_, SqL.of hp⟩, lc_cel (K := K) (walk_list (xs := ys)) (by rw [hy.length]; exact small_line (Nat.le_trans (near_len h5 w5 hdm) (by decide))) (fun k => !decide ((nearL h w d).getD k (0, 0) ∈ cs)) (fun k => (nearL h w d).getD k (0, 0)) (fun H' s' => s'.seq (SqL.of hp)) (fun D' k x H3 H3' Qe Qn nD hk s3 _ y qe qn => ?_) fun D' ds H3 nD s3 hD hd => ?_⟩
      · obtain ⟨rfl, hx⟩ := y
        obtain ⟨c, hci, vc⟩ := Paired.get hy hx
        rw [getD_of hci] at qe qn
        have s23 := s2.trans s3
        refine ⟨rfl, x, rfl, .ref b, rfl, _, _, (vc.le (TupLe.of s3)).dp, cells_dp (s23.seq hb1) (hc1.le (TupLe.of s23)), (shp_cell _).ok, (shp_cells _).ok, _, rfl, ?_⟩
        rw [any_cells]
        cases e : (!decide (c ∈ cs)) with
        | false => exact iteF (qn _ e (Same.refl _))
        | true => exact iteT ⟨x, rfl, qe x _ e (Same.refl _) (vc.le (TupLe.of s3))⟩
      · rw [hy.length, range_filter_get (nearL h w d) (0, 0) fun c => !decide (c ∈ cs)] at hd
        refine q H3 D' ds (s1.trans (s2.trans s3)) ((s1.trans s2).free nD) hD ?_
        unfold nextL
        rw [hdl]
        exact hd
end
end Sk
namespace Sk
open PySem PySem.Spec PyProof.Rows L2 Sn
theorem take_flat_le {α β : Type} (f : α → List β) (l : List α) (n : Nat) : ((l.take n).flatMap f).length ≤ (l.flatMap f).length := by
  conv => rhs; rw [← List.take_append_drop n l, List.flatMap_append, List.length_append]
  omega
theorem take_one_more {α : Type} {l : List α} {i : Nat} {x : α} (h : l[i]? = some x) : l.take (i + 1) = l.take i ++ [x] := by
  rw [List.take_add_one, h]; rfl
theorem one_sign (a b : Nat) : decide (V.str (tx [a]) = V.str ⟨#[b]⟩) = decide (a = b) := by
  by_cases h : a = b
  · subst h; rw [decide_eq_true (show V.str (tx [a]) = V.str ⟨#[a]⟩ from rfl), decide_eq_true (show a = a from rfl)]
  · rw [decide_eq_false h]
    refine decide_eq_false fun z => h ?_
    have := tx_inj (a := [a]) (b := [b]) (V.str.inj z)
    exact (List.cons.inj this).1
theorem cutS_take (r : List Nat) (n : Nat) : cutS (tx r) none (some (n : Int)) = tx (r.take n) := by
  unfold cutS
  rw [HT.sIx_none, HT.sIx_nat, tx_cps, tx_len, List.drop_zero, Nat.sub_zero]
  show tx (r.take (min n r.length)) = _
  congr 1
  by_cases hn : n ≤ r.length
  · rw [Nat.min_eq_left hn]
  · rw [Nat.min_eq_right (by omega), List.take_length, List.take_of_length_le (by omega)]
section
variable {P : Program} {wl : World} {K : PySem.W.Frag} {mg : Str → Option Value} {base : Heap}
theorem ok_snakes_on_step (D : Dfn K mg "snakes_on" s_snakes_on) (B : Bi mg) (c_next_cells : Cal P wl K mg base CX0 2 "next_cells" ["field", "cells"] (spNext K)) (c_letter_at : Cal P wl K mg base CX0 1 "letter_at" ["field", "cell"] (spLetterAt K))
    {k r : Nat} (hk : 2 ≤ k) {sp' : Sp} (c_snakes_on : Cal P wl K mg base CX0 k "snakes_on" ["field", "word", "cells"] sp') (hsp : ∀ vs H Q E, r ≠ 0 → spSnakesOn K (r - 1) vs H Q E → sp' vs H Q E) :
    Cal P wl K mg base CX0 (k + 1) "snakes_on" ["field", "word", "cells"] (spSnakesOn K r) := by
  refine D.cal sc_snakes_on bn_snakes_on (fun vs H Q E h => ?_) (fun f cdv A outer s H vs Q E hr h => ?_)
  · obtain ⟨a, F, h, w, wd, b, xs, cs, rfl, _⟩ := h
    rfl
  · obtain ⟨a, F, h, w, wd, b, xs, cs, rfl, o, hb, hc, hv, h6, hle, hr1, q⟩ := h
    refine ⟨_, (pss_cons (ps_if (pt_cmpR op_eq (pe_callB (lenSq K) (by rfl) B.len PySem.boot_len (pa_cons (pv 2) pa_nil)) (pe_callB call_len_str (by rfl) B.len PySem.boot_len (pa_cons (pv 1) pa_nil)) (nomark _))
 (pss_one (ps_ret (pe_lst (pa_cons (pv 2) pa_nil)))) pss_nil)
 (pss_cons (ps_set (i := 3) sc_snakes_on.nd rfl (.inl rfl) (pe_lst pa_nil))
 (pss_cons (ps_for PassesOwn.never rfl (piL K (pcall c_next_cells (hr.mono (by omega)) (by rfl) pass0 (pa_cons (pv 0) (pa_cons (pv 2) pa_nil)))) (pg_name (i := 4) sc_snakes_on.nd rfl (.inl rfl))
 (pss_one (ps_if (pt_cmpR op_eq (pcall c_letter_at (hr.mono (by omega)) (by rfl) pass0 (pa_cons (pv 0) (pa_cons (pv 4) pa_nil))) (pe_ix ix_str (pv 1) (pe_callB (lenSq K) (by rfl) B.len PySem.boot_len (pa_cons (pv 2) pa_nil)) (fun _ _ => rfl)) (nomark _))
 (pss_one (ps_expr (pe_bm PySem.F.plainAttrs_list PySem.F.slot_list_extend PySem.F.type_list_extend mt_extend (pv 3) (pa_cons (pcall c_snakes_on (hr.mono (by omega)) (by rfl) pass0 (pa_cons (pv 0) (pa_cons (pv 1) (pa_cons (pe_op op_cat (pv 2) (pe_lst (pa_cons (pv 4) pa_nil))) pa_nil)))) pa_nil)))) pss_nil)))
 (pss_one (ps_ret (pv 3)))))), ?_⟩
    have h5 := o.2.h5
    have w5 := o.2.w5
    refine ⟨.ref b, rfl, b, _, rfl, .inl (SqL.of hb), tv wd, rfl, tx wd, rfl, by rw [tx_len]; exact small_line (by omega), rfl, _, rfl, ?_⟩
    rw [tx_len, hc.length]
    by_cases e0 : cs.length = wd.length
    · rw [e0, decide_eq_true rfl]
      refine iteT ⟨.ref b, rfl, by show 1 ≤ sizeLine; decide, fun p np => ?_⟩
      refine q _ p _ (same_new np) np upd_same ?_
      have ed : wd.drop cs.length = [] := by rw [e0]; exact List.drop_length
      rw [ed]
      exact .cons ⟨b, xs, rfl, .inr ⟨rfl, e0⟩, (same_new np) _ _ hb, hc.le (TupLe.of (same_new np))⟩ .nil
    · rw [decide_eq_false fun z => e0 (by have := V.int.inj z; omega)]
      refine iteF ⟨Nat.zero_le _, fun p np => ?_⟩
      have s1 := same_new (o := .lst []) np
      have hlt : cs.length < wd.length := by omega
      refine ⟨.ref a, rfl, .ref b, rfl, a, F, h, w, b, xs, cs, rfl, o.same s1, SqL.of (s1 _ _ hb), hc.le (TupLe.of s1), hv, fun H2 e ys s2 ne he hy => ?_⟩
      have hp2 : H2 p = some (.lst []) := s2 _ _ upd_same
      have nep : e ≠ p := fun z => by rw [z, upd_same] at ne; cases ne
      have sH2 : Same H H2 := s1.trans s2
      have neH : H e = none := s1.free ne
      have l0 : wd[cs.length]? = some wd[cs.length] := List.getElem?_eq_getElem hlt
      have hdrop : wd.drop cs.length = wd[cs.length] :: wd.drop (cs.length + 1) := List.drop_eq_getElem_cons hlt
      have tot := snakes_len (F := F) h5 w5 (r := wd.drop cs.length) hv (by rw [List.length_drop]; omega)
      rw [hdrop] at q tot
      let f1 : Cel → List (List Cel) := fun c => if at_ F c = wd[cs.length] then snakesOn F h w (wd.drop (cs.length + 1)) (cs ++ [c]) else []
      have tot2 : ((nextL h w cs).flatMap f1).length ≤ 1000000 := tot
      refine ⟨e, rfl, ⟨_, SqL.of he⟩, for_it (walk_list (xs := ys)) (fun i σ H' => ∃ y4 zs, σ = [some (.ref a), some (tv wd), some (.ref b), some (.ref p), y4] ∧ Kb p H2 H' ∧ H' p = some (.lst zs) ∧ Snks K (fun q => H q = none ∧ q ≠ p) H' zs (((nextL h w cs).take i).flatMap f1))
        ⟨none, [], rfl, fun _ _ _ z => z, hp2, .nil⟩ (fun i σ H' _ pv => by obtain ⟨_, _, _, kb, _⟩ := pv; exact SqL.of (kb _ _ nep he)) (fun i x σ H3o H3 hi pv y => ?_) fun σ H3 pv => ?_⟩
      · obtain ⟨rfl, hx⟩ := y
        obtain ⟨y4, zs, rfl, kb, hp3, hz⟩ := pv
        obtain ⟨c, hci, vc⟩ := Paired.get hy hx
        have hcm : c ∈ cellsL h w := next_mem h5 w5 hv (List.mem_of_getElem? hci)
        have sH3 : Same H H3 := fun b o eb => kb b o (ne_of_none eb np) (sH2 b o eb)
        have le3 : TupLe H2 H3 := TupLe.kb hp2 kb
        have hb3 := sH3 _ _ hb
        have hc3 := hc.le (TupLe.of sH3)
        refine ⟨.ref a, rfl, x, rfl, a, F, h, w, x, c, rfl, o.same sH3, vc.le le3, hcm, tv wd, rfl, .ref b, rfl, b, _, rfl, .inl (SqL.of hb3), tx wd, _, wd[cs.length], rfl, rfl, by rw [tx_len]; exact small_line (by omega), ?_, rfl, _, rfl, ?_⟩
        · rw [tx_cps, hc.length]
          exact atI_nat l0
        rw [one_sign]
        by_cases el : at_ F c = wd[cs.length]
        · rw [decide_eq_true el]
          refine iteT ⟨.ref p, rfl, .inl ⟨rfl, _, SqL.of hp3⟩, .ref a, rfl, tv wd, rfl, .ref b, rfl, x, rfl, by show 1 ≤ sizeLine; decide, fun u nu => ?_⟩
          have su := same_new (o := .lst [x]) nu
          refine ⟨b, u, xs, [x], rfl, rfl, su _ _ hb3, upd_same, by rw [hc.length]; exact small_line (by show cs.length + 1 ≤ _; omega), fun nb nnb => ?_⟩
          have snb := same_new (o := .lst (xs ++ [x])) nnb
          have s34 := su.trans snb
          have cnb : Cells K _ (xs ++ [x]) (cs ++ [c]) := Paired.snoc (hc3.le (TupLe.of s34)) (vc.le (le3.trans (TupLe.of s34)))
          refine hsp _ _ _ _ (by omega) ⟨a, F, h, w, wd, nb, xs ++ [x], cs ++ [c], rfl, o.same (sH3.trans s34), upd_same, cnb, hv.snoc hcm, h6, by rw [List.length_append]; show cs.length + 1 ≤ _; omega, by rw [List.length_append]; show _ ≤ cs.length + 1 + _; omega, fun H5 rs ws s5 nrs hrs hw => ?_⟩
          have hp5 := s5 _ _ (s34 _ _ hp3)
          have nprs : rs ≠ p := fun z => by rw [z] at nrs; rw [s34 _ _ hp3] at nrs; cases nrs
          have esn : snakesOn F h w (wd.drop (cs ++ [c]).length) (cs ++ [c]) = f1 c := by
            show _ = if at_ F c = wd[cs.length] then _ else _
            rw [if_pos el, List.length_append]
            rfl
          rw [esn] at hw
          have hall := take_flat_le f1 (nextL h w cs) (i + 1)
          have etk : ((nextL h w cs).take (i + 1)).flatMap f1 = ((nextL h w cs).take i).flatMap f1 ++ f1 c := by
            rw [take_one_more hci, List.flatMap_append, List.flatMap_cons, List.flatMap_nil, List.append_nil]
          refine ⟨p, rs, zs, ws, rfl, rfl, hp5, hrs, ?_, ?_⟩
          · rw [hz.length, hw.length]
            rw [etk, List.length_append] at hall
            exact small_line (by omega)
          · refine ⟨_, zs ++ ws, rfl, ?_, upd_same, ?_⟩
            · exact Kb.upd fun b o nb' eb => s5 b o (s34 b o (kb b o nb' eb))
            · rw [etk]
              refine Paired.app ?_ ?_
              · exact ((hz.same (s34.trans s5)).upd hp5 fun q hq => hq.2)
              · refine Snks.imp (Snks.upd hw hp5 fun q hq => ?_) fun q hq => ?_
                · rcases hq with hq | ⟨rfl, _⟩
                  · intro z; rw [z, s34 _ _ hp3] at hq; cases hq
                  · intro z; rw [z, su _ _ hp3] at nnb; cases nnb
                · rcases hq with hq | ⟨rfl, _⟩
                  · refine ⟨(sH3.trans s34).free hq, fun z => ?_⟩
                    rw [z, s34 _ _ hp3] at hq; cases hq
                  · refine ⟨(sH3.trans su).free nnb, fun z => ?_⟩
                    rw [z, su _ _ hp3] at nnb; cases nnb
        · rw [decide_eq_false el]
          refine iteF ⟨_, zs, rfl, kb, hp3, ?_⟩
          have ef : f1 c = [] := if_neg el
          rw [take_one_more hci, List.flatMap_append, List.flatMap_cons, List.flatMap_nil, List.append_nil, ef, List.append_nil]
          exact hz
      · obtain ⟨y4, zs, rfl, kb, hp3, hz⟩ := pv
        have sH3 : Same H H3 := fun b o eb => kb b o (ne_of_none eb np) (sH2 b o eb)
        refine ⟨.ref p, rfl, q H3 p zs sH3 np hp3 ?_⟩
        rw [hy.length, List.take_length] at hz
        exact hz.imp fun q hq => .inl hq.1
theorem ok_snakes_on (D : Dfn K mg "snakes_on" s_snakes_on) (B : Bi mg) (c_next_cells : Cal P wl K mg base CX0 2 "next_cells" ["field", "cells"] (spNext K)) (c_letter_at : Cal P wl K mg base CX0 1 "letter_at" ["field", "cell"] (spLetterAt K)) :
    ∀ r, Cal P wl K mg base CX0 (3 + r) "snakes_on" ["field", "word", "cells"] (spSnakesOn K r)
  | 0 => ok_snakes_on_step D B c_next_cells c_letter_at (k := 2) (r := 0) (by omega) (D.cal0 bn_snakes_on) fun _ _ _ _ h => absurd rfl h
  | r + 1 => ok_snakes_on_step D B c_next_cells c_letter_at (k := 3 + r) (r := r + 1) (by omega) (ok_snakes_on D B c_next_cells c_letter_at r) fun _ _ _ _ _ h => h
theorem ok_longest (D : Dfn K mg "longest" s_longest) (B : Bi mg) (c_snakes_on : Cal P wl K mg base CX0 9 "snakes_on" ["field", "word", "cells"] (spSnakesOn K 6)) : Cal P wl K mg base CX0 10 "longest" ["field", "word"] (spLongest K) := by
  refine D.cal sc_longest bn_longest (fun vs H Q E h => ?_) (fun f cdv A outer s H vs Q E hr h => ?_)
  · obtain ⟨a, F, h, w, wd, rfl, _⟩ := h
    rfl
  · obtain ⟨a, F, h, w, wd, rfl, o, h6, q⟩ := h
    refine ⟨_, (pss_cons (ps_set (i := 2) sc_longest.nd rfl (.inl rfl) pe_int)
 (pss_cons (ps_while PassesOwn.never (PW.pt (pw_and (pt_cmpR op_lt (pv 2) (pe_callB call_len_str (by rfl) B.len PySem.boot_len (pa_cons (pv 1) pa_nil)) (nomark _)) (pw_and1 (pt_cmpR (neDK K hr.units) (pcall c_snakes_on (hr.mono (by omega)) (by rfl) pass0 (pa_cons (pv 0) (pa_cons (pe_slice sl_str (pv 1) po_none (po_some (pe_op op_add (pv 2) pe_int))) (pa_cons (pe_lst pa_nil) pa_nil)))) (pe_lst pa_nil) (nomark _)))))
 (pss_one (ps_aug (i := 2) sc_longest.nd rfl (.inl rfl) pe_int ip_add)))
 (pss_one (ps_ret (pv 2))))), ?_⟩
    have h5 := o.2.h5
    have w5 := o.2.w5
    refine ⟨fun m σ H' => ∃ n : Nat, σ = [some (.ref a), some (tv wd), some (.int (n : Int))] ∧ Same H H' ∧ n ≤ wd.length ∧ ne_ F h w wd n = true ∧ m = wd.length - n, ⟨_, 0, rfl, Same.refl _, Nat.zero_le _, ne_zero F h w wd, rfl⟩, fun m σ H1 hW => ?_⟩
    obtain ⟨n, rfl, s1, hn, hne, rfl⟩ := hW
    refine ⟨.int n, rfl, tv wd, rfl, tx wd, rfl, by rw [tx_len]; exact small_line (by omega), _, _, rfl, rfl, _, rfl, ?_⟩
    rw [tx_len]
    by_cases hlt : n < wd.length
    · rw [decide_eq_true (by omega)]
      refine iteT ⟨.ref a, rfl, tv wd, rfl, .int n, rfl, n, 1, rfl, rfl, ((n + 1 : Nat) : Int), rfl, tx wd, rfl, by rw [tx_len]; exact small_line (by omega), Nat.zero_le _, fun e ne => ?_⟩
      rw [cutS_take]
      have se := same_new (o := .lst []) ne
      refine ⟨a, F, h, w, wd.take (n + 1), e, [], [], rfl, o.same (s1.trans se), upd_same, .nil, vld_nil h w, by rw [List.length_take]; omega, Nat.zero_le _, by rw [List.length_take]; omega, fun H2 p ys s2 np hp hy => ?_⟩
      have s12 := s1.trans (se.trans s2)
      refine ⟨Nat.zero_le _, fun u nu => ?_⟩
      have su := same_new (o := .lst []) nu
      refine ⟨_, snakesD [], snks_dp (SqL.of (su _ _ hp)) (hy.same su), .lst (SqL.of upd_same) .nil, (shp_snakes _).ok, (shp_snakes _).ok, _, rfl, ?_⟩
      rw [eqv_snakes]
      have e1 : (!decide (snakesOn F h w (List.drop ([] : List Cel).length (wd.take (n + 1))) [] = [])) = ne_ F h w wd (n + 1) := rfl
      rw [e1]
      cases e2 : ne_ F h w wd (n + 1) with
      | true =>
        refine iteT ⟨fun σ' H' => ∃ n' : Nat, σ' = [some (.ref a), some (tv wd), some (.int (n' : Int))] ∧ Same H H' ∧ n' = n + 1, fun σ' H' hN => ?_, ?_⟩
        · obtain ⟨n', e3, s3, rfl⟩ := hN
          exact ⟨wd.length - (n + 1), by omega, n + 1, e3, s3, by omega, e2, rfl⟩
        · exact ⟨.int n, rfl, n, 1, rfl, rfl, n + 1, rfl, s12.trans su, rfl⟩
      | false =>
        exact iteF ⟨.int n, rfl, q _ n (s12.trans su) (lgst_of h5 w5 hn hne fun _ => e2)⟩
    · rw [decide_eq_false (by omega)]
      exact iteF (iteF ⟨.int n, rfl, q _ n s1 (lgst_of h5 w5 hn hne fun z => absurd z hlt)⟩)
end
end Sk
namespace Sk
open PySem PySem.Spec PyProof.Rows L2 Sn
section
variable {P : Program} {wl : World} {K : PySem.W.Frag} {mg : Str → Option Value} {base : Heap} {C_Found C_Stops : Addr}
theorem ok_Found_init (D : DfnI K C_Found "Found.__init__" s_Found___init__) (B : Bi mg) (k_Found : Kls K mg "Found" C_Found) (n_Found : NoAttr K C_Found "cells") : CalI P wl K mg base CX0 1 C_Found ["self", "cells"] (spFoundInit K C_Found) := by
  refine D.cal sc_Found___init__ bn_Found___init__ (fun vs H Q E h => ?_) (fun f cdv A outer s H vs Q E hr h => ?_)
  · obtain ⟨x, dx, l0, xs, rfl, _⟩ := h
    rfl
  · obtain ⟨x, dx, l0, xs, rfl, hx, hl, q⟩ := h
    refine ⟨_, (pss_one (ps_fld (pv 0) (pe_callTy (listOf K) (by rfl) B.list (by decide +kernel) (pa_cons (pv 1) pa_nil)) rfl)), ?_⟩
    refine ⟨.ref l0, rfl, l0, _, rfl, .inl hl, fun l nl => ?_⟩
    have sl := same_new (o := .lst xs) nl
    have nlx : l ≠ x := fun z => by rw [z, hx] at nl; cases nl
    refine ⟨.ref x, rfl, x, C_Found, dx, [], rfl, sl _ _ hx, k_Found.cl, n_Found, by decide, ?_⟩
    exact q _ l (Kb.upd (Kb.of sl)) upd_same nl (by rw [upd_ne nlx]; exact upd_same)
theorem ok_Stops_init (D : DfnI K C_Stops "Stops.__init__" s_Stops___init__) (B : Bi mg) (k_Stops : Kls K mg "Stops" C_Stops) (n_Stops : NoAttr K C_Stops "many") : CalI P wl K mg base CX0 1 C_Stops ["self", "many"] (spStopsInit C_Stops) := by
  refine D.cal sc_Stops___init__ bn_Stops___init__ (fun vs H Q E h => ?_) (fun f cdv A outer s H vs Q E hr h => ?_)
  · obtain ⟨x, dx, m, rfl, _⟩ := h
    rfl
  · obtain ⟨x, dx, m, rfl, hx, q⟩ := h
    refine ⟨_, (pss_one (ps_fld (pv 0) (pv 1) rfl)), ?_⟩
    refine ⟨.int m, rfl, .ref x, rfl, x, C_Stops, dx, [], rfl, hx, k_Stops.cl, n_Stops, by decide, ?_⟩
    exact q _ (Kb.upd (Kb.of (Same.refl _))) upd_same
theorem ok_Found_shows (D : DfnM K C_Found "shows" "Found.shows" s_Found_shows) (B : Bi mg) (k_Found : Kls K mg "Found" C_Found) (n_Found : NoAttr K C_Found "cells") (c_is_snake : Cal P wl K mg base CX0 3 "is_snake" ["field", "cells"] (spIsSnake K)) (c_spelled : Cal P wl K mg base CX0 2 "spelled" ["field", "cells"] (spSpelled K)) :
    CalM P wl K mg base CX0 4 C_Found "shows" ["self", "field", "word"] (spFoundShows K C_Found) := by
  refine D.cal sc_Found_shows bn_Found_shows (fun vs H Q E h => ?_) (fun f cdv A outer s H vs Q E hr h => ?_)
  · obtain ⟨x, dx, l, xs, cs, a, F, h, w, wd, rfl, _⟩ := h
    rfl
  · obtain ⟨x, dx, l, xs, cs, a, F, h, w, wd, rfl, hx, hl, hc, h64, o, q⟩ := h
    refine ⟨_, (pss_one (ps_ret (pe_and (pcall c_is_snake (hr.mono (by omega)) (by rfl) pass0 (pa_cons (pv 1) (pa_cons (fldK K (pv 0) rfl) pa_nil))) (pe_one (pe_cmpR op_eq (pcall c_spelled (hr.mono (by omega)) (by rfl) pass0 (pa_cons (pv 1) (pa_cons (fldK K (pv 0) rfl) pa_nil))) (pv 2) (nomark _)))))), ?_⟩
    refine ⟨.ref a, rfl, .ref x, rfl, x, C_Found, dx, _, .ref l, rfl, hx, k_Found.cl, n_Found, rfl, a, F, h, w, l, xs, cs, rfl, o, hl, hc, h64, fun H1 s1 => ⟨_, rfl, ?_⟩⟩
    unfold foundB at q
    cases e : snakeB h w cs with
    | false =>
      rw [e] at q
      exact iteF (q H1 s1)
    | true =>
      rw [e] at q
      refine iteT ⟨.ref a, rfl, .ref x, rfl, x, C_Found, dx, _, .ref l, rfl, s1 _ _ hx, k_Found.cl, n_Found, rfl, a, F, h, w, l, xs, cs, rfl, o.same s1, s1.seq hl, hc.le (TupLe.of s1), (snakeB_iff.mp e).2.vld, by omega, fun H2 s2 => ⟨tv wd, rfl, rfl, ?_⟩⟩
      have e2 : decide (tv (spell F cs) = tv wd) = decide (spell F cs = wd) := by
        by_cases z : spell F cs = wd
        · rw [z, decide_eq_true (show tv wd = tv wd from rfl), decide_eq_true (show wd = wd from rfl)]
        · rw [decide_eq_false z]
          exact decide_eq_false fun y => z (tx_inj (V.str.inj y))
      rw [e2]
      exact q H2 (s1.trans s2)
theorem ok_Stops_shows (D : DfnM K C_Stops "shows" "Stops.shows" s_Stops_shows) (B : Bi mg) (k_Stops : Kls K mg "Stops" C_Stops) (n_Stops : NoAttr K C_Stops "many") (c_longest : Cal P wl K mg base CX0 10 "longest" ["field", "word"] (spLongest K)) :
    CalM P wl K mg base CX0 11 C_Stops "shows" ["self", "field", "word"] (spStopsShows K C_Stops) := by
  refine D.cal sc_Stops_shows bn_Stops_shows (fun vs H Q E h => ?_) (fun f cdv A outer s H vs Q E hr h => ?_)
  · obtain ⟨x, dx, m, a, F, h, w, wd, rfl, _⟩ := h
    rfl
  · obtain ⟨x, dx, m, a, F, h, w, wd, rfl, hx, h6, o, q⟩ := h
    refine ⟨_, (pss_one (ps_ret (pe_and (pe_cmpR op_lt (fldK K (pv 0) rfl) (pe_callB call_len_str (by rfl) B.len PySem.boot_len (pa_cons (pv 2) pa_nil)) (nomark _)) (pe_one (pe_cmpR op_eq (fldK K (pv 0) rfl) (pcall c_longest (hr.mono (by omega)) (by rfl) pass0 (pa_cons (pv 1) (pa_cons (pv 2) pa_nil))) (nomark _)))))), ?_⟩
    refine ⟨.ref x, rfl, x, C_Stops, dx, _, .int m, rfl, hx, k_Stops.cl, n_Stops, rfl, tv wd, rfl, tx wd, rfl, by rw [tx_len]; exact small_line (by omega), _, _, rfl, rfl, _, rfl, ?_⟩
    rw [tx_len]
    cases e : decide (m < (wd.length : Int)) with
    | false =>
      obtain ⟨k, hk⟩ := lgst_ex (F := F) o.2.h5 o.2.w5 wd
      have q2 := q H k (Same.refl _) hk
      rw [e] at q2
      exact iteF q2
    | true =>
      refine iteT ⟨.ref x, rfl, x, C_Stops, dx, _, .int m, rfl, hx, k_Stops.cl, n_Stops, rfl, .ref a, rfl, tv wd, rfl, a, F, h, w, wd, rfl, o, h6, fun H1 k s1 hk => ⟨rfl, ?_⟩⟩
      have q2 := q H1 k s1 hk
      rw [e, Bool.true_and] at q2
      have e2 : decide (V.int m = V.int (k : Int)) = decide (m = (k : Int)) := by
        by_cases z : m = (k : Int)
        · rw [decide_eq_true z, z]; exact decide_eq_true rfl
        · rw [decide_eq_false z]
          exact decide_eq_false fun y => z (V.int.inj y)
      rw [e2]
      exact q2
end
end Sk
namespace Sk
open PySem PySem.Spec PyProof.Rows L2 Sn
section
variable {P : Program} {wl : World} {K : PySem.W.Frag} {mg : Str → Option Value} {base : Heap}
theorem ok_law_snakes (D : Dfn K mg "_law_snakes" s__law_snakes) (B : Bi mg) (c_law_cells : Cal P wl K mg base CX0 1 "_law_cells" ["_law_field_here"] (spCells K)) (c_law_beside : Cal P wl K mg base CX0 1 "_law_beside" ["_law_one", "_law_other"] (spBeside K)) :
    Cal P wl K mg base CX0 2 "_law_snakes" ["_law_field_here", "_law_word_here"] (spLSnakes K) := by
  refine D.cal sc__law_snakes bn__law_snakes (fun vs H Q E h => ?_) (fun f cdv A outer s H vs Q E hr h => ?_)
  · obtain ⟨a, F, h, w, wd, rfl, _⟩ := h
    rfl
  · obtain ⟨a, F, h, w, wd, rfl, o, h6, q⟩ := h
    refine ⟨_, (pss_cons (ps_set (i := 2) sc__law_snakes.nd rfl (.inl rfl) (pe_lst (pa_cons (pe_lst pa_nil) pa_nil)))
 (pss_cons (ps_for PassesOwn.never rfl (pi_str (pv 1)) (pg_name (i := 3) sc__law_snakes.nd rfl (.inl rfl))
 (pss_cons (ps_set (i := 4) sc__law_snakes.nd rfl (.inl rfl) (pe_lst pa_nil))
 (pss_cons (ps_for PassesOwn.never rfl (piL K (pv 2)) (pg_name (i := 5) sc__law_snakes.nd rfl (.inl rfl))
 (pss_one (ps_for PassesOwn.never rfl (piL K (pcall c_law_cells (hr.mono (by omega)) (by rfl) pass0 (pa_cons (pv 0) pa_nil))) (pg_name (i := 6) sc__law_snakes.nd rfl (.inl rfl))
 (pss_cons (ps_set (i := 7) sc__law_snakes.nd rfl (.inl rfl) (pe_and (pe_cmpR op_eq (pe_ix ix_str (pe_ix (ixL K) (pv 0) (pe_ix (ixT K) (pv 6) pe_int (fun _ _ => rfl)) (fun _ _ => rfl)) (pe_ix (ixT K) (pv 6) pe_int (fun _ _ => rfl)) (fun _ _ => rfl)) (pv 3) (nomark _)) (pe_one (pe_cmpR (notInDK K (hu65 hr)) (pv 6) (pv 5) (by rfl)))))
 (pss_one (ps_if (PW.pt (pw_and (pt_val (pv 7)) (pw_and1 (PW.pt (pw_or (pt_cmpR (eqDK K hr.units) (pv 5) (pe_lst pa_nil) (nomark _)) (pw_or1 (pt_val (pcall c_law_beside (hr.mono (by omega)) (by rfl) pass0 (pa_cons (pe_ix (ixL K) (pv 5) (pe_un un_neg pe_int) (fun _ _ => rfl)) (pa_cons (pv 6) pa_nil))))))))))
 (pss_one (ps_expr (pe_bm PySem.F.plainAttrs_list PySem.F.slot_list_append PySem.F.type_list_append mt_append (pv 4) (pa_cons (pe_op op_cat (pv 5) (pe_lst (pa_cons (pv 6) pa_nil))) pa_nil)))) pss_nil))))))
 (pss_one (ps_set (i := 2) sc__law_snakes.nd rfl (.inl rfl) (pv 4))))))
 (pss_one (ps_ret (pv 2))))), ?_⟩
    have h5 := o.2.h5
    have w5 := o.2.w5
    have tot : ∀ i, (bfs F h w (wd.take i)).length ≤ 1000000 := fun i => by
      rw [bfs_eq h5 w5]
      exact snakes_len h5 w5 (vld_nil h w) (by rw [List.length_take]; omega)
    -- found = [[]]
    refine ⟨Nat.zero_le _, fun e ne => ⟨by show 1 ≤ sizeLine; decide, fun p np => ?_⟩⟩
    have se := same_new (o := .lst []) ne
    have sp := same_new (o := .lst [.ref e]) np
    refine ⟨tv wd, rfl, tx wd, rfl, for_it walk_str (fun i σ H' => i ≤ wd.length ∧ ∃ y3 y4 y5 y6 y7 f ys, σ = [some (.ref a), some (tv wd), some (.ref f), y3, y4, y5, y6, y7] ∧ Same H H' ∧ H f = none ∧ H' f = some (.lst ys) ∧ Snks K (fun q => H q = none) H' ys (bfs F h w (wd.take i)))
      ⟨Nat.zero_le _, none, none, none, none, none, p, [.ref e], rfl, se.trans sp, se.free np, upd_same, .cons ⟨e, [], rfl, ne, sp _ _ upd_same, .nil⟩ .nil⟩ (fun _ _ _ _ _ => trivial) (fun i x σ H1o H1 hi pv y => ?_) fun σ H1 pv => ?_⟩
    · obtain ⟨rfl, l, hl, rfl⟩ := y
      obtain ⟨_, y3, y4, y5, y6, y7, f0, ys, rfl, s1, nf0, hf0, hy⟩ := pv
      have hiw : i < wd.length := by rw [← tx_len wd]; exact hi
      have hlw : wd[i]? = some l := by rw [← hl]; show wd[i]? = wd.toArray[i]?; simp
      -- longer = []
      refine ⟨Nat.zero_le _, fun g ng => ?_⟩
      have sg := same_new (o := .lst []) ng
      have nfg : f0 ≠ g := fun z => by rw [z] at hf0; rw [hf0] at ng; cases ng
      have ngH : H g = none := s1.free ng
      have hg0 : upd H1 g (.lst []) g = some (.lst []) := upd_same
      refine ⟨.ref f0, rfl, f0, rfl, ⟨_, SqL.of (sg _ _ hf0)⟩, for_it (walk_list (xs := ys)) (fun j σ H' => ∃ y5 y6 y7 zs, σ = [some (.ref a), some (tv wd), some (.ref f0), some (.str ⟨#[l]⟩), some (.ref g), y5, y6, y7] ∧ Kb g (upd H1 g (.lst [])) H' ∧ H' g = some (.lst zs) ∧ Snks K (fun q => H q = none ∧ q ≠ g) H' zs (((bfs F h w (wd.take i)).take j).flatMap (stepL F h w l)))
        ⟨y5, y6, y7, [], rfl, fun _ _ _ z => z, upd_same, .nil⟩ (fun j σ H' _ pv => by obtain ⟨_, _, _, _, _, kb, _⟩ := pv; exact SqL.of (kb _ _ nfg (sg _ _ hf0))) (fun j x σ H2o H2 hj pv y => ?_) fun σ H2 pv => ?_⟩
      · obtain ⟨rfl, hx⟩ := y
        obtain ⟨y5, y6, y7, zs, rfl, kb, hg2, hz⟩ := pv
        obtain ⟨cs, hcs, ⟨b, xs, rfl, nb, hb, hc⟩⟩ := Paired.get hy hx
        have nbg : b ≠ g := fun z => by rw [z] at hb; rw [hb] at ng; cases ng
        have sH2 : Same H H2 := fun b o eb => kb b o (ne_of_none eb ngH) (sg _ _ (s1 b o eb))
        have le2 : TupLe H1 H2 := (TupLe.of sg).trans (TupLe.kb hg0 kb)
        have hb2 : H2 b = some (.lst xs) := kb _ _ nbg (sg _ _ hb)
        have hc2 := hc.le le2
        have vcs : Vld h w cs := by
          have hm := List.mem_of_getElem? hcs
          rw [bfs_eq h5 w5] at hm
          exact (snakes_mem h5 w5 hm).1.vld
        have lcs : cs.length ≤ 6 := by
          have hm := List.mem_of_getElem? hcs
          rw [bfs_eq h5 w5] at hm
          have := congrArg List.length (snakes_mem h5 w5 hm).2
          rw [List.length_take] at this
          simp only [spell, List.length_map] at this
          omega
        refine ⟨.ref a, rfl, a, F, h, w, rfl, o.same sH2, fun H3 c3 ws s3 nc3 hc3 hw => ?_⟩
        have nc3g : c3 ≠ g := fun z => by rw [z, hg2] at nc3; cases nc3
        have hg3 := s3 _ _ hg2
        have stt : ((bfs F h w (wd.take i)).take j).flatMap (stepL F h w l) ++ stepL F h w l cs = ((bfs F h w (wd.take i)).take (j + 1)).flatMap (stepL F h w l) := by
          rw [take_one_more hcs, List.flatMap_append, List.flatMap_cons, List.flatMap_nil, List.append_nil]
        have totl : (((bfs F h w (wd.take i)).take (j + 1)).flatMap (stepL F h w l)).length ≤ 1000000 := by
          refine Nat.le_trans (take_flat_le _ _ _) ?_
          have e := tot (i + 1)
          rw [take_one_more hlw, bfs_snoc] at e
          exact e
        rw [← stt, List.length_append] at totl
        refine ⟨c3, rfl, ⟨_, SqL.of hc3⟩, for_it (walk_list (xs := ws)) (fun k σ H' => ∃ y6 y7 us, σ = [some (.ref a), some (tv wd), some (.ref f0), some (.str ⟨#[l]⟩), some (.ref g), some (.ref b), y6, y7] ∧ Kb g H3 H' ∧ H' g = some (.lst us) ∧ Snks K (fun q => H q = none ∧ q ≠ g) H' us (((bfs F h w (wd.take i)).take j).flatMap (stepL F h w l) ++ (((cellsL h w).take k).filter (stepB F l cs)).map fun c => cs ++ [c]))
          ⟨y6, y7, zs, rfl, fun _ _ _ z => z, hg3, by simpa using hz.same s3⟩ (fun k σ H' _ pv => by obtain ⟨_, _, _, _, kb, _⟩ := pv; exact SqL.of (kb _ _ nc3g hc3)) (fun k x σ H4o H4 hk pv y => ?_) fun σ H4 pv => ?_⟩
        · obtain ⟨rfl, hx3⟩ := y
          obtain ⟨y6, y7, us, rfl, kb4, hg4, hu⟩ := pv
          obtain ⟨c, hci, vc0⟩ := Paired.get hw hx3
          have hcm : c ∈ cellsL h w := List.mem_of_getElem? hci
          have le34 : TupLe H3 H4 := TupLe.kb hg3 kb4
          obtain ⟨t, rfl, ht⟩ := vc0.le le34
          have vc : CellV K H4 (.ref t) c := ⟨t, rfl, ht⟩
          have hb4 : H4 b = some (.lst xs) := kb4 _ _ nbg (s3 _ _ hb2)
          have hc4 := (hc2.le (TupLe.of s3)).le le34
          have sH4 : Same H H4 := fun b o eb => kb4 b o (ne_of_none eb ngH) (s3 _ _ (sH2 b o eb))
          have o4 := o.same sH4
          obtain ⟨r, g1, g2, g3⟩ := o4.at_cell hcm
          have tk1 : (cellsL h w).take (k + 1) = (cellsL h w).take k ++ [c] := take_one_more hci
          have lus : us.length < sizeLine := by
            have e := hu.length
            rw [List.length_append, List.length_map] at e
            have e2 : (((cellsL h w).take k).filter (stepB F l cs)).length ≤ 25 := by
              refine Nat.le_trans (List.length_filter_le _ _) ?_
              refine Nat.le_trans (List.length_take_le' _ _) ?_
              have e9 := next_len h5 w5 (vld_nil h w)
              exact e9
            exact Nat.lt_of_le_of_lt (show us.length ≤ 1000025 by omega) (by rw [sizeLine_eq]; decide)
          -- what holds behind the turn where the cell is not taken
          have fin0 : stepB F l cs c = false → ∀ σ' y7, σ' = [some (.ref a), some (tv wd), some (.ref f0), some (.str ⟨#[l]⟩), some (.ref g), some (.ref b), some (.ref t), y7] → ∀ H', Same H4 H' →
              ∃ y6 y7 us, σ' = [some (.ref a), some (tv wd), some (.ref f0), some (.str ⟨#[l]⟩), some (.ref g), some (.ref b), y6, y7] ∧ Kb g H3 H' ∧ H' g = some (.lst us) ∧ Snks K (fun q => H q = none ∧ q ≠ g) H' us (((bfs F h w (wd.take i)).take j).flatMap (stepL F h w l) ++ (((cellsL h w).take (k + 1)).filter (stepB F l cs)).map fun c => cs ++ [c]) := by
            intro hst σ' y7' hσ H' s'
            refine ⟨_, _, us, hσ, fun b o n eb => s' _ _ (kb4 b o n eb), s' _ _ hg4, ?_⟩
            rw [tk1, List.filter_append, List.filter_cons, hst, if_neg Bool.false_ne_true, List.filter_nil, List.append_nil]
            exact hu.same s'
          refine ⟨.ref a, rfl, .ref t, rfl, t, _, 0, .int c.1, rfl, rfl, ht, atI_nat (j := 0) rfl, a, _, c.1, _, rfl, rfl, o4.1, g1, .ref t, rfl, t, _, 1, .int c.2, rfl, rfl, ht, atI_nat (j := 1) rfl, tx r, c.2, at_ F c, rfl, rfl, by rw [tx_len, g2]; exact o.w_line, by rw [tx_cps]; exact g3, .str ⟨#[l]⟩, rfl, rfl, _, rfl, ?_⟩
          rw [show decide (V.str ⟨#[at_ F c]⟩ = V.str ⟨#[l]⟩) = decide (at_ F c = l) from one_sign _ _]
          cases el : decide (at_ F c = l) with
          | false =>
            have hst : stepB F l cs c = false := by unfold stepB; rw [el]; rfl
            exact iteF ⟨.bl false, rfl, false, rfl, iteF (iteF (fin0 hst _ _ rfl _ (Same.refl _)))⟩
          | true =>
            refine iteT ⟨.ref t, rfl, .ref b, rfl, _, _, vc.dp, cells_dp (SqL.of hb4) hc4, (shp_cell _).ok, (shp_cells _).ok, ?_⟩
            rw [any_cells]
            refine ⟨.bl (!decide (c ∈ cs)), rfl, _, rfl, ?_⟩
            cases en : (!decide (c ∈ cs)) with
            | false =>
              have hst : stepB F l cs c = false := by unfold stepB; rw [el, en]; rfl
              exact iteF (iteF (fin0 hst _ _ rfl _ (Same.refl _)))
            | true =>
              refine iteT ⟨.ref b, rfl, Nat.zero_le _, fun u nu => ?_⟩
              have su := same_new (o := .lst []) nu
              refine ⟨_, cellsD [], cells_dp (SqL.of (su _ _ hb4)) (hc4.le (TupLe.of su)), cells_dp (SqL.of upd_same) .nil, (shp_cells _).ok, (shp_cells _).ok, _, rfl, ?_⟩
              rw [eqv_cells]
              -- what holds where it is taken
              have fin1 : stepB F l cs c = true → ∀ H5, Same H4 H5 → tDrop (tBM K "list" rAppend (tVar 4) (tCons (tOp rCat (tVar 5) (tLst (tCons (tVar 6) tNil))) tNil))
                  { nx := fun σ' H' => ∃ y6 y7 us, σ' = [some (.ref a), some (tv wd), some (.ref f0), some (.str ⟨#[l]⟩), some (.ref g), some (.ref b), y6, y7] ∧ Kb g H3 H' ∧ H' g = some (.lst us) ∧ Snks K (fun q => H q = none ∧ q ≠ g) H' us (((bfs F h w (wd.take i)).take j).flatMap (stepL F h w l) ++ (((cellsL h w).take (k + 1)).filter (stepB F l cs)).map fun c => cs ++ [c]), rt := Q }
                  [some (.ref a), some (tv wd), some (.ref f0), some (.str ⟨#[l]⟩), some (.ref g), some (.ref b), some (.ref t), some (.bl true)] H5 := by
                intro hst H5 s5
                have hg5 := s5 _ _ hg4
                have hb5 := s5 _ _ hb4
                refine ⟨.ref g, rfl, .inl ⟨rfl, _, SqL.of hg5⟩, .ref b, rfl, .ref t, rfl, by show 1 ≤ sizeLine; decide, fun v nv => ?_⟩
                have sv := same_new (o := .lst [.ref t]) nv
                refine ⟨b, v, xs, [.ref t], rfl, rfl, sv _ _ hb5, upd_same, by rw [hc.length]; exact small_line (by show cs.length + 1 ≤ _; omega), fun nb' nnb => ?_⟩
                have snb := same_new (o := .lst (xs ++ [.ref t])) nnb
                have s6 := s5.trans (sv.trans snb)
                have hg6 := s6 _ _ hg4
                have nbg' : nb' ≠ g := fun z => by rw [z, sv _ _ hg5] at nnb; cases nnb
                refine ⟨g, us, .ref nb', rfl, rfl, hg6, lus, _, _, us ++ [.ref nb'], rfl, Kb.upd fun b o n eb => s6 _ _ (kb4 b o n eb), upd_same, ?_⟩
                rw [tk1, List.filter_append, List.filter_cons, hst, if_pos rfl, List.filter_nil, List.map_append, ← List.append_assoc]
                refine Paired.snoc ((hu.same s6).upd hg6 fun q hq => hq.2) ?_
                refine ⟨nb', xs ++ [.ref t], rfl, ⟨(sH4.trans (s5.trans sv)).free nnb, nbg'⟩, by rw [upd_ne nbg']; exact upd_same, ?_⟩
                exact Cells.le (Paired.snoc (hc4.le (TupLe.of s6)) (vc.le (TupLe.of s6))) (TupLe.upd hg6 (TupLe.refl _))
              by_cases hcs0 : cs = []
              · rw [decide_eq_true hcs0]
                have hst : stepB F l cs c = true := by unfold stepB; rw [el, en, decide_eq_true hcs0]; rfl
                exact iteT (iteT (fin1 hst _ su))
              · rw [decide_eq_false hcs0]
                obtain ⟨d, hd⟩ : ∃ d, cs.getLast? = some d := by
                  cases e : cs.getLast? with
                  | none => exact absurd (List.getLast?_eq_none_iff.mp e) hcs0
                  | some d => exact ⟨d, rfl⟩
                obtain ⟨v, gv, vd⟩ := cells_last (hc4.le (TupLe.of su)) hd
                refine iteF ⟨.ref b, rfl, 1, rfl, b, _, -1, v, rfl, rfl, SqL.of (su _ _ hb4), gv, .ref t, rfl, v, .ref t, d, c, rfl, vd, vc.le (TupLe.of su), _, rfl, ?_⟩
                have hst : stepB F l cs c = beside d c := by unfold stepB; rw [el, en, decide_eq_false hcs0, hd]; simp
                cases eb : beside d c with
                | false => exact iteF (fin0 (by rw [hst, eb]) _ _ rfl _ su)
                | true => exact iteT (fin1 (by rw [hst, eb]) _ su)
        · obtain ⟨y6, y7, us, rfl, kb4, hg4, hu⟩ := pv
          refine ⟨_, _, _, us, rfl, fun b o n eb => kb4 _ _ n (s3 _ _ (kb b o n eb)), hg4, ?_⟩
          rw [hw.length, List.take_length] at hu
          rw [← stt]
          exact hu
      · obtain ⟨y5, y6, y7, zs, rfl, kb, hg2, hz⟩ := pv
        refine ⟨.ref g, rfl, hiw, _, _, _, _, _, g, zs, rfl, fun b o eb => kb b o (ne_of_none eb ngH) (sg _ _ (s1 b o eb)), ngH, hg2, ?_⟩
        rw [hy.length, List.take_length] at hz
        rw [take_one_more hlw, bfs_snoc]
        exact hz.imp fun q hq => hq.1
    · obtain ⟨_, y3, y4, y5, y6, y7, f0, ys, rfl, s1, nf0, hf0, hy⟩ := pv
      have e1 : (tx wd).cps.size = wd.length := tx_len wd
      rw [e1, List.take_length, bfs_eq h5 w5] at hy
      exact ⟨.ref f0, rfl, q H1 f0 ys s1 nf0 hf0 hy⟩
end
end Sk
namespace Sk
open PySem PySem.Spec PyProof.Rows L2 Sn
section
variable {P : Program} {wl : World} {K : PySem.W.Frag} {mg : Str → Option Value} {base : Heap}
theorem ok_law_word (D : Dfn K mg "_law_word" s__law_word) (B : Bi mg) (c_law_cell_at : Cal P wl K mg base CX0 1 "_law_cell_at" ["_law_script", "_law_k"] (spCellAt K))
    (c_law_number : Cal P wl K mg base CX0 2 "_law_number" ["_law_cell", "_law_k", "_law_limit"] spNumber) (c_law_cells : Cal P wl K mg base CX0 1 "_law_cells" ["_law_field_here"] (spCells K)) (c_law_beside : Cal P wl K mg base CX0 1 "_law_beside" ["_law_one", "_law_other"] (spBeside K)) :
    Cal P wl K mg base CX0 3 "_law_word" ["_law_script", "_law_by", "_law_field_here", "_law_most"] (spLWord K) := by
  refine D.cal sc__law_word bn__law_word (fun vs H Q E h => ?_) (fun f cdv A outer s H vs Q E hr h => ?_)
  · obtain ⟨a, ns, k, n, b, F, h, w, m, rfl, _⟩ := h
    rfl
  · obtain ⟨a, ns, k, n, b, F, h, w, m, rfl, hs, hb, hn, hk, hk2, o, hm, hm6, q⟩ := h
    refine ⟨_, (pss_cons (ps_set (i := 4) sc__law_word.nd rfl (.inl rfl) (pcall c_law_cell_at (hr.mono (by omega)) (by rfl) pass0 (pa_cons (pv 0) (pa_cons (pv 1) pa_nil))))
 (pss_cons (ps_asg (pe_tup (pa_cons (pe_op op_add pe_int (pcall c_law_number (hr.mono (by omega)) (by rfl) pass0 (pa_cons (pv 4) (pa_cons (pe_op op_add (pv 1) pe_int) (pa_cons (pv 3) pa_nil))))) (pa_cons (lit_tup K (lits_cons K (lit_int K) (lits_cons K (lit_int K) (lits_nil K)))) pa_nil))) (pg_tup rfl (pgs_cons (pg_name (i := 5) sc__law_word.nd rfl (.inl rfl)) (pgs_cons (pg_name (i := 6) sc__law_word.nd rfl (.inr rfl)) pgs_nil))))
 (pss_cons (ps_set (i := 7) sc__law_word.nd rfl (.inl rfl) (pcall c_law_cells (hr.mono (by omega)) (by rfl) pass0 (pa_cons (pv 2) pa_nil)))
 (pss_cons (ps_set (i := 6) sc__law_word.nd rfl (.inr rfl) (pe_ix (ixL K) (pv 7) (pcall c_law_number (hr.mono (by omega)) (by rfl) pass0 (pa_cons (pv 4) (pa_cons (pe_op op_add (pv 1) pe_int) (pa_cons (pe_callB (lenSq K) (by rfl) B.len PySem.boot_len (pa_cons (pv 7) pa_nil)) pa_nil)))) (fun _ _ => rfl)))
 (pss_cons (ps_asg (pe_tup (pa_cons pe_str (pa_cons (pe_lst pa_nil) pa_nil))) (pg_tup rfl (pgs_cons (pg_name (i := 8) sc__law_word.nd rfl (.inl rfl)) (pgs_cons (pg_name (i := 9) sc__law_word.nd rfl (.inr rfl)) pgs_nil))))
 (pss_cons (ps_for PassesOwn.never rfl (pi_range1 (by rfl) B.range (pa_cons (pv 5) pa_nil)) (pg_name (i := 10) sc__law_word.nd rfl (.inl rfl))
 (pss_cons (ps_expr (pe_bm PySem.F.plainAttrs_list PySem.F.slot_list_append PySem.F.type_list_append mt_append (pv 9) (pa_cons (pv 6) pa_nil)))
 (pss_cons (ps_set (i := 8) sc__law_word.nd rfl (.inl rfl) (pe_op op_add_str (pv 8) (pe_ix ix_str (pe_ix (ixL K) (pv 2) (pe_ix (ixT K) (pv 6) pe_int (fun _ _ => rfl)) (fun _ _ => rfl)) (pe_ix (ixT K) (pv 6) pe_int (fun _ _ => rfl)) (fun _ _ => rfl))))
 (pss_cons (ps_setLc (i := 11) (own := [("_law_one", 12)]) (g := gName 12) (by rfl) sc__law_word.nd rfl rfl (sw_true rfl rfl rfl (by decide +kernel)) (piL K (pv 7)) (blkOk_by (own := [("_law_one", 12)]) (N := ["_law_script", "_law_by", "_law_field_here", "_law_most", "_law_cell", "_law_many", "_law_here", "_law_every", "_law_text", "_law_gone", "_law_k", "_law_some", "_law_one"]) (sc := defScope s__law_word) (by decide +kernel)) (fun _ _ _ _ _ => (pg_name (i := 12) sc__law_word.nd rfl (Or.inl rfl))) (fun _ _ _ _ _ => (pts_one (PW.pt (pw_and (pt_val (pcall c_law_beside (hr.mono (by omega)) (by rfl) pass0 (pa_cons (pv 6) (pa_cons (pv 12) pa_nil)))) (pw_and1 (pt_cmpR (notInDK K (hu65 hr)) (pv 12) (pv 9) (by rfl))))))) (fun _ _ _ _ _ => (pv 12)))
 (pss_cons (ps_if (pt_cmpR (eqDK K hr.units) (pv 11) (pe_lst pa_nil) (nomark _))
 (pss_one (ps_ret (pv 8))) pss_nil)
 (pss_one (ps_set (i := 6) sc__law_word.nd rfl (.inr rfl) (pe_ix (ixL K) (pv 11) (pcall c_law_number (hr.mono (by omega)) (by rfl) pass0 (pa_cons (pe_op op_add (pv 4) (pe_op op_mulX pe_int (pv 10))) (pa_cons (pe_op op_add (pv 1) (pv 10)) (pa_cons (pe_callB (lenSq K) (by rfl) B.len PySem.boot_len (pa_cons (pv 11) pa_nil)) pa_nil)))) (fun _ _ => rfl)))))))))
 (pss_cons (ps_if (pt_cmpR op_eq (pcall c_law_number (hr.mono (by omega)) (by rfl) pass0 (pa_cons (pv 4) (pa_cons (pe_op op_add (pv 1) pe_int) (pa_cons pe_int pa_nil)))) pe_int (nomark _))
 (pss_one (ps_set (i := 8) sc__law_word.nd rfl (.inl rfl) (pe_op op_add_str (pe_slice sl_str (pv 8) po_none (po_some (pe_un un_neg pe_int))) (pe_ix ix_str pe_str (pcall c_law_number (hr.mono (by omega)) (by rfl) pass0 (pa_cons (pv 4) (pa_cons (pe_op op_add (pv 1) pe_int) (pa_cons pe_int pa_nil)))) (fun _ _ => rfl))))) pss_nil)
 (pss_one (ps_ret (pv 8)))))))))), ?_⟩
    have h5 := o.2.h5
    have w5 := o.2.w5
    have h1 := o.2.h1
    have w1 := o.2.w1
    refine ⟨.ref a, rfl, .int k, rfl, a, ns, k, n, rfl, hs, hk, hb, fun z hz => ?_⟩
    refine ⟨.int z, rfl, .int k, rfl, k, 4, rfl, rfl, .int m, rfl, z, k + 4, m, n, rfl, hz, by omega, by omega, by omega, by omega, fun z1 H1 a1 b1 s1 => ?_⟩
    refine ⟨1, z1, rfl, rfl, fun v0 H2 s2 _ => ⟨by show 2 ≤ sizeLine; decide, fun T nT => ?_⟩⟩
    have sT := same_new (o := .tup [.int (1 + z1), v0]) nT
    refine ⟨T, [.int (1 + z1), v0], rfl, SqT.of upd_same, rfl, _, _, rfl, _, _, rfl, rfl, ?_⟩
    have s0T : Same H _ := s1.trans (s2.trans sT)
    refine ⟨.ref b, rfl, b, F, h, w, rfl, o.same s0T, fun H3 e ys s3 ne he hy => ?_⟩
    have s03 := s0T.trans s3
    have lys : ys.length = h * w := by rw [hy.length, cellsL_len]
    have lys1 : 1 ≤ ys.length := by rw [lys]; exact Nat.mul_le_mul h1 w1
    have lys25 : ys.length ≤ 25 := by rw [lys]; exact Nat.mul_le_mul h5 w5
    refine ⟨.ref e, rfl, .int z, rfl, .int k, rfl, k, 5, rfl, rfl, .ref e, rfl, e, _, rfl, .inl (SqL.of he), z, k + 5, _, n, rfl, hz, by omega, by omega, by omega, by omega, fun z2 H4 a2 b2 s4 => ?_⟩
    have hz2 : z2.toNat < ys.length := by omega
    obtain ⟨c0, hc0, vc0⟩ := Paired.get hy (List.getElem?_eq_getElem hz2)
    have he4 := s4 _ _ he
    refine ⟨e, _, z2, ys[z2.toNat], rfl, rfl, SqL.of he4, at_of (j := z2.toNat) (by omega) (List.getElem?_eq_getElem hz2), ?_⟩
    refine ⟨Nat.zero_le _, fun g ng => ⟨by show 2 ≤ sizeLine; decide, fun T2 nT2 => ?_⟩⟩
    have sg := same_new (o := .lst []) ng
    have sT2 := same_new (o := .tup [.str "", .ref g]) nT2
    refine ⟨T2, [.str "", .ref g], rfl, SqT.of upd_same, rfl, _, _, rfl, _, _, rfl, rfl, ?_⟩
    have sA := s03.trans s4
    have ngH : H g = none := sA.free ng
    have neg : e ≠ g := fun zz => by rw [zz] at he4; rw [he4] at ng; cases ng
    obtain ⟨mn, emn⟩ : ∃ mn : Nat, 1 + z1 = (mn : Int) := ⟨(1 + z1).toNat, by omega⟩
    refine ⟨.int (1 + z1), rfl, 1 + z1, rfl, by omega, by omega, ?_⟩
    rw [show (1 + z1).toNat = mn by omega]
    have hg0 : upd (upd H4 g (.lst [])) T2 (.tup [.str "", .ref g]) g = some (.lst []) := sT2 _ _ upd_same
    have heB : upd (upd H4 g (.lst [])) T2 (.tup [.str "", .ref g]) e = some (.lst ys) := sT2 _ _ (sg _ _ he4)
    have leB : TupLe H3 (upd (upd H4 g (.lst [])) T2 (.tup [.str "", .ref g])) := TupLe.of (s4.trans (sg.trans sT2))
    have sB : Same H (upd (upd H4 g (.lst [])) T2 (.tup [.str "", .ref g])) := sA.trans (sg.trans sT2)
    refine for_it walk_range (fun i σ H' => i ≤ mn ∧ ∃ hv y10 y11 r gs gc c, σ = [some (.ref a), some (.int k), some (.ref b), some (.int m), some (.int z), some (.int (1 + z1)), some hv, some (.ref e), some (tv r), some (.ref g), y10, y11, none] ∧ Kb g (upd (upd H4 g (.lst [])) T2 (.tup [.str "", .ref g])) H' ∧ H' g = some (.lst gs) ∧ Cells K H' gs gc ∧ gc.length = i ∧ r.length = i ∧ (∀ c ∈ r, letter c) ∧ c ∈ cellsL h w ∧ CellV K H' hv c)
      ⟨Nat.zero_le _, ys[z2.toNat], none, none, [], [], [], c0, rfl, fun _ _ _ z => z, hg0, .nil, rfl, rfl, fun _ z => (nomatch z), List.mem_of_getElem? hc0, vc0.le leB⟩ (fun _ _ _ _ _ => trivial) (fun i x σ H5o H5 hi pv y => ?_) fun σ H5 pv => ?_
    · obtain ⟨rfl, rfl⟩ := y
      obtain ⟨_, hv, y10, y11, r, gs, gc, c, rfl, kb, hg5, hgc, lgc, lr, hlr, hcm, ⟨t, rfl, ht⟩⟩ := pv
      have vc : CellV K H5 (.ref t) c := ⟨t, rfl, ht⟩
      have lgs : gs.length = i := by rw [hgc.length, lgc]
      -- gone.append(here)
      refine ⟨.ref g, rfl, .inl ⟨rfl, _, SqL.of hg5⟩, .ref t, rfl, g, gs, .ref t, rfl, rfl, hg5, by rw [lgs]; exact small1000 (by omega), ?_⟩
      have le6 : TupLe H5 (upd H5 g (.lst (gs ++ [.ref t]))) := TupLe.upd hg5 (TupLe.refl _)
      have kb6 : Kb g _ (upd H5 g (.lst (gs ++ [.ref t]))) := kb.upd (o := .lst (gs ++ [.ref t]))
      have hg6 : upd H5 g (.lst (gs ++ [.ref t])) g = some (.lst (gs ++ [.ref t])) := upd_same
      have s6 : Same H (upd H5 g (.lst (gs ++ [.ref t]))) := fun b o eb => kb6 b o (ne_of_none eb ngH) (sB b o eb)
      have o6 := o.same s6
      have ht6 := le6.sqt ht
      have he6 : upd H5 g (.lst (gs ++ [.ref t])) e = some (.lst ys) := kb6 _ _ neg heB
      have hy6 : Cells K (upd H5 g (.lst (gs ++ [.ref t]))) ys (cellsL h w) := (hy.le leB).le (TupLe.kb hg0 kb6)
      have hgc6 : Cells K (upd H5 g (.lst (gs ++ [.ref t]))) (gs ++ [.ref t]) (gc ++ [c]) := Cells.le (Paired.snoc hgc vc) le6
      -- text
      obtain ⟨row, g1, g2, g3⟩ := o6.at_cell hcm
      have hlc : letter (at_ F c) := by
        obtain ⟨⟨p1, p2⟩, p3, p4⟩ := mem_cellsL.mp hcm
        have hl1 : c.1.toNat < F.length := by rw [o.2.high]; omega
        have hl2 : c.2.toNat < (F.getD c.1.toNat []).length := by rw [row_len o.2 (by omega)]; omega
        unfold at_
        rw [getD_of (List.getElem?_eq_getElem hl2)]
        refine o.2.let_ (F.getD c.1.toNat []) ?_ _ (List.getElem_mem hl2)
        rw [getD_of (List.getElem?_eq_getElem hl1)]
        exact List.getElem_mem hl1
      refine ⟨tv r, rfl, .ref b, rfl, .ref t, rfl, t, _, 0, .int c.1, rfl, rfl, ht6, atI_nat (j := 0) rfl, b, _, c.1, _, rfl, rfl, o6.1, g1, .ref t, rfl, t, _, 1, .int c.2, rfl, rfl, ht6, atI_nat (j := 1) rfl, tx row, c.2, at_ F c, rfl, rfl, by rw [tx_len, g2]; exact o.w_line, by rw [tx_cps]; exact g3, tx r, tx [at_ F c], rfl, rfl, by rw [tx_len, tx_len]; exact small_line (by show r.length + 1 ≤ _; omega), ?_⟩
      rw [tx_app]
      have lr1 : (r ++ [at_ F c]).length = i + 1 := by rw [List.length_append, lr]; rfl
      have hlr1 : ∀ c' ∈ r ++ [at_ F c], letter c' := fun c' hc' => by
        rcases List.mem_append.mp hc' with hc' | hc'
        · exact hlr c' hc'
        · rw [List.mem_singleton.mp hc']; exact hlc
      -- some
      refine ⟨.ref e, rfl, e, rfl, ⟨_, SqL.of he6⟩, lc_cel (K := K) (walk_list (xs := ys)) (small_line (by omega)) (fun u => beside c ((cellsL h w).getD u (0, 0)) && !decide ((cellsL h w).getD u (0, 0) ∈ gc ++ [c])) (fun u => (cellsL h w).getD u (0, 0)) (fun H' s' => s'.seq (SqL.of he6)) (fun D' u x9 H7o H7 Qe Qn nD hu s7 _ y qe qn => ?_) fun D' ds H7 nD s7 hD hd => ?_⟩
      · obtain ⟨rfl, hx9⟩ := y
        obtain ⟨c9, hc9, vc9⟩ := Paired.get hy6 hx9
        rw [getD_of hc9] at qe qn
        have le67 := TupLe.of s7
        refine ⟨rfl, .ref t, rfl, x9, rfl, .ref t, x9, c, c9, rfl, (vc.le le6).le le67, vc9.le le67, _, rfl, ?_⟩
        cases eb : beside c c9 with
        | false =>
          rw [eb] at qn
          exact iteF (iteF (qn _ rfl (Same.refl _)))
        | true =>
          rw [eb, Bool.true_and] at qe qn
          refine iteT ⟨x9, rfl, .ref g, rfl, _, _, (vc9.le le67).dp, cells_dp (SqL.of (s7 _ _ hg6)) (hgc6.le le67), (shp_cell _).ok, (shp_cells _).ok, _, rfl, ?_⟩
          rw [any_cells]
          cases en : (!decide (c9 ∈ gc ++ [c])) with
          | false => exact iteF (qn _ en (Same.refl _))
          | true => exact iteT ⟨x9, rfl, qe x9 _ en (Same.refl _) (vc9.le le67)⟩
      · -- if some == []
        have s67 := s6.trans s7
        refine ⟨.ref D', rfl, Nat.zero_le _, fun u nu => ?_⟩
        have su := same_new (o := .lst []) nu
        refine ⟨_, cellsD [], cells_dp (SqL.of (su _ _ hD)) (hd.le (TupLe.of su)), cells_dp (SqL.of upd_same) .nil, (shp_cells _).ok, (shp_cells _).ok, _, rfl, ?_⟩
        rw [eqv_cells]
        refine ite2 (fun _ => ?_) fun hne => ?_
        · exact ⟨tv (r ++ [at_ F c]), rfl, q _ _ (s67.trans su) (by omega) (by omega) hlr1⟩
        · have hne2 : (((List.range ys.length).filter fun u => beside c ((cellsL h w).getD u (0, 0)) && !decide ((cellsL h w).getD u (0, 0) ∈ gc ++ [c])).map fun u => (cellsL h w).getD u (0, 0)) ≠ [] := fun zz => hne (decide_eq_true zz)
          have ld : 1 ≤ ds.length := by rw [hd.length]; exact List.length_pos_iff.mpr hne2
          refine ⟨.ref D', rfl, .int z, rfl, .int (0 + i), rfl, 7, _, rfl, rfl, small_mul (lt30 (by decide) (by decide)) (lt30 (by omega) (by omega)), z, _, rfl, rfl, .int k, rfl, .int (0 + i), rfl, k, _, rfl, rfl, .ref D', rfl, D', _, rfl, .inl (SqL.of (su _ _ hD)), _, _, _, n + 21, rfl, big_add hz (by omega), by omega, by omega, by omega, by omega, fun z3 H8 a3 b3 s8 => ?_⟩
          have hz3 : z3.toNat < ds.length := by omega
          obtain ⟨c3, hc3, vc3⟩ := Paired.get hd (List.getElem?_eq_getElem hz3)
          have sfin := s7.trans (su.trans s8)
          refine ⟨D', _, z3, ds[z3.toNat], rfl, rfl, SqL.of (s8 _ _ (su _ _ hD)), at_of (j := z3.toNat) (by omega) (List.getElem?_eq_getElem hz3), ?_⟩
          refine ⟨hi, _, _, _, r ++ [at_ F c], gs ++ [.ref t], gc ++ [c], c3, rfl, fun b o n eb => sfin _ _ (kb6 b o n eb), sfin _ _ hg6, hgc6.le (TupLe.of sfin), by rw [List.length_append, lgc]; rfl, lr1, hlr1, ?_, vc3.le (TupLe.of (su.trans s8))⟩
          have hm3 := List.mem_of_getElem? hc3
          obtain ⟨u3, hu3, e3⟩ := List.mem_map.mp hm3
          have hu4 : u3 < (cellsL h w).length := by rw [← hy.length]; exact List.mem_range.mp (List.mem_filter.mp hu3).1
          rw [← e3, getD_of (List.getElem?_eq_getElem hu4)]
          exact List.getElem_mem hu4
    · obtain ⟨_, hv, y10, y11, r, gs, gc, c, rfl, kb, hg5, hgc, lgc, lr, hlr, hcm, vc⟩ := pv
      have s5 : Same H H5 := fun b o eb => kb b o (ne_of_none eb ngH) (sB b o eb)
      refine ⟨.int z, rfl, .int k, rfl, k, 6, rfl, rfl, z, k + 6, 3, n, rfl, hz, by omega, by omega, by omega, by decide, fun z4 H6 a4 b4 s6 => ⟨rfl, _, rfl, ite2 (fun _ => ?_) fun _ => ?_⟩⟩
      · refine ⟨tv r, rfl, 1, rfl, -1, rfl, tx r, rfl, by rw [tx_len]; exact small_line (by omega), .int z, rfl, .int k, rfl, k, 7, rfl, rfl, z, k + 7, 3, n, rfl, hz, by omega, by omega, by omega, by decide, fun z5 H7 a5 b5 s7 => ?_⟩
        obtain ⟨ch, hc1, hc2⟩ := abz_at a5 b5
        rw [cutS_last]
        refine ⟨tx abzL, z5, ch, rfl, rfl, by rw [tx_len]; exact small_line (by decide +kernel), by rw [tx_cps]; exact hc1, tx r.dropLast, tx [ch], rfl, rfl, by rw [tx_len, tx_len, List.length_dropLast]; exact small_line (by show r.length - 1 + 1 ≤ _; omega), ?_⟩
        rw [tx_app]
        refine ⟨tv (r.dropLast ++ [ch]), rfl, q H7 _ (s5.trans (s6.trans s7)) (by rw [List.length_append]; show 1 ≤ _ + 1; omega) (by rw [List.length_append, List.length_dropLast]; show ((r.length - 1 + 1 : Nat) : Int) ≤ m; omega) fun c' hc' => ?_⟩
        rcases List.mem_append.mp hc' with hc' | hc'
        · rw [List.dropLast_eq_take] at hc'; exact hlr c' (List.mem_of_mem_take hc')
        · rw [List.mem_singleton.mp hc']; exact hc2
      · exact ⟨tv r, rfl, q H6 r (s5.trans s6) (by omega) (by omega) hlr⟩
end
end Sk
namespace Sk
open PySem PySem.Spec PyProof.Rows L2 Sn
/-- what isinstance tells of the answers' classes -/
structure Kit (K : PySem.W.Frag) (CA CF CS : Addr) : Prop where
  G : KlG K
  FF : PySem.W.kitOne K (.ref CF) (.ref CF) = some true
  FS : PySem.W.kitOne K (.ref CF) (.ref CS) = some false
  FA : PySem.W.kitOne K (.ref CF) (.ref CA) = some true
  SF : PySem.W.kitOne K (.ref CS) (.ref CF) = some false
  SS : PySem.W.kitOne K (.ref CS) (.ref CS) = some true
  SA : PySem.W.kitOne K (.ref CS) (.ref CA) = some true
theorem cut_take (xs : List V) (n : Nat) : cutV xs none (some (n : Int)) = xs.take n := by
  unfold cutV
  rw [HT.sIx_none, HT.sIx_nat, List.drop_zero, Nat.sub_zero]
  by_cases hn : n ≤ xs.length
  · rw [Nat.min_eq_left hn]
  · rw [Nat.min_eq_right (by omega), List.take_length, List.take_of_length_le (by omega)]
theorem nodup_take (cs : List Cel) : ((List.range cs.length).any fun i => decide (cs.getD i (0, 0) ∈ cs.take i)) = !decide cs.Nodup := by
  by_cases h : cs.Nodup
  · rw [decide_eq_true h, Bool.not_true, List.any_eq_false]
    intro i hi
    have hi2 : i < cs.length := List.mem_range.mp hi
    rw [getD_of (List.getElem?_eq_getElem hi2)]
    intro z
    have z2 := of_decide_eq_true z
    obtain ⟨j, hj, e⟩ := List.mem_iff_getElem.mp z2
    rw [List.length_take] at hj
    rw [List.getElem_take] at e
    have := (List.getElem_inj h).mp e
    omega
  · rw [decide_eq_false h, Bool.not_false, List.any_eq_true]
    apply Classical.byContradiction
    intro hn
    apply h
    unfold List.Nodup
    rw [List.pairwise_iff_getElem]
    intro i j hi hj hij e
    apply hn
    refine ⟨j, List.mem_range.mpr hj, ?_⟩
    rw [getD_of (List.getElem?_eq_getElem hj)]
    apply decide_eq_true
    rw [← e]
    refine List.mem_iff_getElem.mpr ⟨i, by rw [List.length_take]; omega, ?_⟩
    rw [List.getElem_take]
section
variable {P : Program} {wl : World} {K : PySem.W.Frag} {mg : Str → Option Value} {base : Heap} {C_Answer C_Found C_Stops : Addr}
theorem ok_law_says {p1 p2 : Str} (D : Dfn K mg "_law_says" s__law_says) (B : Bi mg) : ∃ ps, Cal P wl K mg base CX0 1 "_law_says" ps spSays := by
  refine ⟨_, D.cal sc__law_says bn__law_says (fun vs H Q E h => ?_) (fun f cdv A outer s H vs Q E hr h => ?_)⟩
  · obtain ⟨x, y, rfl, _⟩ := h
    rfl
  · obtain ⟨x, y, rfl, q⟩ := h
    refine ⟨_, (pss_one (ps_ret (pe_and (pe_callB (isiK K) (by rfl) B.isinstance (by decide +kernel) (pa_cons (pv 0) (pa_cons (pe_bltn (v := .ty "bool") (by rfl) B.bool (by decide +kernel) rfl) pa_nil))) (pe_one (pe_cmpR op_eq (pv 0) (pv 1) (nomark _)))))), ?_⟩
    refine ⟨.bl x, rfl, .bl x, .ty "bool", .type "bool", _, true, rfl, .ty "bool", .base (.bl x), kit_ty (by decide +kernel), true, rfl, iteT ⟨.bl x, rfl, .bl y, rfl, rfl, ?_⟩⟩
    have e : decide (V.bl x = V.bl y) = decide (x = y) := by cases x <;> cases y <;> rfl
    rw [e]
    exact q
theorem ok_law_is_snake (D : Dfn K mg "_law_is_snake" s__law_is_snake) (B : Bi mg) (c_law_cells : Cal P wl K mg base CX0 1 "_law_cells" ["_law_field_here"] (spCells K)) (c_law_beside : Cal P wl K mg base CX0 1 "_law_beside" ["_law_one", "_law_other"] (spBeside K)) :
    Cal P wl K mg base CX0 2 "_law_is_snake" ["_law_field_here", "_law_cells_here"] (spIsSnake K) := by
  refine D.cal sc__law_is_snake bn__law_is_snake (fun vs H Q E h => ?_) (fun f cdv A outer s H vs Q E hr h => ?_)
  · obtain ⟨a, F, h, w, b, xs, cs, rfl, _⟩ := h
    rfl
  · obtain ⟨a, F, h, w, b, xs, cs, rfl, o, hb, hc, h64, q⟩ := h
    refine ⟨_, (pss_cons (ps_set (i := 2) sc__law_is_snake.nd rfl (.inr rfl) (pcall c_law_cells (hr.mono (by omega)) (by rfl) pass0 (pa_cons (pv 0) pa_nil)))
 (pss_cons (ps_if (PW.pt (pw_or (pt_cmpR (eqDK K hr.units) (pv 1) (pe_lst pa_nil) (nomark _)) (pw_or1 (pt_not (pt_val (pe_callB (allK K rfl) (by rfl) B.all (by decide +kernel) (pa_cons (pe_lc (own := [("_law_cell", 3)]) (g := gName 3) (tt := tYes) (by rfl) sc__law_is_snake.nd (piL K (pv 1)) (blkOk_by (own := [("_law_cell", 3)]) (N := ["_law_field_here", "_law_cells_here", "_law_every", "_law_cell", "_law_at", "_law_one", "_law_other"]) (sc := defScope s__law_is_snake) (by decide +kernel)) (fun _ _ _ _ _ => (pg_name (i := 3) sc__law_is_snake.nd rfl (Or.inl rfl))) (fun _ _ _ _ _ => pts_nil) (fun _ _ _ _ _ => (pe_cmpR (inDK K (hu65 hr)) (pv 3) (pv 2) (by rfl)))) pa_nil)))))))
 (pss_one (ps_ret pe_bl)) pss_nil)
 (pss_cons (ps_if (pt_val (pe_callB (anyK K rfl) (by rfl) B.any (by decide +kernel) (pa_cons (pe_lc (own := [("_law_at", 4), ("_law_cell", 3)]) (g := gTup K 2 (gCons (gName 4) (gCons (gName 3) gNil))) (tt := tYes) (by rfl) sc__law_is_snake.nd (pi_enum (by rfl) B.enumerate (pa_cons (pv 1) pa_nil)) (blkOk_by (own := [("_law_at", 4), ("_law_cell", 3)]) (N := ["_law_field_here", "_law_cells_here", "_law_every", "_law_cell", "_law_at", "_law_one", "_law_other"]) (sc := defScope s__law_is_snake) (by decide +kernel)) (fun _ _ _ _ _ => (pg_tup rfl (pgs_cons (pg_name (i := 4) sc__law_is_snake.nd rfl (Or.inl rfl)) (pgs_cons (pg_name (i := 3) sc__law_is_snake.nd rfl (Or.inl rfl)) pgs_nil)))) (fun _ _ _ _ _ => pts_nil) (fun _ _ _ _ _ => (pe_cmpR (inDK K (hu65 hr)) (pv 3) (pe_slice (slL K) (pv 1) po_none (po_some (pv 4))) (by rfl)))) pa_nil)))
 (pss_one (ps_ret pe_bl)) pss_nil)
 (pss_one (ps_ret (pe_callB (allK K rfl) (by rfl) B.all (by decide +kernel) (pa_cons (pe_lc (own := [("_law_one", 5), ("_law_other", 6)]) (g := gTup K 2 (gCons (gName 5) (gCons (gName 6) gNil))) (tt := tYes) (by rfl) sc__law_is_snake.nd (pi_zip (by rfl) B.zip (pa_cons (pv 1) (pa_cons (pe_slice (slL K) (pv 1) (po_some pe_int) po_none) pa_nil))) (blkOk_by (own := [("_law_one", 5), ("_law_other", 6)]) (N := ["_law_field_here", "_law_cells_here", "_law_every", "_law_cell", "_law_at", "_law_one", "_law_other"]) (sc := defScope s__law_is_snake) (by decide +kernel)) (fun _ _ _ _ _ => (pg_tup rfl (pgs_cons (pg_name (i := 5) sc__law_is_snake.nd rfl (Or.inl rfl)) (pgs_cons (pg_name (i := 6) sc__law_is_snake.nd rfl (Or.inl rfl)) pgs_nil)))) (fun _ _ _ _ _ => pts_nil) (fun _ _ _ _ _ => (pcall c_law_beside (hr.mono (by omega)) (by rfl) pass0 (pa_cons (pv 5) (pa_cons (pv 6) pa_nil))))) pa_nil))))))), ?_⟩
    have h5 := o.2.h5
    have w5 := o.2.w5
    refine ⟨.ref a, rfl, a, F, h, w, rfl, o, fun H1 e ys s1 ne he hy => ?_⟩
    refine ⟨.ref b, rfl, Nat.zero_le _, fun u nu => ?_⟩
    have s2 := s1.trans (same_new (o := .lst []) nu)
    have hb2 := s2.seq hb
    have hc2 := hc.le (TupLe.of s2)
    have he2 := (same_new (o := .lst []) nu) _ _ he
    have hy2 := hy.le (TupLe.of (same_new (o := .lst []) nu))
    refine ⟨_, cellsD [], cells_dp hb2 hc2, cells_dp (SqL.of upd_same) .nil, (shp_cells _).ok, (shp_cells _).ok, _, rfl, ?_⟩
    rw [eqv_cells]
    unfold snakeB at q
    by_cases hcs : cs = []
    · rw [decide_eq_true hcs] at q ⊢
      exact iteT (q _ s2)
    rw [decide_eq_false hcs] at q ⊢
    refine iteF ?_
    refine ⟨.ref b, rfl, b, rfl, ⟨_, hb2⟩, lc_val (walk_list (xs := xs)) (by rw [hc.length]; exact small_line (by omega)) (fun i => .bl (decide (cs.getD i (0, 0) ∈ cellsL h w))) (fun H' s' => s'.seq hb2) (fun D' i x H3o H3 Qe nD hi s3 _ y qe => ?_) fun D' H3 nD s3 hD => ?_⟩
    · obtain ⟨rfl, hx⟩ := y
      obtain ⟨c, hci, vc⟩ := Paired.get hc2 hx
      rw [getD_of hci] at qe
      refine ⟨rfl, x, rfl, .ref e, rfl, _, _, (vc.le (TupLe.of s3)).dp, cells_dp (SqL.of (s3 _ _ he2)) (hy2.le (TupLe.of s3)), (shp_cell _).ok, (shp_cells _).ok, ?_⟩
      rw [any_cells]
      exact qe _ (Same.refl _)
    have eA : ((List.range xs.length).map fun i => decide (cs.getD i (0, 0) ∈ cellsL h w)) = cs.map fun c => decide (c ∈ cellsL h w) := by
      rw [hc.length]
      exact range_map_get (fun c => decide (c ∈ cellsL h w)) cs _ fun i c hci => by rw [getD_of hci]
    refine ⟨D', (List.range xs.length).map fun i => decide (cs.getD i (0, 0) ∈ cellsL h w), rfl, .inl (.inl (by rw [hD, List.map_map]; rfl)), _, rfl, ?_⟩
    rw [eA, show ((cs.map fun c => decide (c ∈ cellsL h w)).all id) = cs.all fun c => decide (c ∈ cellsL h w) by rw [List.all_map]; rfl]
    have s23 := s2.trans s3
    cases hv : (cs.all fun c => decide (c ∈ cellsL h w)) with
    | false =>
      rw [hv] at q
      have q2 := q _ s23
      simp only [Bool.false_and, Bool.and_false] at q2
      exact iteT q2
    | true =>
      rw [hv] at q
      refine iteF ?_
      have hb3 := s23.seq hb
      have hc3 := hc.le (TupLe.of s23)
      -- any before
      refine ⟨.ref b, rfl, b, xs, rfl, hb3, lc_val walk_enum (by rw [hc.length]; exact small_line (by omega)) (fun i => .bl (decide (cs.getD i (0, 0) ∈ cs.take i))) (fun H' s' => s'.seq hb3) (fun D2 i x H4o H4 Qe nD2 hi s4 _ y qe => ?_) fun D2 H4 nD2 s4 hD2 => ?_⟩
      · obtain ⟨T, x1, x2, rfl, nT, rfl, g1, g2⟩ := y
        cases (Option.some.inj g1)
        obtain ⟨c, hci, vc⟩ := Paired.get hc3 g2
        rw [getD_of hci] at qe
        have sT := same_new (o := .tup [.int (i : Nat), x2]) nT
        have s4T := s4.trans sT
        refine ⟨T, [.int (i : Nat), x2], rfl, SqT.of upd_same, rfl, _, _, rfl, _, _, rfl, rfl, rfl, ?_⟩
        refine ⟨x2, rfl, .ref b, rfl, .int (i : Nat), rfl, (i : Nat), rfl, b, _, rfl, s4T.seq hb3, fun sl nsl => ?_⟩
        rw [cut_take]
        have ss := same_new (o := .lst (xs.take i)) nsl
        refine ⟨_, _, (vc.le (TupLe.of (s4T.trans ss))).dp, cells_dp (SqL.of upd_same) (Cells.le (Paired.take i hc3) (TupLe.of (s4T.trans ss))), (shp_cell _).ok, (shp_cells _).ok, ?_⟩
        rw [any_cells]
        exact qe _ (sT.trans ss)
      refine ⟨D2, (List.range xs.length).map fun i => decide (cs.getD i (0, 0) ∈ cs.take i), rfl, .inl (.inl (by rw [hD2, List.map_map]; rfl)), _, rfl, ?_⟩
      rw [show (((List.range xs.length).map fun i => decide (cs.getD i (0, 0) ∈ cs.take i)).any id) = !decide cs.Nodup by rw [List.any_map, hc.length, ← nodup_take cs]; rfl]
      have s24 := s23.trans s4
      by_cases hnd : cs.Nodup
      case neg =>
        rw [decide_eq_false hnd] at q ⊢
        exact iteT (q _ s24)
      rw [decide_eq_true hnd] at q ⊢
      refine iteF ?_
      have hb4 := s24.seq hb
      have hc4 := hc.le (TupLe.of s24)
      refine ⟨.ref b, rfl, .ref b, rfl, 1, rfl, b, _, rfl, hb4, fun sl nsl => ?_⟩
      rw [cut_one]
      have s5 := same_new (o := .lst (xs.drop 1)) nsl
      have hsl : SqL K (upd H4 sl (.lst (xs.drop 1))) sl (xs.drop 1) := SqL.of upd_same
      have hcd := Paired.drop 1 hc4
      refine ⟨b, sl, xs, xs.drop 1, rfl, s5.seq hb4, hsl, lc_val (walk_zip rfl) (by rw [hc.length]; exact small_line (by omega)) (fun i => .bl (beside (cs.getD i (0, 0)) ((cs.drop 1).getD i (0, 0)))) (fun H' s' => ⟨s'.seq (s5.seq hb4), s'.seq hsl⟩) (fun D3 i x H6o H6 Qe nD3 hi s6 _ y qe => ?_) fun D3 H6 nD3 s6 hD3 => ?_⟩
      · obtain ⟨T, x1, x2, rfl, nT, rfl, g1, g2⟩ := y
        obtain ⟨c1, hc1', v1⟩ := Paired.get hc4 g1
        obtain ⟨c2, hc2', v2⟩ := Paired.get hcd g2
        rw [getD_of hc1', getD_of hc2'] at qe
        have sT := same_new (o := .tup [x1, x2]) nT
        have s56 := s5.trans (s6.trans sT)
        refine ⟨T, [x1, x2], rfl, SqT.of upd_same, rfl, x1, [x2], rfl, x2, [], rfl, rfl, rfl, ?_⟩
        exact ⟨x1, rfl, x2, rfl, x1, x2, c1, c2, rfl, v1.le (TupLe.of s56), v2.le (TupLe.of s56), qe _ sT⟩
      · refine ⟨D3, (List.range (min xs.length (xs.drop 1).length)).map fun i => beside (cs.getD i (0, 0)) ((cs.drop 1).getD i (0, 0)), rfl, .inl (.inl (by rw [hD3, List.map_map]; rfl)), ?_⟩
        rw [all_ids, hc.length, hcd.length, adj_range cs beside]
        exact q _ (s24.trans (s5.trans s6))
theorem ok_law_spelled (D : Dfn K mg "_law_spelled" s__law_spelled) (B : Bi mg) : Cal P wl K mg base CX0 1 "_law_spelled" ["_law_field_here", "_law_cells_here"] (spSpelled K) := by
  refine D.cal sc__law_spelled bn__law_spelled (fun vs H Q E h => ?_) (fun f cdv A outer s H vs Q E hr h => ?_)
  · obtain ⟨a, F, h, w, b, xs, cs, rfl, _⟩ := h
    rfl
  · obtain ⟨a, F, h, w, b, xs, cs, rfl, o, hb, hc, hv, hl, q⟩ := h
    refine ⟨_, (pss_one (ps_ret (joinK K pe_str (pe_lc (own := [("_law_row", 2), ("_law_place", 3)]) (g := gTup K 2 (gCons (gName 2) (gCons (gName 3) gNil))) (tt := tYes) (by rfl) sc__law_spelled.nd (piL K (pv 1)) (blkOk_by (own := [("_law_row", 2), ("_law_place", 3)]) (N := ["_law_field_here", "_law_cells_here", "_law_row", "_law_place"]) (sc := defScope s__law_spelled) (by decide +kernel)) (fun _ _ _ _ _ => (pg_tup rfl (pgs_cons (pg_name (i := 2) sc__law_spelled.nd rfl (Or.inl rfl)) (pgs_cons (pg_name (i := 3) sc__law_spelled.nd rfl (Or.inl rfl)) pgs_nil)))) (fun _ _ _ _ _ => pts_nil) (fun _ _ _ _ _ => (pe_ix ix_str (pe_ix (ixL K) (pv 0) (pv 2) (fun _ _ => rfl)) (pv 3) (fun _ _ => rfl))))))), ?_⟩
    refine ⟨⟨_, rfl⟩, .ref b, rfl, b, rfl, ⟨_, hb⟩, lc_val (walk_list (xs := xs)) (by rw [hc.length]; exact small_line (by omega)) (fun i => tv [at_ F (cs.getD i (0, 0))]) (fun H' s' => s'.seq hb) (fun D' i x H1o H1 Qe nD hi s1 _ y qe => ?_) fun D' H1 nD s1 hD => ?_⟩
    · obtain ⟨rfl, hx⟩ := y
      obtain ⟨c, hci, ⟨t, rfl, ht⟩⟩ := Paired.get hc hx
      rw [getD_of hci] at qe
      obtain ⟨r, g1, g2, g3⟩ := (o.same s1).at_cell (hv c (List.mem_of_getElem? hci))
      refine ⟨t, _, rfl, Same.sqt s1 ht, rfl, _, _, rfl, _, _, rfl, rfl, rfl, ?_⟩
      exact ⟨.ref a, rfl, .int c.1, rfl, a, _, c.1, _, rfl, rfl, (o.same s1).1, g1, .int c.2, rfl, tx r, c.2, at_ F c, rfl, rfl, by rw [tx_len, g2]; exact o.w_line, by rw [tx_cps]; exact g3, qe _ (Same.refl _)⟩
    · refine ⟨tx [], D', (spell F cs).map fun c => ⟨#[c]⟩, rfl, rfl, .inl (.inl (.inl ?_)), ?_, ?_⟩
      · rw [hD, List.map_map, hc.length]
        unfold spell
        rw [List.map_map]
        congr 2
        exact range_map_get _ cs _ fun i c hci => by rw [getD_of hci]; rfl
      · rw [List.map_map, sum_ones, List.length_map]
        have e5 : (spell F cs).length = cs.length := by simp [spell]
        rw [e5]; show cs.length + cs.length * 0 ≤ _; omega
      · rw [join_signs]
        exact q H1 s1
theorem ok_law_longest (D : Dfn K mg "_law_longest" s__law_longest) (B : Bi mg) (c_law_snakes : Cal P wl K mg base CX0 2 "_law_snakes" ["_law_field_here", "_law_word_here"] (spLSnakes K)) : Cal P wl K mg base CX0 3 "_law_longest" ["_law_field_here", "_law_word_here"] (spLongest K) := by
  refine D.cal sc__law_longest bn__law_longest (fun vs H Q E h => ?_) (fun f cdv A outer s H vs Q E hr h => ?_)
  · obtain ⟨a, F, h, w, wd, rfl, _⟩ := h
    rfl
  · obtain ⟨a, F, h, w, wd, rfl, o, h6, q⟩ := h
    refine ⟨_, (pss_one (ps_ret (pe_callB (cr_max rfl) (by rfl) B.max (by decide +kernel) (pa_cons (pe_lc (own := [("_law_many", 2)]) (g := gName 2) (by rfl) sc__law_longest.nd (pi_range1 (by rfl) B.range (pa_cons (pe_op op_add (pe_callB call_len_str (by rfl) B.len PySem.boot_len (pa_cons (pv 1) pa_nil)) pe_int) pa_nil)) (blkOk_by (own := [("_law_many", 2)]) (N := ["_law_field_here", "_law_word_here", "_law_many"]) (sc := defScope s__law_longest) (by decide +kernel)) (fun _ _ _ _ _ => (pg_name (i := 2) sc__law_longest.nd rfl (Or.inl rfl))) (fun _ _ _ _ _ => (pts_one (PW.pt (pw_or (pt_cmpR op_eq (pv 2) pe_int (nomark _)) (pw_or1 (pt_cmpR (neDK K hr.units) (pcall c_law_snakes (hr.mono (by omega)) (by rfl) pass0 (pa_cons (pv 0) (pa_cons (pe_slice sl_str (pv 1) po_none (po_some (pv 2))) pa_nil))) (pe_lst pa_nil) (nomark _))))))) (fun _ _ _ _ _ => (pv 2))) pa_nil)))), ?_⟩
    have h5 := o.2.h5
    have w5 := o.2.w5
    refine ⟨tv wd, rfl, tx wd, rfl, by rw [tx_len]; exact small_line (by omega), _, 1, rfl, rfl, ((wd.length + 1 : Nat) : Int), by rw [tx_len]; rfl, by omega, by omega, ?_⟩
    rw [Int.toNat_natCast]
    refine lc_gen walk_range (small_line (by omega)) (ne_ F h w wd) (fun _ i v _ => v = .int ((i : Nat) : Int)) (fun _ _ _ _ _ _ _ _ _ z => z) (fun _ _ => trivial) (fun D' i x H1o H1 Qe Qn nD hi s1 _ y qe qn => ?_) fun D' ys H1 nD s1 hD hp => ?_
    · obtain ⟨rfl, rfl⟩ := y
      have e0 : (0 + (i : Int)) = (i : Int) := by omega
      simp only [e0]
      refine ⟨rfl, .int i, rfl, rfl, _, rfl, ?_⟩
      by_cases hi0 : i = 0
      · subst hi0
        exact iteT (iteT ⟨.int 0, rfl, qe _ _ (ne_zero F h w wd) (Same.refl _) rfl⟩)
      · rw [decide_eq_false (fun z => hi0 (by have := V.int.inj z; omega))]
        refine iteF ⟨.ref a, rfl, tv wd, rfl, .int i, rfl, i, rfl, tx wd, rfl, by rw [tx_len]; exact small_line (by omega), ?_⟩
        rw [cutS_take]
        refine ⟨a, F, h, w, wd.take i, rfl, o.same s1, by rw [List.length_take]; omega, fun H2 p ys s2 np hp hy => ?_⟩
        refine ⟨Nat.zero_le _, fun u nu => ?_⟩
        have su := same_new (o := .lst []) nu
        refine ⟨_, snakesD [], snks_dp (SqL.of (su _ _ hp)) (hy.same su), .lst (SqL.of upd_same) .nil, (shp_snakes _).ok, (shp_snakes _).ok, _, rfl, ?_⟩
        rw [eqv_snakes]
        have e1 : (!decide (snakesOn F h w (wd.take i) [] = [])) = ne_ F h w wd i := rfl
        rw [e1]
        cases e2 : ne_ F h w wd i with
        | true => exact iteT ⟨.int i, rfl, qe _ _ e2 (s2.trans su) rfl⟩
        | false => exact iteF (qn _ e2 (s2.trans su))
    · have ey := Paired.eqs hp
      refine ⟨D', ((List.range (wd.length + 1)).filter (ne_ F h w wd)).map fun i : Nat => ((i : Nat) : Int), rfl, .inl (.inl ?_), ?_, fun m hm hmx => ?_⟩
      · rw [hD, ey, List.map_map]; rfl
      · rw [List.length_map]
        exact List.length_pos_iff.mpr (List.ne_nil_of_mem (List.mem_filter.mpr ⟨List.mem_range.mpr (by omega : 0 < wd.length + 1), ne_zero F h w wd⟩))
      · obtain ⟨k, hk, rfl⟩ := List.mem_map.mp hm
        obtain ⟨hk1, hk2⟩ := List.mem_filter.mp hk
        have hk3 := List.mem_range.mp hk1
        refine q H1 k s1 ⟨by omega, hk2, fun j hj hj2 => ?_⟩
        cases e : ne_ F h w wd j with
        | false => rfl
        | true =>
          have := hmx (j : Int) (List.mem_map.mpr ⟨j, List.mem_filter.mpr ⟨List.mem_range.mpr (by omega), e⟩, rfl⟩)
          omega
end
end Sk
namespace Sk
open PySem PySem.Spec PyProof.Rows L2 Sn
def spFoundRight (K : PySem.W.Frag) : Sp := fun vs H Q _ => ∃ (a : Addr) (F : List (List Nat)) (h w : Nat) (b : Addr) (xs : List V) (cs : List Cel) (t : Addr) (os : List (List Nat)), vs = [.ref a, .ref b, .ref t] ∧ FieldAt K H a F h w ∧ SqL K H b xs ∧ Cells K H xs cs ∧ cs.length < 64 ∧ SqL K H t (os.map tv) ∧ ∀ H', Same H H' → Q (.bl true) H'
theorem foundB_no {F : List (List Nat)} {h w : Nat} {s : List Cel} {wd : List Nat} (e : snakeB h w s = false) : foundB F h w s wd = false := by
  unfold foundB; rw [e]; rfl
theorem foundB_yes {F : List (List Nat)} {h w : Nat} {s : List Cel} {wd : List Nat} (e : snakeB h w s = true) : foundB F h w s wd = decide (V.str (tx (spell F s)) = V.str (tx wd)) := by
  unfold foundB; rw [e, Bool.true_and]
  by_cases z : spell F s = wd
  · rw [z, decide_eq_true (show tv wd = tv wd from rfl), decide_eq_true (show wd = wd from rfl)]
  · rw [decide_eq_false z]
    exact (decide_eq_false fun y => z (tx_inj (V.str.inj y))).symm
section
variable {P : Program} {wl : World} {K : PySem.W.Frag} {mg : Str → Option Value} {base : Heap} {C_Answer C_Found C_Stops : Addr} {ps3 : List Str}
theorem ok_law_found_right (D : Dfn K mg "_law_found_right" s__law_found_right) (B : Bi mg) (k_Found : Kls K mg "Found" C_Found) (n_Found : NoAttr K C_Found "cells")
    (c_law_is_snake : Cal P wl K mg base CX0 2 "_law_is_snake" ["_law_field_here", "_law_cells_here"] (spIsSnake K)) (c_law_spelled : Cal P wl K mg base CX0 1 "_law_spelled" ["_law_field_here", "_law_cells_here"] (spSpelled K)) (c_law_says : Cal P wl K mg base CX0 1 "_law_says" ps3 spSays)
    (c_Found_init : CalI P wl K mg base CX0 1 C_Found ["self", "cells"] (spFoundInit K C_Found))
    (c_Found_shows : CalM P wl K mg base CX0 4 C_Found "shows" ["self", "field", "word"] (spFoundShows K C_Found)) :
    Cal P wl K mg base CX0 5 "_law_found_right" ["_law_field_here", "_law_cells_here", "_law_texts"] (spFoundRight K) := by
  refine D.cal sc__law_found_right bn__law_found_right (fun vs H Q E h => ?_) (fun f cdv A outer s H vs Q E hr h => ?_)
  · obtain ⟨a, F, h, w, b, xs, cs, t, os, rfl, _⟩ := h
    rfl
  · obtain ⟨a, F, h, w, b, xs, cs, t, os, rfl, o, hb, hc, h64, ht, q⟩ := h
    refine ⟨_, (pss_cons (ps_set (i := 3) sc__law_found_right.nd rfl (.inl rfl) (pe_callTy (listOf K) (by rfl) B.list (by decide +kernel) (pa_cons (pv 1) pa_nil)))
 (pss_cons (ps_set (i := 4) sc__law_found_right.nd rfl (.inl rfl) (pmake c_Found_init (hr.mono (by omega)) (by rfl) k_Found.g pass0 (pa_cons (pv 3) pa_nil)))
 (pss_cons (ps_expr (pe_bm PySem.F.plainAttrs_list PySem.F.slot_list_append PySem.F.type_list_append mt_append (pv 3) (pa_cons (lit_tup K (lits_cons K (lit_int K) (lits_cons K (lit_int K) (lits_nil K)))) pa_nil)))
 (pss_cons (ps_if (pt_cmpR (neDK K hr.units) (fldK K (pv 4) rfl) (pv 1) (nomark _))
 (pss_one (ps_ret pe_bl)) pss_nil)
 (pss_cons (ps_set (i := 5) sc__law_found_right.nd rfl (.inl rfl) (pcall c_law_is_snake (hr.mono (by omega)) (by rfl) pass0 (pa_cons (pv 0) (pa_cons (pv 1) pa_nil))))
 (pss_cons (ps_for PassesOwn.never rfl (piL K (pv 2)) (pg_name (i := 6) sc__law_found_right.nd rfl (.inl rfl))
 (pss_cons (ps_set (i := 7) sc__law_found_right.nd rfl (.inl rfl) (pe_and (pv 5) (pe_one (pe_cmpR op_eq (pcall c_law_spelled (hr.mono (by omega)) (by rfl) pass0 (pa_cons (pv 0) (pa_cons (pv 1) pa_nil))) (pv 6) (nomark _)))))
 (pss_one (ps_if (pt_not (pt_val (pcall c_law_says (hr.mono (by omega)) (by rfl) pass0 (pa_cons (pmeth c_Found_shows k_Found.cl (hr.mono (by omega)) pass0 (pv 4) (pa_cons (pv 0) (pa_cons (pv 6) pa_nil))) (pa_cons (pv 7) pa_nil)))))
 (pss_one (ps_ret pe_bl)) pss_nil))))
 (pss_one (ps_ret pe_bl)))))))), ?_⟩
    refine ⟨.ref b, rfl, b, _, rfl, .inl hb, fun L nL => ?_⟩
    have sL := same_new (o := .lst xs) nL
    refine ⟨.ref L, rfl, fun x dx nx nd nxd => ?_⟩
    have hL1 : upd H L (.lst xs) L = some (.lst xs) := upd_same
    refine ⟨x, dx, L, xs, rfl, upd_same, SqL.of (by rw [upd_ne (ne_of_none hL1 nx), upd_ne (ne_of_none hL1 nd)]; exact hL1), fun H2 l kb hx nl hl => ⟨rfl, ?_⟩⟩
    have s2 : Same (upd H L (.lst xs)) H2 := same_made nx nd kb
    have hL2 := s2 _ _ hL1
    have Lx : L ≠ x := ne_of_none hL1 nx
    have Ll : L ≠ l := by
      have e : upd (upd (upd H L (.lst xs)) dx (.own x)) x (.ins C_Found dx []) L = some (.lst xs) := by rw [upd_ne Lx, upd_ne (ne_of_none hL1 nd)]; exact hL1
      exact ne_of_none e nl
    refine ⟨.ref L, rfl, .inl ⟨rfl, _, SqL.of hL2⟩, fun v H3 s3 d3 => ⟨L, xs, v, rfl, rfl, s3 _ _ hL2, by rw [hc.length]; exact small1000 (by omega), ?_⟩⟩
    have s4 : Same H (upd H3 L (.lst (xs ++ [v]))) := same_upd (sL.trans (s2.trans s3)) nL
    have hx4 : upd H3 L (.lst (xs ++ [v])) x = some (.ins C_Found dx [("cells", .ref l)]) := by rw [upd_ne (Ne.symm Lx)]; exact s3 _ _ hx
    have hl4 : upd H3 L (.lst (xs ++ [v])) l = some (.lst xs) := by rw [upd_ne (Ne.symm Ll)]; exact s3 _ _ hl
    have hc4 := hc.le (TupLe.of s4)
    refine ⟨.ref x, rfl, x, C_Found, dx, _, .ref l, rfl, hx4, k_Found.cl, n_Found, rfl, .ref b, rfl, _, _, cells_dp (SqL.of hl4) hc4, cells_dp (s4.seq hb) hc4, (shp_cells _).ok, (shp_cells _).ok, _, rfl, ?_⟩
    rw [eqv_cells, decide_eq_true rfl]
    refine iteF ?_
    refine ⟨.ref a, rfl, .ref b, rfl, a, F, h, w, b, xs, cs, rfl, o.same s4, s4.seq hb, hc4, h64, fun H5 s5 => ?_⟩
    have s45 := s4.trans s5
    have hx5 := s5 _ _ hx4
    have hl5 := s5 _ _ hl4
    refine ⟨.ref t, rfl, t, rfl, ⟨_, s45.seq ht⟩, for_it (walk_list (xs := os.map tv)) (fun j σ H' => Same H5 H' ∧ ∃ y6 y7, σ = [some (.ref a), some (.ref b), some (.ref t), some (.ref L), some (.ref x), some (.bl (snakeB h w cs)), y6, y7])
      ⟨Same.refl _, none, none, rfl⟩ (fun j σ H' _ pv => (s45.trans pv.1).seq ht) (fun j v' σ H6o H6 hj pv y => ?_) fun σ H6 pv => ?_⟩
    · obtain ⟨rfl, hv⟩ := y
      obtain ⟨s6, y6, y7, rfl⟩ := pv
      obtain ⟨ot, hot, rfl⟩ : ∃ ot, ot ∈ os ∧ tv ot = v' := by
        obtain ⟨ot, h1, h2⟩ := List.mem_map.mp (List.mem_of_getElem? hv)
        exact ⟨ot, h1, h2⟩
      have s46 := s45.trans s6
      refine ⟨.bl (snakeB h w cs), rfl, snakeB h w cs, rfl, ?_⟩
      have fin : ∀ H7, Same H6 H7 → H7 x = some (.ins C_Found dx [("cells", .ref l)]) ∧ SqL K H7 l xs ∧ Cells K H7 xs cs ∧ FieldAt K H7 a F h w ∧ Same H5 H7 := fun H7 s7 =>
        ⟨s7 _ _ (s6 _ _ hx5), SqL.of (s7 _ _ (s6 _ _ hl5)), hc.le (TupLe.of (s46.trans s7)), o.same (s46.trans s7), s6.trans s7⟩
      cases e : snakeB h w cs with
      | false =>
        obtain ⟨f1, f2, f3, f4, f5⟩ := fin H6 (Same.refl _)
        refine iteF ⟨.ref x, rfl, x, dx, _, rfl, f1, rfl, .ref a, rfl, tv ot, rfl, x, dx, l, xs, cs, a, F, h, w, ot, rfl, f1, f2, f3, h64, f4, fun H8 s8 => ⟨.bl false, rfl, _, _, rfl, _, rfl, ?_⟩⟩
        rw [foundB_no e, decide_eq_true rfl]
        exact iteF ⟨f5.trans s8, _, _, rfl⟩
      | true =>
        refine iteT ⟨.ref a, rfl, .ref b, rfl, a, F, h, w, b, xs, cs, rfl, o.same s46, s46.seq hb, hc.le (TupLe.of s46), (snakeB_iff.mp e).2.vld, by omega, fun H7 s7 => ⟨tv ot, rfl, rfl, ?_⟩⟩
        obtain ⟨f1, f2, f3, f4, f5⟩ := fin H7 s7
        refine ⟨.ref x, rfl, x, dx, _, rfl, f1, rfl, .ref a, rfl, tv ot, rfl, x, dx, l, xs, cs, a, F, h, w, ot, rfl, f1, f2, f3, h64, f4, fun H8 s8 => ⟨_, rfl, _, _, rfl, _, rfl, ?_⟩⟩
        rw [foundB_yes e, decide_eq_true rfl]
        exact iteF ⟨f5.trans s8, _, _, rfl⟩
    · obtain ⟨s6, y6, y7, rfl⟩ := pv
      exact q _ (s45.trans s6)
end
end Sk
/-! What the laws' last defs share. -/
namespace Sk
open PySem PySem.Spec PyProof.Rows L2 Sn
def spLaw (K : PySem.W.Frag) : Sp := fun vs H Q _ => ∃ a ns n, vs = [.ref a] ∧ SqL K H a (ns.map V.int) ∧ Bits n ns ∧ n ≤ 1900000 ∧ ns.length ≤ 63 ∧ ∀ H', Q (.bl true) H'
theorem cutS_takeL (r : List Nat) (n : Nat) : cutS (tx r) none (some (n : Int)) = tx (r.take n) := by
  unfold cutS
  rw [HT.sIx_none, HT.sIx_nat, tx_cps, tx_len, List.drop_zero, Nat.sub_zero]
  show tx (r.take (min n r.length)) = _
  congr 1
  by_cases hn : n ≤ r.length
  · rw [Nat.min_eq_left hn]
  · rw [Nat.min_eq_right (by omega), List.take_length, List.take_of_length_le (by omega)]
theorem cutS1 (r : List Nat) : cutS (tx r) none (some 1) = tx (r.take 1) := cutS_takeL r 1
theorem cutS2 (r : List Nat) : cutS (tx r) none (some 2) = tx (r.take 2) := cutS_takeL r 2
theorem cutS6 (r : List Nat) : cutS (tx r) none (some 6) = tx (r.take 6) := cutS_takeL r 6
theorem repS_tx (r : List Nat) (n : Nat) : repS (tx r) n = tx (List.replicate n r).flatten := by unfold repS; rw [tx_cps]; rfl
theorem WordOk.rev {r : List Nat} (o : WordOk r) : WordOk r.reverse := ⟨by rw [List.length_reverse]; exact o.l1, by rw [List.length_reverse]; exact o.l6, fun c hc => o.let_ c (List.mem_reverse.mp hc)⟩
theorem WordOk.take {r : List Nat} (h1 : 1 ≤ r.length) (hl : ∀ c ∈ r, letter c) {n : Nat} (hn : 1 ≤ n) (hn6 : n ≤ 6) : WordOk (r.take n) := ⟨by rw [List.length_take]; omega, by rw [List.length_take]; omega, fun c hc => hl c (List.mem_of_mem_take hc)⟩
theorem WordOk.rep3 {r : List Nat} (o : WordOk r) : WordOk (List.replicate 3 (r.take 1)).flatten := by
  have e : (List.replicate 3 (r.take 1)).flatten = r.take 1 ++ (r.take 1 ++ r.take 1) := by simp [List.replicate]
  have l1 := o.l1
  have l : (r.take 1).length = 1 := by rw [List.length_take]; omega
  rw [e]
  refine ⟨?_, ?_, fun c hc => ?_⟩
  · rw [List.length_append, l]; omega
  · rw [List.length_append, List.length_append, l]; omega
  · have : c ∈ r.take 1 := by
      rcases List.mem_append.mp hc with z | z
      · exact z
      · rcases List.mem_append.mp z with z | z <;> exact z
    exact o.let_ c (List.mem_of_mem_take this)
def wordB (r : List Nat) : Bool := decide (1 ≤ r.length) && decide (r.length ≤ 6) && r.all letB
theorem wordB_ok {r : List Nat} (e : wordB r = true) : WordOk r := by
  unfold wordB at e
  simp only [Bool.and_eq_true, decide_eq_true_eq, List.all_eq_true] at e
  exact ⟨e.1.1, e.1.2, fun c hc => letB_letter.mp (e.2 c hc)⟩
theorem dp_cells_tup {K : PySem.W.Frag} {H : Hp} {v : V} {cs : List Cel} (h : Dp K H v (.tuple (cs.map cellD))) : ∃ a xs, v = .ref a ∧ SqT K H a xs ∧ Cells K H xs cs := by
  cases h with
  | tup q t => exact ⟨_, _, rfl, q, dp_cells_all t⟩
theorem dp_tup_texts {K : PySem.W.Frag} {H : Hp} {v : V} {F : List (List Nat)} (h : Dp K H v (.tuple (F.map textD))) : ∃ a, v = .ref a ∧ SqT K H a (F.map tv) := by
  cases h with
  | tup q t => exact ⟨_, rfl, by rw [← dp_texts_all t]; exact q⟩
end Sk
namespace Sk
open PySem PySem.Spec PyProof.Rows L2 Sn
theorem same_mk {H : Hp} {x dx C : Addr} (nx : H x = none) (nd : H dx = none) (nxd : dx ≠ x) : Same H (upd (upd H dx (.own x)) x (.ins C dx [])) :=
  (same_new nd).trans (same_new (by rw [upd_ne (Ne.symm nxd)]; exact nx))
/-- a list of cells, few -/
def SqCs (K : PySem.W.Frag) (H : Hp) (v : V) : Prop := ∃ q ys cs, v = .ref q ∧ SqL K H q ys ∧ Cells K H ys cs ∧ cs.length < 64
theorem SqCs.same {K : PySem.W.Frag} {H H' : Hp} {v : V} (h : SqCs K H v) (s : Same H H') : SqCs K H' v := by
  obtain ⟨q, ys, cs, e, a, b, c⟩ := h
  exact ⟨q, ys, cs, e, s.seq a, b.le (TupLe.of s), c⟩
theorem sqcs_dp {K : PySem.W.Frag} {H : Hp} {v : V} (cs : List Cel) (h : Dp K H v (cellsD cs)) (h64 : cs.length < 64) : SqCs K H v := by
  obtain ⟨a, xs, e, b, c⟩ := dp_cells h
  exact ⟨a, xs, cs, e, b, c, h64⟩
theorem lgst_dec (z : Int) (k : Nat) (n : Nat) : (decide (z < (n : Int)) && decide (z = (k : Int))) = if decide (z < (n : Int)) = true then decide (V.int z = V.int (k : Int)) else false := by
  have e2 : decide (V.int z = V.int (k : Int)) = decide (z = (k : Int)) := by
    by_cases y : z = (k : Int)
    · rw [decide_eq_true y, y]; exact decide_eq_true rfl
    · rw [decide_eq_false y]
      exact decide_eq_false fun u => y (V.int.inj u)
  rw [e2]
  cases decide (z < (n : Int)) <;> rfl
section
variable {P : Program} {wl : World} {K : PySem.W.Frag} {mg : Str → Option Value} {base : Heap} {C_Answer C_Found C_Stops : Addr} {ps3 : List Str}
theorem ok_law (D : Dfn K mg "law" s_law) (B : Bi mg) (k_Found : Kls K mg "Found" C_Found) (k_Stops : Kls K mg "Stops" C_Stops) (n_Found : NoAttr K C_Found "cells") (n_Stops : NoAttr K C_Stops "many")
    (c_law_field : Cal P wl K mg base CX0 3 "_law_field" ["_law_script", "_law_by", "_law_most"] (spField K))
    (c_law_word : Cal P wl K mg base CX0 3 "_law_word" ["_law_script", "_law_by", "_law_field_here", "_law_most"] (spLWord K))
    (c_law_snakes : Cal P wl K mg base CX0 2 "_law_snakes" ["_law_field_here", "_law_word_here"] (spLSnakes K))
    (c_law_cells : Cal P wl K mg base CX0 1 "_law_cells" ["_law_field_here"] (spCells K))
    (c_law_found_right : Cal P wl K mg base CX0 5 "_law_found_right" ["_law_field_here", "_law_cells_here", "_law_texts"] (spFoundRight K))
    (c_law_longest : Cal P wl K mg base CX0 3 "_law_longest" ["_law_field_here", "_law_word_here"] (spLongest K))
    (c_law_says : Cal P wl K mg base CX0 1 "_law_says" ps3 spSays)
    (c_Found_init : CalI P wl K mg base CX0 1 C_Found ["self", "cells"] (spFoundInit K C_Found)) (c_Stops_init : CalI P wl K mg base CX0 1 C_Stops ["self", "many"] (spStopsInit C_Stops))
    (c_Found_shows : CalM P wl K mg base CX0 4 C_Found "shows" ["self", "field", "word"] (spFoundShows K C_Found)) (c_Stops_shows : CalM P wl K mg base CX0 11 C_Stops "shows" ["self", "field", "word"] (spStopsShows K C_Stops)) :
    CalG P wl K mg base CX0 13 "law" ["_law_script"] (spLaw K) := by
  refine D.calG sc_law bn_law (fun vs H Q E h => ?_) (fun f cdv A outer s H vs Q E hr gd h => ?_)
  · obtain ⟨a, ns, n, rfl, _⟩ := h
    rfl
  · obtain ⟨a, ns, n, rfl, hs, hb, hn, hlen, q⟩ := h
    refine ⟨_, (pss_cons (ps_for PassesOwn.never rfl (pi_range3 (by rfl) B.range (pa_cons pe_int (pa_cons (pe_callB (call_max2 rfl) (by rfl) B.max (by decide +kernel) (pa_cons pe_int (pa_cons (pe_callB (call_min2 rfl) (by rfl) B.min (by decide +kernel) (pa_cons pe_int (pa_cons (pe_callB (lenSq K) (by rfl) B.len PySem.boot_len (pa_cons (pv 0) pa_nil)) pa_nil))) pa_nil))) (pa_cons pe_int pa_nil)))) (pg_name (i := 1) sc_law.nd rfl (.inl rfl))
 (pss_cons (ps_set (i := 2) sc_law.nd rfl (.inl rfl) (pcall c_law_field (hr.mono (by omega)) (by rfl) pass0 (pa_cons (pv 0) (pa_cons (pv 1) (pa_cons pe_int pa_nil)))))
 (pss_cons (ps_par (i := 3) (j := 4) (by rfl) sc_law.nd rfl rfl (by decide) rfl rfl (pa_cons (pcall c_law_word (hr.mono (by omega)) (by rfl) pass0 (pa_cons (pv 0) (pa_cons (pv 1) (pa_cons (pv 2) (pa_cons pe_int pa_nil))))) (pa_cons (pcall c_law_word (hr.mono (by omega)) (by rfl) pass0 (pa_cons (pv 0) (pa_cons (pe_op op_add (pv 1) pe_int) (pa_cons (pv 2) (pa_cons pe_int pa_nil))))) pa_nil)) (by rfl))
 (pss_cons (ps_set (i := 5) sc_law.nd rfl (.inl rfl) (pe_op op_cat (pe_slice (slL K) (pcall c_law_snakes (hr.mono (by omega)) (by rfl) pass0 (pa_cons (pv 2) (pa_cons (pv 3) pa_nil))) po_none (po_some pe_int)) (pe_slice (slL K) (pcall c_law_snakes (hr.mono (by omega)) (by rfl) pass0 (pa_cons (pv 2) (pa_cons (pv 4) pa_nil))) po_none (po_some pe_int))))
 (pss_cons (ps_set (i := 6) sc_law.nd rfl (.inl rfl) (pe_lst (pa_cons (pv 3) (pa_cons (pv 4) (pa_cons (pe_revS (pv 3)) (pa_cons (pe_slice sl_str (pv 3) po_none (po_some pe_int)) pa_nil))))))
 (pss_cons (ps_set (i := 7) sc_law.nd rfl (.inl rfl) (pe_lst (pa_cons (pe_lst pa_nil) (pa_cons (lit_list K (lits_cons K (lit_tup K (lits_cons K (lit_int K) (lits_cons K (lit_int K) (lits_nil K)))) (lits_nil K))) (pa_cons (lit_list K (lits_cons K (lit_tup K (lits_cons K (lit_int K) (lits_cons K (lit_int K) (lits_nil K)))) (lits_cons K (lit_tup K (lits_cons K (lit_int K) (lits_cons K (lit_int K) (lits_nil K)))) (lits_nil K)))) (pa_cons (lit_list K (lits_cons K (lit_tup K (lits_cons K (lit_int K) (lits_cons K (lit_int K) (lits_nil K)))) (lits_cons K (lit_tup K (lits_cons K (lit_int K) (lits_cons K (lit_int K) (lits_nil K)))) (lits_nil K)))) (pa_cons (lit_list K (lits_cons K (lit_tup K (lits_cons K (lit_neg K) (lits_cons K (lit_int K) (lits_nil K)))) (lits_nil K))) (pa_cons (pe_lst (pa_cons (pe_tup (pa_cons pe_int (pa_cons (pe_op op_pow pe_int pe_int) pa_nil))) pa_nil)) (pa_cons (pcall c_law_cells (hr.mono (by omega)) (by rfl) pass0 (pa_cons (pv 2) pa_nil)) pa_nil)))))))))
 (pss_cons (ps_for PassesOwn.never rfl (piL K (pv 5)) (pg_name (i := 8) sc_law.nd rfl (.inl rfl))
 (pss_one (ps_set (i := 7) sc_law.nd rfl (.inl rfl) (pe_op op_cat (pv 7) (pe_lst (pa_cons (pv 8) (pa_cons (revL K (pv 8)) (pa_cons (pe_slice (slL K) (pv 8) (po_some pe_int) po_none) (pa_cons (pe_op op_cat (pv 8) (pe_slice (slL K) (pv 8) po_none (po_some pe_int))) (pa_cons (pe_op op_cat (pv 8) (pe_lst (pa_cons (pe_tup (pa_cons (pe_callB (lenSq K) (by rfl) B.len PySem.boot_len (pa_cons (pv 2) pa_nil)) (pa_cons pe_int pa_nil))) pa_nil))) pa_nil))))))))))
 (pss_cons (ps_for PassesOwn.never rfl (piL K (pv 7)) (pg_name (i := 8) sc_law.nd rfl (.inl rfl))
 (pss_one (ps_if (pt_not (pt_val (pcall c_law_found_right (hr.mono (by omega)) (by rfl) pass0 (pa_cons (pv 2) (pa_cons (pv 8) (pa_cons (pv 6) pa_nil))))))
 (pss_one (ps_ret pe_bl)) pss_nil)))
 (pss_one (ps_for PassesOwn.never rfl (piL K (pv 6)) (pg_name (i := 9) sc_law.nd rfl (.inl rfl))
 (pss_cons (ps_set (i := 10) sc_law.nd rfl (.inl rfl) (pcall c_law_longest (hr.mono (by omega)) (by rfl) pass0 (pa_cons (pv 2) (pa_cons (pv 9) pa_nil))))
 (pss_one (ps_for PassesOwn.never rfl (piT K (pe_tup (pa_cons (pv 10) (pa_cons (pe_op op_add (pv 10) pe_int) (pa_cons (pe_op op_sub (pv 10) pe_int) (pa_cons pe_int (pa_cons (pe_un un_neg pe_int) (pa_cons (pe_callB call_len_str (by rfl) B.len PySem.boot_len (pa_cons (pv 9) pa_nil)) (pa_cons (pe_op op_pow pe_int pe_int) pa_nil))))))))) (pg_name (i := 11) sc_law.nd rfl (.inl rfl))
 (pss_cons (ps_set (i := 12) sc_law.nd rfl (.inl rfl) (pe_and (pe_cmpR op_lt (pv 11) (pe_callB call_len_str (by rfl) B.len PySem.boot_len (pa_cons (pv 9) pa_nil)) (nomark _)) (pe_one (pe_cmpR op_eq (pv 11) (pv 10) (nomark _)))))
 (pss_one (ps_if (PW.pt (pw_or (pt_cmpR op_ne (fldK K (pmake c_Stops_init (hr.mono (by omega)) (by rfl) k_Stops.g pass0 (pa_cons (pv 11) pa_nil)) rfl) (pv 11) (nomark _)) (pw_or1 (pt_not (pt_val (pcall c_law_says (hr.mono (by omega)) (by rfl) pass0 (pa_cons (pmeth c_Stops_shows k_Stops.cl (hr.mono (by omega)) pass0 (pmake c_Stops_init (hr.mono (by omega)) (by rfl) k_Stops.g pass0 (pa_cons (pv 11) pa_nil)) (pa_cons (pv 2) (pa_cons (pv 9) pa_nil))) (pa_cons (pv 12) pa_nil))))))))
 (pss_one (ps_ret pe_bl)) pss_nil))))))))))))))))
 (pss_cons (ps_if (pt_cmpR op_notBl (pmeth c_Found_shows k_Found.cl (hr.mono (by omega)) pass0 (pmake c_Found_init (hr.mono (by omega)) (by rfl) k_Found.g pass0 (pa_cons (lit_list K (lits_cons K (lit_tup K (lits_cons K (lit_int K) (lits_cons K (lit_int K) (lits_nil K)))) (lits_cons K (lit_tup K (lits_cons K (lit_int K) (lits_cons K (lit_int K) (lits_nil K)))) (lits_cons K (lit_tup K (lits_cons K (lit_int K) (lits_cons K (lit_int K) (lits_nil K)))) (lits_nil K))))) pa_nil)) (pa_cons (lit_list K (lits_cons K (lit_str K) (lits_nil K))) (pa_cons pe_str pa_nil))) pe_bl (nomark _))
 (pss_one (ps_ret pe_bl)) pss_nil)
 (pss_cons (ps_if (PW.pt (pw_or (pt_val (pmeth c_Found_shows k_Found.cl (hr.mono (by omega)) pass0 (pmake c_Found_init (hr.mono (by omega)) (by rfl) k_Found.g pass0 (pa_cons (lit_list K (lits_cons K (lit_tup K (lits_cons K (lit_int K) (lits_cons K (lit_int K) (lits_nil K)))) (lits_cons K (lit_tup K (lits_cons K (lit_int K) (lits_cons K (lit_neg K) (lits_nil K)))) (lits_nil K)))) pa_nil)) (pa_cons (lit_list K (lits_cons K (lit_str K) (lits_nil K))) (pa_cons pe_str pa_nil)))) (pw_or1 (pt_val (pmeth c_Found_shows k_Found.cl (hr.mono (by omega)) pass0 (pmake c_Found_init (hr.mono (by omega)) (by rfl) k_Found.g pass0 (pa_cons (lit_list K (lits_cons K (lit_tup K (lits_cons K (lit_int K) (lits_cons K (lit_int K) (lits_nil K)))) (lits_cons K (lit_tup K (lits_cons K (lit_neg K) (lits_cons K (lit_int K) (lits_nil K)))) (lits_nil K)))) pa_nil)) (pa_cons (lit_list K (lits_cons K (lit_str K) (lits_cons K (lit_str K) (lits_nil K)))) (pa_cons pe_str pa_nil)))))))
 (pss_one (ps_ret pe_bl)) pss_nil)
 (pss_cons (ps_asg (pe_tup (pa_cons (pmake c_Found_init (hr.mono (by omega)) (by rfl) k_Found.g pass0 (pa_cons (lit_list K (lits_cons K (lit_tup K (lits_cons K (lit_int K) (lits_cons K (lit_int K) (lits_nil K)))) (lits_cons K (lit_tup K (lits_cons K (lit_int K) (lits_cons K (lit_int K) (lits_nil K)))) (lits_nil K)))) pa_nil)) (pa_cons (pmake c_Stops_init (hr.mono (by omega)) (by rfl) k_Stops.g pass0 (pa_cons pe_int pa_nil)) (pa_cons (pmake c_Stops_init (hr.mono (by omega)) (by rfl) k_Stops.g pass0 (pa_cons pe_int pa_nil)) pa_nil)))) (pg_tup rfl (pgs_cons (pg_name (i := 13) sc_law.nd rfl (.inr rfl)) (pgs_cons (pg_name (i := 14) sc_law.nd rfl (.inl rfl)) (pgs_cons (pg_name (i := 15) sc_law.nd rfl (.inl rfl)) pgs_nil)))))
 (pss_cons (ps_set (i := 16) sc_law.nd rfl (.inl rfl) (pe_lst (pa_cons (pmeth c_Found_shows k_Found.cl (hr.mono (by omega)) pass0 (pv 13) (pa_cons (lit_list K (lits_cons K (lit_str K) (lits_cons K (lit_str K) (lits_nil K)))) (pa_cons pe_str pa_nil))) pa_nil)))
 (pss_cons (ps_asg (lit_tup K (lits_cons K (lit_int K) (lits_cons K (lit_int K) (lits_nil K)))) (pg_sub (fldK K (pv 13) rfl) pe_int set_list))
 (pss_cons (ps_set (i := 16) sc_law.nd rfl (.inl rfl) (pe_op op_cat (pv 16) (pe_lc (own := [("_law_word_here", 3)]) (g := gName 3) (tt := tYes) (by rfl) sc_law.nd (piT K (lit_tup K (lits_cons K (lit_str K) (lits_cons K (lit_str K) (lits_nil K))))) (blkOk_by (own := [("_law_word_here", 3)]) (N := ["_law_script", "_law_by", "_law_field_here", "_law_word_here", "_law_other", "_law_every", "_law_texts", "_law_tried", "_law_cells_here", "_law_some", "_law_most", "_law_many", "_law_due", "_law_answer", "_law_one", "_law_none", "_law_said", "_law_stop"]) (sc := defScope s_law) (by decide +kernel)) (fun _ _ _ _ _ => (pg_name (i := 3) sc_law.nd rfl (Or.inl rfl))) (fun _ _ _ _ _ => pts_nil) (fun _ _ _ _ _ => (pmeth c_Found_shows k_Found.cl (hr.mono (by omega)) pass0 (pv 13) (pa_cons (lit_list K (lits_cons K (lit_str K) (lits_cons K (lit_str K) (lits_nil K)))) (pa_cons (pv 3) pa_nil)))))))
 (pss_cons (ps_set (i := 16) sc_law.nd rfl (.inl rfl) (pe_op op_cat (pv 16) (pe_lc (own := [("_law_stop", 17)]) (g := gName 17) (tt := tYes) (by rfl) sc_law.nd (piT K (pe_tup (pa_cons (pv 14) (pa_cons (pv 15) pa_nil)))) (blkOk_by (own := [("_law_stop", 17)]) (N := ["_law_script", "_law_by", "_law_field_here", "_law_word_here", "_law_other", "_law_every", "_law_texts", "_law_tried", "_law_cells_here", "_law_some", "_law_most", "_law_many", "_law_due", "_law_answer", "_law_one", "_law_none", "_law_said", "_law_stop"]) (sc := defScope s_law) (by decide +kernel)) (fun _ _ _ _ _ => (pg_name (i := 17) sc_law.nd rfl (Or.inl rfl))) (fun _ _ _ _ _ => pts_nil) (fun _ _ _ _ _ => (pmeth c_Stops_shows k_Stops.cl (hr.mono (by omega)) pass0 (pv 17) (pa_cons (lit_list K (lits_cons K (lit_str K) (lits_nil K))) (pa_cons pe_str pa_nil)))))))
 (pss_cons (ps_set (i := 16) sc_law.nd rfl (.inl rfl) (pe_op op_cat (pv 16) (pe_lc (own := [("_law_stop", 17)]) (g := gName 17) (tt := tYes) (by rfl) sc_law.nd (piT K (pe_tup (pa_cons (pv 14) (pa_cons (pv 15) pa_nil)))) (blkOk_by (own := [("_law_stop", 17)]) (N := ["_law_script", "_law_by", "_law_field_here", "_law_word_here", "_law_other", "_law_every", "_law_texts", "_law_tried", "_law_cells_here", "_law_some", "_law_most", "_law_many", "_law_due", "_law_answer", "_law_one", "_law_none", "_law_said", "_law_stop"]) (sc := defScope s_law) (by decide +kernel)) (fun _ _ _ _ _ => (pg_name (i := 17) sc_law.nd rfl (Or.inl rfl))) (fun _ _ _ _ _ => pts_nil) (fun _ _ _ _ _ => (pmeth c_Stops_shows k_Stops.cl (hr.mono (by omega)) pass0 (pv 17) (pa_cons (lit_list K (lits_cons K (lit_str K) (lits_nil K))) (pa_cons pe_str pa_nil)))))))
 (pss_cons (ps_if (pt_cmpR (neDK K hr.units) (pv 16) (lit_list K (lits_cons K (lit_bl K) (lits_cons K (lit_bl K) (lits_cons K (lit_bl K) (lits_cons K (lit_bl K) (lits_cons K (lit_bl K) (lits_cons K (lit_bl K) (lits_cons K (lit_bl K) (lits_nil K))))))))) (nomark _))
 (pss_one (ps_ret pe_bl)) pss_nil)
 (pss_one (ps_ret (pe_and (pe_cmpR op_isBl (pmeth c_Found_shows k_Found.cl (hr.mono (by omega)) pass0 (pmake c_Found_init (hr.mono (by omega)) (by rfl) k_Found.g pass0 (pa_cons (lit_list K (lits_cons K (lit_tup K (lits_cons K (lit_int K) (lits_cons K (lit_int K) (lits_nil K)))) (lits_cons K (lit_tup K (lits_cons K (lit_int K) (lits_cons K (lit_int K) (lits_nil K)))) (lits_nil K)))) pa_nil)) (pa_cons (lit_list K (lits_cons K (lit_str K) (lits_nil K))) (pa_cons pe_str pa_nil))) pe_bl (nomark _)) (pe_one (pe_cmpR op_isBl (pmeth c_Stops_shows k_Stops.cl (hr.mono (by omega)) pass0 (pmake c_Stops_init (hr.mono (by omega)) (by rfl) k_Stops.g pass0 (pa_cons pe_int pa_nil)) (pa_cons (lit_list K (lits_cons K (lit_str K) (lits_nil K))) (pa_cons pe_str pa_nil))) pe_bl (nomark _)))))))))))))))), ?_⟩
    refine ⟨.ref a, rfl, a, _, rfl, .inl hs, 8, _, rfl, 1, _, rfl, ?_⟩
    rw [List.length_map]
    obtain ⟨t1, t8⟩ := top8_bd ns.length
    obtain ⟨m, hm, hrg⟩ := range4 t1 t8
    refine ⟨0, top8 ns.length, 4, m, rfl, hrg, ?_⟩
    refine for_it walk_rangeC (fun i σ H' => Same H H' ∧ ∃ y1 y2 y3 y4 y5 y6 y7 y8 y9 y10 y11 y12, σ = [some (.ref a), y1, y2, y3, y4, y5, y6, y7, y8, y9, y10, y11, y12, none, none, none, none, none])
      ⟨Same.refl _, none, none, none, none, none, none, none, none, none, none, none, none, rfl⟩ (fun _ _ _ _ _ => trivial) (fun i x σ H1o H1 hi pv y => ?_) fun σ H1 pv => ?_
    · obtain ⟨rfl, rfl⟩ := y
      obtain ⟨sm, y1, y2, y3, y4, y5, y6, y7, y8, y9, y10, y11, y12, rfl⟩ := pv
      have by0 : (0 : Int) ≤ 0 + (i : Nat) * 4 := by omega
      have by9 : (0 : Int) + (i : Nat) * 4 ≤ 20 := by omega
      refine ⟨.ref a, rfl, .int (0 + (i : Nat) * 4), rfl, a, ns, _, 3, n, rfl, sm.seq hs, hb, hn, by omega, by omega, by decide, by decide, fun H2 p F h w s2 np hp oF _ _ => ?_⟩
      have h5 := oF.h5
      have w5 := oF.w5
      have s12 := sm.trans s2
      refine ⟨.ref a, rfl, .int (0 + (i : Nat) * 4), rfl, .ref p, rfl, a, ns, _, n, p, F, h, w, 4, rfl, s12.seq hs, hb, hn, by0, by omega, ⟨SqL.of hp, oF⟩, by decide, by decide, fun H3 r1 s3 a1 a5 al => ?_⟩
      have s13 := s12.trans s3
      have hp3 := s3 _ _ hp
      refine ⟨.ref a, rfl, .int (0 + (i : Nat) * 4), rfl, _, 1, rfl, rfl, .ref p, rfl, a, ns, _, n, p, F, h, w, 3, rfl, s13.seq hs, hb, hn, by omega, by omega, ⟨SqL.of hp3, oF⟩, by decide, by decide, fun H4 r2 s4 b1 b4 bl => ?_⟩
      refine ⟨_, _, rfl, ?_⟩
      have s14 := s13.trans s4
      have hp4 := s4 _ _ hp3
      have o1 : WordOk r1 := ⟨a1, by omega, al⟩
      have o2 : WordOk r2 := ⟨b1, by omega, bl⟩
      have lr1 : (tx r1).length ≤ sizeLine := by rw [tx_len]; exact small_line (by omega)
      -- every
      refine ⟨.ref p, rfl, tv r1, rfl, p, F, h, w, r1, rfl, ⟨SqL.of hp4, oF⟩, o1.l6, fun H5 e1 ys1 s5 ne1 he1 hy1 => ?_⟩
      refine ⟨3, rfl, e1, _, rfl, SqL.of he1, fun sl1 nsl1 => ?_⟩
      have c3 : cutV ys1 none (some 3) = ys1.take 3 := cut_take ys1 3
      rw [c3]
      have ss1 := same_new (o := .lst (ys1.take 3)) nsl1
      have s45 := s5.trans ss1
      refine ⟨.ref p, rfl, tv r2, rfl, p, F, h, w, r2, rfl, ⟨SqL.of (s45 _ _ hp4), oF⟩, o2.l6, fun H6 e2 ys2 s6 ne2 he2 hy2 => ?_⟩
      refine ⟨2, rfl, e2, _, rfl, SqL.of he2, fun sl2 nsl2 => ?_⟩
      have c2 : cutV ys2 none (some 2) = ys2.take 2 := cut_take ys2 2
      rw [c2]
      have ss2 := same_new (o := .lst (ys2.take 2)) nsl2
      have s46 := s45.trans (s6.trans ss2)
      refine ⟨sl1, sl2, _, _, rfl, rfl, ss2 _ _ (s6 _ _ upd_same), upd_same, by rw [List.length_take, List.length_take]; exact small_line (by omega), fun ev nev => ?_⟩
      have sev := same_new (o := .lst (ys1.take 3 ++ ys2.take 2)) nev
      have s47 := s46.trans sev
      have lev : (ys1.take 3 ++ ys2.take 2).length ≤ 5 := by rw [List.length_append, List.length_take, List.length_take]; omega
      have hsn : ∀ v ∈ ys1.take 3 ++ ys2.take 2, ∃ q ys cs, v = .ref q ∧ upd (upd H6 sl2 (.lst (ys2.take 2))) ev (.lst (ys1.take 3 ++ ys2.take 2)) q = some (.lst ys) ∧ Cells K (upd (upd H6 sl2 (.lst (ys2.take 2))) ev (.lst (ys1.take 3 ++ ys2.take 2))) ys cs ∧ cs.length ≤ 6 := by
        intro v hv
        rcases List.mem_append.mp hv with hv | hv
        · obtain ⟨k, hk⟩ := List.mem_iff_getElem?.mp (List.mem_of_mem_take hv)
          obtain ⟨cs, hcs, q, ys, e, _, hq, hy⟩ := Paired.get hy1 hk
          have sA := ss1.trans (s6.trans (ss2.trans sev))
          have := congrArg List.length (snakes_mem h5 w5 (List.mem_of_getElem? hcs)).2
          simp only [spell, List.length_map] at this
          exact ⟨q, ys, cs, e, sA _ _ hq, hy.le (TupLe.of sA), by omega⟩
        · obtain ⟨k, hk⟩ := List.mem_iff_getElem?.mp (List.mem_of_mem_take hv)
          obtain ⟨cs, hcs, q, ys, e, _, hq, hy⟩ := Paired.get hy2 hk
          have sA := ss2.trans sev
          have := congrArg List.length (snakes_mem h5 w5 (List.mem_of_getElem? hcs)).2
          simp only [spell, List.length_map] at this
          exact ⟨q, ys, cs, e, sA _ _ hq, hy.le (TupLe.of sA), by omega⟩
      have hev : upd (upd H6 sl2 (.lst (ys2.take 2))) ev (.lst (ys1.take 3 ++ ys2.take 2)) ev = some (.lst (ys1.take 3 ++ ys2.take 2)) := upd_same
      generalize upd (upd H6 sl2 (.lst (ys2.take 2))) ev (.lst (ys1.take 3 ++ ys2.take 2)) = H7 at s47 hsn hev ⊢
      generalize ys1.take 3 ++ ys2.take 2 = evs at lev hsn hev
      -- texts
      refine ⟨tv r1, rfl, tv r2, rfl, tv r1, rfl, tx r1, rfl, lr1, tv r1, rfl, 1, rfl, tx r1, rfl, lr1, by show 4 ≤ sizeLine; decide, fun tt ntt => ?_⟩
      rw [revS_tx, cutS1]
      have stt := same_new (o := .lst ([r1, r2, r1.reverse, r1.take 1].map tv)) ntt
      have htt : upd H7 tt (.lst ([r1, r2, r1.reverse, r1.take 1].map tv)) tt = some (.lst ([r1, r2, r1.reverse, r1.take 1].map tv)) := upd_same
      have ho6 : ∀ o ∈ [r1, r2, r1.reverse, r1.take 1], o.length ≤ 6 := by
        intro o ho
        simp only [List.mem_cons, List.not_mem_nil, or_false] at ho
        rcases ho with rfl | rfl | rfl | rfl
        · exact o1.l6
        · exact o2.l6
        · exact o1.rev.l6
        · rw [List.length_take]; omega
      -- tried
      have s48 := s47.trans stt
      have hev8 := stt _ _ hev
      refine ⟨Nat.zero_le _, fun u0 nu0 => ?_⟩
      have su0 := same_new (o := .lst []) nu0
      refine fun v1 K1 k1 d1 v2 K2 k2 d2 v3 K3 k3 d3 v4 K4 k4 d4 => ?_
      refine ⟨10, 20, rfl, rfl, ⟨by decide, by decide, by decide⟩, by show 2 ≤ sizeLine; decide, fun tu ntu => ⟨by show 1 ≤ sizeLine; decide, fun u5 nu5 => ?_⟩⟩
      have stu := same_new (o := .tup [.int 0, .int (10 ^ (20 : Int).toNat)]) ntu
      have su5 := same_new (o := .lst [.ref tu]) nu5
      have s49 := s48.trans (su0.trans (k1.trans (k2.trans (k3.trans (k4.trans (stu.trans su5))))))
      refine ⟨.ref p, rfl, p, F, h, w, rfl, ⟨SqL.of (s49 _ _ hp4), oF⟩, fun H8 e6 zs6 s8 ne6 he6 hz6 => ?_⟩
      refine ⟨by show 7 ≤ sizeLine; decide, fun tr ntr => ?_⟩
      have str := same_new (o := .lst [.ref u0, v1, v2, v3, v4, .ref u5, .ref e6]) ntr
      have s4A := s49.trans (s8.trans str)
      have htry : ∀ v ∈ [.ref u0, v1, v2, v3, v4, .ref u5, .ref e6], SqCs K (upd H8 tr (.lst [.ref u0, v1, v2, v3, v4, .ref u5, .ref e6])) v := by
        have z7 := s8.trans str
        have z6 := stu.trans (su5.trans z7)
        have z5 := k4.trans z6
        have z4 := k3.trans z5
        have z3 := k2.trans z4
        have z2 := k1.trans z3
        intro v hv
        simp only [List.mem_cons, List.not_mem_nil, or_false] at hv
        rcases hv with rfl | rfl | rfl | rfl | rfl | rfl | rfl
        · exact ⟨u0, [], [], rfl, SqL.of (z2 _ _ upd_same), .nil, by decide⟩
        · exact (sqcs_dp [(0, 0)] d1 (by decide)).same z3
        · exact (sqcs_dp [(0, 0), (0, 0)] d2 (by decide)).same z4
        · exact (sqcs_dp [(0, 0), (5, 5)] d3 (by decide)).same z5
        · exact (sqcs_dp [(-1, 0)] d4 (by decide)).same z6
        · exact ⟨u5, [.ref tu], [(0, 10 ^ (20 : Int).toNat)], rfl, SqL.of (z7 _ _ upd_same), .cons ⟨tu, rfl, SqT.of (z7 _ _ (su5 _ _ upd_same))⟩ .nil, by decide⟩
        · refine ⟨e6, zs6, cellsL h w, rfl, SqL.of (str _ _ he6), hz6.le (TupLe.of str), ?_⟩
          rw [cellsL_len]
          exact Nat.lt_of_le_of_lt (Nat.mul_le_mul h5 w5) (by decide)
      have s7A := stt.trans (su0.trans (k1.trans (k2.trans (k3.trans (k4.trans (stu.trans (su5.trans (s8.trans str))))))))
      have htrr : upd H8 tr (.lst [.ref u0, v1, v2, v3, v4, .ref u5, .ref e6]) tr = some (.lst [.ref u0, v1, v2, v3, v4, .ref u5, .ref e6]) := upd_same
      have htry2 : ∃ txs, upd H8 tr (.lst [.ref u0, v1, v2, v3, v4, .ref u5, .ref e6]) tr = some (.lst txs) ∧ txs.length ≤ 7 ∧ ∀ v ∈ txs, SqCs K (upd H8 tr (.lst [.ref u0, v1, v2, v3, v4, .ref u5, .ref e6])) v := ⟨_, htrr, by show 7 ≤ 7; decide, htry⟩
      have httA : upd H8 tr (.lst [.ref u0, v1, v2, v3, v4, .ref u5, .ref e6]) tt = some (.lst ([r1, r2, r1.reverse, r1.take 1].map tv)) := (su0.trans (k1.trans (k2.trans (k3.trans (k4.trans (stu.trans (su5.trans (s8.trans str)))))))) _ _ htt
      generalize upd H8 tr (.lst [.ref u0, v1, v2, v3, v4, .ref u5, .ref e6]) = HA at s4A s7A htry2 httA ⊢
      have hevA := s7A _ _ hev
      have hpA := s4A _ _ hp4
      -- for cells in every
      refine ⟨.ref ev, rfl, ev, rfl, ⟨_, SqL.of hevA⟩, for_it (walk_list (xs := evs)) (fun j σ H' => Same HA H' ∧ ∃ tr2 y8, σ = [some (.ref a), some (.int (0 + (i : Nat) * 4)), some (.ref p), some (tv r1), some (tv r2), some (.ref ev), some (.ref tt), some (.ref tr2), y8, y9, y10, y11, y12, none, none, none, none, none] ∧ ∃ txs, H' tr2 = some (.lst txs) ∧ txs.length ≤ 7 + 5 * j ∧ ∀ v ∈ txs, SqCs K H' v)
        ⟨Same.refl _, tr, y8, rfl, htry2⟩ (fun j σ H' _ pv => SqL.of (pv.1 _ _ hevA)) (fun j x σ H9o H9 hj pv y => ?_) fun σ H9 pv => ?_⟩
      · obtain ⟨rfl, hx⟩ := y
        obtain ⟨s9, tr2, y8, rfl, txs, htr2, ltx, htx⟩ := pv
        obtain ⟨b, ys, cs, rfl, hb7, hc7, l6⟩ := hsn x (List.mem_of_getElem? hx)
        have s79 := s7A.trans s9
        have hb9 := s79 _ _ hb7
        have hc9 := hc7.le (TupLe.of s79)
        have lys : ys.length ≤ 6 := by rw [hc7.length]; exact l6
        have hj5 : j < 5 := Nat.lt_of_lt_of_le hj lev
        refine ⟨.ref tr2, rfl, .ref b, rfl, .ref b, rfl, b, ys, rfl, SqL.of hb9, fun w1 nw1 => ?_⟩
        have sw1 := same_new (o := .lst ys.reverse) nw1
        refine ⟨.ref b, rfl, 1, rfl, b, ys, rfl, SqL.of (sw1 _ _ hb9), fun w2 nw2 => ?_⟩
        rw [cut_one]
        have sw2 := same_new (o := .lst (ys.drop 1)) nw2
        have sw12 := sw1.trans sw2
        refine ⟨.ref b, rfl, .ref b, rfl, 1, rfl, b, ys, rfl, SqL.of (sw12 _ _ hb9), fun w3 nw3 => ?_⟩
        have ct1 : cutV ys none (some 1) = ys.take 1 := cut_take ys 1
        rw [ct1]
        have sw3 := same_new (o := .lst (ys.take 1)) nw3
        have sw13 := sw12.trans sw3
        refine ⟨b, w3, ys, _, rfl, rfl, sw13 _ _ hb9, upd_same, by rw [List.length_take]; exact small_line (by omega), fun w4 nw4 => ?_⟩
        have sw4 := same_new (o := .lst (ys ++ ys.take 1)) nw4
        have sw14 := sw13.trans sw4
        refine ⟨.ref b, rfl, .ref p, rfl, p, _, rfl, .inl (SqL.of ((s9.trans sw14) _ _ hpA)), by show 2 ≤ sizeLine; decide, fun w5' nw5 => ⟨by show 1 ≤ sizeLine; decide, fun w6 nw6 => ?_⟩⟩
        have sw5 := same_new (o := .tup [.int ((F.map tv).length : Nat), .int 0]) nw5
        have sw6 := same_new (o := .lst [.ref w5']) nw6
        have sw16 := sw14.trans (sw5.trans sw6)
        refine ⟨b, w6, ys, _, rfl, rfl, sw16 _ _ hb9, upd_same, by show ys.length + 1 ≤ _; exact small_line (by omega), fun w7 nw7 => ?_⟩
        have sw7 := same_new (o := .lst (ys ++ [.ref w5'])) nw7
        have sw17 := sw16.trans sw7
        refine ⟨by show 5 ≤ sizeLine; decide, fun w8 nw8 => ?_⟩
        have sw8 := same_new (o := .lst [.ref b, .ref w1, .ref w2, .ref w4, .ref w7]) nw8
        have sw18 := sw17.trans sw8
        refine ⟨tr2, w8, txs, _, rfl, rfl, sw18 _ _ htr2, upd_same, by show txs.length + 5 ≤ _; exact small_line (by omega), fun w9 nw9 => ?_⟩
        have sw9 := same_new (o := .lst (txs ++ [.ref b, .ref w1, .ref w2, .ref w4, .ref w7])) nw9
        have sw19 := sw18.trans sw9
        refine ⟨s9.trans sw19, w9, _, rfl, _, upd_same, by rw [List.length_append]; show txs.length + 5 ≤ _; omega, fun v hv => ?_⟩
        rcases List.mem_append.mp hv with hv | hv
        · exact (htx v hv).same sw19
        · have x8 := sw8.trans sw9
          have x7 := sw7.trans x8
          have x6 := sw5.trans (sw6.trans x7)
          have x4 := sw4.trans x6
          have x3 := sw3.trans x4
          have x2 := sw2.trans x3
          have hcE := hc9.le (TupLe.of sw19)
          simp only [List.mem_cons, List.not_mem_nil, or_false] at hv
          rcases hv with rfl | rfl | rfl | rfl | rfl
          · exact ⟨b, ys, cs, rfl, SqL.of (sw19 _ _ hb9), hcE, by omega⟩
          · exact ⟨w1, _, cs.reverse, rfl, SqL.of (x2 _ _ upd_same), Paired.rev hcE, by rw [List.length_reverse]; omega⟩
          · exact ⟨w2, _, cs.drop 1, rfl, SqL.of (x3 _ _ upd_same), Paired.drop 1 hcE, by rw [List.length_drop]; omega⟩
          · exact ⟨w4, _, cs ++ cs.take 1, rfl, SqL.of (x6 _ _ upd_same), Paired.app hcE (Paired.take 1 hcE), by rw [List.length_append, List.length_take]; omega⟩
          · exact ⟨w7, _, cs ++ [((((F.map tv).length : Nat) : Int), (0 : Int))], rfl, SqL.of (x8 _ _ upd_same), Paired.app hcE (.cons ⟨w5', rfl, SqT.of ((sw6.trans x7) _ _ upd_same)⟩ .nil), by rw [List.length_append]; show cs.length + 1 < 64; omega⟩
      obtain ⟨s9, tr2, y8', rfl, txs, htr2, ltx, htx⟩ := pv
      -- for cells in tried
      refine ⟨.ref tr2, rfl, tr2, rfl, ⟨_, SqL.of htr2⟩, for_it (walk_list (xs := txs)) (fun j σ H' => Same H9 H' ∧ ∃ y8, σ = [some (.ref a), some (.int (0 + (i : Nat) * 4)), some (.ref p), some (tv r1), some (tv r2), some (.ref ev), some (.ref tt), some (.ref tr2), y8, y9, y10, y11, y12, none, none, none, none, none])
        ⟨Same.refl _, _, rfl⟩ (fun j σ H' _ pv => SqL.of (pv.1 _ _ htr2)) (fun j x σ HBo HB hj pv y => ?_) fun σ HB pv => ?_⟩
      · obtain ⟨rfl, hx⟩ := y
        obtain ⟨sB, y8, rfl⟩ := pv
        obtain ⟨qv, ys, cs, rfl, hq, hcs, h64⟩ := (htx x (List.mem_of_getElem? hx)).same sB
        have sAB := s9.trans sB
        exact ⟨.ref p, rfl, .ref qv, rfl, .ref tt, rfl, p, F, h, w, qv, ys, cs, tt, [r1, r2, r1.reverse, r1.take 1], rfl, ⟨SqL.of (sAB _ _ hpA), oF⟩, hq, hcs, h64, SqL.of (sAB _ _ httA), fun HC sC => ⟨true, rfl, iteF ⟨sB.trans sC, _, rfl⟩⟩⟩
      obtain ⟨sB, y8B, rfl⟩ := pv
      have sAB := s9.trans sB
      have httB := sAB _ _ httA
      have hpB := sAB _ _ hpA
      -- for some in texts
      refine ⟨.ref tt, rfl, tt, rfl, ⟨_, SqL.of httB⟩, for_it (walk_list (xs := [r1, r2, r1.reverse, r1.take 1].map tv)) (fun j σ H' => Same HB H' ∧ ∃ y9 y10 y11 y12, σ = [some (.ref a), some (.int (0 + (i : Nat) * 4)), some (.ref p), some (tv r1), some (tv r2), some (.ref ev), some (.ref tt), some (.ref tr2), y8B, y9, y10, y11, y12, none, none, none, none, none])
        ⟨Same.refl _, _, _, _, _, rfl⟩ (fun j σ H' _ pv => SqL.of (pv.1 _ _ httB)) (fun j x σ HCo HC hj pv y => ?_) fun σ HC pv => ?_⟩
      · obtain ⟨rfl, hx⟩ := y
        obtain ⟨sC, y9, y10, y11, y12, rfl⟩ := pv
        obtain ⟨ot, hot, rfl⟩ : ∃ ot, ot ∈ [r1, r2, r1.reverse, r1.take 1] ∧ tv ot = x := by
          obtain ⟨ot, h1, h2⟩ := List.mem_map.mp (List.mem_of_getElem? hx)
          exact ⟨ot, h1, h2⟩
        have lot := ho6 ot hot
        have lrt : (tx ot).length ≤ sizeLine := by rw [tx_len]; exact small_line (by omega)
        refine ⟨.ref p, rfl, tv ot, rfl, p, F, h, w, ot, rfl, ⟨SqL.of (sC _ _ hpB), oF⟩, lot, fun HD k sD hk => ?_⟩
        refine ⟨.int k, rfl, .int k, rfl, _, 1, rfl, rfl, .int k, rfl, _, 1, rfl, rfl, 1, rfl, tv ot, rfl, tx ot, rfl, lrt, 10, 20, rfl, rfl, ⟨by decide, by decide, by decide⟩, by show 7 ≤ sizeLine; decide, fun tu ntu => ?_⟩
        have stu := same_new (o := .tup [.int (k : Int), .int ((k : Int) + 1), .int ((k : Int) - 1), .int 0, .int (-1), .int ((tx ot).length : Nat), .int (10 ^ (20 : Int).toNat)]) ntu
        have htu : SqT K (upd HD tu (.tup [.int (k : Int), .int ((k : Int) + 1), .int ((k : Int) - 1), .int 0, .int (-1), .int ((tx ot).length : Nat), .int (10 ^ (20 : Int).toNat)])) tu _ := SqT.of upd_same
        have sCD := sC.trans (sD.trans stu)
        generalize upd HD tu (.tup [.int (k : Int), .int ((k : Int) + 1), .int ((k : Int) - 1), .int 0, .int (-1), .int ((tx ot).length : Nat), .int (10 ^ (20 : Int).toNat)]) = HE at htu sCD ⊢
        refine ⟨tu, rfl, ⟨_, htu⟩, for_it (walk_tup (xs := [.int (k : Int), .int ((k : Int) + 1), .int ((k : Int) - 1), .int 0, .int (-1), .int ((tx ot).length : Nat), .int (10 ^ (20 : Int).toNat)])) (fun j σ H' => Same HE H' ∧ ∃ y11 y12, σ = [some (.ref a), some (.int (0 + (i : Nat) * 4)), some (.ref p), some (tv r1), some (tv r2), some (.ref ev), some (.ref tt), some (.ref tr2), y8B, some (tv ot), some (.int k), y11, y12, none, none, none, none, none])
          ⟨Same.refl _, _, _, rfl⟩ (fun j σ H' _ pv => Same.sqt pv.1 htu) (fun j x σ HFo HF hj pv y => ?_) fun σ HF pv => ?_⟩
        · obtain ⟨rfl, hx⟩ := y
          obtain ⟨sF, y11, y12, rfl⟩ := pv
          obtain ⟨z, rfl⟩ : ∃ z : Int, x = .int z := by
            have hm := List.mem_of_getElem? hx
            simp only [List.mem_cons, List.not_mem_nil, or_false] at hm
            rcases hm with rfl | rfl | rfl | rfl | rfl | rfl | rfl <;> exact ⟨_, rfl⟩
          have sBF := sCD.trans sF
          refine ⟨.int z, rfl, tv ot, rfl, tx ot, rfl, lrt, z, _, rfl, rfl, _, rfl, ?_⟩
          rw [tx_len]
          cases e : decide (z < (ot.length : Int)) with
          | false =>
            refine iteF ?_
            refine ⟨.int z, rfl, fun x dx nx nd nxd => ⟨x, dx, z, rfl, upd_same, fun HG kb hx => ⟨rfl, x, C_Stops, dx, _, .int z, rfl, hx, k_Stops.cl, n_Stops, rfl, .int z, rfl, rfl, _, rfl, ?_⟩⟩⟩
            rw [decide_eq_true rfl]
            have sG : Same HF HG := same_made nx nd kb
            refine iteF ⟨.int z, rfl, fun x2 dx2 nx2 nd2 nxd2 => ⟨x2, dx2, z, rfl, upd_same, fun HI kb2 hx2 => ⟨rfl, x2, dx2, _, rfl, hx2, rfl, .ref p, rfl, tv ot, rfl, x2, dx2, z, p, F, h, w, ot, rfl, hx2, lot, ⟨SqL.of ((sBF.trans (sG.trans (same_made nx2 nd2 kb2))) _ _ hpB), oF⟩, fun HJ k2 sJ hk2 => ?_⟩⟩⟩
            rw [lgst_dec, e]
            exact ⟨.bl false, rfl, false, false, rfl, true, rfl, iteF ⟨sF.trans (sG.trans ((same_made nx2 nd2 kb2).trans sJ)), _, _, rfl⟩⟩
          | true =>
            refine iteT ⟨.int z, rfl, .int k, rfl, rfl, ?_⟩
            refine ⟨.int z, rfl, fun x dx nx nd nxd => ⟨x, dx, z, rfl, upd_same, fun HG kb hx => ⟨rfl, x, C_Stops, dx, _, .int z, rfl, hx, k_Stops.cl, n_Stops, rfl, .int z, rfl, rfl, _, rfl, ?_⟩⟩⟩
            rw [decide_eq_true rfl]
            have sG : Same HF HG := same_made nx nd kb
            refine iteF ⟨.int z, rfl, fun x2 dx2 nx2 nd2 nxd2 => ⟨x2, dx2, z, rfl, upd_same, fun HI kb2 hx2 => ⟨rfl, x2, dx2, _, rfl, hx2, rfl, .ref p, rfl, tv ot, rfl, x2, dx2, z, p, F, h, w, ot, rfl, hx2, lot, ⟨SqL.of ((sBF.trans (sG.trans (same_made nx2 nd2 kb2))) _ _ hpB), oF⟩, fun HJ k2 sJ hk2 => ?_⟩⟩⟩
            rw [lgst_dec, e, if_pos rfl, hk2.inj hk]
            refine ⟨_, rfl, _, _, rfl, _, rfl, ?_⟩
            rw [decide_eq_true rfl]
            exact iteF ⟨sF.trans (sG.trans ((same_made nx2 nd2 kb2).trans sJ)), _, _, rfl⟩
        · obtain ⟨sF, y11, y12, rfl⟩ := pv
          exact ⟨sCD.trans sF, _, _, _, _, rfl⟩
      · obtain ⟨sC, y9, y10, y11, y12, rfl⟩ := pv
        exact ⟨sm.trans (s2.trans (s3.trans (s4.trans (s4A.trans (sAB.trans sC))))), _, _, _, _, _, _, _, _, _, _, _, _, rfl⟩
    · obtain ⟨sm, y1, y2, y3, y4, y5, y6, y7, y8, y9, y10, y11, y12, rfl⟩ := pv
      refine fun va1 Ha1 sa1 da1 => ?_
      obtain ⟨qa1, xa1, rfl, qq1, ca1⟩ := dp_cells (cs := [(0, 0), (0, 1), (0, 0)]) da1
      refine fun x1 dx1 nx1 nd1 nxd1 => ⟨x1, dx1, qa1, xa1, rfl, upd_same, (same_mk nx1 nd1 nxd1).seq qq1, fun Hb1 l1 kb1 hx1 nl1 hl1 => ⟨rfl, ?_⟩⟩
      have sb1 : Same Ha1 Hb1 := same_made nx1 nd1 kb1
      refine ⟨x1, dx1, _, rfl, hx1, rfl, fun vc1 Hc1 sc1 dc1 => ?_⟩
      obtain ⟨af1, rfl, qf1⟩ := dp_texts (F := [[97, 98]]) dc1
      refine ⟨x1, dx1, l1, xa1, [(0, 0), (0, 1), (0, 0)], af1, [[97, 98]], 1, 2, [97, 98, 97], rfl, sc1 _ _ hx1, SqL.of (sc1 _ _ hl1), ca1.le (TupLe.of (sb1.trans sc1)), by decide, ⟨qf1, fieldB_ok (by decide +kernel)⟩, fun Hd1 sd1 => ?_⟩
      rw [show foundB [[97, 98]] 1 2 [(0, 0), (0, 1), (0, 0)] [97, 98, 97] = false by decide +kernel]
      refine ⟨false, false, rfl, rfl, false, rfl, iteF ?_⟩
      refine fun va2 Ha2 sa2 da2 => ?_
      obtain ⟨qa2, xa2, rfl, qq2, ca2⟩ := dp_cells (cs := [(0, 0), (0, -1)]) da2
      refine fun x2 dx2 nx2 nd2 nxd2 => ⟨x2, dx2, qa2, xa2, rfl, upd_same, (same_mk nx2 nd2 nxd2).seq qq2, fun Hb2 l2 kb2 hx2 nl2 hl2 => ⟨rfl, ?_⟩⟩
      have sb2 : Same Ha2 Hb2 := same_made nx2 nd2 kb2
      refine ⟨x2, dx2, _, rfl, hx2, rfl, fun vc2 Hc2 sc2 dc2 => ?_⟩
      obtain ⟨af2, rfl, qf2⟩ := dp_texts (F := [[97, 97]]) dc2
      refine ⟨x2, dx2, l2, xa2, [(0, 0), (0, -1)], af2, [[97, 97]], 1, 2, [97, 97], rfl, sc2 _ _ hx2, SqL.of (sc2 _ _ hl2), ca2.le (TupLe.of (sb2.trans sc2)), by decide, ⟨qf2, fieldB_ok (by decide +kernel)⟩, fun Hd2 sd2 => ?_⟩
      rw [show foundB [[97, 97]] 1 2 [(0, 0), (0, -1)] [97, 97] = false by decide +kernel]
      refine ⟨false, rfl, iteF ?_⟩
      refine fun va3 Ha3 sa3 da3 => ?_
      obtain ⟨qa3, xa3, rfl, qq3, ca3⟩ := dp_cells (cs := [(0, 0), (-1, 0)]) da3
      refine fun x3 dx3 nx3 nd3 nxd3 => ⟨x3, dx3, qa3, xa3, rfl, upd_same, (same_mk nx3 nd3 nxd3).seq qq3, fun Hb3 l3 kb3 hx3 nl3 hl3 => ⟨rfl, ?_⟩⟩
      have sb3 : Same Ha3 Hb3 := same_made nx3 nd3 kb3
      refine ⟨x3, dx3, _, rfl, hx3, rfl, fun vc3 Hc3 sc3 dc3 => ?_⟩
      obtain ⟨af3, rfl, qf3⟩ := dp_texts (F := [[97], [97]]) dc3
      refine ⟨x3, dx3, l3, xa3, [(0, 0), (-1, 0)], af3, [[97], [97]], 2, 1, [97, 97], rfl, sc3 _ _ hx3, SqL.of (sc3 _ _ hl3), ca3.le (TupLe.of (sb3.trans sc3)), by decide, ⟨qf3, fieldB_ok (by decide +kernel)⟩, fun Hd3 sd3 => ?_⟩
      rw [show foundB [[97], [97]] 2 1 [(0, 0), (-1, 0)] [97, 97] = false by decide +kernel]
      refine ⟨false, rfl, iteF ?_⟩
      refine fun va Ha sa da => ?_
      obtain ⟨qa, xa, rfl, qq, ca⟩ := dp_cells (cs := [(0, 0), (0, 1)]) da
      obtain ⟨w0, w1, rfl, v0, v1⟩ : ∃ x0 x1, xa = [x0, x1] ∧ CellV K Ha x0 (0, 0) ∧ CellV K Ha x1 (0, 1) := by
        cases ca with
        | cons a t =>
          cases t with
          | cons b t =>
            cases t
            exact ⟨_, _, rfl, a, b⟩
      refine fun x dx nx nd nxd => ⟨x, dx, qa, [w0, w1], rfl, upd_same, (same_mk nx nd nxd).seq qq, fun Hb l kb hx nl hl => ⟨rfl, ?_⟩⟩
      have sb : Same Ha Hb := same_made nx nd kb
      have cb : Cells K Hb [w0, w1] [(0, 0), (0, 1)] := .cons (v0.le (TupLe.of sb)) (.cons (v1.le (TupLe.of sb)) .nil)
      refine fun z1 dz1 nz1 ne1 nf1 => ⟨z1, dz1, 1, rfl, upd_same, fun Hc kc hz1 => ⟨rfl, ?_⟩⟩
      have sc : Same Hb Hc := same_made nz1 ne1 kc
      refine fun z0 dz0 nz0 ne0 nf0 => ⟨z0, dz0, 0, rfl, upd_same, fun Hd kd hz0 => ⟨rfl, ?_⟩⟩
      have sd : Same Hc Hd := same_made nz0 ne0 kd
      refine ⟨by show 3 ≤ sizeLine; decide, fun tu ntu => ?_⟩
      have su := same_new (o := .tup [.ref x, .ref z1, .ref z0]) ntu
      refine ⟨tu, _, rfl, SqT.of upd_same, rfl, _, _, rfl, _, _, rfl, _, _, rfl, rfl, ?_⟩
      have sbE := sc.trans (sd.trans su)
      have hxE := sbE _ _ hx
      have hlE := sbE _ _ hl
      have hz1E := (sd.trans su) _ _ hz1
      have hz0E := su _ _ hz0
      have cE := cb.le (TupLe.of sbE)
      have ok2 : FieldOk [[97, 98], [99, 98]] 2 2 := fieldB_ok (by decide +kernel)
      have ok1 : FieldOk [[97, 98]] 1 2 := fieldB_ok (by decide +kernel)
      have lg1 : Lgst [[97, 98]] 1 2 [97, 97] 1 := lgst_of (by decide) (by decide) (by decide) (by decide +kernel) (fun _ => by decide +kernel)
      have lg0 : Lgst [[97, 98]] 1 2 [122, 122] 0 := lgst_of (by decide) (by decide) (by decide) (by decide +kernel) (fun _ => by decide +kernel)
      generalize upd Hd tu (.tup [.ref x, .ref z1, .ref z0]) = HE at su sbE hxE hlE hz1E hz0E cE ⊢
      refine ⟨.ref x, rfl, x, dx, _, rfl, hxE, rfl, fun vf Hf sf df => ?_⟩
      obtain ⟨af, rfl, qf⟩ := dp_texts (F := [[97, 98], [99, 98]]) df
      refine ⟨x, dx, l, [w0, w1], [(0, 0), (0, 1)], af, [[97, 98], [99, 98]], 2, 2, [97, 98], rfl, sf _ _ hxE, SqL.of (sf _ _ hlE), cE.le (TupLe.of sf), by decide, ⟨qf, ok2⟩, fun Hg sg => ?_⟩
      rw [show foundB [[97, 98], [99, 98]] 2 2 [(0, 0), (0, 1)] [97, 98] = true by decide +kernel]
      refine ⟨by show 1 ≤ sizeLine; decide, fun t1 nt1 => ?_⟩
      have st1 := same_new (o := .lst [.bl true]) nt1
      have ht1 : upd Hg t1 (.lst [.bl true]) t1 = some (.lst [.bl true]) := upd_same
      have sE1 := sf.trans (sg.trans st1)
      -- answer.cells[1] = (1, 0)
      refine fun vw Hw sw dw => ?_
      have sE2 := sE1.trans sw
      have hlw := sE2 _ _ hlE
      have hxw := sE2 _ _ hxE
      refine ⟨.ref x, rfl, x, C_Found, dx, _, .ref l, rfl, hxw, k_Found.cl, n_Found, rfl, l, [w0, w1], 1, 1, rfl, rfl, hlw, rfl, ?_⟩
      have xl : x ≠ l := fun z => by rw [z, hlw] at hxw; cases hxw
      have zl1 : z1 ≠ l := fun z => by rw [z, hlE] at hz1E; cases hz1E
      have zl0 : z0 ≠ l := fun z => by rw [z, hlE] at hz0E; cases hz0E
      have t1l : t1 ≠ l := Ne.symm (ne_of_none ((sf.trans sg) _ _ hlE) nt1)
      have hx2 : upd Hw l (.lst [w0, vw]) x = some (.ins C_Found dx [("cells", .ref l)]) := by rw [upd_ne xl]; exact hxw
      have hl2 : upd Hw l (.lst [w0, vw]) l = some (.lst [w0, vw]) := upd_same
      have hz12 : upd Hw l (.lst [w0, vw]) z1 = some (.ins C_Stops dz1 [("many", .int 1)]) := by rw [upd_ne zl1]; exact sE2 _ _ hz1E
      have hz02 : upd Hw l (.lst [w0, vw]) z0 = some (.ins C_Stops dz0 [("many", .int 0)]) := by rw [upd_ne zl0]; exact sE2 _ _ hz0E
      have ht12 : upd Hw l (.lst [w0, vw]) t1 = some (.lst [.bl true]) := by rw [upd_ne t1l]; exact sw _ _ ht1
      have c2 : Cells K (upd Hw l (.lst [w0, vw])) [w0, vw] [(0, 0), (1, 0)] := by
        have z0' : CellV K Hw w0 (0, 0) := (v0.le (TupLe.of sb)).le (TupLe.of (sbE.trans sE2))
        exact .cons (z0'.le (TupLe.upd hlw (TupLe.refl _))) (.cons ((dp_cell dw).le (TupLe.upd hlw (TupLe.refl _))) .nil)
      generalize hgen : upd Hw l (.lst [w0, vw]) = HX at hx2 hl2 hz12 hz02 ht12 c2
      have hgen2 : upd Hw l (.lst ([w0, w1].set 1 vw)) = HX := hgen
      rw [hgen2]
      -- two words
      refine ⟨.ref t1, rfl, fun vt Ht st dt => ?_⟩
      obtain ⟨tw, rfl, hw⟩ := dp_tup_texts (F := [[97, 98], [97, 99]]) dt
      refine ⟨tw, rfl, ⟨_, hw⟩, lc_val (walk_tup (xs := [[97, 98], [97, 99]].map tv)) (small_line (by show 2 ≤ 1000000; decide)) (fun i => .bl (foundB [[97, 98], [99, 98]] 2 2 [(0, 0), (1, 0)] ([[97, 98], [97, 99]].getD i []))) (fun H' s' => Same.sqt s' hw) (fun D' i x' H3o H3 Qe nD hi s3 _ y qe => ?_) fun D2 H3 nD2 s3 hD2 => ?_⟩
      · obtain ⟨rfl, hx'⟩ := y
        obtain ⟨wd, hwd, rfl⟩ : ∃ wd, [[97, 98], [97, 99]][i]? = some wd ∧ x' = tv wd := by
          rw [List.getElem?_map] at hx'
          cases e : [[97, 98], [97, 99]][i]? with
          | none => rw [e] at hx'; cases hx'
          | some wd => rw [e] at hx'; exact ⟨wd, rfl, (Option.some.inj hx').symm⟩
        rw [getD_of hwd] at qe
        have sX := st.trans s3
        refine ⟨rfl, .ref x, rfl, x, dx, _, rfl, sX _ _ hx2, rfl, fun v4 H4 s4 d4 => ?_⟩
        obtain ⟨a4, rfl, q4⟩ := dp_texts (F := [[97, 98], [99, 98]]) d4
        have sX4 := sX.trans s4
        exact ⟨tv wd, rfl, x, dx, l, [w0, vw], [(0, 0), (1, 0)], a4, [[97, 98], [99, 98]], 2, 2, wd, rfl, sX4 _ _ hx2, SqL.of (sX4 _ _ hl2), c2.le (TupLe.of sX4), by decide, ⟨q4, ok2⟩, fun H5 s5 => qe _ (s4.trans s5)⟩
      have eD2 : ((List.range ([[97, 98], [97, 99]].map tv).length).map fun i => V.bl (foundB [[97, 98], [99, 98]] 2 2 [(0, 0), (1, 0)] ([[97, 98], [97, 99]].getD i []))) = [.bl false, .bl true] := by
        show [V.bl (foundB [[97, 98], [99, 98]] 2 2 [(0, 0), (1, 0)] [97, 98]), V.bl (foundB [[97, 98], [99, 98]] 2 2 [(0, 0), (1, 0)] [97, 99])] = _
        rw [show foundB [[97, 98], [99, 98]] 2 2 [(0, 0), (1, 0)] [97, 98] = false by decide +kernel, show foundB [[97, 98], [99, 98]] 2 2 [(0, 0), (1, 0)] [97, 99] = true by decide +kernel]
      rw [eD2] at hD2
      have sX3 := st.trans s3
      refine ⟨t1, D2, _, _, rfl, rfl, sX3 _ _ ht12, hD2, by show 3 ≤ sizeLine; decide, fun t2 nt2 => ?_⟩
      have st2 := same_new (o := .lst ([.bl true] ++ [.bl false, .bl true])) nt2
      have sX4 := sX3.trans st2
      have ht2 : upd H3 t2 (.lst ([.bl true] ++ [.bl false, .bl true])) t2 = some (.lst [.bl true, .bl false, .bl true]) := upd_same
      refine ⟨.ref t2, rfl, .ref z1, rfl, .ref z0, rfl, by show 2 ≤ sizeLine; decide, fun tv5 ntv5 => ?_⟩
      have stv5 := same_new (o := .tup [.ref z1, .ref z0]) ntv5
      have htv5 : SqT K (upd (upd H3 t2 (.lst ([.bl true] ++ [.bl false, .bl true]))) tv5 (.tup [.ref z1, .ref z0])) tv5 [.ref z1, .ref z0] := SqT.of upd_same
      refine ⟨tv5, rfl, ⟨_, htv5⟩, lc_val (walk_tup (xs := [.ref z1, .ref z0])) (small_line (by show 2 ≤ 1000000; decide)) (fun i => V.bl (decide ((if i = 0 then 1 else 0 : Int) < (([97, 97] : List Nat).length : Nat)) && decide ((if i = 0 then 1 else 0 : Int) = ((1 : Nat) : Int)))) (fun H' s' => Same.sqt s' htv5) (fun D' i x' H3o H3' Qe nD hi s3' _ y qe => ?_) fun DD5 HD5 nDD5 sD5 hD5 => ?_⟩
      · obtain ⟨rfl, hx'⟩ := y
        have sX := sX4.trans (stv5.trans s3')
        match i, hx', qe with
        | 0, hx', qe =>
          cases hx'
          refine ⟨rfl, .ref z1, rfl, z1, dz1, _, rfl, sX _ _ hz12, rfl, fun v4 H4 s4 d4 => ?_⟩
          obtain ⟨a4, rfl, q4⟩ := dp_texts (F := [[97, 98]]) d4
          refine ⟨z1, dz1, 1, a4, [[97, 98]], 1, 2, [97, 97], rfl, s4 _ _ (sX _ _ hz12), by decide, ⟨q4, ok1⟩, fun H5 k5 s5 hk5 => ?_⟩
          cases hk5.inj lg1
          exact qe _ (s4.trans s5)
        | 1, hx', qe =>
          cases hx'
          refine ⟨rfl, .ref z0, rfl, z0, dz0, _, rfl, sX _ _ hz02, rfl, fun v4 H4 s4 d4 => ?_⟩
          obtain ⟨a4, rfl, q4⟩ := dp_texts (F := [[97, 98]]) d4
          refine ⟨z0, dz0, 0, a4, [[97, 98]], 1, 2, [97, 97], rfl, s4 _ _ (sX _ _ hz02), by decide, ⟨q4, ok1⟩, fun H5 k5 s5 hk5 => ?_⟩
          cases hk5.inj lg1
          exact qe _ (s4.trans s5)
        | i + 2, hx', _ => cases hx'
      have eD5 : ((List.range [V.ref z1, V.ref z0].length).map (fun i => V.bl (decide ((if i = 0 then 1 else 0 : Int) < (([97, 97] : List Nat).length : Nat)) && decide ((if i = 0 then 1 else 0 : Int) = ((1 : Nat) : Int))))) = [V.bl true, V.bl false] := by
        show [V.bl _, V.bl _] = _
        rfl
      rw [eD5] at hD5
      have sV5 := stv5.trans sD5
      refine ⟨t2, DD5, _, _, rfl, rfl, sV5 _ _ ht2, hD5, by show 5 ≤ sizeLine; decide, fun tn5 ntn5 => ?_⟩
      have stn5 := same_new (o := .lst ([V.bl true, V.bl false, V.bl true] ++ [V.bl true, V.bl false])) ntn5
      have sN5 := sX4.trans (sV5.trans stn5)
      have htn5 : upd HD5 tn5 (.lst ([V.bl true, V.bl false, V.bl true] ++ [V.bl true, V.bl false])) tn5 = some (.lst [V.bl true, V.bl false, V.bl true, V.bl true, V.bl false]) := upd_same
      refine ⟨.ref tn5, rfl, .ref z1, rfl, .ref z0, rfl, by show 2 ≤ sizeLine; decide, fun tv6 ntv6 => ?_⟩
      have stv6 := same_new (o := .tup [.ref z1, .ref z0]) ntv6
      have htv6 : SqT K (upd (upd HD5 tn5 (.lst ([.bl true, .bl false, .bl true] ++ [.bl true, .bl false]))) tv6 (.tup [.ref z1, .ref z0])) tv6 [.ref z1, .ref z0] := SqT.of upd_same
      refine ⟨tv6, rfl, ⟨_, htv6⟩, lc_val (walk_tup (xs := [.ref z1, .ref z0])) (small_line (by show 2 ≤ 1000000; decide)) (fun i => V.bl (decide ((if i = 0 then 1 else 0 : Int) < (([122, 122] : List Nat).length : Nat)) && decide ((if i = 0 then 1 else 0 : Int) = ((0 : Nat) : Int)))) (fun H' s' => Same.sqt s' htv6) (fun D' i x' H3o H3' Qe nD hi s3' _ y qe => ?_) fun DD6 HD6 nDD6 sD6 hD6 => ?_⟩
      · obtain ⟨rfl, hx'⟩ := y
        have sX := sN5.trans (stv6.trans s3')
        match i, hx', qe with
        | 0, hx', qe =>
          cases hx'
          refine ⟨rfl, .ref z1, rfl, z1, dz1, _, rfl, sX _ _ hz12, rfl, fun v4 H4 s4 d4 => ?_⟩
          obtain ⟨a4, rfl, q4⟩ := dp_texts (F := [[97, 98]]) d4
          refine ⟨z1, dz1, 1, a4, [[97, 98]], 1, 2, [122, 122], rfl, s4 _ _ (sX _ _ hz12), by decide, ⟨q4, ok1⟩, fun H5 k5 s5 hk5 => ?_⟩
          cases hk5.inj lg0
          exact qe _ (s4.trans s5)
        | 1, hx', qe =>
          cases hx'
          refine ⟨rfl, .ref z0, rfl, z0, dz0, _, rfl, sX _ _ hz02, rfl, fun v4 H4 s4 d4 => ?_⟩
          obtain ⟨a4, rfl, q4⟩ := dp_texts (F := [[97, 98]]) d4
          refine ⟨z0, dz0, 0, a4, [[97, 98]], 1, 2, [122, 122], rfl, s4 _ _ (sX _ _ hz02), by decide, ⟨q4, ok1⟩, fun H5 k5 s5 hk5 => ?_⟩
          cases hk5.inj lg0
          exact qe _ (s4.trans s5)
        | i + 2, hx', _ => cases hx'
      have eD6 : ((List.range [V.ref z1, V.ref z0].length).map (fun i => V.bl (decide ((if i = 0 then 1 else 0 : Int) < (([122, 122] : List Nat).length : Nat)) && decide ((if i = 0 then 1 else 0 : Int) = ((0 : Nat) : Int))))) = [V.bl false, V.bl true] := by
        show [V.bl _, V.bl _] = _
        rfl
      rw [eD6] at hD6
      have sV6 := stv6.trans sD6
      refine ⟨tn5, DD6, _, _, rfl, rfl, sV6 _ _ htn5, hD6, by show 7 ≤ sizeLine; decide, fun tn6 ntn6 => ?_⟩
      have stn6 := same_new (o := .lst ([V.bl true, V.bl false, V.bl true, V.bl true, V.bl false] ++ [V.bl false, V.bl true])) ntn6
      have sN6 := sN5.trans (sV6.trans stn6)
      have htn6 : upd HD6 tn6 (.lst ([V.bl true, V.bl false, V.bl true, V.bl true, V.bl false] ++ [V.bl false, V.bl true])) tn6 = some (.lst [V.bl true, V.bl false, V.bl true, V.bl true, V.bl false, V.bl false, V.bl true]) := upd_same
      refine ⟨.ref tn6, rfl, fun v7 H7 s7 d7 => ?_⟩
      refine ⟨.list [.bool true, .bool false, .bool true, .bool true, .bool false, .bool false, .bool true], _, .lst (SqL.of (s7 _ _ htn6)) (.cons (.bl _) (.cons (.bl _) (.cons (.bl _) (.cons (.bl _) (.cons (.bl _) (.cons (.bl _) (.cons (.bl _) .nil))))))), d7, by decide +kernel, by decide +kernel, false, by decide +kernel, iteF ?_⟩
      refine fun va4 Ha4 sa4 da4 => ?_
      obtain ⟨qa4, xa4, rfl, qq4, ca4⟩ := dp_cells (cs := [(0, 0), (0, 1)]) da4
      refine fun x4 dx4 nx4 nd4 nxd4 => ⟨x4, dx4, qa4, xa4, rfl, upd_same, (same_mk nx4 nd4 nxd4).seq qq4, fun Hb4 l4 kb4 hx4 nl4 hl4 => ⟨rfl, ?_⟩⟩
      have sb4 : Same Ha4 Hb4 := same_made nx4 nd4 kb4
      refine ⟨x4, dx4, _, rfl, hx4, rfl, fun vc4 Hc4 sc4 dc4 => ?_⟩
      obtain ⟨af4, rfl, qf4⟩ := dp_texts (F := [[97, 98]]) dc4
      refine ⟨x4, dx4, l4, xa4, [(0, 0), (0, 1)], af4, [[97, 98]], 1, 2, [97, 98], rfl, sc4 _ _ hx4, SqL.of (sc4 _ _ hl4), ca4.le (TupLe.of (sb4.trans sc4)), by decide, ⟨qf4, fieldB_ok (by decide +kernel)⟩, fun Hd4 sd4 => ?_⟩
      rw [show foundB [[97, 98]] 1 2 [(0, 0), (0, 1)] [97, 98] = true by decide +kernel]
      refine ⟨true, true, rfl, rfl, true, rfl, iteT ?_⟩
      refine fun zz dzz nzz nez nfz => ⟨zz, dzz, 1, rfl, upd_same, fun Hz kz hzz => ⟨rfl, zz, dzz, _, rfl, hzz, rfl, fun v9 H9 s9 d9 => ?_⟩⟩
      obtain ⟨a9, rfl, q9⟩ := dp_texts (F := [[97, 98]]) d9
      refine ⟨zz, dzz, 1, a9, [[97, 98]], 1, 2, [97, 97], rfl, s9 _ _ hzz, by decide, ⟨q9, ok1⟩, fun H10 k10 s10 hk10 => ?_⟩
      cases hk10.inj lg1
      exact ⟨true, true, rfl, rfl, q _⟩
end
end Sk
namespace Sk
open PySem PySem.Spec PyProof.Rows L2 Sn
def hd_fn : List He.DefD := [⟨("is_whole", none), "is_whole", "is_whole", defArgs s_is_whole, defBody s_is_whole, defScope s_is_whole, [], []⟩, ⟨("is_cell", none), "is_cell", "is_cell", defArgs s_is_cell, defBody s_is_cell, defScope s_is_cell, [], []⟩, ⟨("cells_in", none), "cells_in", "cells_in", defArgs s_cells_in, defBody s_cells_in, defScope s_cells_in, [], []⟩, ⟨("letter_at", none), "letter_at", "letter_at", defArgs s_letter_at, defBody s_letter_at, defScope s_letter_at, [], []⟩, ⟨("near_of", none), "near_of", "near_of", defArgs s_near_of, defBody s_near_of, defScope s_near_of, [], []⟩, ⟨("is_snake", none), "is_snake", "is_snake", defArgs s_is_snake, defBody s_is_snake, defScope s_is_snake, [], []⟩, ⟨("spelled", none), "spelled", "spelled", defArgs s_spelled, defBody s_spelled, defScope s_spelled, [], []⟩, ⟨("next_cells", none), "next_cells", "next_cells", defArgs s_next_cells, defBody s_next_cells, defScope s_next_cells, [], []⟩, ⟨("snakes_on", none), "snakes_on", "snakes_on", defArgs s_snakes_on, defBody s_snakes_on, defScope s_snakes_on, [], []⟩, ⟨("longest", none), "longest", "longest", defArgs s_longest, defBody s_longest, defScope s_longest, [], []⟩, ⟨("Found", some "__init__"), "__init__", "Found.__init__", defArgs s_Found___init__, defBody s_Found___init__, defScope s_Found___init__, [], []⟩, ⟨("Found", some "shows"), "shows", "Found.shows", defArgs s_Found_shows, defBody s_Found_shows, defScope s_Found_shows, [], []⟩, ⟨("Stops", some "__init__"), "__init__", "Stops.__init__", defArgs s_Stops___init__, defBody s_Stops___init__, defScope s_Stops___init__, [], []⟩, ⟨("Stops", some "shows"), "shows", "Stops.shows", defArgs s_Stops_shows, defBody s_Stops_shows, defScope s_Stops_shows, [], []⟩, ⟨("_law_cell_at", none), "_law_cell_at", "_law_cell_at", defArgs s__law_cell_at, defBody s__law_cell_at, defScope s__law_cell_at, [], []⟩, ⟨("_law_draw", none), "_law_draw", "_law_draw", defArgs s__law_draw, defBody s__law_draw, defScope s__law_draw, [], []⟩, ⟨("_law_number", none), "_law_number", "_law_number", defArgs s__law_number, defBody s__law_number, defScope s__law_number, [], []⟩, ⟨("_law_field", none), "_law_field", "_law_field", defArgs s__law_field, defBody s__law_field, defScope s__law_field, [], []⟩, ⟨("_law_beside", none), "_law_beside", "_law_beside", defArgs s__law_beside, defBody s__law_beside, defScope s__law_beside, [], []⟩, ⟨("_law_cells", none), "_law_cells", "_law_cells", defArgs s__law_cells, defBody s__law_cells, defScope s__law_cells, [], []⟩, ⟨("_law_snakes", none), "_law_snakes", "_law_snakes", defArgs s__law_snakes, defBody s__law_snakes, defScope s__law_snakes, [], []⟩, ⟨("_law_word", none), "_law_word", "_law_word", defArgs s__law_word, defBody s__law_word, defScope s__law_word, [], []⟩, ⟨("_law_says", none), "_law_says", "_law_says", defArgs s__law_says, defBody s__law_says, defScope s__law_says, [], []⟩, ⟨("_law_is_snake", none), "_law_is_snake", "_law_is_snake", defArgs s__law_is_snake, defBody s__law_is_snake, defScope s__law_is_snake, [], []⟩, ⟨("_law_spelled", none), "_law_spelled", "_law_spelled", defArgs s__law_spelled, defBody s__law_spelled, defScope s__law_spelled, [], []⟩, ⟨("_law_longest", none), "_law_longest", "_law_longest", defArgs s__law_longest, defBody s__law_longest, defScope s__law_longest, [], []⟩, ⟨("_law_found_right", none), "_law_found_right", "_law_found_right", defArgs s__law_found_right, defBody s__law_found_right, defScope s__law_found_right, [], []⟩, ⟨("law", none), "law", "law", defArgs s_law, defBody s_law, defScope s_law, [], []⟩]
def hd_fa : List He.Fa := [.glo "is_whole", .glo "is_cell", .glo "cells_in", .glo "letter_at", .glo "near_of", .glo "is_snake", .glo "spelled", .glo "next_cells", .glo "snakes_on", .glo "longest", .glo "_law_cell_at", .glo "_law_draw", .glo "_law_number", .glo "_law_field", .glo "_law_beside", .glo "_law_cells", .glo "_law_snakes", .glo "_law_word", .glo "_law_says", .glo "_law_is_snake", .glo "_law_spelled", .glo "_law_longest", .glo "_law_found_right", .glo "law", .free "abs", .free "all", .free "any", .free "bool", .free "enumerate", .free "int", .free "isinstance", .free "len", .free "list", .free "max", .free "min", .free "range", .free "set", .free "tuple", .free "zip", .glo "Answer", .cls "Answer", .glo "Found", .cls "Found", .glo "Stops", .cls "Stops", .noat "Found" "cells", .meth "Found" "shows", .mkr "Found", .noat "Stops" "many", .meth "Stops" "shows", .mkr "Stops"]
def hd_ex (K : PySem.W.Frag) : Bool := (klgB K && (clsB K "Answer" && (clsB K "Found" && (clsB K "Stops" && (kitB2 K "Found" "Found" true && (kitB2 K "Found" "Stops" false && (kitB2 K "Found" "Answer" true && (kitB2 K "Stops" "Found" false && (kitB2 K "Stops" "Stops" true && (kitB2 K "Stops" "Answer" true && true))))))))))
def hd_names : List PySem.Str := (["is_whole", "is_cell", "cells_in", "letter_at", "near_of", "Answer", "is_snake", "spelled", "next_cells", "snakes_on", "longest", "Found", "Stops", "_law_cell_at", "_law_draw", "_law_number", "_law_field", "_law_beside", "_law_cells", "_law_snakes", "_law_word", "_law_says", "_law_is_snake", "_law_spelled", "_law_longest", "_law_found_right"] : List PySem.Str)
abbrev hd_R : PySem.W.OpenRow := PySem.W.OpenLaw.row PySem.Challenge.rw_lettersnake_k03_answers_by_hand
abbrev hd_hk : PySem.W.Hook := hookX 5 hd_fa hd_fn hd_ex
def hd_ob (s : PySem.W.SharedT) : Bool × He.AlD := obX 5 hd_fa hd_fn hd_ex (HandSHeadRun.getT s)
theorem hd_obeq (s : PySem.W.SharedT) : hd_ob s = hd_hk.obs s.abs := obX_eq (HandSHeadRun.getT_eq s)
theorem hd_run (w : World) : HandSHeadRun.RunEq hd_R (PySem.W.view hd_R.prog [29]) hd_hk hd_ob 6000 hd_names w := by
  intro os
  kernel_rfl
section
variable {K : PySem.W.Frag} {h : Heap} {mg : Str → Option Value}
theorem hd_is_whole (X : K.In h) (G : h.Ns mainGlobals mg) (c : He.SaysD hd_fa hd_fn K) : Dfn K mg "is_whole" s_is_whole := by
  obtain ⟨fd, F⟩ := c.def_ 0 (d := ⟨("is_whole", none), "is_whole", "is_whole", defArgs s_is_whole, defBody s_is_whole, defScope s_is_whole, [], []⟩) rfl
  exact ⟨_, fd, F, He.glo_ok X G (c.fact 0 (f := .glo "is_whole") rfl)⟩
theorem hd_is_cell (X : K.In h) (G : h.Ns mainGlobals mg) (c : He.SaysD hd_fa hd_fn K) : Dfn K mg "is_cell" s_is_cell := by
  obtain ⟨fd, F⟩ := c.def_ 1 (d := ⟨("is_cell", none), "is_cell", "is_cell", defArgs s_is_cell, defBody s_is_cell, defScope s_is_cell, [], []⟩) rfl
  exact ⟨_, fd, F, He.glo_ok X G (c.fact 1 (f := .glo "is_cell") rfl)⟩
theorem hd_cells_in (X : K.In h) (G : h.Ns mainGlobals mg) (c : He.SaysD hd_fa hd_fn K) : Dfn K mg "cells_in" s_cells_in := by
  obtain ⟨fd, F⟩ := c.def_ 2 (d := ⟨("cells_in", none), "cells_in", "cells_in", defArgs s_cells_in, defBody s_cells_in, defScope s_cells_in, [], []⟩) rfl
  exact ⟨_, fd, F, He.glo_ok X G (c.fact 2 (f := .glo "cells_in") rfl)⟩
theorem hd_letter_at (X : K.In h) (G : h.Ns mainGlobals mg) (c : He.SaysD hd_fa hd_fn K) : Dfn K mg "letter_at" s_letter_at := by
  obtain ⟨fd, F⟩ := c.def_ 3 (d := ⟨("letter_at", none), "letter_at", "letter_at", defArgs s_letter_at, defBody s_letter_at, defScope s_letter_at, [], []⟩) rfl
  exact ⟨_, fd, F, He.glo_ok X G (c.fact 3 (f := .glo "letter_at") rfl)⟩
theorem hd_near_of (X : K.In h) (G : h.Ns mainGlobals mg) (c : He.SaysD hd_fa hd_fn K) : Dfn K mg "near_of" s_near_of := by
  obtain ⟨fd, F⟩ := c.def_ 4 (d := ⟨("near_of", none), "near_of", "near_of", defArgs s_near_of, defBody s_near_of, defScope s_near_of, [], []⟩) rfl
  exact ⟨_, fd, F, He.glo_ok X G (c.fact 4 (f := .glo "near_of") rfl)⟩
theorem hd_is_snake (X : K.In h) (G : h.Ns mainGlobals mg) (c : He.SaysD hd_fa hd_fn K) : Dfn K mg "is_snake" s_is_snake := by
  obtain ⟨fd, F⟩ := c.def_ 5 (d := ⟨("is_snake", none), "is_snake", "is_snake", defArgs s_is_snake, defBody s_is_snake, defScope s_is_snake, [], []⟩) rfl
  exact ⟨_, fd, F, He.glo_ok X G (c.fact 5 (f := .glo "is_snake") rfl)⟩
theorem hd_spelled (X : K.In h) (G : h.Ns mainGlobals mg) (c : He.SaysD hd_fa hd_fn K) : Dfn K mg "spelled" s_spelled := by
  obtain ⟨fd, F⟩ := c.def_ 6 (d := ⟨("spelled", none), "spelled", "spelled", defArgs s_spelled, defBody s_spelled, defScope s_spelled, [], []⟩) rfl
  exact ⟨_, fd, F, He.glo_ok X G (c.fact 6 (f := .glo "spelled") rfl)⟩
theorem hd_next_cells (X : K.In h) (G : h.Ns mainGlobals mg) (c : He.SaysD hd_fa hd_fn K) : Dfn K mg "next_cells" s_next_cells := by
  obtain ⟨fd, F⟩ := c.def_ 7 (d := ⟨("next_cells", none), "next_cells", "next_cells", defArgs s_next_cells, defBody s_next_cells, defScope s_next_cells, [], []⟩) rfl
  exact ⟨_, fd, F, He.glo_ok X G (c.fact 7 (f := .glo "next_cells") rfl)⟩
theorem hd_snakes_on (X : K.In h) (G : h.Ns mainGlobals mg) (c : He.SaysD hd_fa hd_fn K) : Dfn K mg "snakes_on" s_snakes_on := by
  obtain ⟨fd, F⟩ := c.def_ 8 (d := ⟨("snakes_on", none), "snakes_on", "snakes_on", defArgs s_snakes_on, defBody s_snakes_on, defScope s_snakes_on, [], []⟩) rfl
  exact ⟨_, fd, F, He.glo_ok X G (c.fact 8 (f := .glo "snakes_on") rfl)⟩
theorem hd_longest (X : K.In h) (G : h.Ns mainGlobals mg) (c : He.SaysD hd_fa hd_fn K) : Dfn K mg "longest" s_longest := by
  obtain ⟨fd, F⟩ := c.def_ 9 (d := ⟨("longest", none), "longest", "longest", defArgs s_longest, defBody s_longest, defScope s_longest, [], []⟩) rfl
  exact ⟨_, fd, F, He.glo_ok X G (c.fact 9 (f := .glo "longest") rfl)⟩
theorem hd_Found___init__ (c : He.SaysD hd_fa hd_fn K) : DfnI K (He.ga K "Found") "Found.__init__" s_Found___init__ := by
  obtain ⟨fd, F⟩ := c.def_ 10 (d := ⟨("Found", some "__init__"), "__init__", "Found.__init__", defArgs s_Found___init__, defBody s_Found___init__, defScope s_Found___init__, [], []⟩) rfl
  exact ⟨_, fd, F, He.mkr_ok (c.fact 47 (f := .mkr "Found") rfl)⟩
theorem hd_Found_shows (c : He.SaysD hd_fa hd_fn K) : DfnM K (He.ga K "Found") "shows" "Found.shows" s_Found_shows := by
  obtain ⟨fd, F⟩ := c.def_ 11 (d := ⟨("Found", some "shows"), "shows", "Found.shows", defArgs s_Found_shows, defBody s_Found_shows, defScope s_Found_shows, [], []⟩) rfl
  exact ⟨_, fd, F, He.meth_ok (c.fact 46 (f := .meth "Found" "shows") rfl)⟩
theorem hd_Stops___init__ (c : He.SaysD hd_fa hd_fn K) : DfnI K (He.ga K "Stops") "Stops.__init__" s_Stops___init__ := by
  obtain ⟨fd, F⟩ := c.def_ 12 (d := ⟨("Stops", some "__init__"), "__init__", "Stops.__init__", defArgs s_Stops___init__, defBody s_Stops___init__, defScope s_Stops___init__, [], []⟩) rfl
  exact ⟨_, fd, F, He.mkr_ok (c.fact 50 (f := .mkr "Stops") rfl)⟩
theorem hd_Stops_shows (c : He.SaysD hd_fa hd_fn K) : DfnM K (He.ga K "Stops") "shows" "Stops.shows" s_Stops_shows := by
  obtain ⟨fd, F⟩ := c.def_ 13 (d := ⟨("Stops", some "shows"), "shows", "Stops.shows", defArgs s_Stops_shows, defBody s_Stops_shows, defScope s_Stops_shows, [], []⟩) rfl
  exact ⟨_, fd, F, He.meth_ok (c.fact 49 (f := .meth "Stops" "shows") rfl)⟩
theorem hd__law_cell_at (X : K.In h) (G : h.Ns mainGlobals mg) (c : He.SaysD hd_fa hd_fn K) : Dfn K mg "_law_cell_at" s__law_cell_at := by
  obtain ⟨fd, F⟩ := c.def_ 14 (d := ⟨("_law_cell_at", none), "_law_cell_at", "_law_cell_at", defArgs s__law_cell_at, defBody s__law_cell_at, defScope s__law_cell_at, [], []⟩) rfl
  exact ⟨_, fd, F, He.glo_ok X G (c.fact 10 (f := .glo "_law_cell_at") rfl)⟩
theorem hd__law_draw (X : K.In h) (G : h.Ns mainGlobals mg) (c : He.SaysD hd_fa hd_fn K) : Dfn K mg "_law_draw" s__law_draw := by
  obtain ⟨fd, F⟩ := c.def_ 15 (d := ⟨("_law_draw", none), "_law_draw", "_law_draw", defArgs s__law_draw, defBody s__law_draw, defScope s__law_draw, [], []⟩) rfl
  exact ⟨_, fd, F, He.glo_ok X G (c.fact 11 (f := .glo "_law_draw") rfl)⟩
theorem hd__law_number (X : K.In h) (G : h.Ns mainGlobals mg) (c : He.SaysD hd_fa hd_fn K) : Dfn K mg "_law_number" s__law_number := by
  obtain ⟨fd, F⟩ := c.def_ 16 (d := ⟨("_law_number", none), "_law_number", "_law_number", defArgs s__law_number, defBody s__law_number, defScope s__law_number, [], []⟩) rfl
  exact ⟨_, fd, F, He.glo_ok X G (c.fact 12 (f := .glo "_law_number") rfl)⟩
theorem hd__law_field (X : K.In h) (G : h.Ns mainGlobals mg) (c : He.SaysD hd_fa hd_fn K) : Dfn K mg "_law_field" s__law_field := by
  obtain ⟨fd, F⟩ := c.def_ 17 (d := ⟨("_law_field", none), "_law_field", "_law_field", defArgs s__law_field, defBody s__law_field, defScope s__law_field, [], []⟩) rfl
  exact ⟨_, fd, F, He.glo_ok X G (c.fact 13 (f := .glo "_law_field") rfl)⟩
theorem hd__law_beside (X : K.In h) (G : h.Ns mainGlobals mg) (c : He.SaysD hd_fa hd_fn K) : Dfn K mg "_law_beside" s__law_beside := by
  obtain ⟨fd, F⟩ := c.def_ 18 (d := ⟨("_law_beside", none), "_law_beside", "_law_beside", defArgs s__law_beside, defBody s__law_beside, defScope s__law_beside, [], []⟩) rfl
  exact ⟨_, fd, F, He.glo_ok X G (c.fact 14 (f := .glo "_law_beside") rfl)⟩
theorem hd__law_cells (X : K.In h) (G : h.Ns mainGlobals mg) (c : He.SaysD hd_fa hd_fn K) : Dfn K mg "_law_cells" s__law_cells := by
  obtain ⟨fd, F⟩ := c.def_ 19 (d := ⟨("_law_cells", none), "_law_cells", "_law_cells", defArgs s__law_cells, defBody s__law_cells, defScope s__law_cells, [], []⟩) rfl
  exact ⟨_, fd, F, He.glo_ok X G (c.fact 15 (f := .glo "_law_cells") rfl)⟩
theorem hd__law_snakes (X : K.In h) (G : h.Ns mainGlobals mg) (c : He.SaysD hd_fa hd_fn K) : Dfn K mg "_law_snakes" s__law_snakes := by
  obtain ⟨fd, F⟩ := c.def_ 20 (d := ⟨("_law_snakes", none), "_law_snakes", "_law_snakes", defArgs s__law_snakes, defBody s__law_snakes, defScope s__law_snakes, [], []⟩) rfl
  exact ⟨_, fd, F, He.glo_ok X G (c.fact 16 (f := .glo "_law_snakes") rfl)⟩
theorem hd__law_word (X : K.In h) (G : h.Ns mainGlobals mg) (c : He.SaysD hd_fa hd_fn K) : Dfn K mg "_law_word" s__law_word := by
  obtain ⟨fd, F⟩ := c.def_ 21 (d := ⟨("_law_word", none), "_law_word", "_law_word", defArgs s__law_word, defBody s__law_word, defScope s__law_word, [], []⟩) rfl
  exact ⟨_, fd, F, He.glo_ok X G (c.fact 17 (f := .glo "_law_word") rfl)⟩
theorem hd__law_says (X : K.In h) (G : h.Ns mainGlobals mg) (c : He.SaysD hd_fa hd_fn K) : Dfn K mg "_law_says" s__law_says := by
  obtain ⟨fd, F⟩ := c.def_ 22 (d := ⟨("_law_says", none), "_law_says", "_law_says", defArgs s__law_says, defBody s__law_says, defScope s__law_says, [], []⟩) rfl
  exact ⟨_, fd, F, He.glo_ok X G (c.fact 18 (f := .glo "_law_says") rfl)⟩
theorem hd__law_is_snake (X : K.In h) (G : h.Ns mainGlobals mg) (c : He.SaysD hd_fa hd_fn K) : Dfn K mg "_law_is_snake" s__law_is_snake := by
  obtain ⟨fd, F⟩ := c.def_ 23 (d := ⟨("_law_is_snake", none), "_law_is_snake", "_law_is_snake", defArgs s__law_is_snake, defBody s__law_is_snake, defScope s__law_is_snake, [], []⟩) rfl
  exact ⟨_, fd, F, He.glo_ok X G (c.fact 19 (f := .glo "_law_is_snake") rfl)⟩
theorem hd__law_spelled (X : K.In h) (G : h.Ns mainGlobals mg) (c : He.SaysD hd_fa hd_fn K) : Dfn K mg "_law_spelled" s__law_spelled := by
  obtain ⟨fd, F⟩ := c.def_ 24 (d := ⟨("_law_spelled", none), "_law_spelled", "_law_spelled", defArgs s__law_spelled, defBody s__law_spelled, defScope s__law_spelled, [], []⟩) rfl
  exact ⟨_, fd, F, He.glo_ok X G (c.fact 20 (f := .glo "_law_spelled") rfl)⟩
theorem hd__law_longest (X : K.In h) (G : h.Ns mainGlobals mg) (c : He.SaysD hd_fa hd_fn K) : Dfn K mg "_law_longest" s__law_longest := by
  obtain ⟨fd, F⟩ := c.def_ 25 (d := ⟨("_law_longest", none), "_law_longest", "_law_longest", defArgs s__law_longest, defBody s__law_longest, defScope s__law_longest, [], []⟩) rfl
  exact ⟨_, fd, F, He.glo_ok X G (c.fact 21 (f := .glo "_law_longest") rfl)⟩
theorem hd__law_found_right (X : K.In h) (G : h.Ns mainGlobals mg) (c : He.SaysD hd_fa hd_fn K) : Dfn K mg "_law_found_right" s__law_found_right := by
  obtain ⟨fd, F⟩ := c.def_ 26 (d := ⟨("_law_found_right", none), "_law_found_right", "_law_found_right", defArgs s__law_found_right, defBody s__law_found_right, defScope s__law_found_right, [], []⟩) rfl
  exact ⟨_, fd, F, He.glo_ok X G (c.fact 22 (f := .glo "_law_found_right") rfl)⟩
theorem hd_law (X : K.In h) (G : h.Ns mainGlobals mg) (c : He.SaysD hd_fa hd_fn K) : Dfn K mg "law" s_law := by
  obtain ⟨fd, F⟩ := c.def_ 27 (d := ⟨("law", none), "law", "law", defArgs s_law, defBody s_law, defScope s_law, [], []⟩) rfl
  exact ⟨_, fd, F, He.glo_ok X G (c.fact 23 (f := .glo "law") rfl)⟩
theorem hd_bi (X : K.In h) (G : h.Ns mainGlobals mg) (c : He.SaysD hd_fa hd_fn K) : Bi mg where
  abs := He.free_ok X G (c.fact 24 (f := .free "abs") rfl)
  all := He.free_ok X G (c.fact 25 (f := .free "all") rfl)
  any := He.free_ok X G (c.fact 26 (f := .free "any") rfl)
  bool := He.free_ok X G (c.fact 27 (f := .free "bool") rfl)
  enumerate := He.free_ok X G (c.fact 28 (f := .free "enumerate") rfl)
  int := He.free_ok X G (c.fact 29 (f := .free "int") rfl)
  isinstance := He.free_ok X G (c.fact 30 (f := .free "isinstance") rfl)
  len := He.free_ok X G (c.fact 31 (f := .free "len") rfl)
  list := He.free_ok X G (c.fact 32 (f := .free "list") rfl)
  max := He.free_ok X G (c.fact 33 (f := .free "max") rfl)
  min := He.free_ok X G (c.fact 34 (f := .free "min") rfl)
  range := He.free_ok X G (c.fact 35 (f := .free "range") rfl)
  set := He.free_ok X G (c.fact 36 (f := .free "set") rfl)
  tuple := He.free_ok X G (c.fact 37 (f := .free "tuple") rfl)
  zip := He.free_ok X G (c.fact 38 (f := .free "zip") rfl)
structure HdEx (K : PySem.W.Frag) : Prop where
  x0 : klgB K = true
  x1 : clsB K "Answer" = true
  x2 : clsB K "Found" = true
  x3 : clsB K "Stops" = true
  x4 : kitB2 K "Found" "Found" true = true
  x5 : kitB2 K "Found" "Stops" false = true
  x6 : kitB2 K "Found" "Answer" true = true
  x7 : kitB2 K "Stops" "Found" false = true
  x8 : kitB2 K "Stops" "Stops" true = true
  x9 : kitB2 K "Stops" "Answer" true = true
theorem hd_exs (x : hd_ex K = true) : HdEx K := by
  unfold hd_ex at x
  simp only [Bool.and_eq_true] at x
  exact ⟨x.1, x.2.1, x.2.2.1, x.2.2.2.1, x.2.2.2.2.1, x.2.2.2.2.2.1, x.2.2.2.2.2.2.1, x.2.2.2.2.2.2.2.1, x.2.2.2.2.2.2.2.2.1, x.2.2.2.2.2.2.2.2.2.1⟩
theorem hd_k_Answer (X : K.In h) (G : h.Ns mainGlobals mg) (c : He.SaysD hd_fa hd_fn K) (x : hd_ex K = true) : Kls K mg "Answer" (He.ga K "Answer") := clsB_ok (He.glo_ok X G (c.fact 39 (f := .glo "Answer") rfl)) (He.cls_ok (c.fact 40 (f := .cls "Answer") rfl)) (hd_exs x).x1
theorem hd_k_Found (X : K.In h) (G : h.Ns mainGlobals mg) (c : He.SaysD hd_fa hd_fn K) (x : hd_ex K = true) : Kls K mg "Found" (He.ga K "Found") := clsB_ok (He.glo_ok X G (c.fact 41 (f := .glo "Found") rfl)) (He.cls_ok (c.fact 42 (f := .cls "Found") rfl)) (hd_exs x).x2
theorem hd_k_Stops (X : K.In h) (G : h.Ns mainGlobals mg) (c : He.SaysD hd_fa hd_fn K) (x : hd_ex K = true) : Kls K mg "Stops" (He.ga K "Stops") := clsB_ok (He.glo_ok X G (c.fact 43 (f := .glo "Stops") rfl)) (He.cls_ok (c.fact 44 (f := .cls "Stops") rfl)) (hd_exs x).x3
theorem hd_n_Found (c : He.SaysD hd_fa hd_fn K) : NoAttr K (He.ga K "Found") "cells" := He.noat_ok (c.fact 45 (f := .noat "Found" "cells") rfl)
theorem hd_n_Stops (c : He.SaysD hd_fa hd_fn K) : NoAttr K (He.ga K "Stops") "many" := He.noat_ok (c.fact 48 (f := .noat "Stops" "many") rfl)
theorem hd_kit (x : hd_ex K = true) : Kit K (He.ga K "Answer") (He.ga K "Found") (He.ga K "Stops") :=
  have z := hd_exs x
  ⟨klgB_ok z.x0, of_decide_eq_true z.x4, of_decide_eq_true z.x5, of_decide_eq_true z.x6, of_decide_eq_true z.x7, of_decide_eq_true z.x8, of_decide_eq_true z.x9⟩
end
theorem law_all {P : Program} {w : World} {K : PySem.W.Frag} {h : Heap} {mg : Str → Option Value} (X : K.In h) (G : h.Ns mainGlobals mg) (c : He.SaysD hd_fa hd_fn K) (x : hd_ex K = true) (base : Heap) : CalG P w K mg base CX0 13 "law" ["_law_script"] (spLaw K) := by
  have B := hd_bi X G c
  have k_Answer := hd_k_Answer X G c x
  have k_Found := hd_k_Found X G c x
  have k_Stops := hd_k_Stops X G c x
  have n_Found := hd_n_Found c
  have n_Stops := hd_n_Stops c
  have kit := hd_kit x
  have c_is_whole := ok_is_whole (P := P) (w := w) (base := base) (hd_is_whole X G c) B
  have c_is_cell := ok_is_cell (hd_is_cell X G c) B c_is_whole
  have c_near_of := ok_near_of (P := P) (w := w) (base := base) (hd_near_of X G c) B
  have c_cells_in := ok_cells_in (P := P) (wl := w) (base := base) (hd_cells_in X G c) B
  have c_letter_at := ok_letter_at (P := P) (wl := w) (base := base) (hd_letter_at X G c) B
  have c_is_snake := ok_is_snake (hd_is_snake X G c) B c_is_cell c_near_of
  have c_spelled := ok_spelled (hd_spelled X G c) B c_letter_at
  have c_next_cells := ok_next_cells (hd_next_cells X G c) B c_cells_in c_near_of
  have c_snakes_on := ok_snakes_on (hd_snakes_on X G c) B c_next_cells c_letter_at 6
  have c_longest := ok_longest (hd_longest X G c) B c_snakes_on
  have c_Found_init := ok_Found_init (P := P) (wl := w) (base := base) (hd_Found___init__ c) B k_Found n_Found
  have c_Stops_init := ok_Stops_init (P := P) (wl := w) (base := base) (hd_Stops___init__ c) B k_Stops n_Stops
  have c_Found_shows := ok_Found_shows (hd_Found_shows c) B k_Found n_Found c_is_snake c_spelled
  have c_Stops_shows := ok_Stops_shows (hd_Stops_shows c) B k_Stops n_Stops c_longest
  have c_law_cell_at := ok_law_cell_at (P := P) (w := w) (base := base) (hd__law_cell_at X G c) B
  have c_law_draw := ok_law_draw (P := P) (w := w) (base := base) (hd__law_draw X G c) B
  have c_law_number := ok_law_number (hd__law_number X G c) B c_law_draw
  have c_law_field := ok_law_field (hd__law_field X G c) B c_law_cell_at c_law_number
  have c_law_beside := ok_law_beside (P := P) (w := w) (base := base) (hd__law_beside X G c) B
  have c_law_cells := ok_law_cells (P := P) (w := w) (base := base) (hd__law_cells X G c) B
  have c_law_snakes := ok_law_snakes (hd__law_snakes X G c) B c_law_cells c_law_beside
  have c_law_word := ok_law_word (hd__law_word X G c) B c_law_cell_at c_law_number c_law_cells c_law_beside
  obtain ⟨ps3, c_law_says⟩ := ok_law_says (P := P) (wl := w) (base := base) (p1 := "") (p2 := "") (hd__law_says X G c) B
  have c_law_is_snake := ok_law_is_snake (hd__law_is_snake X G c) B c_law_cells c_law_beside
  have c_law_spelled := ok_law_spelled (P := P) (wl := w) (base := base) (hd__law_spelled X G c) B
  have c_law_longest := ok_law_longest (hd__law_longest X G c) B c_law_snakes
  have c_law_found_right := ok_law_found_right (hd__law_found_right X G c) B k_Found n_Found c_law_is_snake c_law_spelled c_law_says c_Found_init c_Found_shows
  exact ok_law (hd_law X G c) B k_Found k_Stops n_Found n_Stops c_law_field c_law_word c_law_snakes c_law_cells c_law_found_right c_law_longest c_law_says c_Found_init c_Stops_init c_Found_shows c_Stops_shows
end Sk
open PySem PySem.W PySem.Calls PyProof.Rows
set_option maxHeartbeats 0 in
theorem PySem.Challenge.cw_lettersnake_k03_answers_by_hand_holds : PySem.Challenge.rw_lettersnake_k03_answers_by_hand.Holds := by
  w_on; o_law
  refine HandSHeadRun.head_any (r := OpenLaw.row PySem.Challenge.rw_lettersnake_k03_answers_by_hand) (q := view (OpenLaw.row PySem.Challenge.rw_lettersnake_k03_answers_by_hand).prog [29]) (H := Sk.hd_hk) (ob := Sk.hd_ob) (loose := Sk.hd_names) (d := HandSHeadRun.topDef (OpenLaw.row PySem.Challenge.rw_lettersnake_k03_answers_by_hand).prog 29) (kwd := []) Sk.hd_obeq
    (by kernel_rfl) (fun s => by kernel_rfl) Sk.hd_run (by kernel_rfl) (by kernel_rfl) (by kernel_rfl) (by rfl) (by first | assumption | decide +kernel) (by decide +kernel) ⟨rfl, rfl, rfl, rfl, rfl, by decide +kernel⟩ ?hw ?hc
  case hw => w_witness2
  case hc =>
    refine Sk.walk_G (l := PySem.Challenge.rw_lettersnake_k03_answers_by_hand) (n := 63) (k := 13) (x := "_law_script") rfl (by decide) (by kernel_rfl) ⟨rfl, by decide, by decide⟩ ?F
    intro w mg fa h Y G hmg0
    obtain ⟨K, KX, c, cx⟩ := Y
    have hmg : mg ("law" : PySem.Str) = some (.ref fa) := by
      have e : (HandSHeadRun.topDef (OpenLaw.row PySem.Challenge.rw_lettersnake_k03_answers_by_hand).prog 29).name = ("law" : PySem.Str) := by kernel_rfl
      rw [← e]
      exact hmg0
    obtain ⟨fa2, fd, g, hb, hF⟩ := Sk.law_end (P := (PySem.Challenge.rw_lettersnake_k03_answers_by_hand).prog) (w := w) (Sk.hd_law KX G c) Sk.bn_law fun base h1 h2 => Sk.law_all (P := (PySem.Challenge.rw_lettersnake_k03_answers_by_hand).prog) (w := w) KX G c cx base
    have e := hmg.symm.trans g
    cases e
    exact ⟨K, fd, Sk.spLaw K, KX, hb, fun H a ns hl hbits hO hS => ⟨a, ns, 1048576, rfl, hS, Sk.bits_of hbits, by decide, hl, fun _ => rfl⟩, hF⟩
