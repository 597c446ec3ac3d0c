import PyProof.Rows.All
import Wide.All
import OpenK.AllK
import Wide.FinOn
import PyProof.EqAt
import PyProof.EqKinds
import PyProof.TupleCall
import KE.KLam
import HandS.ForMost
import HandS.Exc
import HandS.Codes
import HandS.TryOnly
import HandS.Lambda
import HandS.Nested
import PyProof.CodeObj
import OpenK.KCls
import HandS.ClsMeth
import HandS.Defaults
import HandS.IsInst
import HandS.Deep
import HandS.Walk
import HandS.Wide
import HandS.NoneIn
import HandS.SortInts
import HandS.Steps
import HandS.HeadHook4
import KE.KStateDown
import Lean
import HandS.Head0
import HandS.Head1
import HandS.Head2
import HandS.HeadEnd
import HandS.HeadWalk
import PySem.Challenge.RW_lazycols_k55_lookup_and_mend_read
set_option Elab.async false
set_option linter.all false
set_option maxRecDepth 100000
set_option maxHeartbeats 4000000
/-! Closures as values: made by lambda or def, kept anywhere, called later; captured cells are told by the abstract heap while their frame does not run. -/
namespace Z
open PySem PySem.Spec PyProof.Rows L2 LamX NdefX
/-- the words of a made function -/
structure CF where
  name : Str
  qual : Str
  params : Arguments
  body : FuncBody
  scope : Scope
  cl : List (Str × Addr)
  c : Addr
abbrev CF.fd (F : CF) (doc pm ctv : Value) : FuncData :=
  { name := F.name, qualname := F.qual, params := F.params, body := F.body, scope := F.scope, globals := mainGlobals, closure := F.cl, defaults := .none, kwdefaults := .none, doc, pyModule := pm, annotations := none, code := .ref F.c, closureTuple := ctv, builtins := builtinsNs }
/-- at f stands the function F -/
def CloO (f : Addr) (F : CF) : HO := .ext fun h => ∃ (od : Option Addr) (sl : Array (Option Value)) (doc pm ctv : Value), h.get? f = some (⟨.type "function", od, .func (F.fd doc pm ctv), sl⟩ : Obj)
theorem cloO_ne {f : Addr} {F : CF} (ps : Array Value) : CloO f F ≠ .tbl ps := fun z => by
  unfold CloO at z
  cases z
theorem cloO_at {P : Program} {w : World} {H : Hp} {h : Heap} {f : Addr} {F : CF} (hok : HOk P w H h) (e : H f = some (CloO f F)) :
    ∃ (od : Option Addr) (sl : Array (Option Value)) (doc pm ctv : Value), h.get? f = some (⟨.type "function", od, .func (F.fd doc pm ctv), sl⟩ : Obj) := (hok f _ e).1
/-- the function and its code object, both told -/
def FnH (H : Hp) (f : Addr) (F : CF) : Prop := H f = some (CloO f F) ∧ H F.c = some (CodeO F.c F.qual)
section
variable {X : Cx} {pins : List (Addr × Obj)} {σ : L2.St} {H : Hp} {s : Shared}
theorem fnAt_clo {f : Addr} {F : CF} (I : Inv X pins σ H s) (e : H f = some (CloO f F)) : PySem.W.FnAt f s.heap := by
  obtain ⟨od, sl, doc, pm, ctv, ho⟩ := cloO_at I.hok e
  exact ⟨_, od, _, sl, ho⟩
theorem inv_clo {F : CF} {o : Obj} {t' : Nat} {doc pm ctv : Value} (I : Inv X pins σ H s) (ho : o = { cls := .type "function", data := .func (F.fd doc pm ctv) }) :
    Inv X pins σ (upd H s.heap.objs.size (CloO s.heap.objs.size F)) { s with heap := s.heap.push o, toks := t' } := by
  subst ho
  have e : (s.heap.push ({ cls := .type "function", data := .func (F.fd doc pm ctv) } : Obj)).get? s.heap.objs.size = some ({ cls := .type "function", data := .func (F.fd doc pm ctv) } : Obj) := Heap.get?_push_size _ rfl
  exact I.laid (a := s.heap.objs.size) (fun b u e => Heap.get?_push_of_some _ e) (Nat.le_refl _) ⟨⟨_, _, doc, pm, ctv, e⟩, ⟨_, e⟩, fun h1 h2 ⟨od, sl, d, p, t, z⟩ st => ⟨od, sl, d, p, t, st _ z⟩⟩
/-- what the making of a function hands on -/
def Made (X : Cx) (pins : List (Addr × Obj)) (σ : L2.St) (H : Hp) (T : List NTab) (P : Addr) (mk : Addr → CF) (Q : Value → Shared → Prop) : Prop :=
  ∀ (f c' : Addr) (H1 : Hp) (s' : Shared), Inv X pins σ H1 s' → (∀ b o, H b = some o → b ≠ P → H1 b = some o) → (∀ b, H1 b = Option.none → H b = Option.none) → TabsN T H1 → H f = none → H1 f = some (CloO f (mk c')) → H1 c' = some (CodeO c' (mk c').qual) → Q (.ref f) s'
/-- a new code object: the table grows -/
theorem made_new {T : List NTab} {nm : Nat → Nat → Str} {c' P : Addr} {ps : Array Value} {pos : Pos} {mk : Addr → CF} {Q : Value → Shared → Prop} {h' : Heap} {tk : Tok} {o : Obj} {doc pm ctv : Value}
    (I : Inv X pins σ H s) (hm : (P, nm) ∈ T) (hu : ∀ p ∈ T, p.1 = P → p.2 = nm) (hT : TabsN T H) (hP : H P = some (.tbl ps)) (ht : TriplesOk ps.toList)
    (ha : ∀ (pos : Pos) (cv : Value), codeAmong pos ps.toList = some cv → ∃ c, cv = .ref c ∧ H c = some (CodeO c (nm pos.line pos.col)))
    (hx : Heap.ExtBut P s.heap h') (hge : s.heap.objs.size ≤ c') (hlt : c' < h'.objs.size) (hrec : h'.CodeRec (.ref c') (nm pos.line pos.col)) (htb : h'.get? P = some { cls := .none, data := .fields (ps ++ #[rawInt pos.line, rawInt pos.col, .ref c']) })
    (hq : (mk c').qual = nm pos.line pos.col) (ho : o = { cls := .type "function", data := .func ((mk c').fd doc pm ctv) }) (h : Made X pins σ H T P mk Q) : Q (.ref h'.objs.size) { s with heap := h'.push o, toks := tk } := by
  obtain ⟨c2, oc, vs, t, e2, hoc, hd, hv⟩ := hrec
  cases e2
  have nC : H c' = none := I.hok.fresh hge
  have I1 := inv_table (q := nm pos.line pos.col) (t' := tk) (more := #[rawInt pos.line, rawInt pos.col, .ref c']) (h' := h') I hP (fun b o hb e => hx b o hb e) htb hge ⟨oc, vs, t, hoc, hd, hv⟩
  have hE : ∀ b o, H b = some o → b ≠ P → upd (upd H P (.tbl (ps ++ #[rawInt pos.line, rawInt pos.col, .ref c']))) c' (CodeO c' (nm pos.line pos.col)) b = some o := fun b o e n => by
    rw [upd_ne (ne_of_none e nC), upd_ne n]
    exact e
  have nP : ∀ {b q}, H b = some (CodeO b q) → b ≠ P := fun {b q} e z => by
    rw [z, hP] at e
    have e2 := Option.some.inj e
    unfold CodeO at e2
    cases e2
  have eL : (ps ++ #[rawInt pos.line, rawInt pos.col, .ref c']).toList = ps.toList ++ [rawInt pos.line, rawInt pos.col, .ref c'] := by simp
  have T1 : TabsN T (upd (upd H P (.tbl (ps ++ #[rawInt pos.line, rawInt pos.col, .ref c']))) c' (CodeO c' (nm pos.line pos.col))) := fun p hp => by
    by_cases hb : p.1 = P
    · rw [hu p hp hb, hb]
      refine ⟨_, by rw [upd_ne (ne_of_none hP nC), upd_same], by rw [eL]; exact PySem.TriplesOk_snoc _ _ _ _ ht, fun p' cv hcv => ?_⟩
      rw [eL] at hcv
      rcases among_app2 _ ht hcv with z | ⟨z, z1, z2⟩
      · obtain ⟨c0, e1, e2⟩ := ha p' cv z
        exact ⟨c0, e1, hE _ _ e2 (nP e2)⟩
      · exact ⟨c', z, by rw [← z1, ← z2]; exact upd_same⟩
    · obtain ⟨ps', a1, a2, a3⟩ := hT p hp
      refine ⟨ps', by rw [upd_ne (ne_of_none a1 nC), upd_ne hb]; exact a1, a2, fun p' cv hcv => ?_⟩
      obtain ⟨c0, e1, e2⟩ := a3 p' cv hcv
      exact ⟨c0, e1, hE _ _ e2 (nP e2)⟩
  have nF := I1.hok.fresh (Nat.le_refl _)
  have I2 := inv_clo (F := mk c') (t' := tk) (doc := doc) (pm := pm) (ctv := ctv) I1 ho
  refine h h'.objs.size c' _ _ I2 (fun b o e n => ?_) (fun b e => upd_none (upd_none (upd_none e))) (T1.ext fun b o e => ?_) (I.hok.fresh (Nat.le_trans hge (Nat.le_of_lt hlt))) upd_same ?_
  · have e1 := hE b o e n
    exact (upd_ne (ne_of_none e1 nF)).trans e1
  · exact (upd_ne (ne_of_none e nF)).trans e
  · rw [hq]
    exact (upd_ne (Nat.ne_of_lt hlt)).trans upd_same
/-- the code object stands in the table -/
theorem made_old {T : List NTab} {nm : Nat → Nat → Str} {c' P : Addr} {pos : Pos} {mk : Addr → CF} {Q : Value → Shared → Prop} {h' : Heap} {tk : Tok} {o : Obj} {doc pm ctv : Value}
    (I : Inv X pins σ H s) (hT : TabsN T H) (hco : H c' = some (CodeO c' (nm pos.line pos.col))) (hx : ∀ b o, s.heap.get? b = some o → h'.get? b = some o) (hsz : s.heap.objs.size ≤ h'.objs.size)
    (hq : (mk c').qual = nm pos.line pos.col) (ho : o = { cls := .type "function", data := .func ((mk c').fd doc pm ctv) }) (h : Made X pins σ H T P mk Q) : Q (.ref h'.objs.size) { s with heap := h'.push o, toks := tk } := by
  have I1 : Inv X pins σ H { s with heap := h', toks := tk } := I.kept hx
  have nF : H h'.objs.size = none := I1.hok.fresh (Nat.le_refl _)
  have I2 := inv_clo (F := mk c') (t' := tk) (doc := doc) (pm := pm) (ctv := ctv) I1 ho
  refine h h'.objs.size c' _ _ I2 (fun b o e n => ?_) (fun b e => upd_none e) (hT.ext fun b o e => ?_) nF upd_same ?_
  · exact (upd_ne (ne_of_none e nF)).trans e
  · exact (upd_ne (ne_of_none e nF)).trans e
  · rw [hq]
    exact (upd_ne (ne_of_none hco nF)).trans hco
/-- a lambda's value -/
theorem lam_made {T : List NTab} {nm : Nat → Nat → Str} {c P : Addr} {params : Arguments} {body : Expr} {scope : Scope} {pos : Pos} {E : Value → Shared → Prop} {Q : Value → Shared → Prop} (I : Inv X pins σ H s) (TB : TabB X.base X.mg c P) (hcode : X.env.code = .ref c)
    (hm : (P, nm) ∈ T) (hn : nm pos.line pos.col = X.env.qual ++ "<lambda>") (hu : ∀ p ∈ T, p.1 = P → p.2 = nm) (hT : TabsN T H) (hdef : defaultsOf params X.env = ([], [])) (hfree : ∀ y ∈ scope.names, y.2 = .free → ∃ c, X.env.cells.lookup y.1 = some c)
    (h : Made X pins σ H T P (fun c' => ⟨"<lambda>", X.env.qual ++ "<lambda>", params, .expr body, scope, cloFrom X.env.cells scope.names [], c'⟩) Q) :
    wpAny (model X.prog X.w) X.A (eval (.Lambda params body scope pos) X.env) Q E s := by
  obtain ⟨ps, hP, ht, ha⟩ := (show TabN H P nm from hT _ hm)
  have bP : s.heap.BuiltinsAt X.mg P := TB.bm.keeps I.bk
  have hP' : s.heap.get? P = some { cls := .none, data := .fields ps } := I.hok P _ hP
  refine PySem.W.kla_eval hdef ?_
  cases hc : codeAmong pos ps.toList with
  | none =>
    refine PySem.W.kla_makeFunction (mg := X.mg) (c := c) (P := P) (ps := ps) (closure_ok hfree) I.ok.glob (I.mod.glob.keeps I.bk) hcode (TB.code.keeps I.bk) hP' ht hc TB.gP bP fun c' ctv h' tk hx hge hlt hrec htb => ?_
    exact made_new (nm := nm) (mk := fun c' => ⟨"<lambda>", X.env.qual ++ "<lambda>", params, .expr body, scope, cloFrom X.env.cells scope.names [], c'⟩) I hm hu hT hP ht ha hx hge hlt (by rw [hn]; exact hrec) htb hn.symm rfl h
  | some cv =>
    obtain ⟨c', e, hco⟩ := ha pos cv hc
    subst e
    refine PySem.W.kla_makeFunctionHit (mg := X.mg) (c := c) (P := P) (ps := ps) (closure_ok hfree) I.ok.glob (I.mod.glob.keeps I.bk) hcode (TB.code.keeps I.bk) hP' ht hc bP fun ctv h' tk hx hsz => ?_
    exact made_old (P := P) (nm := nm) (pos := pos) (mk := fun c' => ⟨"<lambda>", X.env.qual ++ "<lambda>", params, .expr body, scope, cloFrom X.env.cells scope.names [], c'⟩) I hT hco hx hsz hn.symm rfl h
/-- a nested def's function -/
theorem def_made {T : List NTab} {nm : Nat → Nat → Str} {c P : Addr} {name : Str} {params : Arguments} {body : List Stmt} {scope : Scope} {pos : Pos} {E : Value → Shared → Prop} {Q : Value → Shared → Prop} (I : Inv X pins σ H s) (TB : TabB X.base X.mg c P) (hcode : X.env.code = .ref c)
    (hm : (P, nm) ∈ T) (hn : nm pos.line pos.col = X.env.qual ++ name) (hu : ∀ p ∈ T, p.1 = P → p.2 = nm) (hT : TabsN T H) (hfree : ∀ y ∈ scope.names, y.2 = .free → ∃ c, X.env.cells.lookup y.1 = some c)
    (h : Made X pins σ H T P (fun c' => ⟨name, X.env.qual ++ name, params, .stmts body, scope, cloFrom X.env.cells scope.names [], c'⟩) Q) :
    wpAny (model X.prog X.w) X.A (makeFunction name (X.env.qual ++ name) params (.stmts body) scope X.env [] [] [] pos pos.line) Q E s := by
  obtain ⟨ps, hP, ht, ha⟩ := (show TabN H P nm from hT _ hm)
  have bP : s.heap.BuiltinsAt X.mg P := TB.bm.keeps I.bk
  have hP' : s.heap.get? P = some { cls := .none, data := .fields ps } := I.hok P _ hP
  cases hc : codeAmong pos ps.toList with
  | none =>
    refine PySem.W.makeFunction_K (mg := X.mg) (c := c) (P := P) (ps := ps) (closure_ok hfree) I.ok.glob (I.mod.glob.keeps I.bk) hcode (TB.code.keeps I.bk) hP' ht hc TB.gP bP fun c' ctv doc h' tk hx hge hlt hrec htb => ?_
    exact made_new (nm := nm) (doc := doc) (mk := fun c' => ⟨name, X.env.qual ++ name, params, .stmts body, scope, cloFrom X.env.cells scope.names [], c'⟩) I hm hu hT hP ht ha hx hge hlt (by rw [hn]; exact hrec) htb hn.symm rfl h
  | some cv =>
    obtain ⟨c', e, hco⟩ := ha pos cv hc
    subst e
    refine PySem.W.makeFunction_hit (mg := X.mg) (c := c) (P := P) (ps := ps) (closure_ok hfree) I.ok.glob (I.mod.glob.keeps I.bk) hcode (TB.code.keeps I.bk) hP' ht hc bP fun ctv doc h' tk hx hsz => ?_
    exact made_old (P := P) (nm := nm) (pos := pos) (doc := doc) (mk := fun c' => ⟨name, X.env.qual ++ name, params, .stmts body, scope, cloFrom X.env.cells scope.names [], c'⟩) I hT hco hx hsz hn.symm rfl h
end
/-! ### making, as an expression and as a statement -/
/-- the reading of a making: mk tells the function by the running frame's cells and its code object; its text row stays a letter -/
def tMk (T : List NTab) (P : Addr) (mk : Addr → CF) : TE := fun _ H Q => TabsN T H ∧ ∀ (f c' : Addr) (H1 : Hp), (∀ b o, H b = some o → b ≠ P → H1 b = some o) → (∀ b, H1 b = Option.none → H b = Option.none) → TabsN T H1 → H f = none → H1 f = some (CloO f (mk c')) → H1 c' = some (CodeO c' (mk c').qual) → Q (.ref f) H1
section
variable {X : Cx}
theorem pe_lam {T : List NTab} {nm : Nat → Nat → Str} {c P : Addr} {params : Arguments} {body : Expr} {scope : Scope} {pos : Pos} {mk : Addr → CF} (TB : TabB X.base X.mg c P) (hcode : X.env.code = .ref c)
    (hm : (P, nm) ∈ T) (hn : nm pos.line pos.col = X.env.qual ++ "<lambda>") (hu : ∀ p ∈ T, p.1 = P → p.2 = nm) (hdef : defaultsOf params X.env = ([], []))
    (hfree : ∀ y ∈ scope.names, y.2 = .free → X.env.scope.names.lookup y.1 = some .cell ∨ X.env.scope.names.lookup y.1 = some .free)
    (hmk : mk = fun c' => ⟨"<lambda>", X.env.qual ++ "<lambda>", params, .expr body, scope, cloFrom X.env.cells scope.names [], c'⟩ := by rfl) : PE X (.Lambda params body scope pos) (tMk T P mk) := by
  subst hmk
  refine ⟨fun pins s σ H Q I h => ?_⟩
  obtain ⟨hT, h⟩ := h
  refine lam_made I TB hcode hm hn hu hT hdef (fun y hy e => (hfree y hy e).elim (fun z => I.ok.has _ (.inl z)) fun z => I.ok.has _ (.inr z)) fun f c' H1 s' I1 eN nn T1 f0 f1 c1 => ?_
  exact ⟨.ref f, H1, I1, rfl, h f c' H1 eN nn T1 f0 f1 c1⟩
theorem ps_def {T : List NTab} {nm : Nat → Nat → Str} {c P : Addr} {name : Str} {params : Arguments} {body : List Stmt} {scope : Scope} {pos : Pos} {i : Nat} {mk : Addr → CF} (TB : TabB X.base X.mg c P) (hcode : X.env.code = .ref c) (hm : (P, nm) ∈ T)
    (hn : nm pos.line pos.col = X.env.qual ++ name) (hu : ∀ p ∈ T, p.1 = P → p.2 = nm)
    (hfree : ∀ y ∈ scope.names, y.2 = .free → X.env.scope.names.lookup y.1 = some .cell ∨ X.env.scope.names.lookup y.1 = some .free) (hd0 : params.defaults = []) (hk0 : params.kw_defaults = []) (ha : annTrees params none X.env = [])
    (hN : X.N.Nodup) (hi : X.N[i]? = some name) (hx : Loc X.env.scope name) (hf : X.fn name = true ∨ X.env.scope.names.lookup name = some .local)
    (hmk : mk = fun c' => ⟨name, X.env.qual ++ name, params, .stmts body, scope, cloFrom X.env.cells scope.names [], c'⟩ := by rfl) :
    PS X (.FunctionDef name params body [] none [] scope none name pos) (tAsg (tMk T P mk) (gName i)) := by
  subst hmk
  refine ⟨fun pins s σ H D I h => ?_⟩
  obtain ⟨hT, h⟩ := h
  have hq : qualnameIn X.env name name = X.env.qual ++ name := by
    have hk : X.env.kindOf name = some .local ∨ X.env.kindOf name = some .cell := hx
    unfold qualnameIn
    rcases hk with k | k <;> rw [k] <;> first | rfl | exact if_neg (by decide)
  refine PySem.W.nestDef_K hd0 hk0 ha ?_
  rw [hq]
  refine def_made I TB hcode hm hn hu hT (fun y hy e => (hfree y hy e).elim (fun z => I.ok.has _ (.inl z)) fun z => I.ok.has _ (.inr z)) fun f c' H1 s' I1 eN nn T1 f0 f1 c1 => ?_
  exact store_ok I1 hN hi hx (v := .ref f) rfl (fun s'' J => ⟨_, H1, J, h f c' H1 eN nn T1 f0 f1 c1⟩) hf
end
/-! Closures called: captured cells told by the abstract heap, hidden while their function (or their maker) runs. -/
/-! ### cells told -/
def CellN (H : Hp) (c : Addr) : Prop := ∃ o u, H c = some (.frz o (.own u)) ∧ ∃ x, o.data = .cell x
def CellV (H : Hp) (c : Addr) (v : V) : Prop := ∃ o u, H c = some (.frz o (.own u)) ∧ ∃ val, o.data = .cell (some val) ∧ L2.RelV v val
theorem CellV.n {H : Hp} {c : Addr} {v : V} (h : CellV H c v) : CellN H c := let ⟨o, u, e, x, d, _⟩ := h; ⟨o, u, e, _, d⟩
def hide (cs : List Addr) (H : Hp) : Hp := fun b => if b ∈ cs then none else H b
def bring (cs : List Addr) (H0 H : Hp) : Hp := fun b => if b ∈ cs then H0 b else H b
theorem hide_in {cs : List Addr} {H : Hp} {b : Addr} (h : b ∈ cs) : hide cs H b = none := if_pos h
theorem hide_out {cs : List Addr} {H : Hp} {b : Addr} (h : b ∉ cs) : hide cs H b = H b := if_neg h
theorem bring_in {cs : List Addr} {H0 H : Hp} {b : Addr} (h : b ∈ cs) : bring cs H0 H b = H0 b := if_pos h
theorem bring_out {cs : List Addr} {H0 H : Hp} {b : Addr} (h : b ∉ cs) : bring cs H0 H b = H b := if_neg h
theorem hide_some {cs : List Addr} {H : Hp} {b : Addr} {o : HO} (h : hide cs H b = some o) : b ∉ cs ∧ H b = some o := by
  unfold hide at h
  split at h
  · cases h
  · exact ⟨by assumption, h⟩
/-- what is no cell told is as it was -/
theorem hide_keep {cs : List Addr} {H : Hp} {b : Addr} {o : HO} (hc : ∀ c ∈ cs, CellN H c) (e : H b = some o) (ho : ∀ x u, o ≠ .frz x (.own u)) : hide cs H b = some o := by
  rw [hide_out]
  · exact e
  · intro hb
    obtain ⟨x, u, e2, _⟩ := hc b hb
    rw [e] at e2
    exact ho x u (Option.some.inj e2)
section
variable {P : Program} {w : World} {H H' : Hp} {h h' : Heap} {cs : List Addr}
theorem hok_hide (hok : HOk P w H h) (hc : ∀ c ∈ cs, CellN H c) : HOk P w (hide cs H) h := fun a o e => by
  obtain ⟨na, e1⟩ := hide_some e
  refine (hok a o e1).stay (fun _ _ _ q => q) (fun b q => ?_) fun b xs q => ?_
  · exact hide_keep hc q fun x u z => by cases z
  · exact hide_keep hc q fun x u z => by cases z
theorem cell_at (hok : HOk P w H h) {c : Addr} (hc : CellN H c) : ∃ x, h.IsCell c x := by
  obtain ⟨o, u, e, x, d⟩ := hc
  exact ⟨x, o, (hok c _ e).1, d⟩
theorem cellV_at (hok : HOk P w H h) {c : Addr} {v : V} (hc : CellV H c v) : ∃ u, L2.RelV v u ∧ h.IsCell c (some u) := by
  obtain ⟨o, u, e, val, d, r⟩ := hc
  exact ⟨val, r, o, (hok c _ e).1, d⟩
end
section
variable {P : Program} {w : World} {K : PySem.W.Frag} {mg : Str → Option Value} {base : Heap} {A : Around} {outer : List Env} {s s' : Shared} {H H' : Hp} {cs : List Addr}
theorem env0_hide (e0 : Env0 P w K mg base A outer s H) (hc : ∀ c ∈ cs, CellN H c) : Env0 P w K mg base A outer s (hide cs H) where
  frames := e0.frames
  mod := e0.mod
  bs := fun b o e => by
    obtain ⟨h1, h2⟩ := e0.bs b o e
    refine ⟨h1, ?_⟩
    unfold hide
    split
    · rfl
    · exact h2
  bsz := e0.bsz
  funs := e0.funs
  frf := fun b hb => by
    unfold hide
    split
    · rfl
    · exact e0.frf b hb
  hok := hok_hide e0.hok hc
  bare := e0.bare
/-- behind a call that ran with the cells hidden -/
theorem un_bring (e0 : Env0 P w K mg base A outer s H) (hc : ∀ c ∈ cs, CellN H c) (un : Un (frs outer) [] (hide cs H) H' s.heap s'.heap) (hok' : HOk P w H' s'.heap) :
    Un (frs outer) [] H (bring cs H H') s.heap s'.heap ∧ HOk P w (bring cs H H') s'.heap ∧ ∀ c ∈ cs, H' c = none := by
  have nin : ∀ {b : Addr}, H b = none → b ∉ cs := fun {b} e hb => by
    obtain ⟨o, u, e2, _⟩ := hc b hb
    rw [e] at e2
    cases e2
  have nof : ∀ {b : Addr} {o : HO}, H b = some o → (∀ x u, o ≠ .frz x (.own u)) → b ∉ cs := fun {b o} e ho hb => by
    obtain ⟨x, u, e2, _⟩ := hc b hb
    rw [e] at e2
    exact ho x u (Option.some.inj e2)
  have there : ∀ {b : Addr}, b ∈ cs → ∃ o u, H b = some (.frz o (.own u)) ∧ s.heap.get? b = some o ∧ s'.heap.get? b = some o ∧ H' b = none := fun {b} hb => by
    obtain ⟨o, u, e2, x, d⟩ := hc b hb
    have g1 := (e0.hok b _ e2).1
    refine ⟨o, u, e2, g1, un.keep b o g1 (hide_in hb) (fun hf => ?_) (by simp), un.free b o g1 (hide_in hb) (by simp)⟩
    obtain ⟨_, o2, g2, d2⟩ := e0.funs.mem hf
    rw [g1] at g2
    cases g2
    have z := e0.frf b hf
    rw [e2] at z
    cases z
  refine ⟨⟨fun b o q n hb hx => un.keep b o q ?_ hb hx, fun b o q n hb hx => un.slot b o q ?_ hb hx, fun b o q n hx => ?_, un.there, fun b xs q => ?_, fun b o u q => ?_, fun b ps q => ?_⟩, fun a o e => ?_, fun c hc => (let ⟨_, _, _, _, _, z⟩ := there hc; z)⟩
  · rw [hide_out (nin n)]
    exact n
  · rw [hide_out (nin n)]
    exact n
  · rw [bring_out (nin n)]
    exact un.free b o q (by rw [hide_out (nin n)]; exact n) hx
  · have nb := nof q fun x u z => by cases z
    rw [bring_out nb]
    exact un.tups b xs (by rw [hide_out nb]; exact q)
  · by_cases hb : b ∈ cs
    · rw [bring_in hb]
      exact q
    · rw [bring_out hb]
      exact un.frzs b o u (by rw [hide_out hb]; exact q)
  · have nb := nof q fun x u z => by cases z
    rw [bring_out nb]
    exact un.tbls b ps (by rw [hide_out nb]; exact q)
  · by_cases ha : a ∈ cs
    · rw [bring_in ha] at e
      obtain ⟨o2, u, e2, _, g2, _⟩ := there ha
      rw [e] at e2
      cases e2
      exact ⟨g2, o2, g2⟩
    · rw [bring_out ha] at e
      refine (hok' a o e).stay (fun _ _ _ q => q) (fun b q => ?_) fun b xs q => ?_
      · rw [bring_out fun hb => ?_]
        · exact q
        · obtain ⟨_, _, _, _, _, z⟩ := there hb
          rw [q] at z
          cases z
      · rw [bring_out fun hb => ?_]
        · exact q
        · obtain ⟨_, _, _, _, _, z⟩ := there hb
          rw [q] at z
          cases z
end
/-! ### a function's captured cells -/
structure Caps (H : Hp) (cl : List (Str × Addr)) (fr : List Str) (ws : List V) : Prop where
  len : ws.length = fr.length
  all : ∀ p ∈ cl, CellN H p.2
  inj : ∀ x y c, cl.lookup x = some c → cl.lookup y = some c → x = y
  has : ∀ (i : Nat) (y : Str), fr[i]? = some y → ∃ c v, cl.lookup y = some c ∧ ws[i]? = some v ∧ CellV H c v
theorem Caps.cells {H : Hp} {cl : List (Str × Addr)} {fr : List Str} {ws : List V} (C : Caps H cl fr ws) : ∀ c ∈ cl.map (·.2), CellN H c := fun c hc => by
  obtain ⟨p, hp, e⟩ := List.mem_map.mp hc
  subst e
  exact C.all p hp
theorem Caps.at_ {P : Program} {w : World} {H : Hp} {h : Heap} {cl : List (Str × Addr)} {fr : List Str} {ws : List V} (C : Caps H cl fr ws) (hok : HOk P w H h) : CellsAt cl fr (ws.map some) h (hide (cl.map (·.2)) H) := by
  have mem : ∀ {y c}, cl.lookup y = some c → c ∈ cl.map (·.2) := fun {y c} e => List.mem_map.mpr ⟨(y, c), PySem.mem_of_lookup e, rfl⟩
  refine ⟨by rw [List.length_map]; exact C.len, fun y c e => ⟨hide_in (mem e), cell_at hok (C.cells c (mem e))⟩, C.inj, fun i y e => ?_⟩
  obtain ⟨c, v, e1, e2, e3⟩ := C.has i y e
  refine ⟨c, e1, fun v' ev => ?_⟩
  rw [List.getElem?_map, e2] at ev
  cases ev
  exact cellV_at hok e3
/-! ### the contract of a function as a value -/
structure Clo (P : Program) (w : World) (K : PySem.W.Frag) (mg : Str → Option Value) (base : Heap) (k : Nat) (f : Addr) (sp : Sp) : Prop where
  ok : ∀ vs H Q E, sp vs H Q E → ∃ F, H f = some (CloO f F)
  run : ∀ (A : Around) (outer : List Env) (s : Shared) (H : Hp) (us : List Value) (vs : List V) (Q : VK) (E : XK), Room k A → Env0 P w K mg base A outer s H → Vals vs us → sp vs H Q E →
    codeAny (model P w) A (.call (.ref f) ⟨us, []⟩) (CR CX0 outer P w H s Q E) s
abbrev CF.nf (F : CF) : NF := ⟨F.name, F.qual, F.params, [], F.scope, F.cl, F.c⟩
/-- the context of its body -/
abbrev ccx (P : Program) (w : World) (K : PySem.W.Frag) (mg : Str → Option Value) (base : Heap) (N : List Str) (F : CF) (f : Addr) (A : Around) (outer : List Env) (s : Shared) (H : Hp) (E : XK) : Cx := (ncx CX0 P w K mg base N F.nf f A outer s H E).nox
/-- what is wanted behind a function of captured cells, told with the cells hidden -/
def hQ (cl : List (Str × Addr)) (H : Hp) (Q : VK) : VK := fun v H' => (∀ c ∈ cl.map (·.2), H' c = none) → Q v (bring (cl.map (·.2)) H H')
/-- the promise of a function F at f: what its text promises, of the captured values ws -/
def cloSp (f : Addr) (F : CF) (fr : List Str) (n : Nat) (sp : List V → Sp) : Sp := fun vs H Q E => FnH H f F ∧ vs.length = n ∧ ∃ ws, Caps H F.cl fr ws ∧ sp ws vs (hide (F.cl.map (·.2)) H) (hQ F.cl H Q) E
section
variable {P : Program} {w : World} {K : PySem.W.Frag} {mg : Str → Option Value} {base : Heap} {N ps fr : List Str} {F : CF} {f : Addr} {k : Nat} {sp : List V → Sp}
theorem codeO_rec {P : Program} {w : World} {H : Hp} {h : Heap} {c : Addr} {q : Str} (hok : HOk P w H h) (e : H c = some (CodeO c q)) : h.CodeRec (.ref c) q := codeO_at hok e
/-- from a body's walk to the contract -/
theorem clo_of (S : NScope N ps fr F.scope) (hb : ∀ (doc pm ctv : Value) (us : List Value), us.length = ps.length → bindArgs (F.fd doc pm ctv) ⟨us, []⟩ = pure (ps.zip us))
    (hbody : ∀ (A : Around) (outer : List Env) (s : Shared) (H : Hp) (vs : List V) (ws : List V) (Q : VK) (E : XK), Room k (A.deeper (envF F.nf f s.heap.objs.size)) → ws.length = fr.length → vs.length = ps.length → sp ws vs H Q E →
      match F.body with
      | .stmts b => ∃ t, PSs (ccx P w K mg base N F f A outer s H E) b t ∧ t { nx := fun _ H' => Q .non H', rt := Q } (startF N vs (ws.map some)) H
      | .expr e => ∃ t, PE (ccx P w K mg base N F f A outer s H E) e t ∧ t (startF N vs (ws.map some)) H Q) :
    Clo P w K mg base (k + 1) f (cloSp f F fr ps.length sp) := by
  refine ⟨fun vs H Q E h => ⟨F, h.1.1⟩, fun A outer s H us vs Q E hr e0 r hsp => ?_⟩
  obtain ⟨⟨hf, hc⟩, hl, ws, C, hsp⟩ := hsp
  have lim : s.heap.NoLimit := e0.mod.nolimit.keeps fun b o e => (e0.bs b o e).1
  obtain ⟨od, sl, doc, pm, ctv, ho⟩ := cloO_at e0.hok hf
  have e1 := env0_hide (cs := F.cl.map (·.2)) e0 C.cells
  have CA := C.at_ e0.hok
  have fin : ∀ {σ' : L2.St} {H' : Hp} {v : V} {u : Value} {s' : Shared}, Inv (ccx P w K mg base N F f A outer s (hide (F.cl.map (·.2)) H) E) [] σ' H' s' → L2.RelV v u → hQ F.cl H Q v H' → CE outer P w H s Q u s' := fun {σ' H' v u s'} J rv q => by
    obtain ⟨un, hk, non⟩ := un_bring (s' := s') e0 C.cells J.base J.hok
    exact ⟨v, _, J.os, J.bare, un, hk, rv, q non⟩
  have kb := hbody A outer s (hide (F.cl.map (·.2)) H) vs ws (hQ F.cl H Q) E (hr.deeper _) C.len hl hsp
  have start1 : ∀ {h₁ : Heap} {tk : Nat}, h₁.Ns s.heap.objs.size (fun y => (ps.zip us).reverse.lookup y) → (∀ b o, s.heap.get? b = some o → h₁.get? b = some o) →
      Inv (ccx P w K mg base N F f A outer s (hide (F.cl.map (·.2)) H) E) [] (startF N vs (ws.map some)) (hide (F.cl.map (·.2)) H) { s with heap := h₁, toks := tk } := fun {h₁ tk} hns kp =>
    (inv_startN (F := F.nf) (CX := CX0) (f := f) (tk := tk) (E := E) S hr.hd e1 hl r CA hns kp).wish _
  obtain ⟨fname, fqual, fparams, fbody, fscope, fcl, fc⟩ := F
  cases fbody with
  | stmts b =>
    obtain ⟨t, ht, hq⟩ := kb
    refine codeAny_call_function hr.depth ho rfl S.co S.gen rfl (codeO_at e0.hok hc) ?_
    rw [hb doc pm ctv us (by rw [← r.length]; exact hl)]
    refine wpAny_pure (wpAny_newFunctionEnv S.nocell (fun ⟨n, _⟩ hy => S.par n (List.of_mem_zip hy).1) (fun h₁ hns hsb => ⟨lim.fresh _ hsb, ?_⟩) S.kind)
    refine codeAny_func ?_
    have kp : ∀ b o, s.heap.get? b = some o → h₁.get? b = some o := fun b o e => hsb.extBut b o (Nat.ne_of_lt (Heap.lt_size e)) (Heap.get?_push_of_some _ e)
    refine wpAny_mono (ht.run [] _ _ _ _ (start1 (tk := s.toks + (ps.zip us).length) hns kp) hq) (fun fl s' hs => ?_) fun e s' hs => hs.elim
    cases fl with
    | ret u =>
      obtain ⟨v, σ', H', J, rv, q⟩ := hs
      exact fin J rv q
    | next =>
      obtain ⟨σ', H', J, q⟩ := hs
      exact fin (v := V.non) (u := Value.none) J rfl q
    | brk =>
      obtain ⟨_, _, _, q⟩ := hs
      exact False.elim q
    | cont =>
      obtain ⟨_, _, _, q⟩ := hs
      exact False.elim q
  | expr b =>
    obtain ⟨t, ht, hq⟩ := kb
    refine PySem.W.kla_callFunE hr.depth ho rfl S.co S.gen rfl (codeO_at e0.hok hc) ?_
    rw [hb doc pm ctv us (by rw [← r.length]; exact hl)]
    refine wpAny_pure (wpAny_newFunctionEnv S.nocell (fun ⟨n, _⟩ hy => S.par n (List.of_mem_zip hy).1) (fun h₁ hns hsb => ⟨lim.fresh _ hsb, ?_⟩) S.kind)
    have kp : ∀ b o, s.heap.get? b = some o → h₁.get? b = some o := fun b o e => hsb.extBut b o (Nat.ne_of_lt (Heap.lt_size e)) (Heap.get?_push_of_some _ e)
    refine PySem.W.kla_codeExpr (wpAny_mono (ht.run [] _ _ _ _ (start1 (tk := s.toks + (ps.zip us).length) hns kp) hq) (fun u s' hs => ?_) fun e s' hs => hs.elim)
    obtain ⟨v, H', J, rv, q⟩ := hs
    exact fin J rv q
end
/-! Calls of functions as values; calls while the running frame's cells are told; a maker's end. -/
abbrev CK := Nat → Addr → Sp → Prop
/-- f(..), f a local name (a parameter, a captured one) that holds a function of a contract -/
def tCallC (C : CK) (i kx : Nat) (t : TA) : TE := fun σ H Q => ∃ f k sp F, σ[i]? = some (some (.ref f)) ∧ C k f sp ∧ k ≤ kx ∧ H f = some (CloO f F) ∧ t σ H fun vs H1 => sp vs H1 Q E0
/-- o.m(..), m an attribute of o's own that holds such a function -/
def tFldC (K : PySem.W.Frag) (C : CK) (m : Str) (kx : Nat) (ta : TE) (t : TA) : TE := fun σ H Q => ta σ H fun x H1 => ∃ a Cl dx fs f k sp F, x = .ref a ∧ H1 a = some (.ins Cl dx fs) ∧ Cls K Cl ∧ NoAttr K Cl m ∧ fs.lookup m = some (.ref f) ∧
  C k f sp ∧ k ≤ kx ∧ H1 f = some (CloO f F) ∧ t σ H1 fun vs H2 => sp vs H2 Q E0
section
variable {X : Cx} {i kx : Nat} {x m : Str} {p pos apos : Pos} {e o : Expr} {es : List Expr} {t : TA} {ta : TE}
theorem run_clo {pins : List (Addr × Obj)} {σ : L2.St} {H : Hp} {s : Shared} {Q : VK} {k : Nat} {f : Addr} {sp : Sp} {us : List Value} {vs : List V} (C : Clo X.prog X.w X.K X.mg X.base k f sp) (hr : Room kx X.A) (hk : k ≤ kx) (I : Inv X pins σ H s)
    (r : Vals vs us) (h : sp vs H Q E0) : wpAny (model X.prog X.w) X.A (call (.ref f) us) (EP X pins σ Q) X.xe s := by
  refine wpAny_call (codeAny_mono (C.run X.A X.stack s H us vs Q E0 (hr.mono hk) I.env0 r h) fun r s' hq => ?_)
  cases r with
  | error e => exact hq.elim
  | ok fl =>
    cases fl with
    | ret u => exact I.after hq
    | next => exact False.elim hq
    | brk => exact False.elim hq
    | cont => exact False.elim hq
theorem pe_callC (hr : Room kx X.A) (hN : X.N[i]? = some x) (hv : Vis X.env.scope x) (ha : PA X (e :: es) t)
    (hd : (x == ("__debug__" : Str)) = false := by decide) (hcd : (x == ("__classdict__" : Str)) = false := by decide)
    (he : starEach (e :: es) X.env = (false, eval e X.env) :: starEach es X.env := by rfl) (hpl : (backTo pos (starEach es X.env)).any (·.1) = false := by rfl) :
    PE X (.Call (.Name x p) (e :: es) [] pos) (tCallC (Clo X.prog X.w X.K X.mg X.base) i kx t) := by
  refine ⟨fun pins s σ H Q I h => ?_⟩
  obtain ⟨f, k, sp, F, hs, C, hk, hf, ht⟩ := h
  refine wpAny_Call_Name_kw (thn ((pe_var (pos := p) hN hv hd hcd).run pins s σ H (fun v H1 => v = .ref f ∧ H1 = H) I ⟨.ref f, hs, rfl, rfl⟩) fun u s1 ⟨v, H1, I1, r1, ev, eH⟩ => ?_)
  subst ev
  rw [eH] at I1
  obtain rfl : u = Value.ref f := r1
  refine PySem.W.callWith_F (first := []) (fnAt_clo I1 hf) (thn (ha.run pos pins s1 σ H _ I1 ht) fun us s2 ⟨vs, H2, I2, r, q⟩ => ?_) he hpl
  obtain ⟨F2, hf2⟩ := C.ok _ _ _ _ q
  exact ⟨fnAt_clo I2 hf2, run_clo C hr hk I2 r q⟩
theorem pe_fldC {pl : Sem Bool} (hr : Room kx X.A) (ho : PE X o ta) (ha : PA X (e :: es) t)
    (hst : starEach (e :: es) X.env = (false, eval e X.env) :: starEach es X.env := by rfl) (hpl : (backTo pos (starEach es X.env)).any (·.1) = false := by rfl)
    (ht : eval (.Call (.Attribute o m apos) (e :: es) [] pos) X.env = (do
      let ov ← eval o X.env
      standAt apos.atName
      let (f, first) ← holding [ov] (getMethod ov m pl)
      callWith pos f first (backTo pos (starEach (e :: es) X.env)) (backToKw pos (keywordEach [] X.env))) := by rfl) :
    PE X (.Call (.Attribute o m apos) (e :: es) [] pos) (tFldC X.K (Clo X.prog X.w X.K X.mg X.base) m kx ta t) := by
  refine ⟨fun pins s σ H Q I h => ?_⟩
  refine PySem.W.methodCall_KW (pl := pl) (thn (ho.run pins s σ H _ I h) fun u s1 ⟨x, H1, I1, rx, a, Cl, dx, fs, f, k, sp, F, ex, ea, c, na, l, C, hk, hf, q⟩ => ?_) ht
  subst ex
  obtain rfl : u = Value.ref a := rx
  obtain ⟨mA, O, rr, _, _, _⟩ := ins_get I1.hok ea
  obtain ⟨od, J, hl⟩ := O.look
  refine PySem.W.method_usual (r := none) I1.kIn J (PySem.W.plainGet_of c.pg).1 (PySem.W.plainGet_of c.pg).2 na (by rfl) ?_
  refine getattr_ok I1 ea c na l fun u s2 I2 r2 => ?_
  obtain rfl : u = Value.ref f := r2
  refine PySem.W.callWith_F (first := []) (fnAt_clo I2 hf) (thn (ha.run pos pins s2 σ H1 _ I2 q) fun us s3 ⟨vs, H2, I3, r, q2⟩ => ?_) hst hpl
  obtain ⟨F2, hf2⟩ := C.ok _ _ _ _ q2
  exact ⟨fnAt_clo I3 hf2, run_clo C hr hk I3 r q2⟩
end
/-! ### C.m(..), C a class, m a def of it -/
section
variable {X : Cx} {CX : CXT} {k : Nat} {f C : Addr} {mc : Value} {fd : FuncData} {ps : List Str} {sp : Sp} {E : XK} {m : Str} {pos apos : Pos} {e o : Expr} {es : List Expr} {ta : TE} {t : TA}
def tClsF (C : Addr) (sp : Sp) (E : XK) (ta : TE) (t : TA) : TE := fun σ H Q => ta σ H fun x H1 => x = .ref C ∧ t σ H1 fun vs H2 => sp vs H2 Q E
theorem pe_clsF {pl : Sem Bool} (ho : PE X o ta) (rd : ClX.CRead X.K C mc) (at_ : PySem.W.findCls X.K (.ref C) mc m = some (.val (.ref f))) (F : FnOk X.prog X.w X.K X.mg X.base CX k f fd ps sp) (hk : PySem.W.keepIn X.K (.ref f) = true) (hr : Room k X.A) (hb : Binds X.K fd ps [])
    (hx : Passes CX X E) (ha : PA X (e :: es) t) (hst : starEach (e :: es) X.env = (false, eval e X.env) :: starEach es X.env := by rfl) (hpl : (backTo pos (starEach es X.env)).any (·.1) = false := by rfl)
    (ht : eval (.Call (.Attribute o m apos) (e :: es) [] pos) X.env = (do
      let ov ← eval o X.env
      standAt apos.atName
      let (f, first) ← holding [ov] (getMethod ov m pl)
      callWith pos f first (backTo pos (starEach (e :: es) X.env)) (backToKw pos (keywordEach [] X.env))) := by rfl) :
    PE X (.Call (.Attribute o m apos) (e :: es) [] pos) (tClsF C sp E ta t) := by
  refine ⟨fun pins s σ H Q I h => ?_⟩
  refine PySem.W.methodCall_KW (pl := pl) (thn (ho.run pins s σ H _ I h) fun u s1 ⟨x, H1, I1, rx, ex, q⟩ => ?_) ht
  subst ex
  obtain rfl : u = Value.ref C := rx
  refine PySem.W.method_cls I1.kIn rd.ga (ClX.getcval_ok (v := .ref f) I1 rd ⟨at_, rfl⟩ fun s2 I2 => ?_)
  refine PySem.W.callWith_K (first := []) (h₀ := X.base) I.ok.mod.kin hk (thn (ha.run pos pins s2 σ H1 _ I2 q) fun us s3 ⟨vs, H2, I3, r, q2⟩ => ⟨I3.kIn, ?_⟩) hst hpl
  exact run_fn (dvs := []) (ds := []) F hr hb .nil hx I3 r (by rw [List.append_nil]; exact q2)
end
/-! ### the running frame's cells told, for a call -/
structure Trk (cells : List (Str × Addr)) (N : List Str) (σ : L2.St) (H H2 : Hp) : Prop where
  out : ∀ b, b ∉ cells.map (·.2) → H2 b = H b
  non : ∀ c ∈ cells.map (·.2), H c = none
  cell : ∀ c ∈ cells.map (·.2), CellN H2 c
  at_ : ∀ (y : Str) (c : Addr) (j : Nat) (v : V), cells.lookup y = some c → N[j]? = some y → σ[j]? = some (some v) → CellV H2 c v
  inj : ∀ x y c, cells.lookup x = some c → cells.lookup y = some c → x = y
theorem Trk.keep {cells : List (Str × Addr)} {N : List Str} {σ : L2.St} {H H2 : Hp} (t : Trk cells N σ H H2) {b : Addr} {o : HO} (e : H b = some o) : H2 b = some o := by
  rw [t.out b fun hb => ?_]
  · exact e
  · have z := t.non b hb
    rw [e] at z
    cases z
/-- a call's promise, with the cells told in it and hidden again behind it -/
def trkSp (cells : List (Str × Addr)) (N : List Str) (σ : L2.St) (sp : Sp) : Sp := fun vs H Q E => ∀ H2, Trk cells N σ H H2 → sp vs H2 (fun v H' => (∀ c ∈ cells.map (·.2), CellN H' c) → Q v (hide (cells.map (·.2)) H')) E
section
variable {X : Cx} {pins : List (Addr × Obj)} {σ : L2.St} {H : Hp} {s : Shared}
/-- the heap in which the cells are told -/
def told (cs : List Addr) (h : Heap) (H : Hp) : Hp := fun b => if b ∈ cs then (h.get? b).map fun o => HO.frz o (.own 0) else H b
theorem mem_cells {cells : List (Str × Addr)} {c : Addr} (hc : c ∈ cells.map (·.2)) : ∃ y, (y, c) ∈ cells := by
  obtain ⟨p, hp, e⟩ := List.mem_map.mp hc
  exact ⟨p.1, by rw [← e]; exact hp⟩
/-- the frame's cells are its scope's own -/
structure CellsOk (X : Cx) : Prop where
  fn : ∀ x, X.fn x = true
  kind : ∀ p ∈ X.env.cells, X.env.scope.names.lookup p.1 = some .cell
  look : ∀ p ∈ X.env.cells, X.env.cells.lookup p.1 = some p.2
theorem trk_of (I : Inv X pins σ H s) (ck : CellsOk X) : Trk X.env.cells X.N σ H (told (X.env.cells.map (·.2)) s.heap H) ∧ HOk X.prog X.w (told (X.env.cells.map (·.2)) s.heap H) s.heap := by
  have look : ∀ {c}, c ∈ X.env.cells.map (·.2) → ∃ y, X.env.cells.lookup y = some c := fun {c} hc => by
    obtain ⟨p, hp, e⟩ := List.mem_map.mp hc
    exact ⟨p.1, by rw [← e]; exact ck.look p hp⟩
  have at_ : ∀ {c}, c ∈ X.env.cells.map (·.2) → ∃ o x, s.heap.get? c = some o ∧ o.data = .cell x ∧ told (X.env.cells.map (·.2)) s.heap H c = some (.frz o (.own 0)) := fun {c} hc => by
    obtain ⟨y, hy⟩ := look hc
    obtain ⟨x, o, ho, hd⟩ := I.cell y c hy
    refine ⟨o, x, ho, hd, ?_⟩
    unfold told
    rw [if_pos hc, ho] <;> rfl
  have non : ∀ c ∈ X.env.cells.map (·.2), H c = none := fun c hc => by
    obtain ⟨y, hy⟩ := look hc
    exact I.freeC y c hy
  refine ⟨⟨fun b hb => if_neg hb, non, fun c hc => ?_, fun y c j v hy hN hs => ?_, I.ok.inj⟩, fun a o e => ?_⟩
  · obtain ⟨o, x, _, hd, e⟩ := at_ hc
    exact ⟨o, 0, e, x, hd⟩
  · have hp := PySem.mem_of_lookup hy
    have hc : c ∈ X.env.cells.map (·.2) := List.mem_map.mpr ⟨(y, c), hp, rfl⟩
    obtain ⟨o, x, ho, hd, e⟩ := at_ hc
    obtain ⟨m, hn, hl⟩ := I.loc
    have hk : X.env.scope.names.lookup y = some .cell := ck.kind _ hp
    obtain ⟨u, r, l⟩ := hl j y v hN hs (.inr (.inl hk))
    refine ⟨o, 0, e, u, ?_, r⟩
    rcases l with ⟨z, _⟩ | ⟨_, c2, e2, o3, ho3, hd3⟩
    · rw [show X.env.scope.names.lookup y = some .local from z] at hk
      cases hk
    · rw [hy] at e2
      cases e2
      rw [ho] at ho3
      cases ho3
      exact hd3
  · by_cases ha : a ∈ X.env.cells.map (·.2)
    · obtain ⟨o2, x, ho, hd, e2⟩ := at_ ha
      rw [e] at e2
      cases e2
      exact ⟨ho, o2, ho⟩
    · have e1 : H a = some o := (if_neg ha).symm.trans e
      have kp : ∀ b u, H b = some u → told (X.env.cells.map (·.2)) s.heap H b = some u := fun b u q => by
        unfold told
        rw [if_neg fun hb => ?_]
        · exact q
        · have z := non b hb
          rw [q] at z
          cases z
      exact (I.hok a o e1).stay (fun _ _ _ q => q) (fun b q => kp b _ q) fun b xs q => kp b _ q
theorem Inv.cab' (I : Inv X pins σ H s) (ck : CellsOk X) : ∀ c ∈ X.env.cells.map (·.2), X.s_0.heap.objs.size ≤ c := fun c hc => by
  obtain ⟨p, hp, e⟩ := List.mem_map.mp hc
  subst e
  exact I.ok.cab p.1 p.2 (ck.fn _) (ck.look p hp)
/-- the callee's start -/
theorem env0_trk (I : Inv X pins σ H s) (ck : CellsOk X) : Env0 X.prog X.w X.K X.mg X.base X.A X.stack s (told (X.env.cells.map (·.2)) s.heap H) := by
  have e0 := I.env0
  have cab := Inv.cab' I ck
  have nl : X.env.locals ∉ X.env.cells.map (·.2) := fun hc => by
    obtain ⟨p, hp, e⟩ := List.mem_map.mp hc
    exact I.cne p.1 p.2 (ck.look p hp) e
  have nf : ∀ b ∈ X.fs, b ∉ X.env.cells.map (·.2) := fun b hb hc => by
    obtain ⟨_, o, ho, _⟩ := I.ok.funs.mem hb
    exact absurd (Nat.lt_of_lt_of_le (Heap.lt_size ho) (cab b hc)) (Nat.lt_irrefl _)
  refine ⟨e0.frames, e0.mod, fun b o e => ?_, e0.bsz, e0.funs, fun b hb => ?_, (trk_of I ck).2, e0.bare⟩
  · obtain ⟨h1, h2⟩ := e0.bs b o e
    refine ⟨h1, ?_⟩
    unfold told
    rw [if_neg fun hc => ?_]
    · exact h2
    · exact absurd (Nat.lt_of_lt_of_le (Heap.lt_size e) (Nat.le_trans I.ok.bsz (cab b hc))) (Nat.lt_irrefl _)
  · have h1 : b ∉ X.env.cells.map (·.2) := fun hc => (List.mem_cons.mp (I.stkSub b hb)).elim (fun z => nl (by rw [← z]; exact hc)) fun z => nf b z hc
    unfold told
    rw [if_neg h1]
    exact e0.frf b hb
/-- behind the callee, the cells hidden again -/
theorem un_hide {H2 H' : Hp} {s' : Shared} {cs : List Addr} {fs : List Addr} (non : ∀ c ∈ cs, H c = none) (out : ∀ b, b ∉ cs → H2 b = H b) (cell : ∀ c ∈ cs, CellN H2 c) (hok : HOk X.prog X.w H2 s.heap) (un : Un fs [] H2 H' s.heap s'.heap) (hok' : HOk X.prog X.w H' s'.heap) :
    Un fs [] H (hide cs H') s.heap s'.heap ∧ HOk X.prog X.w (hide cs H') s'.heap ∧ ∀ c ∈ cs, CellN H' c := by
  have cell' : ∀ c ∈ cs, ∃ o u, H2 c = some (.frz o (.own u)) ∧ H' c = some (.frz o (.own u)) ∧ s.heap.get? c = some o ∧ s'.heap.get? c = some o ∧ ∃ x, o.data = .cell x := fun c hc => by
    obtain ⟨o, u, e, x, d⟩ := cell c hc
    have e' := un.frzs c o _ e
    exact ⟨o, u, e, e', (hok c _ e).1, (hok' c _ e').1, x, d⟩
  have cn : ∀ c ∈ cs, CellN H' c := fun c hc => by
    obtain ⟨o, u, _, e', _, _, x, d⟩ := cell' c hc
    exact ⟨o, u, e', x, d⟩
  have old : ∀ {b : Addr} {o : HO}, H b = some o → b ∉ cs := fun {b o} e hb => by
    have z := non b hb
    rw [e] at z
    cases z
  refine ⟨⟨fun b o q n hb hx => ?_, fun b o q n hb hx => ?_, fun b o q n hx => ?_, un.there, fun b xs q => ?_, fun b o u q => ?_, fun b ps q => ?_⟩, hok_hide hok' cn, cn⟩
  · by_cases hc : b ∈ cs
    · obtain ⟨o2, u, _, _, g1, g2, _⟩ := cell' b hc
      rw [q] at g1
      cases g1
      exact g2
    · exact un.keep b o q (by rw [out b hc]; exact n) hb hx
  · by_cases hc : b ∈ cs
    · obtain ⟨o2, u, _, _, g1, g2, _⟩ := cell' b hc
      rw [q] at g1
      cases g1
      exact ⟨_, g2⟩
    · exact un.slot b o q (by rw [out b hc]; exact n) hb hx
  · by_cases hc : b ∈ cs
    · exact hide_in hc
    · rw [hide_out hc]
      exact un.free b o q (by rw [out b hc]; exact n) hx
  · rw [hide_out (old q)]
    exact un.tups b xs (by rw [out b (old q)]; exact q)
  · rw [hide_out (old q)]
    exact un.frzs b o u (by rw [out b (old q)]; exact q)
  · rw [hide_out (old q)]
    exact un.tbls b ps (by rw [out b (old q)]; exact q)
theorem run_fnT {k : Nat} {f : Addr} {fd : FuncData} {ps : List Str} {sp : Sp} {dvs : List V} {ds : List Value} {E : XK} {Q : VK} {us : List Value} {vs : List V} (F : FnOk X.prog X.w X.K X.mg X.base CX0 k f fd ps sp) (hr : Room k X.A) (hb : Binds X.K fd ps ds) (hd : Vals dvs ds) (ck : CellsOk X)
    (I : Inv X pins σ H s) (r : Vals vs us) (h : trkSp X.env.cells X.N σ sp (vs ++ dvs) H Q E) : wpAny (model X.prog X.w) X.A (call (.ref f) us) (EP X pins σ Q) X.xe s := by
  obtain ⟨t, hok⟩ := trk_of I ck
  have h := h _ t
  have r2 : Vals (vs ++ dvs) (us ++ ds) := r.append hd
  have hl : (us ++ ds).length = ps.length := by rw [← r2.length]; exact F.len _ _ _ _ h
  refine wpAny_call (codeAny_mono (F.run X.A X.stack s _ ⟨us, []⟩ (us ++ ds) (vs ++ dvs) _ E hr (env0_trk I ck) (hb s us I.kIn hl) r2 h) fun r s' hq => ?_)
  cases r with
  | error e => exact hq.elim
  | ok fl =>
    cases fl with
    | ret u =>
      obtain ⟨v, H', os, bare, un, hok', rv, q⟩ := hq
      obtain ⟨un2, hok2, cn⟩ := un_hide (X := X) (H := H) (s := s) t.non t.out t.cell hok un hok'
      exact I.after (Q := Q) ⟨v, _, os, bare, un2, hok2, rv, q cn⟩
    | next => exact False.elim hq
    | brk => exact False.elim hq
    | cont => exact False.elim hq
end
/-- o.m(..) of an instance of the class at C, the running frame's cells told meanwhile -/
def tMethT (C : Addr) (m : Str) (cells : List (Str × Addr)) (N : List Str) (sp : Sp) (E : XK) (ta : TE) (t : TA) : TE := fun σ H Q => ta σ H fun x H1 => ∃ a dx fs, x = .ref a ∧ H1 a = some (.ins C dx fs) ∧ fs.lookup m = none ∧
  t σ H1 fun vs H2 => trkSp cells N σ sp (x :: vs) H2 Q E
def tCallT (cells : List (Str × Addr)) (N : List Str) (sp : Sp) (E : XK) (t : TA) : TE := fun σ H Q => t σ H fun vs H1 => trkSp cells N σ sp vs H1 Q E
section
variable {X : Cx} {k : Nat} {f C : Addr} {fd : FuncData} {ps : List Str} {sp : Sp} {E : XK} {x m : Str} {p pos apos : Pos} {e o : Expr} {es : List Expr} {ta : TE} {t : TA}
theorem pe_methT {pl : Sem Bool} (ck : CellsOk X) (he : PE X o ta) (c : Cls X.K C) (hm : Meth X.K C m f) (F : FnOk X.prog X.w X.K X.mg X.base CX0 k f fd ps sp) (hr : Room k X.A) (hb : Binds X.K fd ps []) (ha : PA X (e :: es) t)
    (hst : starEach (e :: es) X.env = (false, eval e X.env) :: starEach es X.env := by rfl) (hpl : (backTo pos (starEach es X.env)).any (·.1) = false := by rfl)
    (ht : eval (.Call (.Attribute o m apos) (e :: es) [] pos) X.env = (do
      let ov ← eval o X.env
      standAt apos.atName
      let (f, first) ← holding [ov] (getMethod ov m pl)
      callWith pos f first (backTo pos (starEach (e :: es) X.env)) (backToKw pos (keywordEach [] X.env))) := by rfl) :
    PE X (.Call (.Attribute o m apos) (e :: es) [] pos) (tMethT C m X.env.cells X.N sp E ta t) := by
  refine ⟨fun pins s σ H Q I h => ?_⟩
  refine PySem.W.methodCall_KW (pl := pl) (thn (he.run pins s σ H _ I h) fun u s1 ⟨x, H1, I1, rx, a, dx, fs, ex, ea, l, q⟩ => ?_) ht
  subst ex
  obtain rfl : u = Value.ref a := rx
  refine getmeth_ok I1 ea c hm l ?_
  refine PySem.W.callWith_K (first := [.ref a]) (h₀ := X.base) I.ok.mod.kin hm.kp (thn (ha.run pos pins s1 σ H1 _ I1 q) fun us s2 ⟨vs, H2, I2, r, q2⟩ => ⟨I2.kIn, ?_⟩) hst hpl
  exact run_fnT (us := .ref a :: us) (vs := .ref a :: vs) (dvs := []) (ds := []) F hr hb .nil ck I2 (.cons rfl r) (by rw [List.append_nil]; exact q2)
theorem pe_callT (ck : CellsOk X) (F : FnOk X.prog X.w X.K X.mg X.base CX0 k f fd ps sp) (hr : Room k X.A) (hg : Gl X x) (hm : X.mg x = some (.ref f)) (hk : PySem.W.keepIn X.K (.ref f) = true) (hb : Binds X.K fd ps [])
    (ha : PA X (e :: es) t) (hdb : (x == ("__debug__" : Str)) = false := by decide) (he : starEach (e :: es) X.env = (false, eval e X.env) :: starEach es X.env := by rfl) (hpl : (backTo pos (starEach es X.env)).any (·.1) = false := by rfl) :
    PE X (.Call (.Name x p) (e :: es) [] pos) (tCallT X.env.cells X.N sp E t) := by
  refine ⟨fun pins s σ H Q I h => ?_⟩
  refine wpAny_Call_Name_kw (ld_glob I hg hm ?_ hdb)
  refine PySem.W.callWith_K (h₀ := X.base) I.ok.mod.kin hk (thn (ha.run pos pins s σ H _ I h) fun us s1 ⟨vs, H1, I1, r, q⟩ => ⟨I1.kIn, ?_⟩) he hpl
  exact run_fnT (dvs := []) (ds := []) F hr hb .nil ck I1 r (by rw [List.append_nil]; exact q)
end
/-! ### a def's frame: its cells -/
theorem cf_mem : ∀ {names : List (Str × NameKind)} {n : Nat} {acc : List (Str × Addr)} {p : Str × Addr}, p ∈ cellsFrom n names acc → p ∈ acc ∨ (p.1, NameKind.cell) ∈ names
  | [], _, _, _, h => .inl h
  | (y, k) :: r, n, acc, p, h => by
    unfold cellsFrom at h
    by_cases hk : (k == .cell) = true
    · rw [if_pos hk] at h
      rcases cf_mem h with z | z
      · rcases List.mem_cons.mp z with e | z
        · subst e
          have e2 : k = .cell := by
            cases k <;> first | rfl | cases hk
          subst e2
          exact .inr List.mem_cons_self
        · exact .inl z
      · exact .inr (List.mem_cons_of_mem _ z)
    · rw [if_neg hk] at h
      exact (cf_mem h).imp id (List.mem_cons_of_mem _)
theorem nodup_look {α β : Type} [BEq α] [LawfulBEq α] : ∀ {l : List (α × β)} {p : α × β}, (l.map (·.1)).Nodup → p ∈ l → l.lookup p.1 = some p.2
  | [], _, _, h => nomatch h
  | (a, b) :: r, p, nd, h => by
    rw [List.map_cons, List.nodup_cons] at nd
    rcases List.mem_cons.mp h with e | h
    · subst e
      simp [List.lookup]
    · have ne : ¬ p.1 = a := fun e => nd.1 (by rw [← e]; exact List.mem_map.mpr ⟨p, h, rfl⟩)
      have nb : (p.1 == a) = false := by simpa using ne
      rw [List.lookup, nb]
      exact nodup_look nd.2 h
theorem cf_nodup : ∀ {names : List (Str × NameKind)} {n : Nat} {acc : List (Str × Addr)}, (names.map (·.1)).Nodup → (acc.map (·.1)).Nodup → (∀ x ∈ acc.map (·.1), x ∉ names.map (·.1)) → ((cellsFrom n names acc).map (·.1)).Nodup
  | [], _, _, _, h, _ => h
  | (y, k) :: r, n, acc, h1, h2, h3 => by
    rw [List.map_cons, List.nodup_cons] at h1
    unfold cellsFrom
    by_cases hk : (k == .cell) = true
    · rw [if_pos hk]
      refine cf_nodup h1.2 ?_ ?_
      · rw [List.map_cons, List.nodup_cons]
        exact ⟨fun z => h3 y z (by rw [List.map_cons]; exact List.mem_cons_self), h2⟩
      · intro x hx
        rw [List.map_cons] at hx
        rcases List.mem_cons.mp hx with e | hx
        · rw [e]
          exact h1.1
        · exact fun z => h3 x hx (by rw [List.map_cons]; exact List.mem_cons_of_mem _ z)
    · rw [if_neg hk]
      exact cf_nodup h1.2 h2 fun x hx z => h3 x hx (by rw [List.map_cons]; exact List.mem_cons_of_mem _ z)
theorem cellsOk_def {CX : CXT} {P : Program} {w : World} {K : PySem.W.Frag} {mg : Str → Option Value} {base : Heap} {N : List Str} {qual : Str} {scope : Scope} {f : Addr} {cd : Value} {A : Around} {outer : List Env} {s : Shared} {H : Hp} {E : XK} {W : Value → Shared → Prop}
    (nd : (scope.names.map (·.1)).Nodup) : CellsOk ((cxOf CX P w K mg base N qual scope f cd A outer s H E).wish W) := by
  have nd2 : ((cellsFrom (s.heap.objs.size + 1) scope.names []).map (·.1)).Nodup := cf_nodup nd List.nodup_nil fun x hx => nomatch hx
  refine ⟨fun _ => rfl, fun p hp => ?_, fun p hp => nodup_look nd2 hp⟩
  rcases cf_mem (show p ∈ cellsFrom (s.heap.objs.size + 1) scope.names [] from hp) with z | z
  · exact nomatch z
  · exact nodup_look (p := (p.1, NameKind.cell)) nd z
/-- captured cells of a function made here, told -/
theorem caps_trk {cells : List (Str × Addr)} {N : List Str} {σ : L2.St} {H H2 : Hp} {ln : List (Str × NameKind)} {fr : List Str} {ws : List V} (t : Trk cells N σ H H2) (has : ∀ y ∈ ln, y.2 = .free → ∃ c, cells.lookup y.1 = some c) (hfr : ∀ y ∈ fr, (y, NameKind.free) ∈ ln)
    (len : ws.length = fr.length) (hjs : ∀ (i : Nat) (y : Str), fr[i]? = some y → ∃ (j : Nat) (v : V), N[j]? = some y ∧ σ[j]? = some (some v) ∧ ws[i]? = some v) : Caps H2 (cloFrom cells ln []) fr ws := by
  refine ⟨len, fun p hp => ?_, fun x y c h1 h2 => t.inj x y c (clo_cm has h1) (clo_cm has h2), fun i y e => ?_⟩
  · rcases cloFrom_mem (n := p.1) (c := p.2) hp with z | ⟨z1, z2⟩
    · exact nomatch z
    · obtain ⟨c, hc⟩ := has _ z1 rfl
      have e2 : p.2 = c := by rw [z2, show cells.lookup p.1 = some c from hc] <;> rfl
      rw [e2]
      exact t.cell c (List.mem_map.mpr ⟨_, PySem.mem_of_lookup hc, rfl⟩)
  · have hy := hfr y (List.mem_of_getElem? e)
    obtain ⟨c, hc⟩ := has _ hy rfl
    obtain ⟨j, v, e1, e2, e3⟩ := hjs i y e
    exact ⟨c, v, clo_has has hy hc, e3, t.at_ y c j v hc e1 e2⟩
/-! ### a def that ends in a return, its cells told behind it -/
abbrev TR := (V → L2.St → Hp → Prop) → L2.St → Hp → Prop
structure PSR (X : Cx) (sts : List Stmt) (t : TR) : Prop where
  run : ∀ (s : Shared) (σ : L2.St) (H : Hp) (R : V → L2.St → Hp → Prop), Inv X [] σ H s → t R σ H → wpAny (model X.prog X.w) X.A (execs sts X.env) (fun f s' => ∃ u v σ' H', f = .ret u ∧ Inv X [] σ' H' s' ∧ L2.RelV v u ∧ R v σ' H') X.xe s
section
variable {X : Cx} {st : Stmt} {rest : List Stmt} {t1 : TS} {t2 : TR} {e : Expr} {te : TE} {pos : Pos}
theorem psr_cons (h1 : PS X st t1) (h2 : PSR X rest t2) : PSR X (st :: rest) (fun R σ H => t1 { nx := fun σ' H' => t2 R σ' H', rt := fun _ _ => False } σ H) := by
  refine ⟨fun s σ H R I h => ?_⟩
  refine wpAny_execs_cons (thn (h1.run [] s σ H _ I h) fun f s1 q => ?_)
  cases f with
  | next =>
    obtain ⟨σ', H', I', q⟩ := q
    exact h2.run s1 σ' H' R I' q
  | ret v =>
    obtain ⟨_, _, _, _, _, q⟩ := q
    exact q.elim
  | brk =>
    obtain ⟨_, _, _, q⟩ := q
    exact q.elim
  | cont =>
    obtain ⟨_, _, _, q⟩ := q
    exact q.elim
theorem psr_ret (he : PE X e te) : PSR X [.Return (some e) pos] (fun R σ H => te σ H fun v H' => R v σ H') := by
  refine ⟨fun s σ H R I h => ?_⟩
  refine wpAny_execs_cons (thn (wpAny_Return_some (Q := fun f s1 => ∃ u v H', f = .ret u ∧ Inv X [] σ H' s1 ∧ L2.RelV v u ∧ R v σ H') (thn (he.run [] s σ H _ I h) fun v s1 ⟨x, H1, I1, r1, q1⟩ => ⟨v, x, H1, rfl, I1, r1, q1⟩)) fun f s1 q => ?_)
  obtain ⟨u, v, H', rfl, I', r, q⟩ := q
  exact ⟨u, v, σ, H', rfl, I', r, q⟩
end
def tRSeq (t1 : TS) (t2 : TR) : TR := fun R σ H => t1 { nx := fun σ' H' => t2 R σ' H', rt := fun _ _ => False } σ H
def tRRet (te : TE) : TR := fun R σ H => te σ H fun v H' => R v σ H'
/-- what was tracked is tracked with the cells told, too -/
theorem un_told {X : Cx} {σ : L2.St} {H : Hp} {s : Shared} (I : Inv X [] σ H s) (ck : CellsOk X) : Un X.fs X.ex X.H_0 (told (X.env.cells.map (·.2)) s.heap H) X.s_0.heap s.heap := by
  have t := (trk_of I ck).1
  have u := I.base
  refine ⟨u.keep, u.slot, fun b o q n hx => ?_, u.there, fun b xs q => t.keep (u.tups b xs q), fun b o z q => t.keep (u.frzs b o z q), fun b ps q => ?_⟩
  · rw [t.out b fun hc => absurd (Nat.lt_of_lt_of_le (Heap.lt_size q) (Inv.cab' I ck b hc)) (Nat.lt_irrefl _)]
    exact u.free b o q n hx
  · obtain ⟨more, e⟩ := u.tbls b ps q
    exact ⟨more, t.keep e⟩
/-- the rule for a maker's def: behind its return its cells are told -/
theorem fun_okR {P : Program} {w : World} {K : PySem.W.Frag} {mg : Str → Option Value} {base : Heap} {x qual : Str} {params : Arguments} {body : List Stmt} {scope : Scope} {f : Addr} {fd : FuncData} {N ps : List Str} {k : Nat} {sp : Sp} {cd : Value} (F : FunD K x qual params body scope [] [] f fd)
    (hcode : ∀ oc od osl fd', K.lookup f = some ⟨oc, od, .func fd', osl⟩ → fd'.code = cd) (S : FnScope N ps scope) (nd : (scope.names.map (·.1)).Nodup) (len : ∀ vs H Q E, sp vs H Q E → vs.length = ps.length)
    (hbody : ∀ (A : Around) (outer : List Env) (s : Shared) (H : Hp) (vs : List V) (Q : VK) (E : XK), Room k (A.deeper (envOfC qual scope s.heap.objs.size f cd)) → sp vs H Q E →
      ∃ t, PSR (cxOf CX0 P w K mg base N qual scope f cd A outer s H E).nox body t ∧ t (fun v σ' H' => ∀ H2, Trk (cellsFrom (s.heap.objs.size + 1) scope.names []) N σ' H' H2 → Q v H2) (L2.start N vs) H) : FnOk P w K mg base CX0 (k + 1) f fd ps sp := by
  obtain ⟨oc, od, dV, kV, doc, pm, an, cdv, ct, osl, rfl, lk, hcd, _, _⟩ := F.ex
  obtain rfl : cdv = cd := hcode _ _ _ _ lk
  refine ⟨len, fun A outer s H args us vs Q E hr e0 hb r hsp => ?_⟩
  have hl := len _ _ _ _ hsp
  have KX : K.In s.heap := e0.mod.kin.keeps fun b o e => (e0.bs b o e).1
  have lim : s.heap.NoLimit := e0.mod.nolimit.keeps fun b o e => (e0.bs b o e).1
  have hkind : ∀ y ∈ ps.zip us, scope.names.lookup y.1 = some .local ∨ (scope.names.lookup y.1 = some .cell ∧ ((cellsFrom (s.heap.objs.size + 1) scope.names []).lookup y.1).isSome = true) := fun ⟨n, v⟩ hy =>
    (S.par n (List.of_mem_zip hy).1).elim .inl fun q => .inr ⟨q, PySem.W.cellsFrom_some _ _ _ (.inl q)⟩
  refine codeAny_call_function hr.depth (KX _ _ lk) rfl S.co S.gen rfl (PySem.W.codeRec_of KX hcd) (hb _ _ _ _ ?_)
  refine wpAny_newFunctionEnv_cells S.kind hkind fun env he s1 y => ?_
  subst he
  refine ⟨lim.keeps y.toInCall.keep, codeAny_func ?_⟩
  obtain ⟨t, ht, hq⟩ := hbody A outer s H vs Q E (hr.deeper _) hsp
  have I : Inv (cxOf CX0 P w K mg base N qual scope f cdv A outer s H E).nox [] (L2.start N vs) H s1 := (inv_start S hr.hd e0 hl r y).wish _
  refine wpAny_mono (ht.run s1 (L2.start N vs) H _ I hq) (fun fl s' hs => ?_) fun e s' hs => hs.elim
  obtain ⟨u, v, σ', H', rfl, J, rv, q⟩ := hs
  have ck : CellsOk (cxOf CX0 P w K mg base N qual scope f cdv A outer s H E).nox := cellsOk_def nd
  obtain ⟨tk, hok2⟩ := trk_of J ck
  exact ⟨v, _, J.os, J.bare, un_told J ck, hok2, rv, q _ tk⟩
/-! What a call leaves as it was; data told apart from what may be changed. -/
/-- a set of addresses: what may be changed -/
abbrev FS := Addr → Prop
abbrev F0 : FS := fun _ => False
/-- from H to H' nothing but what stands in F is changed, nothing is gone -/
structure Gr (F : FS) (H H' : Hp) : Prop where
  keep : ∀ b o, H b = some o → ¬ F b → H' b = some o
  back : ∀ b, H' b = none → H b = none
theorem Gr.refl (F : FS) (H : Hp) : Gr F H H := ⟨fun _ _ h _ => h, fun _ h => h⟩
theorem Gr.trans {F : FS} {H H1 H2 : Hp} (a : Gr F H H1) (b : Gr F H1 H2) : Gr F H H2 := ⟨fun c o h n => b.keep c o (a.keep c o h n) n, fun c h => a.back c (b.back c h)⟩
theorem Gr.trans2 {F F' : FS} {H H1 H2 : Hp} (a : Gr F H H1) (b : Gr F' H1 H2) (hn : ∀ x, F' x → F x ∨ H x = none) : Gr F H H2 :=
  by
  refine ⟨fun c o h n => b.keep c o (a.keep c o h n) fun z => (hn c z).elim n fun e => ?_, fun c h => a.back c (b.back c h)⟩
  rw [h] at e
  cases e
theorem Gr.mono {F F' : FS} {H H' : Hp} (a : Gr F H H') (h : ∀ x, F x → F' x) : Gr F' H H' := ⟨fun c o e n => a.keep c o e fun z => n (h c z), a.back⟩
theorem Gr.of0 {F : FS} {H H' : Hp} (a : Gr F0 H H') : Gr F H H' := a.mono fun _ z => z.elim
theorem Gr.new {F : FS} {H : Hp} {p : Addr} {o : HO} (h : H p = none) : Gr F H (upd H p o) := by
  refine ⟨fun b u e _ => ?_, fun b e => upd_none e⟩
  rw [upd_ne (ne_of_none e h)]
  exact e
/-- what was not there at H is changed, made anew -/
theorem Gr.upd {F : FS} {H H' : Hp} {p : Addr} {o : HO} (a : Gr F H H') (h : F p ∨ H p = none) : Gr F H (upd H' p o) := by
  refine ⟨fun b u e n => ?_, fun b e => a.back b (upd_none e)⟩
  have ne : b ≠ p := fun z => by
    subst z
    rcases h with h | h
    · exact n h
    · rw [h] at e
      cases e
  rw [upd_ne ne]
  exact a.keep b u e n
theorem Gr.up {F F' : FS} {H H1 H2 : Hp} (a : Gr F H H1) (b : Gr F' H1 H2) (hn : ∀ x, F' x → F x ∨ H x = none) : Gr F H H2 := a.trans2 b hn
theorem Gr.none' {F : FS} {H H' : Hp} (a : Gr F H H') {p : Addr} (h : H' p = none) : H p = none := a.back p h
theorem Gr.rd {F : FS} {H H' : Hp} (a : Gr F H H') {b : Addr} {u : HO} (h : Rd H b u) (n : ¬ F b) : Rd H' b u := by
  rcases h with h | ⟨o, h⟩
  · exact .inl (a.keep b _ h n)
  · exact .inr ⟨o, a.keep b _ h n⟩
/-! ### data that stays: no part of it stands in F -/
section
variable (K : PySem.W.Frag) (F : FS) (H : Hp)
def LI (a : Addr) (xs : List V) : Prop := (Rd H a (.lst xs) ∧ ¬ F a) ∨
    ∃ (its : Array Value) (n : Nat), K.lookup a = some { cls := .type "list", data := .seq its n } ∧ its.size ≤ sizeLine ∧ Vals xs its.toList
def TI (a : Addr) (xs : List V) : Prop := (Rd H a (.tup xs) ∧ ¬ F a) ∨
    ∃ (o : Obj) (its : Array Value) (n : Nat), K.lookup a = some o ∧ o.cls = .type "tuple" ∧ o.data = .seq its n ∧ its.size ≤ sizeLine ∧ Vals xs its.toList
mutual
inductive Im : V → PyData → Prop
  | non : Im .non .none
  | bl (b : Bool) : Im (.bl b) (.bool b)
  | int (i : Int) : Im (.int i) (.int i)
  | str (x : Str) : Im (.str x) (.str x)
  | lst {a : Addr} {xs : List V} {ds : List PyData} : LI K F H a xs → ImAll xs ds → Im (.ref a) (.list ds)
  | tup {a : Addr} {xs : List V} {ds : List PyData} : TI K F H a xs → ImAll xs ds → Im (.ref a) (.tuple ds)
inductive ImAll : List V → List PyData → Prop
  | nil : ImAll [] []
  | cons {v : V} {vs : List V} {d : PyData} {ds : List PyData} : Im v d → ImAll vs ds → ImAll (v :: vs) (d :: ds)
end
end
section
variable {K : PySem.W.Frag} {F F' : FS} {H H' : Hp}
theorem LI.sq {a : Addr} {xs : List V} (h : LI K F H a xs) : SqL K H a xs := h.imp And.left fun ⟨its, n, e, z, r⟩ => ⟨_, its, n, e, rfl, rfl, rfl, z, r⟩
theorem TI.sq {a : Addr} {xs : List V} (h : TI K F H a xs) : SqT K H a xs := h.imp And.left id
theorem LI.of {a : Addr} {xs : List V} (h : H a = some (.lst xs)) (n : ¬ F a) : LI K F H a xs := .inl ⟨.inl h, n⟩
theorem TI.of {a : Addr} {xs : List V} (h : H a = some (.tup xs)) (n : ¬ F a) : TI K F H a xs := .inl ⟨.inl h, n⟩
theorem Rd.some {a : Addr} {u : HO} (h : Rd H a u) : ∃ o, H a = some o := by
  rcases h with h | ⟨o, h⟩
  · exact ⟨_, h⟩
  · exact ⟨_, h⟩
theorem LI.gr {a : Addr} {xs : List V} (h : LI K F H a xs) (g : Gr F H H') : LI K F H' a xs := h.imp (fun z => ⟨g.rd z.1 z.2, z.2⟩) id
theorem TI.gr {a : Addr} {xs : List V} (h : TI K F H a xs) (g : Gr F H H') : TI K F H' a xs := h.imp (fun z => ⟨g.rd z.1 z.2, z.2⟩) id
/-- F' is F, less or more, but nothing that is told -/
abbrev Wk (F F' : FS) (H : Hp) : Prop := ∀ b, F' b → F b ∨ H b = none
theorem LI.wk {a : Addr} {xs : List V} (h : LI K F H a xs) (g : Wk F F' H) : LI K F' H a xs := h.imp (fun z => ⟨z.1, fun y => (g a y).elim z.2 fun e => by
  obtain ⟨o, q⟩ := Rd.some z.1
  rw [e] at q
  cases q⟩) id
theorem TI.wk {a : Addr} {xs : List V} (h : TI K F H a xs) (g : Wk F F' H) : TI K F' H a xs := h.imp (fun z => ⟨z.1, fun y => (g a y).elim z.2 fun e => by
  obtain ⟨o, q⟩ := Rd.some z.1
  rw [e] at q
  cases q⟩) id
mutual
theorem Im.map {K : PySem.W.Frag} {F F' : FS} {H H' : Hp} (hl : ∀ a xs, LI K F H a xs → LI K F' H' a xs) (ht : ∀ a xs, TI K F H a xs → TI K F' H' a xs) : ∀ (d : PyData) (v : V), Im K F H v d → Im K F' H' v d
  | .none, _, h => by cases h; exact .non
  | .bool b, _, h => by cases h; exact .bl b
  | .int i, _, h => by cases h; exact .int i
  | .str x, _, h => by cases h; exact .str x
  | .list ds, _, h => by
    cases h with
    | lst h1 h2 => exact .lst (hl _ _ h1) (Im.mapAll hl ht ds _ h2)
  | .tuple ds, _, h => by
    cases h with
    | tup h1 h2 => exact .tup (ht _ _ h1) (Im.mapAll hl ht ds _ h2)
  | .dict kvs, _, h => nomatch h
theorem Im.mapAll {K : PySem.W.Frag} {F F' : FS} {H H' : Hp} (hl : ∀ a xs, LI K F H a xs → LI K F' H' a xs) (ht : ∀ a xs, TI K F H a xs → TI K F' H' a xs) : ∀ (ds : List PyData) (vs : List V), ImAll K F H vs ds → ImAll K F' H' vs ds
  | [], _, h => by cases h; exact .nil
  | d :: ds, _, h => by
    cases h with
    | cons h1 h2 => exact .cons (Im.map hl ht d _ h1) (Im.mapAll hl ht ds _ h2)
end
theorem Im.gr {d : PyData} {v : V} (h : Im K F H v d) (g : Gr F H H') : Im K F H' v d := Im.map (fun _ _ z => z.gr g) (fun _ _ z => z.gr g) d v h
theorem ImAll.gr {ds : List PyData} {vs : List V} (h : ImAll K F H vs ds) (g : Gr F H H') : ImAll K F H' vs ds := Im.mapAll (fun _ _ z => z.gr g) (fun _ _ z => z.gr g) ds vs h
theorem Im.wk {d : PyData} {v : V} (h : Im K F H v d) (g : Wk F F' H) : Im K F' H v d := Im.map (fun _ _ z => z.wk g) (fun _ _ z => z.wk g) d v h
theorem ImAll.wk {ds : List PyData} {vs : List V} (h : ImAll K F H vs ds) (g : Wk F F' H) : ImAll K F' H vs ds := Im.mapAll (fun _ _ z => z.wk g) (fun _ _ z => z.wk g) ds vs h
mutual
theorem Im.dp {K : PySem.W.Frag} {F : FS} {H : Hp} : ∀ (d : PyData) (v : V), Im K F H v d → Dp K H v d
  | .none, _, h => by cases h; exact .non
  | .bool b, _, h => by cases h; exact .bl b
  | .int i, _, h => by cases h; exact .int i
  | .str x, _, h => by cases h; exact .str x
  | .list ds, _, h => by
    cases h with
    | lst h1 h2 => exact .lst h1.sq (Im.dpAll ds _ h2)
  | .tuple ds, _, h => by
    cases h with
    | tup h1 h2 => exact .tup h1.sq (Im.dpAll ds _ h2)
  | .dict kvs, _, h => nomatch h
theorem Im.dpAll {K : PySem.W.Frag} {F : FS} {H : Hp} : ∀ (ds : List PyData) (vs : List V), ImAll K F H vs ds → DpAll K H vs ds
  | [], _, h => by cases h; exact .nil
  | d :: ds, _, h => by
    cases h with
    | cons h1 h2 => exact .cons (Im.dp d _ h1) (Im.dpAll ds _ h2)
end
theorem Im.d {d : PyData} {v : V} (h : Im K F H v d) : Dp K H v d := Im.dp d v h
theorem ImAll.d {ds : List PyData} {vs : List V} (h : ImAll K F H vs ds) : DpAll K H vs ds := Im.dpAll ds vs h
theorem ImAll.len : ∀ {vs : List V} {ds : List PyData}, ImAll K F H vs ds → vs.length = ds.length
  | _, _, .nil => rfl
  | _, _, .cons _ t => congrArg (· + 1) (ImAll.len t)
theorem ImAll.get : ∀ {vs : List V} {ds : List PyData} {i : Nat} {v : V}, ImAll K F H vs ds → vs[i]? = some v → ∃ d, ds[i]? = some d ∧ Im K F H v d
  | _, _, _, _, .nil, e => by simp at e
  | _, _, 0, v, .cons h _, e => by
    simp at e
    subst e
    exact ⟨_, rfl, h⟩
  | _, _, i + 1, v, .cons _ t, e => by
    obtain ⟨d, h1, h2⟩ := ImAll.get (i := i) t (by simpa using e)
    exact ⟨d, by simpa using h1, h2⟩
theorem ImAll.getD : ∀ {vs : List V} {ds : List PyData} {i : Nat} {d : PyData}, ImAll K F H vs ds → ds[i]? = some d → ∃ v, vs[i]? = some v ∧ Im K F H v d
  | _, _, _, _, .nil, e => by simp at e
  | _, _, 0, v, .cons h _, e => by
    simp at e
    subst e
    exact ⟨_, rfl, h⟩
  | _, _, i + 1, v, .cons _ t, e => by
    obtain ⟨d, h1, h2⟩ := ImAll.getD (i := i) t (by simpa using e)
    exact ⟨d, by simpa using h1, h2⟩
theorem ImAll.app : ∀ {vs ws : List V} {ds es : List PyData}, ImAll K F H vs ds → ImAll K F H ws es → ImAll K F H (vs ++ ws) (ds ++ es)
  | _, _, _, _, .nil, h => h
  | _, _, _, _, .cons h t, h2 => .cons h (ImAll.app t h2)
theorem ImAll.snoc {vs : List V} {ds : List PyData} {v : V} {d : PyData} (h : ImAll K F H vs ds) (h2 : Im K F H v d) : ImAll K F H (vs ++ [v]) (ds ++ [d]) := h.app (.cons h2 .nil)
theorem ImAll.ints : ∀ (ns : List Int), ImAll K F H (ns.map V.int) (ns.map PyData.int)
  | [] => .nil
  | n :: ns => .cons (.int n) (ImAll.ints ns)
theorem ImAll.strs : ∀ (ns : List Str), ImAll K F H (ns.map V.str) (ns.map PyData.str)
  | [] => .nil
  | n :: ns => .cons (.str n) (ImAll.strs ns)
theorem Im.to_str {v : V} {x : Str} (h : Im K F H v (.str x)) : v = .str x := by cases h; rfl
theorem Im.to_int {v : V} {x : Int} (h : Im K F H v (.int x)) : v = .int x := by cases h; rfl
theorem Im.to_tup {v : V} {ds : List PyData} (h : Im K F H v (.tuple ds)) : ∃ a xs, v = .ref a ∧ TI K F H a xs ∧ ImAll K F H xs ds := by
  cases h with
  | tup h1 h2 => exact ⟨_, _, rfl, h1, h2⟩
theorem Im.to_lst {v : V} {ds : List PyData} (h : Im K F H v (.list ds)) : ∃ a xs, v = .ref a ∧ LI K F H a xs ∧ ImAll K F H xs ds := by
  cases h with
  | lst h1 h2 => exact ⟨_, _, rfl, h1, h2⟩
theorem Im.new_tup {p : Addr} {vs : List V} {ds : List PyData} (n : H p = none) (hF : ∀ b, F b → ∃ o, H b = some o) (h : ImAll K F H vs ds) : Im K F (upd H p (.tup vs)) (.ref p) (.tuple ds) :=
  .tup (.of upd_same fun z => by
    obtain ⟨o, e⟩ := hF p z
    rw [n] at e
    cases e) (h.gr (.new n))
theorem Im.new_lst {p : Addr} {vs : List V} {ds : List PyData} (n : H p = none) (hF : ∀ b, F b → ∃ o, H b = some o) (h : ImAll K F H vs ds) : Im K F (upd H p (.lst vs)) (.ref p) (.list ds) :=
  .lst (.of upd_same fun z => by
    obtain ⟨o, e⟩ := hF p z
    rw [n] at e
    cases e) (h.gr (.new n))
end
/-- F's addresses are told -/
abbrev Dom (F : FS) (H : Hp) : Prop := ∀ b, F b → ∃ o, H b = some o
theorem Dom.gr {F F' : FS} {H H' : Hp} (d : Dom F H) (g : Gr F' H H') : Dom F H' := fun b hb => by
  obtain ⟨o, e⟩ := d b hb
  cases q : H' b with
  | none =>
    rw [g.back b q] at e
    cases e
  | some u => exact ⟨u, rfl⟩
theorem dom0 {H : Hp} : Dom F0 H := fun _ z => z.elim
/-! ### an owned state: its value, its footprint, what others may change -/
structure Res (α : Type) where
  J : α → FS → FS → Hp → Prop
  dis : ∀ {a Ft O H}, J a Ft O H → ∀ b, O b → ¬ Ft b
  dom : ∀ {a Ft O H}, J a Ft O H → Dom Ft H
  keep : ∀ {a Ft O H H'}, J a Ft O H → Gr O H H' → J a Ft O H'
  wk : ∀ {a Ft O O' H}, J a Ft O H → (∀ b, O' b → O b ∨ H b = none) → J a Ft O' H
abbrev Un2 (F G : FS) : FS := fun b => F b ∨ G b
/-- no state at all -/
def Res.unit : Res Unit := ⟨fun _ Ft _ _ => Ft = F0, fun h b _ => by rw [h]; exact id, fun h => by rw [h]; exact dom0, fun h _ => h, fun h _ => h⟩
/-! ### promises by the number of arguments -/
def Sp0 (p : Hp → VK → XK → Prop) : Sp := fun vs H Q E => vs = [] ∧ p H Q E
def Sp1 (p : V → Hp → VK → XK → Prop) : Sp := fun vs H Q E => ∃ a, vs = [a] ∧ p a H Q E
def Sp2 (p : V → V → Hp → VK → XK → Prop) : Sp := fun vs H Q E => ∃ a b, vs = [a, b] ∧ p a b H Q E
def Sp3 (p : V → V → V → Hp → VK → XK → Prop) : Sp := fun vs H Q E => ∃ a b c, vs = [a, b, c] ∧ p a b c H Q E
def Sp4 (p : V → V → V → V → Hp → VK → XK → Prop) : Sp := fun vs H Q E => ∃ a b c d, vs = [a, b, c, d] ∧ p a b c d H Q E
def Sp5 (p : V → V → V → V → V → Hp → VK → XK → Prop) : Sp := fun vs H Q E => ∃ a b c d e, vs = [a, b, c, d, e] ∧ p a b c d e H Q E
def Sp6 (p : V → V → V → V → V → V → Hp → VK → XK → Prop) : Sp := fun vs H Q E => ∃ a b c d e f, vs = [a, b, c, d, e, f] ∧ p a b c d e f H Q E
theorem Sp0.len {p vs H Q E} (h : Sp0 p vs H Q E) : vs.length = 0 := by obtain ⟨rfl, _⟩ := h; rfl
theorem Sp1.len {p vs H Q E} (h : Sp1 p vs H Q E) : vs.length = 1 := by obtain ⟨a, rfl, _⟩ := h; rfl
theorem Sp2.len {p vs H Q E} (h : Sp2 p vs H Q E) : vs.length = 2 := by obtain ⟨a, b, rfl, _⟩ := h; rfl
theorem Sp3.len {p vs H Q E} (h : Sp3 p vs H Q E) : vs.length = 3 := by obtain ⟨a, b, c, rfl, _⟩ := h; rfl
theorem Sp4.len {p vs H Q E} (h : Sp4 p vs H Q E) : vs.length = 4 := by obtain ⟨a, b, c, d, rfl, _⟩ := h; rfl
theorem Sp5.len {p vs H Q E} (h : Sp5 p vs H Q E) : vs.length = 5 := by obtain ⟨a, b, c, d, e, rfl, _⟩ := h; rfl
theorem Sp6.len {p vs H Q E} (h : Sp6 p vs H Q E) : vs.length = 6 := by obtain ⟨a, b, c, d, e, f, rfl, _⟩ := h; rfl
/-- what the readings are told of the text: its written part, the world, the contracts of functions as values, the tables of code objects, the functions made (by a number) -/
structure Rt where
  K : PySem.W.Frag
  w : World
  C : CK
  T : List NTab
  fn : Nat → List (Str × Addr) → Addr → CF
/-- the tables of code objects -/
abbrev Tb (R : Rt) : FS := fun b => ∃ p ∈ R.T, p.1 = b
/-- all of it told, and no code object -/
def Dm (F : FS) (H : Hp) : Prop := ∀ b, F b → ∃ o, H b = some o ∧ ∀ q, o ≠ CodeO b q
theorem Dm.d {F : FS} {H : Hp} (h : Dm F H) : Dom F H := fun b hb => let ⟨o, e, _⟩ := h b hb; ⟨o, e⟩
theorem Dom.no {F : FS} {H : Hp} (d : Dom F H) {p : Addr} (h : H p = none) : ¬ F p := fun z => by
  obtain ⟨o, e⟩ := d p z
  rw [h] at e
  cases e
theorem Dm.code {F : FS} {H : Hp} (d : Dm F H) {H1 : Hp} {c : Addr} {q : Str} (k : ∀ o, H c = some o → H1 c = some o) (h : H1 c = some (CodeO c q)) : ¬ F c := fun z => by
  obtain ⟨o, e, n⟩ := d c z
  have e1 := k o e
  rw [h] at e1
  exact n q (Option.some.inj e1).symm
/-- what a nested function or a lambda is, by its number -/
structure MkOk (R : Rt) (i : Nat) (fr : List Str) (k n : Nat) (sp : List V → Sp) : Prop where
  c : ∀ cells c, (R.fn i cells c).c = c
  ln : ∃ ln : List (Str × NameKind), (∀ cells c, (R.fn i cells c).cl = cloFrom cells ln []) ∧ (∀ y ∈ fr, (y, NameKind.free) ∈ ln) ∧ ∀ y ∈ ln, y.2 = NameKind.free → y.1 ∈ fr
  ct : ∀ f cells c, R.C k f (cloSp f (R.fn i cells c) fr n sp)
theorem MkOk.caps {R : Rt} {i : Nat} {fr : List Str} {k n : Nat} {sp : List V → Sp} (m : MkOk R i fr k n sp) {cells : List (Str × Addr)} {c : Addr} {N : List Str} {σ : L2.St} {H H2 : Hp} {ws : List V} (t : Trk cells N σ H H2) (hcl : ∀ y ∈ fr, ∃ c, cells.lookup y = some c)
    (len : ws.length = fr.length) (hjs : ∀ (i : Nat) (y : Str), fr[i]? = some y → ∃ (j : Nat) (v : V), N[j]? = some y ∧ σ[j]? = some (some v) ∧ ws[i]? = some v) : Caps H2 (R.fn i cells c).cl fr ws := by
  obtain ⟨ln, h1, h2, h3⟩ := m.ln
  rw [h1]
  exact caps_trk t (fun y hy e => hcl _ (h3 y hy e)) h2 len hjs
/-- cells of a function stand out of F -/
theorem Caps.gr {F : FS} {H H' : Hp} {cl : List (Str × Addr)} {fr : List Str} {ws : List V} (C : Caps H cl fr ws) (g : Gr F H H') (n : ∀ c ∈ cl.map (·.2), ¬ F c) : Caps H' cl fr ws := by
  have kp : ∀ {c : Addr} {o : HO}, c ∈ cl.map (·.2) → H c = some o → H' c = some o := fun {c o} hc e => g.keep c o e (n c hc)
  refine ⟨C.len, fun p hp => ?_, C.inj, fun i y e => ?_⟩
  · obtain ⟨o, u, e, x⟩ := C.all p hp
    exact ⟨o, u, kp (List.mem_map.mpr ⟨p, hp, rfl⟩) e, x⟩
  · obtain ⟨c, v, e1, e2, o, u, e3, x⟩ := C.has i y e
    exact ⟨c, v, e1, e2, o, u, kp (List.mem_map.mpr ⟨(y, c), PySem.mem_of_lookup e1, rfl⟩) e3, x⟩
theorem FnH.gr {F : FS} {H H' : Hp} {f : Addr} {Fn : CF} (h : FnH H f Fn) (g : Gr F H H') (n1 : ¬ F f) (n2 : ¬ F Fn.c) : FnH H' f Fn := ⟨g.keep f _ h.1 n1, g.keep Fn.c _ h.2 n2⟩
theorem Dom.hide {F : FS} {H : Hp} {cs : List Addr} (d : Dom F H) : Dom (fun b => F b ∧ b ∉ cs) (hide cs H) := fun b hb => by
  obtain ⟨o, e⟩ := d b hb.1
  exact ⟨o, by rw [hide_out hb.2]; exact e⟩
theorem gr_bring {F : FS} {H H' : Hp} {cs : List Addr} (g : Gr F (Z.hide cs H) H') : Gr F H (bring cs H H') := by
  refine ⟨fun b o e n => ?_, fun b e => ?_⟩
  · by_cases hb : b ∈ cs
    · rw [bring_in hb]
      exact e
    · rw [bring_out hb]
      exact g.keep b o (by rw [hide_out hb]; exact e) n
  · by_cases hb : b ∈ cs
    · rw [bring_in hb] at e
      exact e
    · rw [bring_out hb] at e
      have z := g.back b e
      rw [hide_out hb] at z
      exact z
theorem rd_bring {H H' : Hp} {cs : List Addr} (non : ∀ c ∈ cs, H' c = none) {a : Addr} {u : HO} (h : Rd H' a u) : a ∉ cs ∧ Rd (bring cs H H') a u := by
  have ha : a ∉ cs := fun hc => by
    obtain ⟨o, e⟩ := Rd.some h
    rw [non a hc] at e
    cases e
  exact ⟨ha, by
    rcases h with h | ⟨o, h⟩
    · exact .inl (by rw [bring_out ha]; exact h)
    · exact .inr ⟨o, by rw [bring_out ha]; exact h⟩⟩
theorem Im.bring {K : PySem.W.Frag} {F : FS} {H H' : Hp} {cs : List Addr} {v : V} {d : PyData} (non : ∀ c ∈ cs, H' c = none) (h : Im K (fun b => F b ∧ b ∉ cs) H' v d) : Im K F (Z.bring cs H H') v d :=
  Im.map (fun a xs z => z.imp (fun y => let q := rd_bring (H := H) non y.1; ⟨q.2, fun e => y.2 ⟨e, q.1⟩⟩) id) (fun a xs z => z.imp (fun y => let q := rd_bring (H := H) non y.1; ⟨q.2, fun e => y.2 ⟨e, q.1⟩⟩) id) d v h
/-- what a call with its cells hidden tells -/
theorem hQ_of {K : PySem.W.Frag} {cl : List (Str × Addr)} {F : FS} {H : Hp} {d : PyData} {Q : VK} (post : ∀ w H3, Gr F0 H H3 → Im K F H3 w d → Q w H3) :
    ∀ w H', Gr F0 (hide (cl.map (·.2)) H) H' → Im K (fun b => F b ∧ b ∉ cl.map (·.2)) H' w d → hQ cl H Q w H' := fun w _ g i non => post w _ (gr_bring g) (i.bring non)
/-! Names for readings, small rules, a def's rule with its code object told. -/
abbrev rNeg : V → Hp → VK → Prop := rU fun i => .int (-i)
abbrev rAddI : R2 := rI0 fun i j => .int (i + j)
abbrev rSubI : R2 := rI0 fun i j => .int (i - j)
abbrev rMulI : R2 := rI CMul fun i j => .int (i * j)
abbrev rMulW : R2 := rI CMulW fun i j => .int (i * j)
abbrev rDivI : R2 := rI CDiv fun i j => .int (i / j)
abbrev rModI : R2 := rI (fun _ j => 0 < j) fun i j => .int (i % j)
abbrev rModN : R2 := rI (fun _ j => j ≠ 0) fun i j => .int (i.fmod j)
abbrev rPowI : R2 := rI CPow fun i j => .int (i ^ j.toNat)
abbrev rAddIB : R2 := fun x y H Q => ∃ i k, x = .int i ∧ y = .bl k ∧ Q (.int (i + b2i k)) H
def rAddS : R2 := fun x y H Q => ∃ i j, x = .str i ∧ y = .str j ∧ i.length + j.length ≤ sizeLine ∧ Q (.str (i ++ j)) H
abbrev rLtI : R2 := rI0 fun i j => .bl (decide (i < j))
abbrev rLeI : R2 := rI0 fun i j => .bl (decide (i ≤ j))
abbrev rGtI : R2 := rI0 fun i j => .bl (decide (i > j))
abbrev rGeI : R2 := rI0 fun i j => .bl (decide (i ≥ j))
def rLen (K : PySem.W.Frag) : List V → Hp → VK → Prop := fun xs H Q => ∃ x n, xs = [x] ∧ LenV K x H n ∧ Q (.int (n : Nat)) H
def rAbs : List V → Hp → VK → Prop := fun xs H Q => ∃ i, xs = [.int i] ∧ Q (.int (if i < 0 then -i else i)) H
def rMax2 : List V → Hp → VK → Prop := fun xs H Q => ∃ i j, xs = [.int i, .int j] ∧ Q (.int (if j > i then j else i)) H
def rMin2 : List V → Hp → VK → Prop := fun xs H Q => ∃ i j, xs = [.int i, .int j] ∧ Q (.int (if j < i then j else i)) H
def rListS (K : PySem.W.Frag) : List V → Hp → VK → Prop := fun xs H Q => ∃ p ys, xs = [.ref p] ∧ (SqL K H p ys ∨ SqT K H p ys) ∧ ∀ l, H l = none → Q (.ref l) (upd H l (.lst ys))
def rInt1 : List V → Hp → VK → Prop := fun xs H Q => (∃ i, xs = [.int i] ∧ Q (.int i) H) ∨ ∃ k, xs = [.bl k] ∧ Q (.int (if k then 1 else 0)) H
def rStrI : List V → Hp → VK → Prop := fun xs H Q => ∃ i : Int, xs = [.int i] ∧ i.natAbs.log2 < 1920 ∧ Q (.str (toString i)) H
def rIntS : List V → Hp → VK → Prop := fun xs H Q => ∃ a n, xs = [.str a] ∧ PySem.intText? a = some n ∧ a.length ≤ 640 ∧ Q (.int n) H
def rSplit : V → List V → Hp → VK → Prop := fun x xs H Q => ∃ a b, x = .str a ∧ xs = [.str b] ∧ (b.length == 0) = false ∧ a.length + 2 ≤ sizeLine ∧ rNewStrs (Txt.split a b) H Q
def rJoin (K : PySem.W.Frag) : V → List V → Hp → VK → Prop := fun x xs H Q => ∃ (a : Str) (p : Addr) (ys : List Str), x = .str a ∧ xs = [.ref p] ∧ (SqL K H p (ys.map V.str) ∨ SqT K H p (ys.map V.str)) ∧ (ys.map (·.length)).sum + ys.length * a.length ≤ 16777216 ∧ Q (.str (Txt.join a ys)) H
/-- pieces of a statement, by place -/
def xE0 : Expr := .Name Str.empty ⟨0, 0, 0, 0⟩
def xRet (s : Stmt) : Expr := match s with
  | .Return (some e) _ => e
  | _ => xE0
def xAsg (s : Stmt) : Expr := match s with
  | .Assign _ e _ => e
  | _ => xE0
def xArg (i : Nat) (e : Expr) : Expr := match e with
  | .Call _ as _ _ => as.getD i xE0
  | _ => xE0
def lamArgs (e : Expr) : Arguments := match e with
  | .Lambda a _ _ _ => a
  | _ => { posonlyargs := [], args := [], vararg := none, kwonlyargs := [], kw_defaults := [], kwarg := none, defaults := [] }
def lamBody (e : Expr) : Expr := match e with
  | .Lambda _ b _ _ => b
  | _ => xE0
def lamScope (e : Expr) : Scope := match e with
  | .Lambda _ _ sc _ => sc
  | _ => { kind := .function, names := [], isGenerator := false, isCoroutine := false }
def bodyAt (s : Stmt) (i : Nat) : Stmt := (defBody s).getD i (.Pass ⟨0, 0, 0, 0⟩)
/-- a key of a written dict -/
def rNotInW (K : PySem.W.Frag) (w : World) : R2 := fun x y H Q => ∃ z a v, x = .str z ∧ y = .ref a ∧ (a == sysModules) = false ∧ KDct K w a z v ∧ Q (.bl false) H
/-- a list as it stands, tracked or written -/
def LL (K : PySem.W.Frag) (H : Hp) (a : Addr) (xs : List V) : Prop := Rd H a (.lst xs) ∨ ∃ (its : Array Value) (n : Nat), K.lookup a = some { cls := .type "list", data := .seq its n } ∧ its.size ≤ sizeLine ∧ Vals xs its.toList
theorem LI.ll {K : PySem.W.Frag} {F : FS} {H : Hp} {a : Addr} {xs : List V} (h : LI K F H a xs) : LL K H a xs := h.imp And.left id
theorem LL.of {K : PySem.W.Frag} {H : Hp} {a : Addr} {xs : List V} (h : H a = some (.lst xs)) : LL K H a xs := .inl (.inl h)
def rCatI (K : PySem.W.Frag) : R2 := fun x y H Q => ∃ l b xs zs, x = .ref l ∧ y = .ref b ∧ LL K H l xs ∧ LL K H b zs ∧ xs.length + zs.length ≤ sizeLine ∧ ∀ p, H p = none → Q (.ref p) (upd H p (.lst (xs ++ zs)))
section
variable {X : Cx}
theorem ll_is {pins : List (Addr × Obj)} {σ : L2.St} {H : Hp} {s : Shared} {a : Addr} {xs : List V} (I : Inv X pins σ H s) (h : LL X.K H a xs) : ∃ (its : List Value) (n : Nat), Vals xs its ∧ xs.length = its.length ∧ s.heap.get? a = some { cls := .type "list", data := .seq its.toArray n } := by
  rcases h with h | ⟨its, n, hk, hz, r⟩
  · obtain ⟨z, its, n, r, e⟩ := h.ok I.hok
    exact ⟨its, n, r, r.length, e⟩
  · exact ⟨its.toList, n, r, r.length, by simpa using I.kIn a _ hk⟩
theorem op_catI : OpR X (binaryOp .Add) (rCatI X.K) := by
  intro pins s σ H x y v u Q I rx ry h
  obtain ⟨l, b, xs, zs, rfl, rfl, hH, hB, hz, q⟩ := h
  cases rx
  cases ry
  obtain ⟨its, n, r, hl, e⟩ := ll_is I hH
  obtain ⟨its2, n2, r2, hl2, e2⟩ := ll_is I hB
  refine PySem.P.add_list e e2 ?_ (by rw [List.size_toArray, List.size_toArray]; omega)
  have ea : its.toArray ++ its2.toArray = (its ++ its2).toArray := by simp
  rw [ea]
  exact ⟨.ref _, _, I.lnew (t' := s.toks) (r.append r2) (by rw [List.length_append]; omega), rfl, q _ I.fresh⟩
theorem op_notInW : OpR X (compareOp .NotIn) (rNotInW X.K X.w) := by
  intro pins s σ H x y v u Q I rx ry h
  obtain ⟨z, a, r, rfl, rfl, hs, ⟨es, n, u0, hl, hk, e, ru⟩, q⟩ := h
  exact op_notIn_kd (X := X) (d := a) (es := es) (n := n) ⟨hl, hk, hs⟩ pins s σ H _ _ v u Q I rx ry ⟨z, some u0, rfl, rfl, e, q⟩
theorem pe_gint {x : Str} {i : Int} {pos : Pos} (hg : Gl X x) (hm : ∃ t, X.mg x = some (.int i t)) (hd : (x == ("__debug__" : Str)) = false := by decide) : PE X (.Name x pos) (tC (.int i)) := by
  obtain ⟨t, hm⟩ := hm
  exact pe_glob hg hm ⟨t, rfl⟩ hd
theorem pe_gstr {x z : Str} {pos : Pos} (hg : Gl X x) (hm : ∃ t, X.mg x = some (.str z t)) (hd : (x == ("__debug__" : Str)) = false := by decide) : PE X (.Name x pos) (tC (.str z)) := by
  obtain ⟨t, hm⟩ := hm
  exact pe_glob hg hm ⟨t, rfl⟩ hd
end
theorem huD {A : Around} {k : Nat} (hr : Room k A) : A.units + 65 < cLine := by have := hr.un; omega
/-- the function object at an address of the written part -/
def fdOf (K : PySem.W.Frag) (f : Addr) : FuncData := match K.lookup f with
  | some ⟨_, _, .func fd, _⟩ => fd
  | _ => PySem.W.fnOf Str.empty Str.empty ⟨[], [], none, [], [], none, []⟩ [] ⟨.function, [], false, false, []⟩ .none .none .none .none none .none .none
theorem fdOf_eq {K : PySem.W.Frag} {x qual : Str} {params : Arguments} {body : List Stmt} {scope : Scope} {dvs : List V} {kws : List (Str × V)} {f : Addr} {fd : FuncData} (F : FunD K x qual params body scope dvs kws f fd) : FunD K x qual params body scope dvs kws f (fdOf K f) := by
  obtain ⟨oc, od, dV, kV, doc, pm, an, cdv, ct, osl, e, lk, _⟩ := F.ex
  have e2 : fdOf K f = fd := by
    unfold fdOf
    rw [lk]
  rw [e2]
  exact F
section
variable {P : Program} {w : World} {K : PySem.W.Frag} {mg : Str → Option Value} {base : Heap} {x qual : Str} {params : Arguments} {body : List Stmt} {scope : Scope} {p : Str × Option Str} {N ps : List Str} {k : Nat} {sp : Sp}
/-- a def of a place p, its code object told -/
theorem fun_okK (F : FunD K x qual params body scope [] [] (He.fAd K p) (fdOf K (He.fAd K p))) (S : FnScope N ps scope) (len : ∀ vs H Q E, sp vs H Q E → vs.length = ps.length)
    (hbody : ∀ (A : Around) (outer : List Env) (s : Shared) (H : Hp) (vs : List V) (Q : VK) (E : XK), Room k (A.deeper (envOfC qual scope s.heap.objs.size (He.fAd K p) (.ref (He.codeOf K p)))) → sp vs H Q E →
      ∃ t, PSs (cxOf CX0 P w K mg base N qual scope (He.fAd K p) (.ref (He.codeOf K p)) A outer s H E).nox body t ∧ t { nx := fun _ H' => Q .non H', rt := Q } (L2.start N vs) H) : FnOk P w K mg base CX0 (k + 1) (He.fAd K p) (fdOf K (He.fAd K p)) ps sp := by
  obtain ⟨oc, od, dV, kV, doc, pm, an, cdv, ct, osl, e, lk, hcd, _, _⟩ := F.ex
  obtain ⟨c, hc⟩ := He.codeIn_ref hcd
  rw [e] at lk ⊢
  have e3 : He.codeOf K p = c := He.codeOf_eq lk hc
  subst hc
  refine fn_of lk hcd S len fun A outer s H vs Q E hr hsp => ?_
  rw [← e3] at hr ⊢
  obtain ⟨t, h, q⟩ := hbody A outer s H vs Q E hr hsp
  exact ⟨t, h.nox, q⟩
theorem fun_okRK (F : FunD K x qual params body scope [] [] (He.fAd K p) (fdOf K (He.fAd K p))) (S : FnScope N ps scope) (nd : (scope.names.map (·.1)).Nodup) (len : ∀ vs H Q E, sp vs H Q E → vs.length = ps.length)
    (hbody : ∀ (A : Around) (outer : List Env) (s : Shared) (H : Hp) (vs : List V) (Q : VK) (E : XK), Room k (A.deeper (envOfC qual scope s.heap.objs.size (He.fAd K p) (.ref (He.codeOf K p)))) → sp vs H Q E →
      ∃ t, PSR (cxOf CX0 P w K mg base N qual scope (He.fAd K p) (.ref (He.codeOf K p)) A outer s H E).nox body t ∧ t (fun v σ' H' => ∀ H2, Trk (cellsFrom (s.heap.objs.size + 1) scope.names []) N σ' H' H2 → Q v H2) (L2.start N vs) H) :
    FnOk P w K mg base CX0 (k + 1) (He.fAd K p) (fdOf K (He.fAd K p)) ps sp := by
  refine fun_okR F (fun oc od osl fd' lk => ?_) S nd len hbody
  obtain ⟨oc2, od2, dV, kV, doc, pm, an, cdv, ct, osl2, e, lk2, hcd, _, _⟩ := F.ex
  obtain ⟨c, hc⟩ := He.codeIn_ref hcd
  rw [lk] at lk2
  cases lk2
  have e4 : (fdOf K (He.fAd K p)).code = .ref c := by rw [e]; exact hc
  rw [He.codeOf_eq lk e4]
  exact e4
end
/-! Values as data: types, names, faults, numbers. -/
def tyName : PyData → String
  | .none => "NoneType"
  | .bool _ => "bool"
  | .int _ => "int"
  | .str _ => "str"
  | .list _ => "list"
  | .tuple _ => "tuple"
  | .dict _ => "dict"
theorem ty_of {K : PySem.W.Frag} {H : Hp} {v : V} {d : PyData} (h : Dp K H v d) : TyX K H v (.type (tyName d)) := by
  cases h with
  | non => exact .base .non
  | bl b => exact .base (.bl b)
  | int i => exact .base (.int i)
  | str x => exact .base (.str x)
  | lst hs _ =>
    rcases hs with (h | ⟨o, h⟩) | ⟨o, its, n, h1, h2, _⟩
    · exact .base (.lst h)
    · exact .base (.frz h)
    · exact .kList h1 h2
  | tup hs _ =>
    rcases hs with (h | ⟨o, h⟩) | ⟨o, its, n, h1, h2, _⟩
    · exact .base (.tup h)
    · exact .fTuple h
    · exact .kTuple h1 h2
/-- isinstance(x, T) of data -/
theorem isi {K : PySem.W.Frag} {H : Hp} {v : V} {d : PyData} {T : String} {Q : VK} {b : Bool} (h : Dp K H v d) (e : kitB (tyName d) T = some b) (q : Q (.bl b) H) : rIsi K [v, .ty T] H Q :=
  ⟨v, .ty T, _, _, b, rfl, .ty T, ty_of h, kit_ty e, q⟩
theorem kit_str (d : PyData) : kitB (tyName d) "str" = some (match d with | .str _ => true | _ => false) := by
  cases d <;> (simp only [tyName]; decide +kernel)
theorem kit_tuple (d : PyData) : kitB (tyName d) "tuple" = some (match d with | .tuple _ => true | _ => false) := by
  cases d <;> (simp only [tyName]; decide +kernel)
theorem kit_list (d : PyData) : kitB (tyName d) "list" = some (match d with | .list _ => true | _ => false) := by
  cases d <;> (simp only [tyName]; decide +kernel)
theorem kit_int (d : PyData) : kitB (tyName d) "int" = some (match d with | .int _ => true | .bool _ => true | _ => false) := by
  cases d <;> (simp only [tyName]; decide +kernel)
theorem kit_bool (d : PyData) : kitB (tyName d) "bool" = some (match d with | .bool _ => true | _ => false) := by
  cases d <;> (simp only [tyName]; decide +kernel)
/-! ### what the program says of data -/
abbrev letters : Str := "abcdefghijklmnopqrstuvwxyz"
def nameS (s : Str) : Bool := decide (1 ≤ s.length) && (decide (s.length ≤ 8) && s.cps.toList.all fun c => decide (c ∈ letters.cps.toList))
def isName : PyData → Bool
  | .str s => nameS s
  | _ => false
def isFault : PyData → Bool
  | .tuple [.str x, w] => decide (x = "fault") && isName w
  | _ => false
def inR (i : Int) : Bool := decide ((if i < 0 then -i else i) < 10 ^ 60)
def isNumber : PyData → Bool
  | .int i => inR i
  | _ => false
def isValue (d : PyData) : Bool := isNumber d || isFault d
def flt (w : Str) : PyData := .tuple [.str "fault", .str w]
def settle (d : PyData) : PyData := if isValue d then d else flt "odd"
def withinD (i : Int) : PyData := if inR i then .int i else flt "great"
/-! Comprehensions that make data; promises of functions that are handed in. -/
theorem Gr.some {F : FS} {H H' : Hp} (g : Gr F H H') {b : Addr} {o : HO} (e : H b = some o) : ∃ u, H' b = some u := by
  cases q : H' b with
  | none =>
    rw [g.back b q] at e
    cases e
  | some u => exact ⟨u, rfl⟩
theorem gr_wk {F F' : FS} {H : Hp} (h : ∀ b, F' b → F b) : Wk F F' H := fun b z => .inl (h b z)
theorem range_snoc {α : Type} (f : Nat → α) (i : Nat) : (List.range (i + 1)).map f = (List.range i).map f ++ [f i] := by
  rw [List.range_succ, List.map_append]
  rfl
theorem lc_im {K : PySem.W.Frag} {J : It} {n : Nat} {G : Hp → Prop} {Y : Nat → Hp → V → Hp → Prop} (w : Walk J n G Y) {g : TG} {te : TE} {vs : List Nat} {σ : L2.St} {H1 : Hp} {D : Addr} {Qd : Hp → Prop} (F : FS) (es : Nat → PyData) (hn : n ≤ sizeLine) (dF : Dom F H1) (hD : H1 D = none)
    (hG : ∀ H, Gr (fun b => b = D) H1 H → G H)
    (hs : ∀ i x H H' (Qe : VK), i < n → Gr (fun b => b = D) H1 H → Dom (Un2 F fun b => b = D) H → Y i H x H' → (∀ y H'', Gr F0 H H'' → Im K (Un2 F fun b => b = D) H'' y (es i) → Qe y H'') → g x (wipe σ vs) H' fun σ2 H2 => wipe σ2 vs = wipe σ vs ∧ te σ2 H2 Qe)
    (hd : ∀ ys H, Gr F0 H1 H → H D = some (.lst ys) → ImAll K F H ys ((List.range n).map es) → Qd H) :
    ∃ W : Nat → Nat → Hp → Prop, (∃ m, W 0 m (upd H1 D (.lst []))) ∧ ∀ i m H, W i m H →
      (J.stop i H ∧ Qd H) ∨ (J.go i H ∧ ∃ Nx : Hp → Prop, (∀ H', Nx H' → ∃ m', m' < m ∧ W (i + 1) m' H') ∧ ∀ x H', J.yld i H x H' → g x (wipe σ vs) H' fun σ2 H2 => wipe σ2 vs = wipe σ vs ∧ tYes σ2 H2 fun b H3 =>
        if b = true then te σ2 H3 fun y H4 => ∃ acc, H4 D = some (.lst acc) ∧ acc.length < sizeLine ∧ Nx (upd H4 D (.lst (acc ++ [y]))) else Nx H3) := by
  refine lc_it w (fun i H => Gr (fun b => b = D) H1 H ∧ ∃ ys, H D = some (.lst ys) ∧ ys.length = i ∧ ImAll K (Un2 F fun b => b = D) H ys ((List.range i).map es)) ?_ (fun i H _ h => hG H h.1) ?_ ?_
  · exact ⟨(Gr.refl _ _).upd (.inl rfl), [], upd_same, rfl, .nil⟩
  · rintro i x H H' hi ⟨g1, ys, e1, hl, ha⟩ y
    have dom : Dom (Un2 F fun b => b = D) H := fun b hb => by
      rcases hb with hb | hb
      · obtain ⟨o, e⟩ := dF b hb
        exact g1.some e
      · subst hb
        exact ⟨_, e1⟩
    refine hs i x H H' _ hi g1 dom y fun y H'' g2 hy => ?_
    have e2 := g2.keep D _ e1 id
    refine ⟨ys, e2, by omega, g1.trans2 g2 (fun _ z => z.elim) |>.upd (.inl rfl), ys ++ [y], upd_same, by rw [List.length_append, hl]; rfl, ?_⟩
    rw [range_snoc]
    have gu : Gr (Un2 F fun b => b = D) H'' (upd H'' D (.lst (ys ++ [y]))) := (Gr.refl _ _).upd (.inl (.inr rfl))
    exact ((ha.gr g2.of0).gr gu).snoc (hy.gr gu)
  · rintro H ⟨g1, ys, e1, hl, ha⟩
    refine hd ys H ⟨fun b o e _ => g1.keep b o e fun z => ?_, g1.back⟩ e1 (ha.wk (gr_wk fun b z => .inl z))
    rw [z, hD] at e
    cases e
theorem bools_of {K : PySem.W.Frag} {F : FS} {H : Hp} : ∀ {ys : List V} {bs : List Bool}, ImAll K F H ys (bs.map PyData.bool) → ys = bs.map V.bl
  | _, [], h => by cases h; rfl
  | _, b :: bs, h => by
    cases h with
    | cons h1 h2 =>
      cases h1
      rw [bools_of h2]
      rfl
theorem ints_of {K : PySem.W.Frag} {F : FS} {H : Hp} : ∀ {ys : List V} {ns : List Int}, ImAll K F H ys (ns.map PyData.int) → ys = ns.map V.int
  | _, [], h => by cases h; rfl
  | _, b :: bs, h => by
    cases h with
    | cons h1 h2 =>
      cases h1
      rw [ints_of h2]
      rfl
theorem strs_of {K : PySem.W.Frag} {F : FS} {H : Hp} : ∀ {ys : List V} {ns : List Str}, ImAll K F H ys (ns.map PyData.str) → ys = ns.map V.str
  | _, [], h => by cases h; rfl
  | _, b :: bs, h => by
    cases h with
    | cons h1 h2 =>
      cases h1
      rw [strs_of h2]
      rfl
/-! ### looks and counts of rows that are handed in -/
structure LookOk (K : PySem.W.Frag) (C : CK) (kx : Nat) (fv : V) {α : Type} (Rs : Res α) (lk : Str → Str → Int → α → PyData × α) (D : Str → Str → Int → Prop) (fu : α → Nat) : Prop where
  run : ∃ f k sp, fv = .ref f ∧ C k f sp ∧ k ≤ kx ∧ (∀ a Ft O H, Rs.J a Ft O H → ∃ F, H f = some (CloO f F)) ∧
    ∀ a Ft O H t c p (Q : VK), Rs.J a Ft O H → Dom (Un2 Ft O) H → D t c p → 0 < fu a → (∀ w Ft' H', Rs.J (lk t c p a).2 Ft' O H' → Gr Ft H H' → Wk Ft Ft' H → Dom (Un2 Ft' O) H' → Im K (Un2 Ft' O) H' w (lk t c p a).1 → Q w H') →
      sp [.str t, .str c, .int p] H Q E0
  val : ∀ t c p a, D t c p → isValue (lk t c p a).1 = true
  dec : ∀ t c p a, fu a ≤ fu (lk t c p a).2 + 1
structure ManyOk (C : CK) (kx : Nat) (fv : V) {α : Type} (Rs : Res α) (mn : Str → Nat) (D : Str → Prop) : Prop where
  run : ∃ f k sp, fv = .ref f ∧ C k f sp ∧ k ≤ kx ∧ (∀ a Ft O H, Rs.J a Ft O H → ∃ F, H f = some (CloO f F)) ∧
    ∀ a Ft O H t (Q : VK), Rs.J a Ft O H → Dom (Un2 Ft O) H → D t → (∀ H', Gr F0 H H' → Q (.int (mn t : Nat)) H') → sp [.str t] H Q E0
  few : ∀ t, D t → mn t < 2 ^ 20
theorem Un2.l {F G : FS} (b : Addr) (h : F b) : Un2 F G b := .inl h
theorem Un2.r {F G : FS} (b : Addr) (h : G b) : Un2 F G b := .inr h
theorem wk_un {F F' G : FS} {H : Hp} (h : Wk F F' H) : Wk (Un2 F G) (Un2 F' G) H := fun b hb => by
  rcases hb with hb | hb
  · exact (h b hb).imp .inl id
  · exact .inl (.inr hb)
/-- what is told by a function of values: data -/
theorem Im.after {K : PySem.W.Frag} {Ft Ft' O : FS} {H H' : Hp} {v : V} {d : PyData} (h : Im K (Un2 Ft O) H v d) (g : Gr Ft H H') (w : Wk Ft Ft' H) : Im K (Un2 Ft' O) H' v d :=
  Im.map (F := Un2 Ft O) (fun a xs z => z.imp (fun y => ⟨g.rd y.1 fun e => y.2 (.inl e), fun e => by
    rcases e with e | e
    · rcases w a e with e | e
      · exact y.2 (.inl e)
      · obtain ⟨o, q⟩ := Rd.some y.1
        rw [e] at q
        cases q
    · exact y.2 (.inr e)⟩) id) (fun a xs z => z.imp (fun y => ⟨g.rd y.1 fun e => y.2 (.inl e), fun e => by
    rcases e with e | e
    · rcases w a e with e | e
      · exact y.2 (.inl e)
      · obtain ⟨o, q⟩ := Rd.some y.1
        rw [e] at q
        cases q
    · exact y.2 (.inr e)⟩) id) d v h
/-! ### promises of the values' defs -/
def isWhole : PyData → Bool
  | .int _ => true
  | _ => false
def sp_is_whole (R : Rt) : Sp := Sp1 fun v H Q _ => ∃ d, Dp R.K H v d ∧ Q (.bl (isWhole d)) H
def smS (d : PyData) : Prop := ∀ x, d = .str x → x.length ≤ 100000
def smF (d : PyData) : Prop := ∀ x y, d = .tuple [x, .str y] → y.length ≤ 100000
def sp_is_name (R : Rt) : Sp := Sp1 fun v H Q _ => ∃ d, Dp R.K H v d ∧ smS d ∧ ∀ H', Gr F0 H H' → Q (.bl (isName d)) H'
def sp_is_fault (R : Rt) : Sp := Sp1 fun v H Q _ => ∃ d, Dp R.K H v d ∧ smF d ∧ ∀ H', Gr F0 H H' → Q (.bl (isFault d)) H'
def sp_is_number (R : Rt) : Sp := Sp1 fun v H Q _ => ∃ d, Dp R.K H v d ∧ Q (.bl (isNumber d)) H
def sp_is_value (R : Rt) : Sp := Sp1 fun v H Q _ => ∃ d, Dp R.K H v d ∧ smF d ∧ ∀ H', Gr F0 H H' → Q (.bl (isValue d)) H'
def sp_settled (R : Rt) : Sp := Sp1 fun v H Q _ => ∃ d F, Im R.K F H v d ∧ smF d ∧ Dom F H ∧ ∀ w H', Gr F0 H H' → Im R.K F H' w (settle d) → Q w H'
def sp_fault (R : Rt) : Sp := Sp1 fun v H Q _ => ∃ x F, v = .str x ∧ nameS x = true ∧ Dom F H ∧ ∀ w H', Gr F0 H H' → Im R.K F H' w (flt x) → Q w H'
def sp_name_told (R : Rt) : Sp := Sp1 fun v H Q _ => ∃ x, v = .str x ∧ nameS x = true ∧ ∀ H', Gr F0 H H' → Q (.str x) H'
def sp_names_told (R : Rt) : Sp := Sp1 fun v H Q _ => ∃ (a : Addr) (ss : List Str), v = .ref a ∧ H a = some (.lst (ss.map V.str)) ∧ ss.length ≤ 6 ∧ (∀ x ∈ ss, nameS x = true) ∧ ∀ p H', H p = none → Gr F0 H H' → H' p = some (.lst (ss.map V.str)) → Q (.ref p) H'
/-- the first of those that are alike -/
def onceD (acc : List PyData) : List PyData → List PyData
  | [] => acc
  | d :: ds => onceD (if acc.any fun z => PyData.eqv z d then acc else acc ++ [d]) ds
def sp_each_once (R : Rt) : Sp := Sp1 fun v H Q _ => ∃ (ds : List PyData) (F : FS), Im R.K F H v (.list ds) ∧ Dom F H ∧ (∀ d ∈ ds, SeqAt.shaped d = true) ∧ (∀ d ∈ ds, d.depth ≤ 60) ∧ ds.length ≤ 1000 ∧
  ∀ p vs H', H p = none → Gr F0 H H' → H' p = some (.lst vs) → ImAll R.K F H' vs (onceD [] ds) → Q (.ref p) H'
def sp_within (R : Rt) : Sp := Sp1 fun v H Q _ => ∃ i, v = .int i ∧ (inR i = true → Q (.int i) H) ∧ (inR i = false → Q (.ref (He.ga R.K "GREAT")) H)
/-! ### rules as objects -/
/-- a def handed in as a value: what it tells of a list of numbers (within D); what it needs stands out of F -/
structure FunOk (K : PySem.W.Frag) (C : CK) (F : FS) (H : Hp) (fv : V) (g : List Int → PyData) (D : List Int → Prop) : Prop where
  run : ∃ f k sp, fv = .ref f ∧ C k f sp ∧ k ≤ 60 ∧ ∀ H', Gr F H H' → (∃ F', H' f = some (CloO f F')) ∧ ∀ (F' : FS) a ns (Q : VK), H' a = some (.lst (ns.map V.int)) → D ns → Dom F' H' → (∀ w H'', Gr F0 H' H'' → Im K F' H'' w (g ns) → Q w H'') → sp [.ref a] H' Q E0
def sp_Rule_init (R : Rt) : Sp := Sp2 fun s f H Q _ => ∃ (p C dx : Addr) (fs : List (Str × V)), s = .ref p ∧ H p = some (.ins C dx fs) ∧ Cls R.K C ∧ NoAttr R.K C "function" ∧ fs.length < 1000 ∧ Q .non (upd H p (.ins C dx (putF "function" f fs)))
def sp_Rule_reckon (R : Rt) : Sp := Sp2 fun s v H Q _ => ∃ (p C dx : Addr) (fs : List (Str × V)) (fv : V) (g : List Int → PyData) (D : List Int → Prop) (F FG : FS) (a : Addr) (ns : List Int), s = .ref p ∧ v = .ref a ∧ H p = some (.ins C dx fs) ∧ Cls R.K C ∧ NoAttr R.K C "function" ∧ fs.lookup ("function" : Str) = some fv ∧ FunOk R.K R.C FG H fv g D ∧ SqL R.K H a (ns.map V.int) ∧ D ns ∧ smF (g ns) ∧ Dom F H ∧
  ∀ w H', Gr F0 H H' → Im R.K F H' w (settle (g ns)) → Q w H'
/-! ### looks one behind another -/
abbrev Spot := Str × Str × Int
abbrev Lk (α : Type) := Str → Str → Int → α → PyData × α
def spotD (s : Spot) : PyData := .tuple [.str s.1, .str s.2.1, .int s.2.2]
def callD (ds : List PyData) : PyData := .tuple [.str "call", .list ds]
def valueD (d : PyData) : PyData := .tuple [.str "value", d]
/-- the numbers of cells in turn, or the first fault -/
def lookedD {α : Type} (lk : Lk α) : List Spot → List PyData → α → PyData × α
  | [], acc, a => (callD acc, a)
  | s :: ss, acc, a => if isFault (lk s.1 s.2.1 s.2.2 a).1 then (valueD (lk s.1 s.2.1 s.2.2 a).1, (lk s.1 s.2.1 s.2.2 a).2) else lookedD lk ss (acc ++ [(lk s.1 s.2.1 s.2.2 a).1]) (lk s.1 s.2.1 s.2.2 a).2
/-- what is told of a gathering: data, the state behind it -/
def After {α : Type} (K : PySem.W.Frag) (Rs : Res α) (Ft O : FS) (H : Hp) (r : PyData × α) (Q : VK) : Prop :=
  ∀ w Ft' H', Rs.J r.2 Ft' O H' → Gr Ft H H' → Wk Ft Ft' H → Dom (Un2 Ft' O) H' → Im K (Un2 Ft' O) H' w r.1 → Q w H'
def sp_looked (R : Rt) (kx : Nat) : Sp := Sp2 fun fv cv H Q _ => ∃ (α : Type) (Rs : Res α) (lk : Lk α) (D : Str → Str → Int → Prop) (fu : α → Nat) (a : α) (Ft O : FS) (ss : List Spot), LookOk R.K R.C kx fv Rs lk D fu ∧ Rs.J a Ft O H ∧ Dom (Un2 Ft O) H ∧
  Im R.K (Un2 Ft O) H cv (.list (ss.map spotD)) ∧ ss.length ≤ 1000 ∧ (∀ s ∈ ss, D s.1 s.2.1 s.2.2) ∧ ss.length ≤ fu a ∧ After R.K Rs Ft O H (lookedD lk ss [] a) Q
def t_is_whole (R : Rt) : TS := (tRet (tAndV (tCB (rIsi R.K) (tCons (tVar 0) (tCons (tC (.ty "int")) tNil))) (tNotV (tCB (rIsi R.K) (tCons (tVar 0) (tCons (tC (.ty "bool")) tNil))))))
def t_is_name (R : Rt) : TS := (tSeq (tIfS (tOr (tNot (tB (tCB (rIsi R.K) (tCons (tVar 0) (tCons (tC (.ty "str")) tNil))))) (tNot (tTest (tChain rLeI rLeI (tC (.int 1)) (tCB (rLen R.K) (tCons (tVar 0) tNil)) (tC (.int 8)))))) (tRet (tC (.bl false))) tNext)
  (tRet (tCB (rAll R.K) (tCons (tLc (iStr (tVar 0)) (gName 1) tYes (tOp rInS (tVar 1) (tC (.str "abcdefghijklmnopqrstuvwxyz"))) [1]) tNil))))
def t_is_fault (R : Rt) : TS := (tSeq (tIfS (tOr (tNot (tB (tCB (rIsi R.K) (tCons (tVar 0) (tCons (tC (.ty "tuple")) tNil))))) (tTest (tOp rNe (tCB (rLen R.K) (tCons (tVar 0) tNil)) (tC (.int 2))))) (tRet (tC (.bl false))) tNext)
  (tRet (tAndV (tCB (rIsi R.K) (tCons (tOp (rIxT R.K) (tVar 0) (tC (.int 0))) (tCons (tC (.ty "str")) tNil))) (tAndV (tOp rEq (tOp (rIxT R.K) (tVar 0) (tC (.int 0))) (tC (.str "fault"))) (tCall (sp_is_name R) [] E0 (tCons (tOp (rIxT R.K) (tVar 0) (tC (.int 1))) tNil))))))
def t_is_number (R : Rt) : TS := (tRet (tAndV (tCall (sp_is_whole R) [] E0 (tCons (tVar 0) tNil)) (tOp rLtI (tCB rAbs (tCons (tVar 0) tNil)) (tOp rPowI (tC (.int 10)) (tC (.int 60))))))
def t_is_value (R : Rt) : TS := (tRet (tOrV (tCall (sp_is_number R) [] E0 (tCons (tVar 0) tNil)) (tCall (sp_is_fault R) [] E0 (tCons (tVar 0) tNil))))
def t_settled (R : Rt) : TS := (tSeq (tIfS (tB (tCall (sp_is_value R) [] E0 (tCons (tVar 0) tNil))) (tRet (tVar 0)) tNext)
  (tRet (tTup (tCons (tC (.str "fault")) (tCons (tC (.str "odd")) tNil)))))
def t_fault (R : Rt) : TS := (tSeq (tIfS (tNot (tB (tCall (sp_is_name R) [] E0 (tCons (tVar 0) tNil)))) tNever tNext)
  (tRet (tTup (tCons (tC (.str "fault")) (tCons (tVar 0) tNil)))))
def t_name_told (R : Rt) : TS := (tSeq (tIfS (tNot (tB (tCall (sp_is_name R) [] E0 (tCons (tVar 0) tNil)))) tNever tNext)
  (tRet (tVar 0)))
def t_names_told (R : Rt) : TS := (tSeq (tIfS (tOr (tNot (tB (tCB (rIsi R.K) (tCons (tVar 0) (tCons (tC (.ty "list")) tNil))))) (tTest (tOp rGtI (tCB (rLen R.K) (tCons (tVar 0) tNil)) (tC (.int 6))))) tNever tNext)
  (tRet (tLc (iList R.K (tVar 0)) (gName 1) tYes (tCall (sp_name_told R) [] E0 (tCons (tVar 1) tNil)) [1])))
def t_each_once (R : Rt) : TS := (tSeq (tAsg (tLst tNil) (gName 1))
  (tSeq (tFor (iList R.K (tVar 0)) (gName 2)
  (tIfS (tTest (tOp (rNotInD R.K) (tVar 2) (tVar 1))) (tDrop (tBM R.K "list" rAppend (tVar 1) (tCons (tVar 2) tNil))) tNext))
  (tRet (tVar 1))))
def t_within (R : Rt) : TS := (tSeq (tIfS (tTest (tOp rLtI (tCB rAbs (tCons (tVar 0) tNil)) (tOp rPowI (tC (.int 10)) (tC (.int 60))))) (tRet (tVar 0)) tNext)
  (tRet (tC (.ref (He.ga R.K "GREAT")))))
def t_Rule_init (R : Rt) : TS := (sFld R.K (tVar 0) (tVar 1) "function")
def t_Rule_reckon (R : Rt) : TS := (tRet (tCall (sp_settled R) [] E0 (tCons (tFldC R.K R.C "function" 60 (tVar 0) (tCons (tCB (rListS R.K) (tCons (tVar 1) tNil)) tNil)) tNil)))
def t_looked (R : Rt) (kx : Nat) : TS := (tSeq (tAsg (tLst tNil) (gName 2))
  (tSeq (tFor (iList R.K (tVar 1)) (gTup R.K 3 (gCons (gName 3) (gCons (gName 4) (gCons (gName 5) gNil))))
  (tSeq (tAsg (tCallC R.C 0 kx (tCons (tVar 3) (tCons (tVar 4) (tCons (tVar 5) tNil)))) (gName 6))
  (tSeq (tIfS (tB (tCall (sp_is_fault R) [] E0 (tCons (tVar 6) tNil))) (tRet (tTup (tCons (tC (.str "value")) (tCons (tVar 6) tNil)))) tNext)
  (tDrop (tBM R.K "list" rAppend (tVar 2) (tCons (tVar 6) tNil))))))
  (tRet (tTup (tCons (tC (.str "call")) (tCons (tVar 2) tNil))))))
/-! ### what the defs do -/
theorem pu_is_whole {R : Rt} (vs : List V) (H : Hp) (Q : VK) (E : XK) (h : sp_is_whole R vs H Q E) : t_is_whole R { nx := fun _ H' => Q .non H', rt := Q } (L2.start ["thing"] vs) H := by
  obtain ⟨v, rfl, d, hd, q⟩ := h
  refine ⟨_, rfl, _, _, _, _, _, rfl, .ty _, ty_of hd, kit_ty (kit_int d), _, rfl, ?_⟩
  cases d with
  | int i =>
    refine iteT ?_
    exact ⟨_, rfl, _, _, _, _, _, rfl, .ty _, ty_of hd, kit_ty (kit_bool _), _, rfl, q⟩
  | bool b =>
    refine iteT ?_
    exact ⟨_, rfl, _, _, _, _, _, rfl, .ty _, ty_of hd, kit_ty (kit_bool _), _, rfl, q⟩
  | none => exact iteF q
  | str x => exact iteF q
  | list x => exact iteF q
  | tuple x => exact iteF q
  | dict x => exact iteF q
theorem all_map_id {α : Type} (f : α → Bool) : ∀ l : List α, (l.map f).all id = l.all f
  | [] => rfl
  | x :: l => by rw [List.map_cons, List.all_cons, List.all_cons, all_map_id f l] <;> rfl
theorem codes_range (x : Str) : (List.range x.cps.size).map (fun i => x.cps.toList.getD i 0) = x.cps.toList := by
  apply List.ext_getElem?
  intro i
  rw [List.getElem?_map]
  by_cases h : i < x.cps.size
  · rw [List.getElem?_range h, Option.map_some, List.getD_eq_getElem?_getD]
    have h2 : i < x.cps.toList.length := by simpa using h
    rw [List.getElem?_eq_getElem h2]
    rfl
  · rw [List.getElem?_eq_none (by simpa using h), List.getElem?_eq_none (by simpa using h)] <;> rfl
/-- [sign in LETTERS for sign in x], as a list of answers -/
theorem lc_signs {K : PySem.W.Frag} {σ : L2.St} {H : Hp} {Q : VK} {i : Nat} {x z : Str} {tl te : TE} (hx : x.length ≤ sizeLine) (htl : ∀ Qx : VK, Qx (.str x) H → tl σ H Qx) (hi : i < σ.length)
    (hte : ∀ (σ' : L2.St) (H' : Hp) (c : Nat) (Qe : VK), σ'[i]? = some (some (V.str ⟨#[c]⟩)) → Qe (.bl (decide (c ∈ z.cps.toList))) H' → te σ' H' Qe)
    (q : ∀ p H', Gr F0 H H' → H' p = some (.lst ((x.cps.toList.map fun c => decide (c ∈ z.cps.toList)).map V.bl)) → Q (.ref p) H') : tLc (iStr tl) (gName i) tYes te [i] σ H Q := by
  refine htl _ ⟨x, rfl, fun D hD => lc_im (K := K) walk_str F0 (fun j => PyData.bool (decide (x.cps.toList.getD j 0 ∈ z.cps.toList))) hx dom0 hD (fun _ _ => trivial) ?_ ?_⟩
  · rintro j v H1 H' Qe hj g dom ⟨rfl, c, hc, rfl⟩ k
    refine ⟨?_, hte _ _ c _ ?_ (k _ _ (Gr.refl _ _) ?_)⟩
    · show ((σ.set i none).set i _).set i none = σ.set i none
      rw [List.set_set, List.set_set]
    · show ((σ.set i none).set i _)[i]? = _
      rw [List.set_set, List.getElem?_set_self hi]
    · have e : x.cps.toList.getD j 0 = c := by
        rw [List.getD_eq_getElem?_getD, Array.getElem?_toList, hc] <;> rfl
      show Im K _ _ _ (PyData.bool (decide (x.cps.toList.getD j 0 ∈ z.cps.toList)))
      rw [e]
      exact .bl _
  · intro ys H' g e ha
    refine q D H' g ?_
    have e2 : (List.range x.cps.size).map (fun j => PyData.bool (decide (x.cps.toList.getD j 0 ∈ z.cps.toList))) = (x.cps.toList.map fun c => decide (c ∈ z.cps.toList)).map PyData.bool := by
      have e3 := congrArg (List.map fun c => PyData.bool (decide (c ∈ z.cps.toList))) (codes_range x)
      rw [List.map_map] at e3
      rw [List.map_map]
      exact e3
    rw [e2] at ha
    rw [e, bools_of ha]
theorem ift {c : Bool} {A B : Prop} (h : c = true) (a : A) : if c = true then A else B := by
  rw [if_pos h]
  exact a
theorem iff' {c : Bool} {A B : Prop} (h : c = false) (a : B) : if c = true then A else B := by
  rw [h]
  exact a
theorem line5 {n : Nat} (h : n ≤ 100000) : n ≤ sizeLine := Nat.le_trans h (by decide)
theorem pu_is_name {R : Rt} (vs : List V) (H : Hp) (Q : VK) (E : XK) (h : sp_is_name R vs H Q E) : t_is_name R { nx := fun _ H' => Q .non H', rt := Q } (L2.start ["thing", "sign"] vs) H := by
  obtain ⟨v, rfl, d, hd, hs, q⟩ := h
  refine ⟨_, rfl, _, _, _, _, _, rfl, .ty _, ty_of hd, kit_ty (kit_str d), _, rfl, ?_⟩
  cases d with
  | str x =>
    cases hd
    refine iteF ?_
    refine ⟨_, rfl, _, _, rfl, ⟨line5 (hs x rfl), rfl⟩, _, _, rfl, rfl, _, rfl, ?_⟩
    have e : isName (.str x) = (decide ((1 : Int) ≤ (x.length : Nat)) && (decide (((x.length : Nat) : Int) ≤ 8) && x.cps.toList.all fun c => decide (c ∈ letters.cps.toList))) := by
      have e1 : decide ((1 : Int) ≤ (x.length : Nat)) = decide (1 ≤ x.length) := decide_eq_decide.mpr (by omega)
      have e2 : decide (((x.length : Nat) : Int) ≤ 8) = decide (x.length ≤ 8) := decide_eq_decide.mpr (by omega)
      rw [e1, e2] <;> rfl
    rw [e] at q
    cases h1 : decide ((1 : Int) ≤ (x.length : Nat)) with
    | true =>
      refine ift rfl ?_
      refine ⟨_, _, rfl, rfl, _, rfl, ?_⟩
      cases h2 : decide (((x.length : Nat) : Int) ≤ 8) with
      | true =>
        refine iff' rfl ?_
        rw [h1, h2] at q
        dsimp only [tNext, tRet, tCB, tCons, tNil]
        refine lc_signs (K := R.K) (x := x) (z := letters) (i := 1) (line5 (hs x rfl)) (fun Qx qx => ⟨_, rfl, qx⟩) (show 1 < 2 by decide) ?_ ?_
        · exact fun σ' H' c Qe e k => ⟨_, e, c, letters, rfl, rfl, k⟩
        · intro p H' g e
          refine ⟨_, _, rfl, .of e, ?_⟩
          rw [all_map_id]
          exact q H' g
      | false =>
        rw [h1, h2] at q
        exact ift rfl (q _ (Gr.refl _ _))
    | false =>
      rw [h1] at q
      refine iff' rfl ⟨_, rfl, ?_⟩
      exact ift rfl (q _ (Gr.refl _ _))
  | none => exact iteT (q _ (Gr.refl _ _))
  | bool b => exact iteT (q _ (Gr.refl _ _))
  | int i => exact iteT (q _ (Gr.refl _ _))
  | list ds => exact iteT (q _ (Gr.refl _ _))
  | tuple ds => exact iteT (q _ (Gr.refl _ _))
  | dict ds => cases hd
theorem len2 {α : Type} : ∀ {l : List α}, l.length = 2 → ∃ a b, l = [a, b]
  | [a, b], _ => ⟨a, b, rfl⟩
theorem len3 {α : Type} : ∀ {l : List α}, l.length = 3 → ∃ a b c, l = [a, b, c]
  | [a, b, c], _ => ⟨a, b, c, rfl⟩
theorem dp_pair {K : PySem.W.Frag} {H : Hp} {a : Addr} {ds : List PyData} (h : Dp K H (.ref a) (.tuple ds)) : ∃ xs, SqT K H a xs ∧ DpAll K H xs ds := by
  cases h with
  | tup h1 h2 => exact ⟨_, h1, h2⟩
theorem dpl_len {K : PySem.W.Frag} {H : Hp} : ∀ {xs : List V} {ds : List PyData}, DpAll K H xs ds → xs.length = ds.length
  | _, _, .nil => rfl
  | _, _, .cons _ t => congrArg (· + 1) (dpl_len t)
theorem pu_is_fault {R : Rt} (vs : List V) (H : Hp) (Q : VK) (E : XK) (h : sp_is_fault R vs H Q E) : t_is_fault R { nx := fun _ H' => Q .non H', rt := Q } (L2.start ["thing"] vs) H := by
  obtain ⟨v, rfl, d, hd, hs, q⟩ := h
  refine ⟨_, rfl, _, _, _, _, _, rfl, .ty _, ty_of hd, kit_ty (kit_tuple d), _, rfl, ?_⟩
  cases d with
  | tuple ds =>
    refine iteF ?_
    cases hd with
    | tup h1 h2 =>
      rename_i a xs
      have hl := dpl_len h2
      refine ⟨_, rfl, _, xs.length, rfl, .inr ⟨_, h1, rfl⟩, rfl, _, rfl, ?_⟩
      cases e : decide (V.int (xs.length : Nat) = V.int 2) with
      | true =>
        have e2 : xs.length = 2 := by
          have z := of_decide_eq_true e
          injection z with z
          omega
        refine iff' rfl ?_
        obtain ⟨x1, x2, rfl⟩ := len2 e2
        obtain ⟨d1, d2, rfl⟩ := len2 (hl.symm.trans e2)
        · cases h2 with
          | cons k1 k2 =>
            cases k2 with
            | cons k2 k3 =>
              refine ⟨_, rfl, _, _, 0, x1, rfl, rfl, h1, rfl, _, _, _, _, _, rfl, .ty _, ty_of k1, kit_ty (kit_str d1), _, rfl, ?_⟩
              cases d1 with
              | str y =>
                cases k1
                refine iteT ⟨_, rfl, _, _, 0, _, rfl, rfl, h1, rfl, rfl, _, rfl, ?_⟩
                have e3 : decide (V.str y = V.str "fault") = decide (y = "fault") := decide_eq_decide.mpr ⟨fun z => V.str.inj z, fun z => by rw [z]⟩
                show (if decide (V.str y = V.str "fault") = true then _ else _)
                rw [e3]
                cases e4 : decide (y = ("fault" : Str)) with
                | true =>
                  refine ift rfl ⟨_, rfl, _, _, 1, x2, rfl, rfl, h1, rfl, x2, rfl, d2, k2, fun z ez => hs _ z (by rw [ez]), fun H' g => ?_⟩
                  have q' := q H' g
                  have e5 : isFault (.tuple [.str y, d2]) = isName d2 := by
                    show (decide (y = ("fault" : Str)) && isName d2) = isName d2
                    rw [e4] <;> rfl
                  rw [e5] at q'
                  exact q'
                | false =>
                  refine iff' rfl ?_
                  have q' := q H (Gr.refl _ _)
                  have e5 : isFault (.tuple [.str y, d2]) = false := by
                    show (decide (y = ("fault" : Str)) && isName d2) = false
                    rw [e4] <;> rfl
                  rw [e5] at q'
                  exact q'
              | none => exact iteF (q _ (Gr.refl _ _))
              | bool b => exact iteF (q _ (Gr.refl _ _))
              | int i => exact iteF (q _ (Gr.refl _ _))
              | list ds => exact iteF (q _ (Gr.refl _ _))
              | tuple ds => exact iteF (q _ (Gr.refl _ _))
              | dict ds => cases k1
      | false =>
        refine ift rfl ?_
        have e5 : isFault (.tuple ds) = false := by
          match ds, hl with
          | [], _ => rfl
          | [d1], _ => cases d1 <;> rfl
          | [d1, d2], hl => exact absurd (by rw [hl] <;> rfl : V.int ((xs.length : Nat) : Int) = V.int 2) (of_decide_eq_false e)
          | d1 :: _ :: _ :: _, _ => cases d1 <;> rfl
        have q' := q H (Gr.refl _ _)
        rw [e5] at q'
        exact q'
  | none => exact iteT (q _ (Gr.refl _ _))
  | bool b => exact iteT (q _ (Gr.refl _ _))
  | int i => exact iteT (q _ (Gr.refl _ _))
  | list ds => exact iteT (q _ (Gr.refl _ _))
  | str ds => exact iteT (q _ (Gr.refl _ _))
  | dict ds => cases hd
theorem pu_is_number {R : Rt} (vs : List V) (H : Hp) (Q : VK) (E : XK) (h : sp_is_number R vs H Q E) : t_is_number R { nx := fun _ H' => Q .non H', rt := Q } (L2.start ["thing"] vs) H := by
  obtain ⟨v, rfl, d, hd, q⟩ := h
  refine ⟨_, rfl, v, rfl, d, hd, _, rfl, ?_⟩
  cases d with
  | int i =>
    cases hd
    exact iteT ⟨_, rfl, _, rfl, _, _, rfl, rfl, ⟨by decide, by decide, by decide⟩, _, _, rfl, rfl, q⟩
  | none => exact iteF q
  | bool b => exact iteF q
  | str i => exact iteF q
  | list ds => exact iteF q
  | tuple ds => exact iteF q
  | dict ds => cases hd
theorem pu_is_value {R : Rt} (vs : List V) (H : Hp) (Q : VK) (E : XK) (h : sp_is_value R vs H Q E) : t_is_value R { nx := fun _ H' => Q .non H', rt := Q } (L2.start ["thing"] vs) H := by
  obtain ⟨v, rfl, d, hd, hs, q⟩ := h
  refine ⟨_, rfl, v, rfl, d, hd, _, rfl, ?_⟩
  cases e : isNumber d with
  | true =>
    refine ift rfl ?_
    have q' := q H (Gr.refl _ _)
    rw [isValue, e] at q'
    exact q'
  | false =>
    refine iff' rfl ⟨_, rfl, v, rfl, d, hd, hs, fun H' g => ?_⟩
    have q' := q H' g
    rw [isValue, e] at q'
    exact q'
theorem im_flt {K : PySem.W.Frag} {F : FS} {H : Hp} {p : Addr} {x : Str} (n : H p = none) (hF : Dom F H) : Im K F (upd H p (.tup [.str "fault", .str x])) (.ref p) (flt x) :=
  Im.new_tup n hF (.cons (.str _) (.cons (.str _) .nil))
theorem pu_settled {R : Rt} (vs : List V) (H : Hp) (Q : VK) (E : XK) (h : sp_settled R vs H Q E) : t_settled R { nx := fun _ H' => Q .non H', rt := Q } (L2.start ["thing"] vs) H := by
  obtain ⟨v, rfl, d, F, hd, hs, hF, q⟩ := h
  refine ⟨_, rfl, v, rfl, d, hd.d, hs, fun H' g => ⟨_, rfl, ?_⟩⟩
  cases e : isValue d with
  | true =>
    refine ift rfl ⟨_, rfl, q _ _ g ?_⟩
    rw [settle, e]
    exact hd.gr g.of0
  | false =>
    refine iff' rfl ⟨(show 2 ≤ sizeLine by decide), fun p hp => q _ _ (g.trans (.new hp)) ?_⟩
    rw [settle, e]
    exact im_flt hp (hF.gr g)
theorem pu_fault {R : Rt} (vs : List V) (H : Hp) (Q : VK) (E : XK) (h : sp_fault R vs H Q E) : t_fault R { nx := fun _ H' => Q .non H', rt := Q } (L2.start ["word"] vs) H := by
  obtain ⟨v, rfl, x, F, rfl, hn, hF, q⟩ := h
  refine ⟨_, rfl, _, rfl, .str x, .str x, fun y ey => ?_, fun H' g => ⟨_, rfl, ?_⟩⟩
  · cases ey
    have z := (Bool.and_eq_true_iff.mp (Bool.and_eq_true_iff.mp hn).2).1
    have z2 : x.length ≤ 8 := of_decide_eq_true z
    omega
  · refine iff' (by show (!nameS x) = false; rw [hn] <;> rfl) ?_
    exact ⟨_, rfl, (show 2 ≤ sizeLine by decide), fun p hp => q _ _ (g.trans (.new hp)) (im_flt hp (hF.gr g))⟩
theorem name_short {x : Str} (hn : nameS x = true) : x.length ≤ 8 := of_decide_eq_true (Bool.and_eq_true_iff.mp (Bool.and_eq_true_iff.mp hn).2).1
theorem smS_name {x : Str} (hn : nameS x = true) : smS (.str x) := fun y ey => by
  cases ey
  have z := name_short hn
  omega
theorem pu_name_told {R : Rt} (vs : List V) (H : Hp) (Q : VK) (E : XK) (h : sp_name_told R vs H Q E) : t_name_told R { nx := fun _ H' => Q .non H', rt := Q } (L2.start ["name"] vs) H := by
  obtain ⟨v, rfl, x, rfl, hn, q⟩ := h
  refine ⟨_, rfl, _, rfl, .str x, .str x, smS_name hn, fun H' g => ⟨_, rfl, ?_⟩⟩
  exact iff' (by show (!nameS x) = false; rw [hn] <;> rfl) ⟨_, rfl, q H' g⟩
theorem pu_within {R : Rt} (vs : List V) (H : Hp) (Q : VK) (E : XK) (h : sp_within R vs H Q E) : t_within R { nx := fun _ H' => Q .non H', rt := Q } (L2.start ["number"] vs) H := by
  obtain ⟨v, rfl, i, rfl, q1, q2⟩ := h
  refine ⟨_, rfl, _, rfl, _, _, rfl, rfl, ⟨by decide, by decide, by decide⟩, _, _, rfl, rfl, _, rfl, ?_⟩
  cases e : inR i with
  | true => exact ift e ⟨_, rfl, q1 e⟩
  | false => exact iff' e (q2 e)
theorem pu_Rule_init {R : Rt} (vs : List V) (H : Hp) (Q : VK) (E : XK) (h : sp_Rule_init R vs H Q E) : t_Rule_init R { nx := fun _ H' => Q .non H', rt := Q } (L2.start ["self", "function"] vs) H := by
  obtain ⟨s, f, rfl, p, C, dx, fs, rfl, h1, c, n, l, q⟩ := h
  exact ⟨_, rfl, _, rfl, p, C, dx, fs, rfl, h1, c, n, l, q⟩
theorem pu_Rule_reckon {R : Rt} (vs : List V) (H : Hp) (Q : VK) (E : XK) (h : sp_Rule_reckon R vs H Q E) : t_Rule_reckon R { nx := fun _ H' => Q .non H', rt := Q } (L2.start ["self", "some"] vs) H := by
  obtain ⟨s, v, rfl, p, C, dx, fs, fv, g, D, F, FG, a, ns, rfl, rfl, h1, c, n, l, fo, hs, hD, hsm, hF, q⟩ := h
  obtain ⟨f, k, sp, rfl, ck, hk, run⟩ := fo.run
  obtain ⟨⟨F', hf⟩, _⟩ := run H (Gr.refl _ _)
  refine ⟨_, rfl, p, C, dx, fs, f, k, sp, F', rfl, h1, c, n, l, ck, hk, hf, _, rfl, _, _, rfl, .inl hs, fun b hb => ?_⟩
  have g1 : Gr F H (upd H b (.lst (ns.map V.int))) := .new hb
  refine (run _ (.new hb)).2 F b ns _ upd_same hD (hF.gr g1) fun w H'' g2 hw => ?_
  refine ⟨w, rfl, g ns, F, hw, hsm, (hF.gr g1).gr g2, fun w2 H3 g3 hw2 => q w2 H3 ((Gr.new hb).trans (g2.trans g3)) hw2⟩
theorem range_getD {α β : Type} (f : α → β) (d : α) (l : List α) : (List.range l.length).map (fun i => f (l.getD i d)) = l.map f := by
  apply List.ext_getElem?
  intro i
  rw [List.getElem?_map, List.getElem?_map]
  by_cases h : i < l.length
  · rw [List.getElem?_range h, List.getElem?_eq_getElem h, Option.map_some, Option.map_some, List.getD_eq_getElem?_getD, List.getElem?_eq_getElem h] <;> rfl
  · rw [List.getElem?_eq_none (by simpa using h), List.getElem?_eq_none (by simpa using h)] <;> rfl
theorem getD_of {α : Type} {l : List α} {i : Nat} {x d : α} (h : l[i]? = some x) : l.getD i d = x := by
  rw [List.getD_eq_getElem?_getD, h] <;> rfl
theorem map_at {α β : Type} {f : α → β} {l : List α} {i : Nat} {y : β} (h : (l.map f)[i]? = some y) : ∃ x, l[i]? = some x ∧ y = f x := by
  rw [List.getElem?_map] at h
  cases e : l[i]? with
  | none =>
    rw [e] at h
    cases h
  | some x =>
    rw [e] at h
    exact ⟨x, rfl, (Option.some.inj h).symm⟩
/-- what stands at H stands while a new thing at D is filled -/
theorem gr_at {H H' : Hp} {D b : Addr} {o : HO} (g : Gr (fun x => x = D) H H') (hD : H D = none) (e : H b = some o) : H' b = some o := g.keep b o e fun z => by
  rw [z, hD] at e
  cases e
theorem gr_un {F : FS} {H H' : Hp} {D : Addr} (g : Gr (fun x => x = D) H H') : Gr (Un2 F fun b => b = D) H H' := g.mono fun _ z => .inr z
theorem gr_in {F : FS} {H H' : Hp} {D : Addr} (g : Gr (fun x => x = D) H H') (hD : H D = none) : Gr F H H' := ⟨fun b o e _ => gr_at g hD e, g.back⟩
theorem line1 {n : Nat} (h : n ≤ 1000) : n ≤ sizeLine := Nat.le_trans h (by decide)
theorem pu_names_told {R : Rt} (vs : List V) (H : Hp) (Q : VK) (E : XK) (h : sp_names_told R vs H Q E) : t_names_told R { nx := fun _ H' => Q .non H', rt := Q } (L2.start ["names", "name"] vs) H := by
  obtain ⟨v, rfl, a, ss, rfl, ha, hl, hn, q⟩ := h
  refine ⟨_, rfl, _, _, _, _, _, rfl, .ty _, .base (.lst ha), kit_ty (r := true) (by decide +kernel), _, rfl, ?_⟩
  refine iteF ⟨_, rfl, _, _, rfl, .inl ⟨_, .of ha, rfl⟩, _, _, rfl, rfl, _, rfl, ?_⟩
  refine iff' (decide_eq_false (by rw [List.length_map]; omega)) ?_
  refine ⟨_, rfl, a, rfl, ⟨_, .of ha⟩, fun D hD => lc_im (K := R.K) walk_list F0 (fun i => PyData.str ((ss.map V.str).getD i .non |> fun v => match v with | .str x => x | _ => "")) (by rw [List.length_map]; exact line1 (by omega)) dom0 hD (fun H' g => .of (gr_at g hD ha)) ?_ ?_⟩
  · rintro i x H1 H2 Qe hi g dom ⟨rfl, hx⟩ k
    obtain ⟨y, hy, rfl⟩ := map_at hx
    refine ⟨rfl, _, rfl, _, rfl, y, rfl, hn y (List.mem_of_getElem? hy), fun H' g2 => k _ _ g2 ?_⟩
    show Im R.K _ _ _ (PyData.str (match (ss.map V.str).getD i .non with | .str x => x | _ => ""))
    rw [getD_of hx]
    exact .str y
  · intro ys H' g e hi
    refine q D H' hD g ?_
    rw [range_getD (fun v : V => PyData.str (match v with | .str x => x | _ => "")) .non (ss.map V.str), List.map_map] at hi
    rw [e, strs_of (ns := ss) hi]
/-! ### one list filled -/
theorem depthAll_le : ∀ {ds : List PyData} {n : Nat}, (∀ d ∈ ds, d.depth ≤ n) → PyData.depthAll ds ≤ n
  | [], n, _ => Nat.zero_le _
  | d :: ds, n, h => by
    have h1 := h d List.mem_cons_self
    have h2 := depthAll_le (ds := ds) (n := n) fun x hx => h x (List.mem_cons_of_mem _ hx)
    unfold PyData.depthAll
    omega
theorem canLayAll : ∀ {ds : List PyData}, (∀ d ∈ ds, d.canLay0 = true) → PyData.canLayAll0 ds = true
  | [], _ => rfl
  | d :: ds, h => by
    unfold PyData.canLayAll0
    rw [h d List.mem_cons_self, canLayAll fun x hx => h x (List.mem_cons_of_mem _ hx)] <;> rfl
theorem shaped_list {ds : List PyData} (h : ∀ d ∈ ds, SeqAt.shaped d = true) (h2 : ∀ d ∈ ds, d.depth ≤ 60) : SeqAt.shaped (.list ds) = true := by
  have e1 : (PyData.list ds).canLay0 = true := by
    unfold PyData.canLay0
    exact canLayAll fun d hd => SeqAt.canLay_of_shaped (h d hd)
  have e2 : (PyData.list ds).depth ≤ 64 := by
    have z := depthAll_le h2
    unfold PyData.depth
    omega
  unfold SeqAt.shaped
  rw [e1, decide_eq_true e2] <;> rfl
theorem shaped_tuple {ds : List PyData} (h : ∀ d ∈ ds, SeqAt.shaped d = true) (h2 : ∀ d ∈ ds, d.depth ≤ 60) : SeqAt.shaped (.tuple ds) = true := by
  have e1 : (PyData.tuple ds).canLay0 = true := by
    unfold PyData.canLay0
    exact canLayAll fun d hd => SeqAt.canLay_of_shaped (h d hd)
  have e2 : (PyData.tuple ds).depth ≤ 64 := by
    have z := depthAll_le h2
    unfold PyData.depth
    omega
  unfold SeqAt.shaped
  rw [e1, decide_eq_true e2] <;> rfl
theorem onceD_step {d : PyData} {acc ds : List PyData} : onceD acc (d :: ds) = onceD (if acc.any fun z => PyData.eqv z d then acc else acc ++ [d]) ds := rfl
theorem pu_each_once {R : Rt} (vs : List V) (H : Hp) (Q : VK) (E : XK) (h : sp_each_once R vs H Q E) : t_each_once R { nx := fun _ H' => Q .non H', rt := Q } (L2.start ["spots", "found", "spot"] vs) H := by
  obtain ⟨v, rfl, ds, F, hd, hF, hsh, hdp, hl, q⟩ := h
  obtain ⟨a, xs, rfl, hL, hA⟩ := hd.to_lst
  have hlen := hA.len
  refine ⟨Nat.zero_le _, fun p hp => ?_⟩
  refine ⟨_, rfl, a, rfl, ⟨xs, ?_⟩, for_list (K := R.K) (a := a) (xs := xs) (fun i σ H' => ∃ acc vacc w, σ = [some (.ref a), some (.ref p), w] ∧ Gr (fun b => b = p) H H' ∧ H' p = some (.lst vacc) ∧ ImAll R.K (Un2 F fun b => b = p) H' vacc acc ∧
    onceD acc (ds.drop i) = onceD [] ds ∧ acc.length ≤ i ∧ ∀ d ∈ acc, d ∈ ds) ?_ ?_ ?_ ?_⟩
  · exact (hL.gr (.new hp)).sq
  · exact ⟨[], [], none, rfl, (Gr.refl _ _).upd (.inl rfl), upd_same, .nil, rfl, Nat.le_refl _, fun _ z => nomatch z⟩
  · rintro i σ H' _ ⟨acc, vacc, w, rfl, g, _⟩
    exact (hL.gr (gr_in g hp)).sq
  · rintro i x σ H' hx ⟨acc, vacc, w, rfl, g, hv, ha, ho, hai, hm⟩
    obtain ⟨d, hdi, hxd⟩ := hA.get hx
    have hdm := List.mem_of_getElem? hdi
    have hdrop : ds.drop i = d :: ds.drop (i + 1) := by
      have hi : i < ds.length := (List.getElem?_eq_some_iff.mp hdi).1
      rw [List.drop_eq_getElem_cons hi, (List.getElem?_eq_some_iff.mp hdi).2]
    have hxd' := hxd.gr (gr_in (F := F) g hp)
    have hacc : Dp R.K H' (.ref p) (.list acc) := .lst (.of hv) ha.d
    refine ⟨_, rfl, _, rfl, d, acc, hxd'.d, hacc, hsh d hdm, shaped_list (fun z hz => hsh z (hm z hz)) (fun z hz => hdp z (hm z hz)), _, rfl, ?_⟩
    rw [hdrop, onceD_step] at ho
    cases e : acc.any fun z => PyData.eqv z d with
    | true =>
      rw [e] at ho
      exact iff' rfl ⟨acc, vacc, _, rfl, g, hv, ha, ho, Nat.le_succ_of_le hai, hm⟩
    | false =>
      rw [e] at ho
      have hvl := ha.len
      refine ift rfl ⟨_, rfl, .inl ⟨rfl, _, .of hv⟩, _, rfl, p, vacc, x, rfl, rfl, hv, ?_, ?_⟩
      · have z : acc.length ≤ i := hai
        have z2 : i < xs.length := (List.getElem?_eq_some_iff.mp hx).1
        exact Nat.lt_of_lt_of_le (by omega : vacc.length < 1001) (by decide)
      · have gu : Gr (Un2 F fun b => b = p) H' (upd H' p (.lst (vacc ++ [x]))) := (Gr.refl _ _).upd (.inl (.inr rfl))
        refine ⟨acc ++ [d], vacc ++ [x], _, rfl, g.upd (.inl rfl), upd_same, ?_, ho, by rw [List.length_append]; exact Nat.succ_le_succ hai, fun z hz => ?_⟩
        · refine (ha.gr gu).snoc (Im.gr ?_ gu)
          exact (hxd.wk (F' := Un2 F fun b => b = p) fun b hb => hb.imp id fun e => by rw [e]; exact hp).gr (gr_un g)
        · rcases List.mem_append.mp hz with z1 | z1
          · exact hm z z1
          · rw [List.mem_singleton.mp z1]
            exact hdm
  · rintro σ H' ⟨acc, vacc, w, rfl, g, hv, ha, ho, hai, hm⟩
    have e : ds.drop xs.length = [] := by rw [hlen, List.drop_length]
    rw [e] at ho
    refine ⟨_, rfl, q p vacc H' hp (gr_in g hp) hv ?_⟩
    have ho' : acc = onceD [] ds := ho
    rw [← ho']
    exact ha.wk (gr_wk fun b z => .inl z)
/-! ### looks in turn -/
theorem isV_small {d : PyData} (h : isValue d = true) : smF d := fun x y e => by
  subst e
  have h2 : isFault (.tuple [x, .str y]) = true := by
    cases x <;> exact h
  cases x with
  | str z =>
    have h3 : (decide (z = ("fault" : Str)) && nameS y) = true := h2
    have h4 := name_short (Bool.and_eq_true_iff.mp h3).2
    omega
  | _ => cases h2
theorem lookedD_app {α : Type} (lk : Lk α) (s : Spot) (ss : List Spot) (acc : List PyData) (a : α) : lookedD lk (s :: ss) acc a =
    if isFault (lk s.1 s.2.1 s.2.2 a).1 then (valueD (lk s.1 s.2.1 s.2.2 a).1, (lk s.1 s.2.1 s.2.2 a).2) else lookedD lk ss (acc ++ [(lk s.1 s.2.1 s.2.2 a).1]) (lk s.1 s.2.1 s.2.2 a).2 := rfl
theorem gr_out {F : FS} {H H' : Hp} {D : Addr} (g : Gr (Un2 F fun b => b = D) H H') (hD : H D = none) : Gr F H H' := by
  refine ⟨fun b o e n => g.keep b o e fun z => ?_, g.back⟩
  rcases z with z | z
  · exact n z
  · rw [z, hD] at e
    cases e
theorem wk_trans {F F' F'' : FS} {H H' : Hp} {G : FS} (a : Wk F F' H) (b : Wk F' F'' H') (g : Gr G H H') : Wk F F'' H := fun x hx => by
  rcases b x hx with z | z
  · exact a x z
  · exact .inr (g.back x z)
theorem spot_of {K : PySem.W.Frag} {F : FS} {H : Hp} {x : V} {s : Spot} (h : Im K F H x (spotD s)) : ∃ b, x = .ref b ∧ SqT K H b [.str s.1, .str s.2.1, .int s.2.2] := by
  obtain ⟨b, xs, rfl, h1, h2⟩ := h.to_tup
  cases h2 with
  | cons k1 k2 =>
    cases k1
    cases k2 with
    | cons k2 k3 =>
      cases k2
      cases k3 with
      | cons k3 k4 =>
        cases k3
        cases k4
        exact ⟨b, rfl, h1.sq⟩
theorem LI.after {K : PySem.W.Frag} {Ft Ft' O : FS} {H H' : Hp} {a : Addr} {xs : List V} (h : LI K (Un2 Ft O) H a xs) (g : Gr Ft H H') (w : Wk Ft Ft' H) : LI K (Un2 Ft' O) H' a xs := h.imp (fun y => ⟨g.rd y.1 fun e => y.2 (.inl e), fun e => by
    rcases e with e | e
    · rcases w a e with e | e
      · exact y.2 (.inl e)
      · obtain ⟨o, q⟩ := Rd.some y.1
        rw [e] at q
        cases q
    · exact y.2 (.inr e)⟩) id
theorem ImAll.after {K : PySem.W.Frag} {Ft Ft' O : FS} {H H' : Hp} : ∀ {vs : List V} {ds : List PyData}, ImAll K (Un2 Ft O) H vs ds → Gr Ft H H' → Wk Ft Ft' H → ImAll K (Un2 Ft' O) H' vs ds
  | _, _, .nil, _, _ => .nil
  | _, _, .cons h t, g, w => .cons (h.after g w) (ImAll.after t g w)
theorem pu_looked {R : Rt} {kx : Nat} (vs : List V) (H : Hp) (Q : VK) (E : XK) (h : sp_looked R kx vs H Q E) : t_looked R kx { nx := fun _ H' => Q .non H', rt := Q } (L2.start ["look", "cells", "found", "table", "column", "place", "value"] vs) H := by
  obtain ⟨fv, cv, rfl, α, Rs, lk, D, fu, a, Ft, O, ss, lo, hJ, hdom, hc, hl, hD, hfu, q⟩ := h
  obtain ⟨f, k, sp, rfl, ck, hk, hfn, hrun⟩ := lo.run
  obtain ⟨ca, xs, rfl, hL, hA⟩ := hc.to_lst
  have hlen : xs.length = ss.length := by
    rw [hA.len, List.length_map]
  refine ⟨Nat.zero_le _, fun p hp => ?_⟩
  have hO : Wk O (Un2 O fun b => b = p) H := fun b hb => hb.imp id fun e => by rw [e]; exact hp
  have hM : Wk (Un2 Ft O) (Un2 Ft (Un2 O fun b => b = p)) H := fun b hb => by
    rcases hb with hb | hb | hb
    · exact .inl (.inl hb)
    · exact .inl (.inr hb)
    · exact .inr (by rw [hb]; exact hp)
  have gp : Gr F0 H (upd H p (.lst [])) := .new hp
  refine ⟨_, rfl, ca, rfl, ⟨xs, (hL.gr gp.of0).sq⟩, for_list (K := R.K) (a := ca) (xs := xs) (fun i σ H' => ∃ acc vacc a' Ft' w3 w4 w5 w6, σ = [some (.ref f), some (.ref ca), some (.ref p), w3, w4, w5, w6] ∧ Rs.J a' Ft' (Un2 O fun b => b = p) H' ∧
    Gr (Un2 Ft fun b => b = p) H H' ∧ Wk Ft Ft' H ∧ Dom (Un2 Ft' (Un2 O fun b => b = p)) H' ∧ H' p = some (.lst vacc) ∧ ImAll R.K (Un2 Ft' (Un2 O fun b => b = p)) H' vacc acc ∧ ImAll R.K (Un2 Ft' (Un2 O fun b => b = p)) H' xs (ss.map spotD) ∧
    LI R.K (Un2 Ft' (Un2 O fun b => b = p)) H' ca xs ∧ lookedD lk (ss.drop i) acc a' = lookedD lk ss [] a ∧ acc.length ≤ i ∧ ss.length ≤ fu a' + i) ?_ ?_ ?_ ?_⟩
  · refine ⟨[], [], a, Ft, none, none, none, none, rfl, Rs.keep (Rs.wk hJ hO) gp.of0, (Gr.refl _ _).upd (.inl (.inr rfl)), fun b hb => .inl hb, fun b hb => ?_, upd_same, .nil, (hA.wk hM).gr gp.of0, (hL.wk hM).gr gp.of0, rfl, Nat.le_refl _, hfu⟩
    rcases hb with hb | hb | hb
    · obtain ⟨o, e⟩ := hdom b (.inl hb)
      exact gp.some e
    · obtain ⟨o, e⟩ := hdom b (.inr hb)
      exact gp.some e
    · exact ⟨_, by rw [hb]; exact upd_same⟩
  · rintro i σ H' _ ⟨acc, vacc, a', Ft', w3, w4, w5, w6, rfl, _, _, _, _, _, _, _, hL', _⟩
    exact hL'.sq
  · rintro i x σ H' hx ⟨acc, vacc, a', Ft', w3, w4, w5, w6, rfl, hJ', g, hw, hd', hv, ha, hc', hL', ho, hai, hfa⟩
    have hi : i < ss.length := by rw [← hlen]; exact (List.getElem?_eq_some_iff.mp hx).1
    have hdrop : ss.drop i = ss[i] :: ss.drop (i + 1) := List.drop_eq_getElem_cons hi
    generalize hs : ss[i] = s at hdrop
    have hxs : Im R.K (Un2 Ft' (Un2 O fun b => b = p)) H' x (spotD s) := by
      obtain ⟨d, hd, hx2⟩ := hc'.get hx
      obtain ⟨s2, hs2, rfl⟩ := map_at hd
      rw [List.getElem?_eq_getElem hi, hs] at hs2
      cases hs2
      exact hx2
    rw [hdrop, lookedD_app] at ho
    obtain ⟨b, rfl, hb⟩ := spot_of hxs
    obtain ⟨F, hF⟩ := hfn _ _ _ _ hJ'
    have hDs : D s.1 s.2.1 s.2.2 := hD s (by rw [← hs]; exact List.getElem_mem hi)
    refine ⟨b, _, rfl, hb, rfl, _, _, rfl, _, _, rfl, _, _, rfl, rfl, ?_⟩
    refine ⟨f, k, sp, F, rfl, ck, hk, hF, _, rfl, _, rfl, _, rfl, ?_⟩
    have hpf : ¬ Ft' p := Rs.dis hJ' p (.inr rfl)
    refine hrun a' Ft' _ H' _ _ _ _ hJ' hd' hDs (by omega) fun w Ft2 H2 hJ2 g2 hw2 hd2 hwd => ?_
    have hval := lo.val s.1 s.2.1 s.2.2 a' hDs
    have hv2 := g2.keep p _ hv hpf
    refine ⟨_, rfl, w, rfl, _, hwd.d, isV_small hval, fun H3 g3 => ⟨_, rfl, ?_⟩⟩
    cases e : isFault (lk s.1 s.2.1 s.2.2 a').1 with
    | true =>
      rw [e] at ho
      refine ift rfl ⟨_, rfl, (show 2 ≤ sizeLine by decide), fun r hr => ?_⟩
      have ho' : (valueD (lk s.1 s.2.1 s.2.2 a').1, (lk s.1 s.2.1 s.2.2 a').2) = lookedD lk ss [] a := ho
      have g4 : Gr F0 H2 (upd H3 r (.tup [.str "value", w])) := g3.trans (.new hr)
      have wz : Wk Ft Ft2 H := wk_trans hw hw2 g
      have gz : Gr Ft H (upd H3 r (.tup [.str "value", w])) := by
        refine gr_out (D := p) ?_ hp
        refine (g.trans2 (g2.trans2 g4 fun b z => z.elim) fun b z => ?_)
        rcases hw b z with z | z
        · exact .inl (.inl z)
        · exact .inr z
      have dz : Dom (Un2 Ft2 O) (upd H3 r (.tup [.str "value", w])) := fun b hb => by
        rcases hb with hb | hb
        · obtain ⟨o, e⟩ := hd2 b (.inl hb)
          exact g4.some e
        · obtain ⟨o, e⟩ := hd2 b (.inr (.inl hb))
          exact g4.some e
      have wsub : Wk (Un2 Ft2 (Un2 O fun b => b = p)) (Un2 Ft2 O) H3 := fun b hb => .inl (hb.imp id .inl)
      refine q _ Ft2 _ ?_ gz wz dz ?_
      · rw [← ho']
        exact Rs.keep (Rs.wk hJ2 fun b hb => .inl (.inl hb)) g4.of0
      · rw [← ho']
        exact Im.new_tup hr (fun b hb => by
          rcases hb with hb | hb
          · obtain ⟨o, e⟩ := hd2 b (.inl hb)
            exact g3.some e
          · obtain ⟨o, e⟩ := hd2 b (.inr (.inl hb))
            exact g3.some e) (.cons (.str _) (.cons ((hwd.gr g3.of0).wk wsub) .nil))
    | false =>
      rw [e] at ho
      refine iff' rfl ⟨_, rfl, .inl ⟨rfl, _, .of (g3.keep p _ hv2 id)⟩, _, rfl, p, vacc, w, rfl, rfl, g3.keep p _ hv2 id, ?_, ?_⟩
      · have z := ha.len
        exact Nat.lt_of_lt_of_le (by omega : vacc.length < 1001) (by decide)
      · have g5 : Gr (fun b => b = p) H2 (upd H3 p (.lst (vacc ++ [w]))) := (g3.mono fun _ z => z.elim).upd (.inl rfl)
        have g6 : Gr (Un2 O fun b => b = p) H2 (upd H3 p (.lst (vacc ++ [w]))) := g5.mono fun _ z => .inr z
        have g7 : Gr (Un2 Ft2 (Un2 O fun b => b = p)) H2 (upd H3 p (.lst (vacc ++ [w]))) := g5.mono fun _ z => .inr (.inr z)
        refine ⟨acc ++ [(lk s.1 s.2.1 s.2.2 a').1], vacc ++ [w], _, Ft2, _, _, _, _, rfl, Rs.keep hJ2 g6, ?_, wk_trans hw hw2 g, hd2.gr g5, upd_same, ?_, ?_, ?_, ho, by rw [List.length_append]; exact Nat.succ_le_succ hai, by have := lo.dec s.1 s.2.1 s.2.2 a'; omega⟩
        · refine (g.trans2 g2 fun b z => ?_).trans (g5.mono fun _ z => .inr z)
          rcases hw b z with z | z
          · exact .inl (.inl z)
          · exact .inr z
        · exact (ImAll.after ha g2 hw2 |>.gr g7).snoc (hwd.gr g7)
        · exact (ImAll.after hc' g2 hw2).gr g7
        · exact (LI.after hL' g2 hw2).gr g7
  · rintro σ H' ⟨acc, vacc, a', Ft', w3, w4, w5, w6, rfl, hJ', g, hw, hd', hv, ha, hc', hL', ho, hai, hfa⟩
    have e : ss.drop xs.length = [] := by rw [hlen, List.drop_length]
    rw [e] at ho
    have ho' : (callD acc, a') = lookedD lk ss [] a := ho
    refine ⟨_, rfl, (show 2 ≤ sizeLine by decide), fun r hr => ?_⟩
    have gr : Gr F0 H' (upd H' r (.tup [.str "call", .ref p])) := .new hr
    have dsub : Dom (Un2 Ft' O) H' := fun b hb => hd' b (hb.imp id .inl)
    refine q _ Ft' _ ?_ ?_ hw (dsub.gr gr) ?_
    · rw [← ho']
      exact Rs.keep (Rs.wk hJ' fun b hb => .inl (.inl hb)) gr.of0
    · exact gr_out (g.trans2 gr fun b z => z.elim) hp
    · rw [← ho']
      have hpn : ¬ Un2 Ft' O p := fun z => by
        rcases z with z | z
        · exact Rs.dis hJ' p (.inr rfl) z
        · obtain ⟨o, e⟩ := hdom p (.inr z)
          rw [hp] at e
          cases e
      exact Im.new_tup hr dsub (.cons (.str _) (.cons (.lst (.of hv hpn) (ha.wk fun b hb => .inl (hb.imp id .inl))) .nil))
/-! ### classes, objects by their attributes -/
structure ClsF (K : PySem.W.Frag) (C : Str) (fs : List Str) : Prop where
  c : Cls K (He.ga K C)
  na : ∀ f ∈ fs, NoAttr K (He.ga K C) f
def alook : List (Str × V) → Str → Option V
  | [], _ => none
  | (k, v) :: r, m => if m = k then some v else alook r m
theorem alook_eq {k : Str} {v : V} {r : List (Str × V)} : alook ((k, v) :: r) k = some v := if_pos rfl
theorem alook_ne {m k : Str} {v : V} {r : List (Str × V)} (h : ¬ m = k) : alook ((k, v) :: r) m = alook r m := if_neg h
/-- an instance of the class named C at p with just these attributes, out of F -/
structure ObjAt (K : PySem.W.Frag) (F : FS) (H : Hp) (p : Addr) (C : Str) (al : List (Str × V)) : Prop where
  ob : ∃ dx fs, H p = some (.ins (He.ga K C) dx fs) ∧ ∀ m, fs.lookup m = alook al m
  nf : ¬ F p
theorem ObjAt.gr {K : PySem.W.Frag} {F : FS} {H H' : Hp} {p : Addr} {C : Str} {al : List (Str × V)} (h : ObjAt K F H p C al) (g : Gr F H H') : ObjAt K F H' p C al :=
  let ⟨dx, fs, e, l⟩ := h.ob
  ⟨⟨dx, fs, g.keep p _ e h.nf, l⟩, h.nf⟩
theorem ObjAt.wk {K : PySem.W.Frag} {F F' : FS} {H : Hp} {p : Addr} {C : Str} {al : List (Str × V)} (h : ObjAt K F H p C al) (g : Wk F F' H) : ObjAt K F' H p C al :=
  ⟨h.ob, fun z => (g p z).elim h.nf fun e => by
    obtain ⟨dx, fs, e2, _⟩ := h.ob
    rw [e] at e2
    cases e2⟩
/-! ### rules as data -/
inductive RuleD where
  | cells (ns : List Str)
  | above (i : Int) (ns : List Str)
  | group (k n : Str)
  | lookup (k o t : Str) (ns : List Str)
  | mend (n : Str)
def pairD (t n : Str) : PyData := .tuple [.str t, .str n]
def leansD : RuleD → Str → List PyData
  | .cells ns, t => onceD [] (ns.map (pairD t))
  | .above _ ns, t => onceD [] (ns.map (pairD t))
  | .group k n, t => onceD [] [pairD t k, pairD t n]
  | .lookup k o th ns, t => onceD [] (pairD t k :: (th :: ns).map (pairD o))
  | .mend n, t => [pairD t n]
/-- names at an address -/
structure NamesAt (F : FS) (H : Hp) (q : Addr) (ns : List Str) : Prop where
  at_ : H q = some (.lst (ns.map V.str))
  nf : ¬ F q
  few : ns.length ≤ 6
  ok : ∀ x ∈ ns, nameS x = true
theorem NamesAt.gr {F : FS} {H H' : Hp} {q : Addr} {ns : List Str} (h : NamesAt F H q ns) (g : Gr F H H') : NamesAt F H' q ns := ⟨g.keep q _ h.at_ h.nf, h.nf, h.few, h.ok⟩
theorem NamesAt.wk {F F' : FS} {H : Hp} {q : Addr} {ns : List Str} (h : NamesAt F H q ns) (g : Wk F F' H) : NamesAt F' H q ns :=
  ⟨h.at_, (fun z => (g q z).elim h.nf fun e => by
    have e2 := h.at_
    rw [e] at e2
    cases e2), h.few, h.ok⟩
/-- the rule r at p, its function fv -/
def RAt (K : PySem.W.Frag) (F : FS) (H : Hp) (p : Addr) (fv : V) : RuleD → Prop
  | .cells ns => ∃ q, ObjAt K F H p "Cells" [("names", .ref q), ("function", fv)] ∧ NamesAt F H q ns
  | .above i ns => ∃ q, ObjAt K F H p "Above" [("first", .int i), ("names", .ref q), ("function", fv)] ∧ NamesAt F H q ns ∧ inR i = true
  | .group k n => ObjAt K F H p "Group" [("name", .str n), ("key", .str k), ("function", fv)] ∧ nameS k = true ∧ nameS n = true
  | .lookup k o t ns => ∃ q, ObjAt K F H p "Lookup" [("names", .ref q), ("theirs", .str t), ("other", .str o), ("key", .str k), ("function", fv)] ∧ NamesAt F H q ns ∧ nameS k = true ∧ nameS o = true ∧ nameS t = true
  | .mend n => ObjAt K F H p "Mend" [("name", .str n), ("function", fv)] ∧ nameS n = true
theorem RAt.gr {K : PySem.W.Frag} {F : FS} {H H' : Hp} {p : Addr} {fv : V} (g : Gr F H H') : ∀ {r : RuleD}, RAt K F H p fv r → RAt K F H' p fv r
  | .cells _, ⟨q, h1, h2⟩ => ⟨q, h1.gr g, h2.gr g⟩
  | .above _ _, ⟨q, h1, h2, h3⟩ => ⟨q, h1.gr g, h2.gr g, h3⟩
  | .group _ _, ⟨h1, h2⟩ => ⟨h1.gr g, h2⟩
  | .lookup _ _ _ _, ⟨q, h1, h2, h3⟩ => ⟨q, h1.gr g, h2.gr g, h3⟩
  | .mend _, ⟨h1, h2⟩ => ⟨h1.gr g, h2⟩
theorem RAt.wk {K : PySem.W.Frag} {F F' : FS} {H : Hp} {p : Addr} {fv : V} (g : Wk F F' H) : ∀ {r : RuleD}, RAt K F H p fv r → RAt K F' H p fv r
  | .cells _, ⟨q, h1, h2⟩ => ⟨q, h1.wk g, h2.wk g⟩
  | .above _ _, ⟨q, h1, h2, h3⟩ => ⟨q, h1.wk g, h2.wk g, h3⟩
  | .group _ _, ⟨h1, h2⟩ => ⟨h1.wk g, h2⟩
  | .lookup _ _ _ _, ⟨q, h1, h2, h3⟩ => ⟨q, h1.wk g, h2.wk g, h3⟩
  | .mend _, ⟨h1, h2⟩ => ⟨h1.wk g, h2⟩
/-- what a class's __init__ tells: the instance with its attributes, nothing else changed -/
def Inited (K : PySem.W.Frag) (H : Hp) (p : Addr) (fv : V) (r : RuleD) (Q : VK) : Prop := ∀ H', Gr (fun b => b = p) H H' → (∀ F : FS, ¬ F p → Dom F H → RAt K F H' p fv r) → Q .non H'
def sp_Cells_init (R : Rt) : Sp := Sp3 fun s ns f H Q _ => ∃ (p dx a : Addr) (ss : List Str), s = .ref p ∧ H p = some (.ins (He.ga R.K "Cells") dx []) ∧ ns = .ref a ∧ H a = some (.lst (ss.map V.str)) ∧ ss.length ≤ 6 ∧ (∀ x ∈ ss, nameS x = true) ∧ Inited R.K H p f (.cells ss) Q
def sp_Above_init (R : Rt) : Sp := Sp4 fun s i ns f H Q _ => ∃ (p dx a : Addr) (ss : List Str) (n : Int), s = .ref p ∧ i = .int n ∧ inR n = true ∧ H p = some (.ins (He.ga R.K "Above") dx []) ∧ ns = .ref a ∧ H a = some (.lst (ss.map V.str)) ∧ ss.length ≤ 6 ∧ (∀ x ∈ ss, nameS x = true) ∧ Inited R.K H p f (.above n ss) Q
def sp_Group_init (R : Rt) : Sp := Sp4 fun s k n f H Q _ => ∃ (p dx : Addr) (x y : Str), s = .ref p ∧ k = .str x ∧ n = .str y ∧ nameS x = true ∧ nameS y = true ∧ H p = some (.ins (He.ga R.K "Group") dx []) ∧ Inited R.K H p f (.group x y) Q
def sp_Lookup_init (R : Rt) : Sp := Sp6 fun s k o t ns f H Q _ => ∃ (p dx a : Addr) (ss : List Str) (x y z : Str), s = .ref p ∧ k = .str x ∧ o = .str y ∧ t = .str z ∧ nameS x = true ∧ nameS y = true ∧ nameS z = true ∧ H p = some (.ins (He.ga R.K "Lookup") dx []) ∧
  ns = .ref a ∧ H a = some (.lst (ss.map V.str)) ∧ ss.length ≤ 6 ∧ (∀ x ∈ ss, nameS x = true) ∧ Inited R.K H p f (.lookup x y z ss) Q
def sp_Mend_init (R : Rt) : Sp := Sp3 fun s n f H Q _ => ∃ (p dx : Addr) (x : Str), s = .ref p ∧ n = .str x ∧ nameS x = true ∧ H p = some (.ins (He.ga R.K "Mend") dx []) ∧ Inited R.K H p f (.mend x) Q
def LeansTo (R : Rt) (r : RuleD) (s tv : V) (H : Hp) (Q : VK) : Prop := ∃ (p : Addr) (F : FS) (t : Str) (fv : V), s = .ref p ∧ tv = .str t ∧ nameS t = true ∧ RAt R.K F H p fv r ∧ Dom F H ∧ ∀ w H', Gr F0 H H' → Im R.K F H' w (.list (leansD r t)) → Q w H'
def sp_Cells_leans (R : Rt) : Sp := Sp2 fun s t H Q _ => ∃ ns, LeansTo R (.cells ns) s t H Q
def sp_Above_leans (R : Rt) : Sp := Sp2 fun s t H Q _ => ∃ i ns, LeansTo R (.above i ns) s t H Q
def sp_Group_leans (R : Rt) : Sp := Sp2 fun s t H Q _ => ∃ k n, LeansTo R (.group k n) s t H Q
def sp_Lookup_leans (R : Rt) : Sp := Sp2 fun s t H Q _ => ∃ k o th ns, LeansTo R (.lookup k o th ns) s t H Q
def sp_Mend_leans (R : Rt) : Sp := Sp2 fun s t H Q _ => ∃ n, LeansTo R (.mend n) s t H Q
/-! ### gathering -/
section
variable {α : Type} (lk : Lk α) (mn : Str → Nat)
def aboveD (i : Int) : PyData × α → PyData × α
  | (.tuple [.str k, .list ds], a) => if k = "call" then (callD (.int i :: ds), a) else (.tuple [.str k, .list ds], a)
  | r => r
def groupGo (t k n : Str) (mine : PyData) : List Nat → List PyData → α → PyData × α
  | [], acc, a => (callD acc, a)
  | j :: js, acc, a => if PyData.eqv (lk t k (j : Nat) a).1 mine then
      (if isFault (lk t n (j : Nat) (lk t k (j : Nat) a).2).1 then (valueD (lk t n (j : Nat) (lk t k (j : Nat) a).2).1, (lk t n (j : Nat) (lk t k (j : Nat) a).2).2)
        else groupGo t k n mine js (acc ++ [(lk t n (j : Nat) (lk t k (j : Nat) a).2).1]) (lk t n (j : Nat) (lk t k (j : Nat) a).2).2)
    else groupGo t k n mine js acc (lk t k (j : Nat) a).2
def lookupGo (o th : Str) (ns : List Str) (mine : PyData) : List Nat → α → PyData × α
  | [], a => (valueD (flt "lacks"), a)
  | j :: js, a => if PyData.eqv (lk o th (j : Nat) a).1 mine then lookedD lk (ns.map fun n => (o, n, ((j : Nat) : Int))) [] (lk o th (j : Nat) a).2 else lookupGo o th ns mine js (lk o th (j : Nat) a).2
def gatherD (r : RuleD) (t c : Str) (p : Int) (a : α) : PyData × α := match r with
  | .cells ns => lookedD lk (ns.map fun n => (t, n, p)) [] a
  | .above i ns => if p > 0 then lookedD lk ((t, c, p - 1) :: ns.map fun n => (t, n, p)) [] a else aboveD i (lookedD lk (ns.map fun n => (t, n, p)) [] a)
  | .group k n => if isFault (lk t k p a).1 then (valueD (lk t k p a).1, (lk t k p a).2) else groupGo lk t k n (lk t k p a).1 (List.range (mn t)) [] (lk t k p a).2
  | .lookup k o th ns => if isFault (lk t k p a).1 then (valueD (lk t k p a).1, (lk t k p a).2) else lookupGo lk o th ns (lk t k p a).1 (List.range (mn o)) (lk t k p a).2
  | .mend n => if isFault (lk t n p a).1 then (callD [], (lk t n p a).2) else (valueD (lk t n p a).1, (lk t n p a).2)
/-- the spots at which a rule may look, the tables whose rows it counts -/
def gSpot (D : Str → Str → Int → Prop) (t c : Str) (p : Int) : RuleD → Prop
  | .cells ns => ∀ n ∈ ns, D t n p
  | .above _ ns => (0 < p → D t c (p - 1)) ∧ ∀ n ∈ ns, D t n p
  | .group k n => D t k p ∧ ∀ j : Nat, j < mn t → D t k j ∧ D t n j
  | .lookup k o th ns => D t k p ∧ ∀ j : Nat, j < mn o → D o th j ∧ ∀ n ∈ ns, D o n j
  | .mend n => D t n p
def gMany (D : Str → Prop) (t : Str) : RuleD → Prop
  | .group _ _ => D t
  | .lookup _ o _ _ => D o
  | _ => True
end
/-- how many looks it may take -/
def gFuel (mn : Str → Nat) (t : Str) : RuleD → Nat
  | .cells ns => ns.length
  | .above _ ns => ns.length + 1
  | .group _ _ => 1 + 2 * mn t
  | .lookup _ o _ ns => 1 + (mn o + ns.length)
  | .mend _ => 1
def GatherTo (R : Rt) (kx : Nat) (r : RuleD) (s fl fm tv cv pv : V) (H : Hp) (Q : VK) : Prop := ∃ (α : Type) (Rs : Res α) (lk : Lk α) (mn : Str → Nat) (D : Str → Str → Int → Prop) (DM : Str → Prop) (fu : α → Nat) (a : α) (Ft O : FS) (p : Addr) (fv : V) (t c : Str) (pl : Int),
  s = .ref p ∧ tv = .str t ∧ cv = .str c ∧ pv = .int pl ∧ LookOk R.K R.C kx fl Rs lk D fu ∧ ManyOk R.C kx fm Rs mn DM ∧ RAt R.K (Un2 Ft O) H p fv r ∧ Rs.J a Ft O H ∧ Dom (Un2 Ft O) H ∧ gSpot mn D t c pl r ∧ gMany DM t r ∧ gFuel mn t r ≤ fu a ∧ After R.K Rs Ft O H (gatherD lk mn r t c pl a) Q
def sp_Cells_gather (R : Rt) (kx : Nat) : Sp := Sp6 fun s fl fm t c p H Q _ => ∃ ns, GatherTo R kx (.cells ns) s fl fm t c p H Q
def sp_Above_gather (R : Rt) (kx : Nat) : Sp := Sp6 fun s fl fm t c p H Q _ => ∃ i ns, GatherTo R kx (.above i ns) s fl fm t c p H Q
def sp_Group_gather (R : Rt) (kx : Nat) : Sp := Sp6 fun s fl fm t c p H Q _ => ∃ k n, GatherTo R kx (.group k n) s fl fm t c p H Q
def sp_Lookup_gather (R : Rt) (kx : Nat) : Sp := Sp6 fun s fl fm t c p H Q _ => ∃ k o th ns, GatherTo R kx (.lookup k o th ns) s fl fm t c p H Q
def sp_Mend_gather (R : Rt) (kx : Nat) : Sp := Sp6 fun s fl fm t c p H Q _ => ∃ n, GatherTo R kx (.mend n) s fl fm t c p H Q
def t_Cells_init (R : Rt) : TS := (tSeq (tDrop (tClsF (He.ga R.K "Rule") (sp_Rule_init R) E0 (tC (.ref (He.ga R.K "Rule"))) (tCons (tVar 0) (tCons (tVar 2) tNil))))
  (sFld R.K (tVar 0) (tCall (sp_names_told R) [] E0 (tCons (tVar 1) tNil)) "names"))
def t_Cells_leans (R : Rt) : TS := (tRet (tCall (sp_each_once R) [] E0 (tCons (tLc (iList R.K (tFld R.K (tVar 0) "names")) (gName 2) tYes (tTup (tCons (tVar 1) (tCons (tVar 2) tNil))) [2]) tNil)))
def t_Cells_gather (R : Rt) (kx : Nat) : TS := (tRet (tCall (sp_looked R kx) [] E0 (tCons (tVar 1) (tCons (tLc (iList R.K (tFld R.K (tVar 0) "names")) (gName 6) tYes (tTup (tCons (tVar 3) (tCons (tVar 6) (tCons (tVar 5) tNil)))) [6]) tNil))))
def t_Above_init (R : Rt) : TS := (tSeq (tDrop (tClsF (He.ga R.K "Rule") (sp_Rule_init R) E0 (tC (.ref (He.ga R.K "Rule"))) (tCons (tVar 0) (tCons (tVar 3) tNil))))
  (tSeq (sFld R.K (tVar 0) (tCall (sp_names_told R) [] E0 (tCons (tVar 2) tNil)) "names")
  (tSeq (tIfS (tNot (tB (tCall (sp_is_number R) [] E0 (tCons (tVar 1) tNil)))) tNever tNext)
  (sFld R.K (tVar 0) (tVar 1) "first"))))
def t_Above_leans (R : Rt) : TS := (tRet (tCall (sp_each_once R) [] E0 (tCons (tLc (iList R.K (tFld R.K (tVar 0) "names")) (gName 2) tYes (tTup (tCons (tVar 1) (tCons (tVar 2) tNil))) [2]) tNil)))
def t_Above_gather (R : Rt) (kx : Nat) : TS := (tSeq (tAsg (tLc (iList R.K (tFld R.K (tVar 0) "names")) (gName 9) tYes (tTup (tCons (tVar 3) (tCons (tVar 9) (tCons (tVar 5) tNil)))) [9]) (gName 6))
  (tSeq (tIfS (tTest (tOp rGtI (tVar 5) (tC (.int 0)))) (tRet (tCall (sp_looked R kx) [] E0 (tCons (tVar 1) (tCons (tOp (rCatI R.K) (tLst (tCons (tTup (tCons (tVar 3) (tCons (tVar 4) (tCons (tOp rSubI (tVar 5) (tC (.int 1))) tNil)))) tNil)) (tVar 6)) tNil)))) tNext)
  (tSeq (tAsg (tCall (sp_looked R kx) [] E0 (tCons (tVar 1) (tCons (tVar 6) tNil))) (gTup R.K 2 (gCons (gName 7) (gCons (gName 8) gNil))))
  (tSeq (tIfS (tTest (tOp rEq (tVar 7) (tC (.str "call")))) (tRet (tTup (tCons (tC (.str "call")) (tCons (tOp (rCatI R.K) (tLst (tCons (tFld R.K (tVar 0) "first") tNil)) (tVar 8)) tNil)))) tNext)
  (tRet (tTup (tCons (tVar 7) (tCons (tVar 8) tNil))))))))
def t_Group_init (R : Rt) : TS := (tSeq (tDrop (tClsF (He.ga R.K "Rule") (sp_Rule_init R) E0 (tC (.ref (He.ga R.K "Rule"))) (tCons (tVar 0) (tCons (tVar 3) tNil))))
  (tSeq (sFld R.K (tVar 0) (tCall (sp_name_told R) [] E0 (tCons (tVar 1) tNil)) "key")
  (sFld R.K (tVar 0) (tCall (sp_name_told R) [] E0 (tCons (tVar 2) tNil)) "name")))
def t_Group_leans (R : Rt) : TS := (tRet (tCall (sp_each_once R) [] E0 (tCons (tLst (tCons (tTup (tCons (tVar 1) (tCons (tFld R.K (tVar 0) "key") tNil))) (tCons (tTup (tCons (tVar 1) (tCons (tFld R.K (tVar 0) "name") tNil))) tNil))) tNil)))
def t_Group_gather (R : Rt) (kx : Nat) : TS := (tSeq (tAsg (tCallC R.C 1 kx (tCons (tVar 3) (tCons (tFld R.K (tVar 0) "key") (tCons (tVar 5) tNil)))) (gName 6))
  (tSeq (tIfS (tB (tCall (sp_is_fault R) [] E0 (tCons (tVar 6) tNil))) (tRet (tTup (tCons (tC (.str "value")) (tCons (tVar 6) tNil)))) tNext)
  (tSeq (tAsg (tLst tNil) (gName 7))
  (tSeq (tFor (iRng1 (tCons (tCallC R.C 2 kx (tCons (tVar 3) tNil)) tNil)) (gName 8)
  (tIfS (tTest (tOp (rEqD R.K) (tCallC R.C 1 kx (tCons (tVar 3) (tCons (tFld R.K (tVar 0) "key") (tCons (tVar 8) tNil)))) (tVar 6))) (tSeq (tAsg (tCallC R.C 1 kx (tCons (tVar 3) (tCons (tFld R.K (tVar 0) "name") (tCons (tVar 8) tNil)))) (gName 9))
  (tSeq (tIfS (tB (tCall (sp_is_fault R) [] E0 (tCons (tVar 9) tNil))) (tRet (tTup (tCons (tC (.str "value")) (tCons (tVar 9) tNil)))) tNext)
  (tDrop (tBM R.K "list" rAppend (tVar 7) (tCons (tVar 9) tNil))))) tNext))
  (tRet (tTup (tCons (tC (.str "call")) (tCons (tVar 7) tNil))))))))
def t_Lookup_init (R : Rt) : TS := (tSeq (tDrop (tClsF (He.ga R.K "Rule") (sp_Rule_init R) E0 (tC (.ref (He.ga R.K "Rule"))) (tCons (tVar 0) (tCons (tVar 5) tNil))))
  (tSeq (sFld R.K (tVar 0) (tCall (sp_name_told R) [] E0 (tCons (tVar 1) tNil)) "key")
  (tSeq (sFld R.K (tVar 0) (tCall (sp_name_told R) [] E0 (tCons (tVar 2) tNil)) "other")
  (tSeq (sFld R.K (tVar 0) (tCall (sp_name_told R) [] E0 (tCons (tVar 3) tNil)) "theirs")
  (sFld R.K (tVar 0) (tCall (sp_names_told R) [] E0 (tCons (tVar 4) tNil)) "names")))))
def t_Lookup_leans (R : Rt) : TS := (tSeq (tAsg (tLc (iList R.K (tOp (rCatI R.K) (tLst (tCons (tFld R.K (tVar 0) "theirs") tNil)) (tFld R.K (tVar 0) "names"))) (gName 3) tYes (tTup (tCons (tFld R.K (tVar 0) "other") (tCons (tVar 3) tNil))) [3]) (gName 2))
  (tRet (tCall (sp_each_once R) [] E0 (tCons (tOp (rCatI R.K) (tLst (tCons (tTup (tCons (tVar 1) (tCons (tFld R.K (tVar 0) "key") tNil))) tNil)) (tVar 2)) tNil))))
def t_Lookup_gather (R : Rt) (kx : Nat) : TS := (tSeq (tAsg (tCallC R.C 1 kx (tCons (tVar 3) (tCons (tFld R.K (tVar 0) "key") (tCons (tVar 5) tNil)))) (gName 6))
  (tSeq (tIfS (tB (tCall (sp_is_fault R) [] E0 (tCons (tVar 6) tNil))) (tRet (tTup (tCons (tC (.str "value")) (tCons (tVar 6) tNil)))) tNext)
  (tSeq (tFor (iRng1 (tCons (tCallC R.C 2 kx (tCons (tFld R.K (tVar 0) "other") tNil)) tNil)) (gName 7)
  (tIfS (tTest (tOp (rEqD R.K) (tCallC R.C 1 kx (tCons (tFld R.K (tVar 0) "other") (tCons (tFld R.K (tVar 0) "theirs") (tCons (tVar 7) tNil)))) (tVar 6))) (tRet (tCall (sp_looked R kx) [] E0 (tCons (tVar 1) (tCons (tLc (iList R.K (tFld R.K (tVar 0) "names")) (gName 8) tYes (tTup (tCons (tFld R.K (tVar 0) "other") (tCons (tVar 8) (tCons (tVar 7) tNil)))) [8]) tNil)))) tNext))
  (tRet (tTup (tCons (tC (.str "value")) (tCons (tCall (sp_fault R) [] E0 (tCons (tC (.str "lacks")) tNil)) tNil)))))))
def t_Mend_init (R : Rt) : TS := (tSeq (tDrop (tClsF (He.ga R.K "Rule") (sp_Rule_init R) E0 (tC (.ref (He.ga R.K "Rule"))) (tCons (tVar 0) (tCons (tVar 2) tNil))))
  (sFld R.K (tVar 0) (tCall (sp_name_told R) [] E0 (tCons (tVar 1) tNil)) "name"))
def t_Mend_leans (R : Rt) : TS := (tRet (tLst (tCons (tTup (tCons (tVar 1) (tCons (tFld R.K (tVar 0) "name") tNil))) tNil)))
def t_Mend_gather (R : Rt) (kx : Nat) : TS := (tSeq (tAsg (tCallC R.C 1 kx (tCons (tVar 3) (tCons (tFld R.K (tVar 0) "name") (tCons (tVar 5) tNil)))) (gName 6))
  (tSeq (tIfS (tB (tCall (sp_is_fault R) [] E0 (tCons (tVar 6) tNil))) (tRet (tTup (tCons (tC (.str "call")) (tCons (tLst tNil) tNil)))) tNext)
  (tRet (tTup (tCons (tC (.str "value")) (tCons (tVar 6) tNil))))))
/-! ### objects filled -/
def Bld (K : PySem.W.Frag) (H0 : Hp) (p : Addr) (C : Str) (H : Hp) (al : List (Str × V)) : Prop :=
  ∃ dx fs, H p = some (.ins (He.ga K C) dx fs) ∧ (∀ m, fs.lookup m = alook al m) ∧ fs.length ≤ al.length ∧ Gr (fun b => b = p) H0 H
theorem Bld.gr {K : PySem.W.Frag} {H0 : Hp} {p : Addr} {C : Str} {H H' : Hp} {al : List (Str × V)} (h : Bld K H0 p C H al) (g : Gr F0 H H') : Bld K H0 p C H' al :=
  let ⟨dx, fs, e, l, n, g0⟩ := h
  ⟨dx, fs, g.keep p _ e id, l, n, g0.trans2 g fun _ z => z.elim⟩
theorem Bld.set {K : PySem.W.Frag} {H0 : Hp} {p : Addr} {C m : Str} {H : Hp} {al : List (Str × V)} {fl : List Str} {v : V} {Qd : Hp → Prop} (h : Bld K H0 p C H al) (k : ClsF K C fl) (hm : m ∈ fl) (hl : al.length < 999)
    (q : ∀ H', Bld K H0 p C H' ((m, v) :: al) → Gr (fun b => b = p) H H' → Qd H') : ∃ a C' dx fs, V.ref p = .ref a ∧ H a = some (.ins C' dx fs) ∧ Cls K C' ∧ NoAttr K C' m ∧ fs.length < 1000 ∧ Qd (upd H a (.ins C' dx (putF m v fs))) := by
  obtain ⟨dx, fs, e, l, n, g⟩ := h
  refine ⟨p, _, dx, fs, rfl, e, k.c, k.na m hm, by omega, q _ ⟨dx, _, upd_same, fun x => ?_, ?_, g.upd (.inl rfl)⟩ ((Gr.refl _ _).upd (.inl rfl))⟩
  · rw [lookup_putF, l x]
    rfl
  · have z := length_putF m v fs
    show _ ≤ al.length + 1
    omega
theorem Bld.obj {K : PySem.W.Frag} {H0 : Hp} {p : Addr} {C : Str} {H : Hp} {al : List (Str × V)} {F : FS} (h : Bld K H0 p C H al) (n : ¬ F p) : ObjAt K F H p C al :=
  let ⟨dx, fs, e, l, _, _⟩ := h
  ⟨⟨dx, fs, e, l⟩, n⟩
theorem Bld.g {K : PySem.W.Frag} {H0 : Hp} {p : Addr} {C : Str} {H : Hp} {al : List (Str × V)} (h : Bld K H0 p C H al) : Gr (fun b => b = p) H0 H :=
  let ⟨_, _, _, _, _, g⟩ := h
  g
/-- the first step of each __init__ -/
theorem init0 {R : Rt} {H : Hp} {p dx : Addr} {C : Str} {f : V} {fl : List Str} {Q : VK} (k : ClsF R.K C fl) (hm : ("function" : Str) ∈ fl) (h1 : H p = some (.ins (He.ga R.K C) dx [])) (q : ∀ H', Bld R.K H p C H' [("function", f)] → Q .non H') :
    sp_Rule_init R [.ref p, f] H Q E0 :=
  ⟨_, _, rfl, p, _, dx, [], rfl, h1, k.c, k.na _ hm, by decide, q _ ⟨dx, _, upd_same, fun m => by rw [lookup_putF]; rfl, Nat.le_refl _, (Gr.refl _ _).upd (.inl rfl)⟩⟩
theorem fld_rd {K : PySem.W.Frag} {F : FS} {H : Hp} {p : Addr} {C m : Str} {al : List (Str × V)} {fl : List Str} {v : V} {Q : VK} (o : ObjAt K F H p C al) (k : ClsF K C fl) (hm : m ∈ fl) (hl : alook al m = some v) (q : Q v H) :
    ∃ a C' dx fs v, V.ref p = .ref a ∧ H a = some (.ins C' dx fs) ∧ Cls K C' ∧ NoAttr K C' m ∧ fs.lookup m = some v ∧ Q v H := by
  obtain ⟨dx, fs, e, l⟩ := o.ob
  exact ⟨p, _, dx, fs, v, rfl, e, k.c, k.na m hm, by rw [l m, hl], q⟩
theorem fld_r2 {K : PySem.W.Frag} {F : FS} {H : Hp} {p : Addr} {C m : Str} {al : List (Str × V)} {fl : List Str} {v : V} (o : ObjAt K F H p C al) (k : ClsF K C fl) (hm : m ∈ fl) (hl : alook al m = some v) :
    ∃ C' dx fs, H p = some (.ins C' dx fs) ∧ Cls K C' ∧ NoAttr K C' m ∧ fs.lookup m = some v := by
  obtain ⟨dx, fs, e, l⟩ := o.ob
  exact ⟨_, dx, fs, e, k.c, k.na m hm, by rw [l m, hl]⟩
theorem named (ss : List Str) {F : FS} {H : Hp} {q : Addr} (h : H q = some (.lst (ss.map V.str))) (n : ¬ F q) (l : ss.length ≤ 6) (o : ∀ x ∈ ss, nameS x = true) : NamesAt F H q ss := ⟨h, n, l, o⟩
theorem notF {F : FS} {H : Hp} {q : Addr} (d : Dom F H) (h : H q = none) : ¬ F q := fun z => by
  obtain ⟨o, e⟩ := d q z
  rw [h] at e
  cases e
theorem pu_Cells_init {R : Rt} (k : ClsF R.K "Cells" ["function", "names"]) (vs : List V) (H : Hp) (Q : VK) (E : XK) (h : sp_Cells_init R vs H Q E) : t_Cells_init R { nx := fun _ H' => Q .non H', rt := Q } (L2.start ["self", "names", "function"] vs) H := by
  obtain ⟨s, ns, f, rfl, p, dx, a, ss, rfl, h1, rfl, ha, hl, hn, q⟩ := h
  refine ⟨rfl, _, rfl, _, rfl, init0 k (by decide) h1 fun H1 b1 => ?_⟩
  have ne : ¬ a = p := fun z => by
    rw [z, h1] at ha
    cases ha
  have ha1 := b1.g.keep a _ ha ne
  refine ⟨_, rfl, _, rfl, a, ss, rfl, ha1, hl, hn, fun r H2 hr g2 hr2 => ?_⟩
  refine ⟨_, rfl, (b1.gr g2).set k (by decide) (by simp) fun H3 b3 g3 => ?_⟩
  have nr : ¬ r = p := fun z => by
    have hp := b1.g.keep a _ ha ne
    obtain ⟨dx', fs', e', _⟩ := b1
    rw [z, e'] at hr
    cases hr
  exact q H3 b3.g fun F hF hd => ⟨r, b3.obj hF, named ss (g3.keep r _ hr2 nr) (notF hd (b1.g.none' hr)) hl hn⟩
theorem pu_Above_init {R : Rt} (k : ClsF R.K "Above" ["function", "names", "first"]) (vs : List V) (H : Hp) (Q : VK) (E : XK) (h : sp_Above_init R vs H Q E) : t_Above_init R { nx := fun _ H' => Q .non H', rt := Q } (L2.start ["self", "first", "names", "function"] vs) H := by
  obtain ⟨s, i, ns, f, rfl, p, dx, a, ss, n, rfl, rfl, hi, h1, rfl, ha, hl, hn, q⟩ := h
  refine ⟨rfl, _, rfl, _, rfl, init0 k (by decide) h1 fun H1 b1 => ?_⟩
  have ne : ¬ a = p := fun z => by
    rw [z, h1] at ha
    cases ha
  have ha1 := b1.g.keep a _ ha ne
  refine ⟨_, rfl, _, rfl, a, ss, rfl, ha1, hl, hn, fun r H2 hr g2 hr2 => ?_⟩
  have nr : ¬ r = p := fun z => by
    obtain ⟨dx', fs', e', _⟩ := b1
    rw [z, e'] at hr
    cases hr
  refine ⟨_, rfl, (b1.gr g2).set k (by decide) (by simp) fun H3 b3 g3 => ?_⟩
  refine ⟨_, rfl, _, rfl, .int n, .int n, ?_⟩
  have e : isNumber (.int n) = true := hi
  rw [e]
  refine ⟨_, rfl, iteF ?_⟩
  refine ⟨_, rfl, _, rfl, b3.set k (by decide) (by simp) fun H4 b4 g4 => ?_⟩
  exact q H4 b4.g fun F hF hd => ⟨r, b4.obj hF, named ss (g4.keep r _ (g3.keep r _ hr2 nr) nr) (notF hd (b1.g.none' hr)) hl hn, hi⟩
theorem pu_Group_init {R : Rt} (k : ClsF R.K "Group" ["function", "key", "name"]) (vs : List V) (H : Hp) (Q : VK) (E : XK) (h : sp_Group_init R vs H Q E) : t_Group_init R { nx := fun _ H' => Q .non H', rt := Q } (L2.start ["self", "key", "name", "function"] vs) H := by
  obtain ⟨s, kk, n, f, rfl, p, dx, x, y, rfl, rfl, rfl, hx, hy, h1, q⟩ := h
  refine ⟨rfl, _, rfl, _, rfl, init0 k (by decide) h1 fun H1 b1 => ?_⟩
  refine ⟨_, rfl, _, rfl, x, rfl, hx, fun H2 g2 => ⟨_, rfl, (b1.gr g2).set k (by decide) (by simp) fun H3 b3 g3 => ?_⟩⟩
  refine ⟨_, rfl, _, rfl, y, rfl, hy, fun H4 g4 => ⟨_, rfl, (b3.gr g4).set k (by decide) (by simp) fun H5 b5 g5 => ?_⟩⟩
  exact q H5 b5.g fun F hF hd => ⟨b5.obj hF, hx, hy⟩
theorem pu_Lookup_init {R : Rt} (k : ClsF R.K "Lookup" ["function", "key", "other", "theirs", "names"]) (vs : List V) (H : Hp) (Q : VK) (E : XK) (h : sp_Lookup_init R vs H Q E) : t_Lookup_init R { nx := fun _ H' => Q .non H', rt := Q } (L2.start ["self", "key", "other", "theirs", "names", "function"] vs) H := by
  obtain ⟨s, kk, o, t, ns, f, rfl, p, dx, a, ss, x, y, z, rfl, rfl, rfl, rfl, hx, hy, hz, h1, rfl, ha, hl, hn, q⟩ := h
  have ne : ¬ a = p := fun z => by
    rw [z, h1] at ha
    cases ha
  refine ⟨rfl, _, rfl, _, rfl, init0 k (by decide) h1 fun H1 b1 => ?_⟩
  refine ⟨_, rfl, _, rfl, x, rfl, hx, fun H2 g2 => ⟨_, rfl, (b1.gr g2).set k (by decide) (by simp) fun H3 b3 g3 => ?_⟩⟩
  refine ⟨_, rfl, _, rfl, y, rfl, hy, fun H4 g4 => ⟨_, rfl, (b3.gr g4).set k (by decide) (by simp) fun H5 b5 g5 => ?_⟩⟩
  refine ⟨_, rfl, _, rfl, z, rfl, hz, fun H6 g6 => ⟨_, rfl, (b5.gr g6).set k (by decide) (by simp) fun H7 b7 g7 => ?_⟩⟩
  have ha1 := b7.g.keep a _ ha ne
  refine ⟨_, rfl, _, rfl, a, ss, rfl, ha1, hl, hn, fun r H8 hr g8 hr2 => ?_⟩
  have nr : ¬ r = p := fun z => by
    obtain ⟨dx', fs', e', _⟩ := b7
    rw [z, e'] at hr
    cases hr
  refine ⟨_, rfl, (b7.gr g8).set k (by decide) (by simp) fun H9 b9 g9 => ?_⟩
  exact q H9 b9.g fun F hF hd => ⟨r, b9.obj hF, named ss (g9.keep r _ hr2 nr) (notF hd (b7.g.none' hr)) hl hn, hx, hy, hz⟩
theorem pu_Mend_init {R : Rt} (k : ClsF R.K "Mend" ["function", "name"]) (vs : List V) (H : Hp) (Q : VK) (E : XK) (h : sp_Mend_init R vs H Q E) : t_Mend_init R { nx := fun _ H' => Q .non H', rt := Q } (L2.start ["self", "name", "function"] vs) H := by
  obtain ⟨s, n, f, rfl, p, dx, x, rfl, rfl, hx, h1, q⟩ := h
  refine ⟨rfl, _, rfl, _, rfl, init0 k (by decide) h1 fun H1 b1 => ?_⟩
  refine ⟨_, rfl, _, rfl, x, rfl, hx, fun H2 g2 => ⟨_, rfl, (b1.gr g2).set k (by decide) (by simp) fun H3 b3 g3 => ?_⟩⟩
  exact q H3 b3.g fun F hF hd => ⟨b3.obj hF, hx⟩
/-! ### leans -/
theorem name_strOk {x : Str} (h : nameS x = true) : PyData.strOk x = true := by
  have h1 := (Bool.and_eq_true_iff.mp (Bool.and_eq_true_iff.mp h).2).2
  unfold PyData.strOk
  rw [← Array.all_toList]
  refine List.all_eq_true.mpr fun c hc => ?_
  have h2 : c ∈ letters.cps.toList := of_decide_eq_true (List.all_eq_true.mp h1 c hc)
  exact decide_eq_true ((by decide +kernel : ∀ c ∈ letters.cps.toList, c < 0x110000) c h2)
theorem str_sh {t : Str} (h : nameS t = true) : SeqAt.shaped (.str t) = true := by simp [SeqAt.shaped, PyData.canLay0, PyData.depth, name_strOk h]
theorem int_sh (t : Int) : SeqAt.shaped (.int t) = true := by simp [SeqAt.shaped, PyData.canLay0, PyData.depth]
theorem str_dp (t : Str) : (PyData.str t).depth = 0 := by simp [PyData.depth]
theorem int_dp (t : Int) : (PyData.int t).depth = 0 := by simp [PyData.depth]
theorem pair_sh {t n : Str} (ht : nameS t = true) (hn : nameS n = true) : SeqAt.shaped (pairD t n) = true := by
  refine shaped_tuple (fun d hd => ?_) (fun d hd => ?_)
  · rcases List.mem_cons.mp hd with e | hd
    · rw [e]; exact str_sh ht
    · rw [List.mem_singleton.mp hd]; exact str_sh hn
  · rcases List.mem_cons.mp hd with e | hd
    · rw [e, str_dp]; exact Nat.zero_le _
    · rw [List.mem_singleton.mp hd, str_dp]; exact Nat.zero_le _
theorem pair_dp (t n : Str) : (pairD t n).depth ≤ 60 := by simp [pairD, PyData.depth, PyData.depthAll]
theorem im_pair {K : PySem.W.Frag} {F : FS} {H : Hp} {p : Addr} {t n : Str} (h : H p = none) (d : Dom F H) : Im K F (upd H p (.tup [.str t, .str n])) (.ref p) (pairD t n) := Im.new_tup h d (.cons (.str _) (.cons (.str _) .nil))
/-- names paired with a table's name -/
theorem names_lc {K : PySem.W.Frag} {g : TG} {te : TE} {vs : List Nat} {σ : L2.St} {H1 : Hp} {D : Addr} {Qd : Hp → Prop} {F : FS} {q : Addr} {ns : List Str} (nd : H1 q = some (.lst (ns.map V.str))) (hl : ns.length ≤ 1000) (es : Str → PyData) (dF : Dom F H1) (hD : H1 D = none)
    (hs : ∀ x H (Qe : VK), x ∈ ns → Gr (fun b => b = D) H1 H → Dom (Un2 F fun b => b = D) H → (∀ y H'', Gr F0 H H'' → Im K (Un2 F fun b => b = D) H'' y (es x) → Qe y H'') → g (.str x) (wipe σ vs) H fun σ2 H2 => wipe σ2 vs = wipe σ vs ∧ te σ2 H2 Qe)
    (hd : ∀ ys H, Gr F0 H1 H → H D = some (.lst ys) → ImAll K F H ys (ns.map es) → Qd H) :
    ∃ W : Nat → Nat → Hp → Prop, (∃ m, W 0 m (upd H1 D (.lst []))) ∧ ∀ i m H, W i m H →
      ((Itl K q).stop i H ∧ Qd H) ∨ ((Itl K q).go i H ∧ ∃ Nx : Hp → Prop, (∀ H', Nx H' → ∃ m', m' < m ∧ W (i + 1) m' H') ∧ ∀ x H', (Itl K q).yld i H x H' → g x (wipe σ vs) H' fun σ2 H2 => wipe σ2 vs = wipe σ vs ∧ tYes σ2 H2 fun b H3 =>
        if b = true then te σ2 H3 fun y H4 => ∃ acc, H4 D = some (.lst acc) ∧ acc.length < sizeLine ∧ Nx (upd H4 D (.lst (acc ++ [y]))) else Nx H3) := by
  refine lc_im (K := K) (walk_list (xs := ns.map V.str)) F (fun i => es (match (ns.map V.str).getD i .non with | .str x => x | _ => "")) (by rw [List.length_map]; exact line1 hl) dF hD (fun H' g => .of (gr_at g hD nd)) ?_ ?_
  · rintro i x H1 H2 Qe hi g dom ⟨rfl, hx⟩ k
    obtain ⟨y, hy, rfl⟩ := map_at hx
    refine hs y _ Qe (List.mem_of_getElem? hy) g dom fun z H' g2 hz => k _ _ g2 ?_
    show Im K _ _ _ (es (match (ns.map V.str).getD i .non with | .str x => x | _ => ""))
    rw [getD_of hx]
    exact hz
  · intro ys H' g e hi
    refine hd ys H' g e ?_
    rw [range_getD (fun v : V => es (match v with | .str x => x | _ => "")) .non (ns.map V.str), List.map_map] at hi
    exact hi
theorem leans_names {R : Rt} {K : PySem.W.Frag} (hK : K = R.K) {F : FS} {H : Hp} {p : Addr} {t : Str} {ds : List PyData} {Q : VK} (hd : Im K F H (.ref p) (.list ds)) (dF : Dom F H) (hp : ∀ d ∈ ds, ∃ a b, nameS a = true ∧ nameS b = true ∧ d = pairD a b) (hl : ds.length ≤ 1000)
    (q : ∀ w H', Gr F0 H H' → Im K F H' w (.list (onceD [] ds)) → Q w H') : sp_each_once R [.ref p] H Q E0 := by
  subst hK
  refine ⟨_, rfl, ds, F, hd, dF, fun d h => ?_, fun d h => ?_, hl, fun p' vs H' n g e a => q _ H' g ?_⟩
  · obtain ⟨a, b, ha, hb, rfl⟩ := hp d h
    exact pair_sh ha hb
  · obtain ⟨a, b, _, _, rfl⟩ := hp d h
    exact pair_dp a b
  · exact .lst (.of e (notF dF n)) a
theorem pu_Cells_leans {R : Rt} (k : ClsF R.K "Cells" ["function", "names"]) (vs : List V) (H : Hp) (Q : VK) (E : XK) (h : sp_Cells_leans R vs H Q E) : t_Cells_leans R { nx := fun _ H' => Q .non H', rt := Q } (L2.start ["self", "table", "name"] vs) H := by
  obtain ⟨s, tv, rfl, ns, p, F, t, fv, rfl, rfl, ht, ⟨q, ho, hn⟩, dF, post⟩ := h
  obtain ⟨C', dx, fs, e1, c1, n1, l1⟩ := fld_r2 (m := "names") (v := .ref q) ho k (by decide) rfl
  refine ⟨_, rfl, p, C', dx, fs, _, rfl, e1, c1, n1, l1, q, rfl, ⟨_, .of hn.at_⟩, fun D hD => ?_⟩
  refine names_lc (F := F) hn.at_ (by have := hn.few; omega) (pairD t) dF hD (fun x H1 Qe hx g1 d1 k1 => ?_) fun ys H1 g1 e1 i1 => ?_
  · refine ⟨rfl, _, rfl, _, rfl, (show 2 ≤ sizeLine by decide), fun r hr => ?_⟩
    exact k1 _ _ (.new hr) (im_pair hr d1)
  · refine leans_names (F := F) (t := t) rfl (.lst (.of e1 (notF dF hD)) i1) (dF.gr g1) (fun d hd => ?_) (by rw [List.length_map]; have := hn.few; omega) fun w H' g' hw => post w H' (g1.trans g') hw
    obtain ⟨x, hx, rfl⟩ := List.mem_map.mp hd
    exact ⟨t, x, ht, hn.ok x hx, rfl⟩
theorem pu_Above_leans {R : Rt} (k : ClsF R.K "Above" ["function", "names", "first"]) (vs : List V) (H : Hp) (Q : VK) (E : XK) (h : sp_Above_leans R vs H Q E) : t_Above_leans R { nx := fun _ H' => Q .non H', rt := Q } (L2.start ["self", "table", "name"] vs) H := by
  obtain ⟨s, tv, rfl, i, ns, p, F, t, fv, rfl, rfl, ht, ⟨q, ho, hn, _⟩, dF, post⟩ := h
  obtain ⟨C', dx, fs, e1, c1, n1, l1⟩ := fld_r2 (m := "names") (v := .ref q) ho k (by decide) rfl
  refine ⟨_, rfl, p, C', dx, fs, _, rfl, e1, c1, n1, l1, q, rfl, ⟨_, .of hn.at_⟩, fun D hD => ?_⟩
  refine names_lc (F := F) hn.at_ (by have := hn.few; omega) (pairD t) dF hD (fun x H1 Qe hx g1 d1 k1 => ?_) fun ys H1 g1 e1 i1 => ?_
  · refine ⟨rfl, _, rfl, _, rfl, (show 2 ≤ sizeLine by decide), fun r hr => ?_⟩
    exact k1 _ _ (.new hr) (im_pair hr d1)
  · refine leans_names (F := F) (t := t) rfl (.lst (.of e1 (notF dF hD)) i1) (dF.gr g1) (fun d hd => ?_) (by rw [List.length_map]; have := hn.few; omega) fun w H' g' hw => post w H' (g1.trans g') hw
    obtain ⟨x, hx, rfl⟩ := List.mem_map.mp hd
    exact ⟨t, x, ht, hn.ok x hx, rfl⟩
theorem pu_Group_leans {R : Rt} (k : ClsF R.K "Group" ["function", "key", "name"]) (vs : List V) (H : Hp) (Q : VK) (E : XK) (h : sp_Group_leans R vs H Q E) : t_Group_leans R { nx := fun _ H' => Q .non H', rt := Q } (L2.start ["self", "table"] vs) H := by
  obtain ⟨s, tv, rfl, x, y, p, F, t, fv, rfl, rfl, ht, ⟨ho, hx, hy⟩, dF, post⟩ := h
  refine ⟨_, rfl, _, rfl, fld_rd (v := .str x) ho k (by decide) rfl ⟨(show 2 ≤ sizeLine by decide), fun r1 h1 => ?_⟩⟩
  have g1 : Gr F0 H (upd H r1 (.tup [.str t, .str x])) := .new h1
  refine ⟨_, rfl, _, rfl, fld_rd (v := .str y) (ho.gr g1.of0) k (by decide) rfl ⟨(show 2 ≤ sizeLine by decide), fun r2 h2 => ⟨(show 2 ≤ sizeLine by decide), fun r3 h3 => ?_⟩⟩⟩
  have d1 := dF.gr g1
  have i1 : Im R.K F _ _ _ := im_pair (K := R.K) (t := t) (n := x) h1 dF
  generalize upd H r1 (.tup [.str t, .str x]) = H1 at *
  have g2 : Gr F0 H1 (upd H1 r2 (.tup [.str t, .str y])) := .new h2
  have d2 := d1.gr g2
  have i2 : Im R.K F _ _ _ := im_pair (K := R.K) (t := t) (n := y) h2 d1
  have i1' := i1.gr g2.of0
  generalize upd H1 r2 (.tup [.str t, .str y]) = H2 at *
  have g3 : Gr F0 H2 (upd H2 r3 (.lst [.ref r1, .ref r2])) := .new h3
  have i3 : Im R.K F _ _ (.list [pairD t x, pairD t y]) := Im.new_lst (K := R.K) h3 d2 (.cons i1' (.cons i2 .nil))
  refine leans_names (F := F) (t := t) rfl i3 (d2.gr g3) (fun d hd => ?_) (by simp) fun w H' g' hw => post w H' (g1.trans (g2.trans (g3.trans g'))) hw
  rcases List.mem_cons.mp hd with e | hd
  · exact ⟨_, _, ht, hx, e⟩
  · exact ⟨_, _, ht, hy, List.mem_singleton.mp hd⟩
theorem pu_Lookup_leans {R : Rt} (k : ClsF R.K "Lookup" ["function", "key", "other", "theirs", "names"]) (vs : List V) (H : Hp) (Q : VK) (E : XK) (h : sp_Lookup_leans R vs H Q E) : t_Lookup_leans R { nx := fun _ H' => Q .non H', rt := Q } (L2.start ["self", "table", "behind", "name"] vs) H := by
  obtain ⟨s, tv, rfl, x, o, th, ns, p, F, t, fv, rfl, rfl, ht, ⟨q, ho, hn, hx, hoo, hth⟩, dF, post⟩ := h
  obtain ⟨C1, dx1, fs1, e0, c0, n0, l0⟩ := fld_r2 (m := "theirs") (v := .str th) ho k (by decide) rfl
  refine ⟨_, rfl, p, C1, dx1, fs1, _, rfl, e0, c0, n0, l0, (show 1 ≤ sizeLine by decide), fun r1 h1 => ?_⟩
  have g1 : Gr F0 H (upd H r1 (.lst [.str th])) := .new h1
  obtain ⟨C', dx, fs, e1, c1, n1, l1⟩ := fld_r2 (m := "names") (v := .ref q) (ho.gr g1.of0) k (by decide) rfl
  refine ⟨_, rfl, p, C', dx, fs, _, rfl, e1, c1, n1, l1, r1, q, _, _, rfl, rfl, .of upd_same, .of (hn.gr g1.of0).at_, ?_, fun r2 h2 => ⟨r2, rfl, ⟨_, .of upd_same⟩, fun D hD => ?_⟩⟩
  · rw [List.length_map]
    exact line1 (by have := hn.few; show 1 + ns.length ≤ 1000; omega)
  have d1 := dF.gr g1
  have o1 := ho.gr g1.of0
  clear e1
  generalize upd H r1 (.lst [.str th]) = H1 at *
  have g2 : Gr F0 H1 (upd H1 r2 (.lst ([.str th] ++ ns.map V.str))) := .new h2
  have e2 : upd H1 r2 (.lst ([.str th] ++ ns.map V.str)) r2 = some (.lst ((th :: ns).map V.str)) := upd_same
  have d2 := d1.gr g2
  have o2 := o1.gr g2.of0
  generalize upd H1 r2 (.lst ([.str th] ++ ns.map V.str)) = H2 at *
  refine names_lc (F := F) e2 (by have := hn.few; show ns.length + 1 ≤ 1000; omega) (pairD o) d2 hD (fun z H3 Qe hz g3 d3 k3 => ?_) fun ys H3 g3 e3 i3 => ?_
  · obtain ⟨C1, dx1, fs1, e0, c0, n0, l0⟩ := fld_r2 (m := "other") (v := .str o) (o2.gr (gr_in g3 hD)) k (by decide) rfl
    refine ⟨rfl, _, rfl, p, C1, dx1, fs1, _, rfl, e0, c0, n0, l0, ⟨_, rfl, (show 2 ≤ sizeLine by decide), fun r hr => ?_⟩⟩
    exact k3 _ _ (.new hr) (im_pair hr d3)
  refine ⟨_, rfl, _, rfl, fld_rd (v := .str x) (o2.gr g3.of0) k (by decide) rfl ⟨(show 2 ≤ sizeLine by decide), fun r3 h3 => ⟨(show 1 ≤ sizeLine by decide), fun r4 h4 => ?_⟩⟩⟩
  have d3 := d2.gr g3
  have g4 : Gr F0 H3 (upd H3 r3 (.tup [.str t, .str x])) := .new h3
  have i4 : Im R.K F _ _ _ := im_pair (K := R.K) (t := t) (n := x) h3 d3
  have e4 := g4.keep D _ e3 id
  have d4 := d3.gr g4
  have i3' := i3.gr g4.of0
  generalize upd H3 r3 (.tup [.str t, .str x]) = H4 at *
  have g5 : Gr F0 H4 (upd H4 r4 (.lst [.ref r3])) := .new h4
  have hlen : ys.length ≤ 7 := by
    rw [i3.len, List.length_map]
    have := hn.few
    show ns.length + 1 ≤ 7
    omega
  refine ⟨_, rfl, r4, D, _, _, rfl, rfl, .of upd_same, .of (g5.keep D _ e4 id), line1 (by show 1 + ys.length ≤ 1000; omega), fun r5 h5 => ?_⟩
  have d5 := d4.gr g5
  have i5 := i4.gr g5.of0
  have i6 := i3'.gr g5.of0
  generalize upd H4 r4 (.lst [.ref r3]) = H5 at *
  have g6 : Gr F0 H5 (upd H5 r5 (.lst ([.ref r3] ++ ys))) := .new h5
  have i7 : Im R.K F _ _ (.list (pairD t x :: (th :: ns).map (pairD o))) := Im.new_lst (K := R.K) h5 d5 (.cons i5 i6)
  refine leans_names (F := F) (t := t) rfl i7 (d5.gr g6) (fun d hd => ?_) (by have := hn.few; show ((th :: ns).map (pairD o)).length + 1 ≤ 1000; rw [List.length_map]; show ns.length + 1 + 1 ≤ 1000; omega) fun w H' g' hw => post w H' (g1.trans (g2.trans (g3.trans (g4.trans (g5.trans (g6.trans g')))))) hw
  rcases List.mem_cons.mp hd with e | hd
  · exact ⟨_, _, ht, hx, e⟩
  · obtain ⟨z, hz, rfl⟩ := List.mem_map.mp hd
    refine ⟨_, _, hoo, ?_, rfl⟩
    rcases List.mem_cons.mp hz with e | hz
    · rw [e]
      exact hth
    · exact hn.ok z hz
theorem pu_Mend_leans {R : Rt} (k : ClsF R.K "Mend" ["function", "name"]) (vs : List V) (H : Hp) (Q : VK) (E : XK) (h : sp_Mend_leans R vs H Q E) : t_Mend_leans R { nx := fun _ H' => Q .non H', rt := Q } (L2.start ["self", "table"] vs) H := by
  obtain ⟨s, tv, rfl, x, p, F, t, fv, rfl, rfl, ht, ⟨ho, _⟩, dF, post⟩ := h
  refine ⟨_, rfl, _, rfl, fld_rd (v := .str x) ho k (by decide) rfl ⟨(show 2 ≤ sizeLine by decide), fun r1 h1 => ⟨(show 1 ≤ sizeLine by decide), fun r2 h2 => ?_⟩⟩⟩
  have g1 : Gr F0 H (upd H r1 (.tup [.str t, .str x])) := .new h1
  have d1 := dF.gr g1
  have i1 : Im R.K F _ _ _ := im_pair (K := R.K) (t := t) (n := x) h1 dF
  exact post _ _ (g1.trans (.new h2)) (Im.new_lst h2 d1 (.cons i1 .nil))
/-! ### gathering -/
theorem ObjAt.after {K : PySem.W.Frag} {Ft Ft' O : FS} {H H' : Hp} {p : Addr} {C : Str} {al : List (Str × V)} (h : ObjAt K (Un2 Ft O) H p C al) (g : Gr Ft H H') (w : Wk Ft Ft' H) : ObjAt K (Un2 Ft' O) H' p C al := by
  obtain ⟨⟨dx, fs, e, l⟩, n⟩ := h
  refine ⟨⟨dx, fs, g.keep p _ e (fun z => n (.inl z)), l⟩, fun z => ?_⟩
  rcases z with z | z
  · rcases w p z with z | z
    · exact n (.inl z)
    · rw [e] at z
      cases z
  · exact n (.inr z)
theorem NamesAt.after {Ft Ft' O : FS} {H H' : Hp} {q : Addr} {ns : List Str} (h : NamesAt (Un2 Ft O) H q ns) (g : Gr Ft H H') (w : Wk Ft Ft' H) : NamesAt (Un2 Ft' O) H' q ns := by
  obtain ⟨e, n, a, b⟩ := h
  refine ⟨g.keep q _ e (fun z => n (.inl z)), fun z => ?_, a, b⟩
  rcases z with z | z
  · rcases w q z with z | z
    · exact n (.inl z)
    · rw [e] at z
      cases z
  · exact n (.inr z)
theorem RAt.after {K : PySem.W.Frag} {Ft Ft' O : FS} {H H' : Hp} {p : Addr} {fv : V} (g : Gr Ft H H') (w : Wk Ft Ft' H) : ∀ {r : RuleD}, RAt K (Un2 Ft O) H p fv r → RAt K (Un2 Ft' O) H' p fv r
  | .cells _, ⟨q, h1, h2⟩ => ⟨q, h1.after g w, h2.after g w⟩
  | .above _ _, ⟨q, h1, h2, h3⟩ => ⟨q, h1.after g w, h2.after g w, h3⟩
  | .group _ _, ⟨h1, h2⟩ => ⟨h1.after g w, h2⟩
  | .lookup _ _ _ _, ⟨q, h1, h2, h3⟩ => ⟨q, h1.after g w, h2.after g w, h3⟩
  | .mend _, ⟨h1, h2⟩ => ⟨h1.after g w, h2⟩
theorem After.of {α : Type} {K : PySem.W.Frag} {Rs : Res α} {Ft O : FS} {H H1 : Hp} {r : PyData × α} {Q : VK} (h : After K Rs Ft O H r Q) (g : Gr F0 H H1) : After K Rs Ft O H1 r Q := fun w Ft' H' hJ g1 w1 d1 i1 =>
  h w Ft' H' hJ ((g.of0).trans g1) (fun b hb => (w1 b hb).imp id (g.back b)) d1 i1
theorem After.of2 {α : Type} {K : PySem.W.Frag} {Rs : Res α} {Ft Ft1 O : FS} {H H1 : Hp} {r : PyData × α} {Q : VK} (h : After K Rs Ft O H r Q) (g : Gr Ft H H1) (w : Wk Ft Ft1 H) : After K Rs Ft1 O H1 r Q := fun u Ft' H' hJ g1 w1 d1 i1 =>
  h u Ft' H' hJ (g.trans2 g1 w) (wk_trans w w1 g) d1 i1
theorem names_lk {K : PySem.W.Frag} {g : TG} {te : TE} {vs : List Nat} {σ : L2.St} {H1 : Hp} {D : Addr} {Qd : Hp → Prop} {F : FS} {q : Addr} {ns : List Str} (nd : H1 q = some (.lst (ns.map V.str))) (hl : ns.length ≤ 1000) (es : Str → Spot) (dF : Dom F H1) (hD : H1 D = none)
    (hs : ∀ x H (Qe : VK), x ∈ ns → Gr (fun b => b = D) H1 H → Dom (Un2 F fun b => b = D) H → (∀ y H'', Gr F0 H H'' → Im K (Un2 F fun b => b = D) H'' y (spotD (es x)) → Qe y H'') → g (.str x) (wipe σ vs) H fun σ2 H2 => wipe σ2 vs = wipe σ vs ∧ te σ2 H2 Qe)
    (hd : ∀ H, Gr F0 H1 H → Im K F H (.ref D) (.list ((ns.map es).map spotD)) → Qd H) :
    ∃ W : Nat → Nat → Hp → Prop, (∃ m, W 0 m (upd H1 D (.lst []))) ∧ ∀ i m H, W i m H →
      ((Itl K q).stop i H ∧ Qd H) ∨ ((Itl K q).go i H ∧ ∃ Nx : Hp → Prop, (∀ H', Nx H' → ∃ m', m' < m ∧ W (i + 1) m' H') ∧ ∀ x H', (Itl K q).yld i H x H' → g x (wipe σ vs) H' fun σ2 H2 => wipe σ2 vs = wipe σ vs ∧ tYes σ2 H2 fun b H3 =>
        if b = true then te σ2 H3 fun y H4 => ∃ acc, H4 D = some (.lst acc) ∧ acc.length < sizeLine ∧ Nx (upd H4 D (.lst (acc ++ [y]))) else Nx H3) :=
  names_lc (F := F) nd hl (fun x => spotD (es x)) dF hD hs fun ys H g e i => hd H g (by
    rw [List.map_map]
    exact .lst (.of e (notF dF hD)) i)
theorem im_spot {K : PySem.W.Frag} {F : FS} {H : Hp} {p : Addr} {t n : Str} {i : Int} (h : H p = none) (d : Dom F H) : Im K F (upd H p (.tup [.str t, .str n, .int i])) (.ref p) (spotD (t, n, i)) := Im.new_tup h d (.cons (.str _) (.cons (.str _) (.cons (.int _) .nil)))
theorem pu_Cells_gather {R : Rt} {kx : Nat} (k : ClsF R.K "Cells" ["function", "names"]) (vs : List V) (H : Hp) (Q : VK) (E : XK) (h : sp_Cells_gather R kx vs H Q E) :
    t_Cells_gather R kx { nx := fun _ H' => Q .non H', rt := Q } (L2.start ["self", "look", "many", "table", "column", "place", "name"] vs) H := by
  obtain ⟨s, fl, fm, tv, cv, pv, rfl, ns, α, Rs, lk, mn, D, DM, fu, a, Ft, O, p, fv, t, c, pl, rfl, rfl, rfl, rfl, lo, mo, ⟨q, ho, hn⟩, hJ, hdom, hg, hm, hfu, post⟩ := h
  obtain ⟨C', dx, fs, e1, c1, n1, l1⟩ := fld_r2 (m := "names") (v := .ref q) ho k (by decide) rfl
  refine ⟨_, rfl, _, rfl, p, C', dx, fs, _, rfl, e1, c1, n1, l1, q, rfl, ⟨_, .of hn.at_⟩, fun L hL => ?_⟩
  refine names_lk (F := Un2 Ft O) hn.at_ (by have := hn.few; omega) (fun n => (t, n, pl)) hdom hL (fun x H1 Qe hx g1 d1 k1 => ?_) fun H1 g1 i1 => ?_
  · refine ⟨rfl, _, rfl, _, rfl, _, rfl, (show 3 ≤ sizeLine by decide), fun r hr => k1 _ _ (.new hr) (im_spot hr d1)⟩
  · refine ⟨_, _, rfl, α, Rs, lk, D, fu, a, Ft, O, _, lo, Rs.keep hJ g1.of0, hdom.gr g1, i1, by rw [List.length_map]; have := hn.few; omega, fun s hs => ?_, by rw [List.length_map]; exact hfu, post.of g1⟩
    obtain ⟨n, hn2, rfl⟩ := List.mem_map.mp hs
    exact hg n hn2
theorem pu_Mend_gather {R : Rt} {kx : Nat} (k : ClsF R.K "Mend" ["function", "name"]) (vs : List V) (H : Hp) (Q : VK) (E : XK) (h : sp_Mend_gather R kx vs H Q E) :
    t_Mend_gather R kx { nx := fun _ H' => Q .non H', rt := Q } (L2.start ["self", "look", "many", "table", "column", "place", "value"] vs) H := by
  obtain ⟨s, fl, fm, tv, cv, pv, rfl, n, α, Rs, lk, mn, D, DM, fu, a, Ft, O, p, fv, t, c, pl, rfl, rfl, rfl, rfl, lo, mo, ⟨ho, hn⟩, hJ, hdom, hg, hm, hfu, post⟩ := h
  obtain ⟨f, kl, sp, rfl, ck, hk, hfn, hrun⟩ := lo.run
  obtain ⟨F, hF⟩ := hfn _ _ _ _ hJ
  obtain ⟨C1, dx1, fs1, e0, c0, n0, l0⟩ := fld_r2 (m := "name") (v := .str n) ho k (by decide) rfl
  refine ⟨f, kl, sp, F, rfl, ck, hk, hF, _, rfl, _, rfl, p, C1, dx1, fs1, _, rfl, e0, c0, n0, l0, _, rfl, ?_⟩
  refine hrun a Ft O H _ _ _ _ hJ hdom hg hfu fun w Ft2 H2 hJ2 g2 hw2 hd2 hwd => ?_
  have hval := lo.val t n pl a hg
  refine ⟨_, rfl, _, rfl, _, hwd.d, isV_small hval, fun H3 g3 => ⟨_, rfl, ?_⟩⟩
  have g' : Gr Ft H H3 := g2.trans2 g3 fun _ z => z.elim
  have d3 := hd2.gr g3
  have J3 := Rs.keep hJ2 (g3.of0 (F := O))
  have w3 := hwd.gr (g3.of0 (F := Un2 Ft2 O))
  cases e : isFault (lk t n pl a).1 with
  | true =>
    refine ift rfl ⟨(show 0 ≤ sizeLine by decide), fun r1 h1 => ⟨(show 2 ≤ sizeLine by decide), fun r2 h2 => ?_⟩⟩
    have g4 : Gr F0 H3 (upd H3 r1 (.lst [])) := .new h1
    have i4 : Im R.K (Un2 Ft2 O) _ _ (.list []) := Im.new_lst (K := R.K) h1 d3 .nil
    have d4 := d3.gr g4
    generalize upd H3 r1 (.lst []) = H4 at *
    have g5 : Gr F0 H4 (upd H4 r2 (.tup [.str "call", .ref r1])) := .new h2
    have er : gatherD lk mn (.mend n) t c pl a = (callD [], (lk t n pl a).2) := if_pos e
    refine post _ Ft2 _ ?_ ((g'.trans2 g4 fun _ z => z.elim).trans2 g5 fun _ z => z.elim) hw2 (d4.gr g5) ?_
    · rw [er]
      exact Rs.keep (Rs.keep J3 g4.of0) g5.of0
    · rw [er]
      exact Im.new_tup h2 d4 (.cons (.str _) (.cons i4 .nil))
  | false =>
    refine iff' rfl ⟨_, rfl, (show 2 ≤ sizeLine by decide), fun r2 h2 => ?_⟩
    have g5 : Gr F0 H3 (upd H3 r2 (.tup [.str "value", w])) := .new h2
    have er : gatherD lk mn (.mend n) t c pl a = (valueD (lk t n pl a).1, (lk t n pl a).2) := if_neg (by rw [e]; exact Bool.false_ne_true)
    refine post _ Ft2 _ ?_ (g'.trans2 g5 fun _ z => z.elim) hw2 (d3.gr g5) ?_
    · rw [er]
      exact Rs.keep J3 g5.of0
    · rw [er]
      exact Im.new_tup h2 d3 (.cons (.str _) (.cons w3 .nil))
theorem val_sh {d : PyData} (h : isValue d = true) : SeqAt.shaped d = true := by
  rcases Bool.or_eq_true_iff.mp h with h | h
  · cases d <;> first | exact int_sh _ | cases h
  · match d, h with
    | .tuple [.str x, w], h =>
      obtain ⟨y, rfl⟩ : ∃ y, w = .str y := by
        have z := (Bool.and_eq_true_iff.mp (show (decide (x = ("fault" : Str)) && isName w) = true from h)).2
        cases w <;> first | exact ⟨_, rfl⟩ | cases z
      have h3 : (decide (x = ("fault" : Str)) && nameS y) = true := h
      have hx := of_decide_eq_true (Bool.and_eq_true_iff.mp h3).1
      have hy := (Bool.and_eq_true_iff.mp h3).2
      refine shaped_tuple (fun d hd => ?_) (fun d hd => ?_)
      · rcases List.mem_cons.mp hd with e | hd
        · rw [e, hx]; exact str_sh (by decide +kernel)
        · rw [List.mem_singleton.mp hd]; exact str_sh hy
      · rcases List.mem_cons.mp hd with e | hd
        · rw [e, str_dp]; exact Nat.zero_le _
        · rw [List.mem_singleton.mp hd, str_dp]; exact Nat.zero_le _
/-- what stands while a list at p is filled by looks -/
structure GS {α : Type} (Rs : Res α) (Ft O : FS) (p : Addr) (H : Hp) (a' : α) (Ft' : FS) (H' : Hp) : Prop where
  J : Rs.J a' Ft' (Un2 O fun b => b = p) H'
  g : Gr (Un2 Ft fun b => b = p) H H'
  w : Wk Ft Ft' H
  d : Dom (Un2 Ft' (Un2 O fun b => b = p)) H'
section
variable {α : Type} {Rs : Res α} {Ft O : FS} {p : Addr} {H : Hp} {a' : α} {Ft' : FS} {H' : Hp}
theorem GS.look (s : GS Rs Ft O p H a' Ft' H') {a2 : α} {Ft2 : FS} {H2 : Hp} (hJ : Rs.J a2 Ft2 (Un2 O fun b => b = p) H2) (g2 : Gr Ft' H' H2) (w2 : Wk Ft' Ft2 H') (d2 : Dom (Un2 Ft2 (Un2 O fun b => b = p)) H2) : GS Rs Ft O p H a2 Ft2 H2 :=
  ⟨hJ, s.g.trans2 g2 fun b z => (s.w b z).imp .inl id, wk_trans s.w w2 s.g, d2⟩
theorem GS.gr (s : GS Rs Ft O p H a' Ft' H') {H2 : Hp} (g2 : Gr (fun b => b = p) H' H2) : GS Rs Ft O p H a' Ft' H2 :=
  ⟨Rs.keep s.J (g2.mono fun _ z => .inr z), s.g.trans (g2.mono fun _ z => .inr z), s.w, s.d.gr g2⟩
theorem GS.gr0 (s : GS Rs Ft O p H a' Ft' H') {H2 : Hp} (g2 : Gr F0 H' H2) : GS Rs Ft O p H a' Ft' H2 := s.gr (g2.mono fun _ z => z.elim)
theorem GS.nf (s : GS Rs Ft O p H a' Ft' H') : ¬ Ft' p := Rs.dis s.J p (.inr rfl)
theorem GS.sub (s : GS Rs Ft O p H a' Ft' H') : Dom (Un2 Ft' O) H' := fun b hb => s.d b (hb.imp id .inl)
theorem GS.fin {K : PySem.W.Frag} {r : PyData × α} {Q : VK} {w : V} (s : GS Rs Ft O p H a' Ft' H') (post : After K Rs Ft O H r Q) (hp : H p = none) {e : PyData} (er : (e, a') = r) (i : Im K (Un2 Ft' O) H' w e) : Q w H' := by
  refine post w Ft' H' ?_ (gr_out (D := p) s.g hp) s.w s.sub ?_
  · rw [← er]
    exact Rs.wk s.J fun b hb => .inl (.inl hb)
  · rw [← er]
    exact i
theorem GS.begin {a : α} (hJ : Rs.J a Ft O H) (hd : Dom (Un2 Ft O) H) (hp : H p = none) {o : HO} : GS Rs Ft O p H a Ft (upd H p o) := by
  have gp : Gr F0 H (upd H p o) := .new hp
  refine ⟨Rs.keep (Rs.wk hJ fun b hb => hb.imp id fun e => by rw [e]; exact hp) gp.of0, (Gr.refl _ _).upd (.inl (.inr rfl)), fun b hb => .inl hb, fun b hb => ?_⟩
  rcases hb with hb | hb | hb
  · obtain ⟨o, e⟩ := hd b (.inl hb)
    exact gp.some e
  · obtain ⟨o, e⟩ := hd b (.inr hb)
    exact gp.some e
  · exact ⟨_, by rw [hb]; exact upd_same⟩
end
theorem wk_p {Ft O : FS} {p : Addr} {H : Hp} (hp : H p = none) : Wk (Un2 Ft O) (Un2 Ft (Un2 O fun b => b = p)) H := fun b hb => by
  rcases hb with hb | hb | hb
  · exact .inl (.inl hb)
  · exact .inl (.inr hb)
  · exact .inr (by rw [hb]; exact hp)
theorem wk_q {Ft O : FS} {p : Addr} {H : Hp} : Wk (Un2 Ft (Un2 O fun b => b = p)) (Un2 Ft O) H := fun _ hb => .inl (hb.imp id .inl)
theorem range_drop {n i : Nat} (h : i < n) : (List.range n).drop i = i :: (List.range n).drop (i + 1) := by
  rw [List.drop_eq_getElem_cons (by rw [List.length_range]; exact h), List.getElem_range]
theorem pu_Group_gather {R : Rt} {kx : Nat} (k : ClsF R.K "Group" ["function", "key", "name"]) (vs : List V) (H : Hp) (Q : VK) (E : XK) (h : sp_Group_gather R kx vs H Q E) :
    t_Group_gather R kx { nx := fun _ H' => Q .non H', rt := Q } (L2.start ["self", "look", "many", "table", "column", "place", "mine", "found", "at", "value"] vs) H := by
  obtain ⟨s, fl, fm, tv, cv, pv, rfl, x, y, α, Rs, lk, mn, D, DM, fu, a, Ft, O, p, fv, t, c, pl, rfl, rfl, rfl, rfl, lo, mo, ⟨ho, hx, hy⟩, hJ, hdom, hg, hm, hfu, post⟩ := h
  obtain ⟨f, kl, sp, rfl, ck, hk, hfn, hrun⟩ := lo.run
  obtain ⟨fm, km, spm, rfl, ckm, hkm, hfnm, hrunm⟩ := mo.run
  obtain ⟨F, hF⟩ := hfn _ _ _ _ hJ
  obtain ⟨C1, dx1, fs1, e0, c0, n0, l0⟩ := fld_r2 (m := "key") (v := .str x) ho k (by decide) rfl
  refine ⟨f, kl, sp, F, rfl, ck, hk, hF, _, rfl, _, rfl, p, C1, dx1, fs1, _, rfl, e0, c0, n0, l0, _, rfl, ?_⟩
  clear e0
  refine hrun a Ft O H _ _ _ _ hJ hdom hg.1 (Nat.lt_of_lt_of_le (by show 0 < 1 + _; omega) hfu) fun wm Ft2 H2 hJ2 g2 hw2 hd2 hwd => ?_
  have hval := lo.val t x pl a hg.1
  refine ⟨_, rfl, wm, rfl, _, hwd.d, isV_small hval, fun H3 g3 => ⟨_, rfl, ?_⟩⟩
  have g' : Gr Ft H H3 := g2.trans2 g3 fun _ z => z.elim
  have d3 := hd2.gr g3
  have J3 := Rs.keep hJ2 (g3.of0 (F := O))
  have w3 := hwd.gr (g3.of0 (F := Un2 Ft2 O))
  have ho3 := (ho.after g2 hw2).gr g3.of0
  have post3 := post.of2 g' hw2
  cases e : isFault (lk t x pl a).1 with
  | true =>
    refine ift rfl ⟨_, rfl, (show 2 ≤ sizeLine by decide), fun r2 h2 => ?_⟩
    have er : gatherD lk mn (.group x y) t c pl a = (valueD (lk t x pl a).1, (lk t x pl a).2) := if_pos e
    refine post3 _ Ft2 _ ?_ (Gr.new h2) (fun _ z => .inl z) (d3.gr (.new h2 : Gr F0 _ _)) ?_
    · rw [er]
      exact Rs.keep J3 (.new h2)
    · rw [er]
      exact Im.new_tup h2 d3 (.cons (.str _) (.cons w3 .nil))
  | false =>
    have er : gatherD lk mn (.group x y) t c pl a = groupGo lk t x y (lk t x pl a).1 (List.range (mn t)) [] (lk t x pl a).2 := if_neg (by rw [e]; exact Bool.false_ne_true)
    have hfu2 : 2 * mn t ≤ fu (lk t x pl a).2 := by
      have z := lo.dec t x pl a
      have z2 : 1 + 2 * mn t ≤ fu a := hfu
      omega
    generalize (lk t x pl a).2 = a2 at *
    generalize (lk t x pl a).1 = mine at *
    refine iff' rfl ⟨(show 0 ≤ sizeLine by decide), fun q hq => ?_⟩
    have S := GS.begin (Rs := Rs) (o := .lst []) J3 d3 hq
    have gq : Gr F0 H3 (upd H3 q (.lst [])) := .new hq
    have hvq : upd H3 q (.lst []) q = some (.lst []) := upd_same
    have ho4 := (ho3.wk (wk_p hq)).gr gq.of0
    have wm4 := (w3.wk (wk_p hq)).gr gq.of0
    generalize upd H3 q (.lst []) = H4 at *
    obtain ⟨Fm, hFm⟩ := hfnm _ _ _ _ S.J
    refine ⟨fm, km, spm, Fm, rfl, ckm, hkm, hFm, _, rfl, ?_⟩
    refine hrunm a2 Ft2 _ H4 t _ S.J S.d hm fun H5 g5 => ?_
    have hfew := mo.few t hm
    refine ⟨_, rfl, by omega, by omega, ?_⟩
    rw [Int.toNat_natCast]
    refine for_range (fun i σ H' => ∃ acc vacc a' Ft' w8 w9, σ = [some (.ref p), some (.ref f), some (.ref fm), some (.str t), some (.str c), some (.int pl), some wm, some (.ref q), w8, w9] ∧ GS Rs Ft2 O q H3 a' Ft' H' ∧
      H' q = some (.lst vacc) ∧ ImAll R.K (Un2 Ft' (Un2 O fun b => b = q)) H' vacc acc ∧ Im R.K (Un2 Ft' (Un2 O fun b => b = q)) H' wm mine ∧ ObjAt R.K (Un2 Ft' (Un2 O fun b => b = q)) H' p "Group" [("name", .str y), ("key", .str x), ("function", fv)] ∧
      groupGo lk t x y mine ((List.range (mn t)).drop i) acc a' = gatherD lk mn (.group x y) t c pl a ∧ acc.length ≤ i ∧ 2 * mn t ≤ fu a' + 2 * i) ?_ ?_ ?_
    · exact ⟨[], [], a2, Ft2, none, none, rfl, S.gr0 g5, g5.keep q _ hvq id, .nil, wm4.gr g5.of0, ho4.gr g5.of0, er.symm, Nat.le_refl _, hfu2⟩
    · rintro i σ H' hi ⟨acc, vacc, a', Ft', w8, w9, rfl, S', hv, ha, hwm, ho', hgo, hai, hfa⟩
      rw [range_drop hi] at hgo
      unfold groupGo at hgo
      rw [Int.zero_add]
      have hDk := (hg.2 i hi).1
      have hDn := (hg.2 i hi).2
      obtain ⟨F, hF⟩ := hfn _ _ _ _ S'.J
      obtain ⟨C1, dx1, fs1, e0, c0, n0, l0⟩ := fld_r2 (m := "key") (v := .str x) ho' k (by decide) rfl
      refine ⟨f, kl, sp, F, rfl, ck, hk, hF, _, rfl, _, rfl, p, C1, dx1, fs1, _, rfl, e0, c0, n0, l0, _, rfl, ?_⟩
      have hfd := lo.dec t x (i : Int) a'
      refine hrun a' Ft' _ H' _ _ _ _ S'.J S'.d hDk (by omega) fun wk Ft6 H6 J6 g6 hw6 d6 hk6 => ?_
      have S6 := S'.look J6 g6 hw6 d6
      have hv6 := g6.keep q _ hv S'.nf
      have ha6 := ha.after g6 hw6
      have hwm6 := hwm.after g6 hw6
      have ho6 := ho'.after g6 hw6
      refine ⟨wm, rfl, _, mine, hk6.d, hwm6.d, val_sh (lo.val t x i a' hDk), val_sh hval, _, rfl, ?_⟩
      generalize hpk : lk t x (i : Int) a' = pk at *
      cases eq : PyData.eqv pk.1 mine with
      | false =>
        rw [eq, if_neg Bool.false_ne_true] at hgo
        exact iff' rfl ⟨acc, vacc, _, Ft6, _, _, rfl, S6, hv6, ha6, hwm6, ho6, hgo, Nat.le_succ_of_le hai, by omega⟩
      | true =>
        rw [eq, if_pos rfl] at hgo
        obtain ⟨F, hF⟩ := hfn _ _ _ _ S6.J
        obtain ⟨C1, dx1, fs1, e0, c0, n0, l0⟩ := fld_r2 (m := "name") (v := .str y) ho6 k (by decide) rfl
        refine ift rfl ⟨f, kl, sp, F, rfl, ck, hk, hF, _, rfl, _, rfl, p, C1, dx1, fs1, _, rfl, e0, c0, n0, l0, _, rfl, ?_⟩
        have hfe := lo.dec t y (i : Int) pk.2
        refine hrun _ Ft6 _ H6 _ _ _ _ S6.J S6.d hDn (by omega) fun wn Ft7 H7 J7 g7 hw7 d7 hk7 => ?_
        have S7 := S6.look J7 g7 hw7 d7
        have hv7 := g7.keep q _ hv6 S6.nf
        have ha7 := ha6.after g7 hw7
        have hwm7 := hwm6.after g7 hw7
        have ho7 := ho6.after g7 hw7
        refine ⟨_, rfl, wn, rfl, _, hk7.d, isV_small (lo.val t y i _ hDn), fun H8 g8 => ⟨_, rfl, ?_⟩⟩
        generalize hpn : lk t y (i : Int) pk.2 = pn at *
        have S8 := S7.gr0 g8
        have hv8 := g8.keep q _ hv7 id
        have hk8 := hk7.gr (g8.of0 (F := Un2 Ft7 (Un2 O fun b => b = q)))
        cases ef : isFault pn.1 with
        | true =>
          rw [ef, if_pos rfl] at hgo
          refine ift rfl ⟨_, rfl, (show 2 ≤ sizeLine by decide), fun r2 h2 => ?_⟩
          refine (S8.gr0 (.new h2)).fin post3 hq hgo ?_
          exact Im.new_tup h2 S8.sub (.cons (.str _) (.cons (hk8.wk wk_q) .nil))
        | false =>
          rw [ef, if_neg Bool.false_ne_true] at hgo
          refine iff' rfl ⟨_, rfl, .inl ⟨rfl, _, .of hv8⟩, _, rfl, q, vacc, wn, rfl, rfl, hv8, ?_, ?_⟩
          · have z := ha.len
            have z2 := mo.few t hm
            exact Nat.lt_of_lt_of_le (by omega : vacc.length < 2 ^ 20) (by decide)
          · have g9 : Gr (fun b => b = q) H8 (upd H8 q (.lst (vacc ++ [wn]))) := (Gr.refl _ _).upd (.inl rfl)
            have g9' : Gr (Un2 Ft7 (Un2 O fun b => b = q)) H8 (upd H8 q (.lst (vacc ++ [wn]))) := g9.mono fun _ z => .inr (.inr z)
            exact ⟨acc ++ [pn.1], vacc ++ [wn], _, Ft7, _, _, rfl, S8.gr g9, upd_same, ((ha7.gr g8.of0).snoc hk8).gr g9', (hwm7.gr g8.of0).gr g9', (ho7.gr g8.of0).gr g9', hgo, by rw [List.length_append]; exact Nat.succ_le_succ hai, by omega⟩
    · rintro σ H' ⟨acc, vacc, a', Ft', w8, w9, rfl, S', hv, ha, hwm, ho', hgo, hai, hfa⟩
      rw [List.drop_of_length_le (by rw [List.length_range]; exact Nat.le_refl _)] at hgo
      refine ⟨_, rfl, (show 2 ≤ sizeLine by decide), fun r2 h2 => ?_⟩
      refine (S'.gr0 (.new h2)).fin post3 hq hgo ?_
      exact Im.new_tup h2 S'.sub (.cons (.str _) (.cons (.lst (.of hv (fun z => z.elim S'.nf fun z => notF d3 hq (.inr z))) (ha.wk wk_q)) .nil))
/-- what stands between looks -/
structure GT {α : Type} (Rs : Res α) (Ft O : FS) (H : Hp) (a' : α) (Ft' : FS) (H' : Hp) : Prop where
  J : Rs.J a' Ft' O H'
  g : Gr Ft H H'
  w : Wk Ft Ft' H
  d : Dom (Un2 Ft' O) H'
section
variable {α : Type} {Rs : Res α} {Ft O : FS} {H : Hp} {a' : α} {Ft' : FS} {H' : Hp}
theorem GT.look (s : GT Rs Ft O H a' Ft' H') {a2 : α} {Ft2 : FS} {H2 : Hp} (hJ : Rs.J a2 Ft2 O H2) (g2 : Gr Ft' H' H2) (w2 : Wk Ft' Ft2 H') (d2 : Dom (Un2 Ft2 O) H2) : GT Rs Ft O H a2 Ft2 H2 :=
  ⟨hJ, s.g.trans2 g2 s.w, wk_trans s.w w2 s.g, d2⟩
theorem GT.gr0 (s : GT Rs Ft O H a' Ft' H') {H2 : Hp} (g2 : Gr F0 H' H2) : GT Rs Ft O H a' Ft' H2 :=
  ⟨Rs.keep s.J g2.of0, s.g.trans g2.of0, s.w, s.d.gr g2⟩
theorem GT.fin {K : PySem.W.Frag} {r : PyData × α} {Q : VK} {w : V} (s : GT Rs Ft O H a' Ft' H') (post : After K Rs Ft O H r Q) {e : PyData} (er : (e, a') = r) (i : Im K (Un2 Ft' O) H' w e) : Q w H' := by
  refine post w Ft' H' ?_ s.g s.w s.d ?_
  · rw [← er]
    exact s.J
  · rw [← er]
    exact i
theorem GT.begin {a : α} (hJ : Rs.J a Ft O H) (hd : Dom (Un2 Ft O) H) : GT Rs Ft O H a Ft H := ⟨hJ, .refl _ _, fun _ h => .inl h, hd⟩
end
theorem pu_Lookup_gather {R : Rt} {kx : Nat} (k : ClsF R.K "Lookup" ["function", "key", "other", "theirs", "names"]) (vs : List V) (H : Hp) (Q : VK) (E : XK) (h : sp_Lookup_gather R kx vs H Q E) :
    t_Lookup_gather R kx { nx := fun _ H' => Q .non H', rt := Q } (L2.start ["self", "look", "many", "table", "column", "place", "mine", "at", "name"] vs) H := by
  obtain ⟨s, fl, fm, tv, cv, pv, rfl, x, o, th, ns, α, Rs, lk, mn, D, DM, fu, a, Ft, O, p, fv, t, c, pl, rfl, rfl, rfl, rfl, lo, mo, ⟨nq, ho, hn, hx, hoo, hth⟩, hJ, hdom, hg, hm, hfu, post⟩ := h
  obtain ⟨f, kl, sp, rfl, ck, hk, hfn, hrun⟩ := lo.run
  obtain ⟨fm, km, spm, rfl, ckm, hkm, hfnm, hrunm⟩ := mo.run
  obtain ⟨F, hF⟩ := hfn _ _ _ _ hJ
  obtain ⟨C1, dx1, fs1, e0, c0, n0, l0⟩ := fld_r2 (m := "key") (v := .str x) ho k (by decide) rfl
  refine ⟨f, kl, sp, F, rfl, ck, hk, hF, _, rfl, _, rfl, p, C1, dx1, fs1, _, rfl, e0, c0, n0, l0, _, rfl, ?_⟩
  clear e0
  refine hrun a Ft O H _ _ _ _ hJ hdom hg.1 (Nat.lt_of_lt_of_le (by show 0 < 1 + _; omega) hfu) fun wm Ft2 H2 hJ2 g2 hw2 hd2 hwd => ?_
  have hval := lo.val t x pl a hg.1
  refine ⟨_, rfl, wm, rfl, _, hwd.d, isV_small hval, fun H3 g3 => ⟨_, rfl, ?_⟩⟩
  have S3 := ((GT.begin hJ hdom).look hJ2 g2 hw2 hd2).gr0 g3
  have w3 := hwd.gr (g3.of0 (F := Un2 Ft2 O))
  have ho3 := (ho.after g2 hw2).gr g3.of0
  have hn3 := (hn.after g2 hw2).gr g3.of0
  cases e : isFault (lk t x pl a).1 with
  | true =>
    refine ift rfl ⟨_, rfl, (show 2 ≤ sizeLine by decide), fun r2 h2 => ?_⟩
    have er : gatherD lk mn (.lookup x o th ns) t c pl a = (valueD (lk t x pl a).1, (lk t x pl a).2) := if_pos e
    exact (S3.gr0 (.new h2)).fin post er.symm (Im.new_tup h2 S3.d (.cons (.str _) (.cons w3 .nil)))
  | false =>
    have er : gatherD lk mn (.lookup x o th ns) t c pl a = lookupGo lk o th ns (lk t x pl a).1 (List.range (mn o)) (lk t x pl a).2 := if_neg (by rw [e]; exact Bool.false_ne_true)
    have hfu2' : mn o + ns.length ≤ fu (lk t x pl a).2 := by
      have z := lo.dec t x pl a
      have z2 : 1 + (mn o + ns.length) ≤ fu a := hfu
      omega
    generalize (lk t x pl a).2 = a2 at *
    generalize (lk t x pl a).1 = mine at *
    have hfu2 : mn o + ns.length ≤ fu a2 := hfu2'
    obtain ⟨Fm, hFm⟩ := hfnm _ _ _ _ S3.J
    obtain ⟨C1, dx1, fs1, e0, c0, n0, l0⟩ := fld_r2 (m := "other") (v := .str o) ho3 k (by decide) rfl
    refine iff' rfl ⟨fm, km, spm, Fm, rfl, ckm, hkm, hFm, _, rfl, p, C1, dx1, fs1, _, rfl, e0, c0, n0, l0, ?_⟩
    refine hrunm a2 Ft2 _ H3 o _ S3.J S3.d hm fun H5 g5 => ?_
    have hfew := mo.few o hm
    refine ⟨_, rfl, by omega, by omega, ?_⟩
    rw [Int.toNat_natCast]
    refine for_range (fun i σ H' => ∃ a' Ft' w7 w8, σ = [some (.ref p), some (.ref f), some (.ref fm), some (.str t), some (.str c), some (.int pl), some wm, w7, w8] ∧ GT Rs Ft O H a' Ft' H' ∧
      Im R.K (Un2 Ft' O) H' wm mine ∧ ObjAt R.K (Un2 Ft' O) H' p "Lookup" [("names", .ref nq), ("theirs", .str th), ("other", .str o), ("key", .str x), ("function", fv)] ∧ NamesAt (Un2 Ft' O) H' nq ns ∧
      lookupGo lk o th ns mine ((List.range (mn o)).drop i) a' = gatherD lk mn (.lookup x o th ns) t c pl a ∧ mn o + ns.length ≤ fu a' + i) ?_ ?_ ?_
    · exact ⟨a2, Ft2, none, none, rfl, S3.gr0 g5, w3.gr g5.of0, ho3.gr g5.of0, hn3.gr g5.of0, er.symm, hfu2⟩
    · rintro i σ H' hi ⟨a', Ft', w7, w8, rfl, S', hwm, ho', hn', hgo, hfa⟩
      rw [range_drop hi] at hgo
      unfold lookupGo at hgo
      rw [Int.zero_add]
      have hDk := (hg.2 i hi).1
      have hDn := (hg.2 i hi).2
      obtain ⟨F, hF⟩ := hfn _ _ _ _ S'.J
      obtain ⟨C1, dx1, fs1, e0, c0, n0, l0⟩ := fld_r2 (m := "other") (v := .str o) ho' k (by decide) rfl
      obtain ⟨C2, dx2, fs2, e2, c2, n2, l2⟩ := fld_r2 (m := "theirs") (v := .str th) ho' k (by decide) rfl
      refine ⟨f, kl, sp, F, rfl, ck, hk, hF, _, rfl, p, C1, dx1, fs1, _, rfl, e0, c0, n0, l0, _, rfl, p, C2, dx2, fs2, _, rfl, e2, c2, n2, l2, _, rfl, ?_⟩
      have hfd := lo.dec o th (i : Int) a'
      refine hrun a' Ft' _ H' _ _ _ _ S'.J S'.d hDk (by omega) fun wk Ft6 H6 J6 g6 hw6 d6 hk6 => ?_
      have S6 := S'.look J6 g6 hw6 d6
      have hwm6 := hwm.after g6 hw6
      have ho6 := ho'.after g6 hw6
      have hn6 := hn'.after g6 hw6
      refine ⟨wm, rfl, _, mine, hk6.d, hwm6.d, val_sh (lo.val o th i a' hDk), val_sh hval, _, rfl, ?_⟩
      generalize hpk : lk o th (i : Int) a' = pk at *
      cases eq : PyData.eqv pk.1 mine with
      | false =>
        rw [eq, if_neg Bool.false_ne_true] at hgo
        exact iff' rfl ⟨_, Ft6, _, _, rfl, S6, hwm6, ho6, hn6, hgo, by omega⟩
      | true =>
        rw [eq, if_pos rfl] at hgo
        obtain ⟨C1, dx1, fs1, e0, c0, n0, l0⟩ := fld_r2 (m := "names") (v := .ref nq) ho6 k (by decide) rfl
        refine ift rfl ⟨_, rfl, _, rfl, p, C1, dx1, fs1, _, rfl, e0, c0, n0, l0, nq, rfl, ⟨_, .of hn6.at_⟩, fun L hL => ?_⟩
        refine names_lk (F := Un2 Ft6 O) hn6.at_ (by have := hn6.few; omega) (fun n => (o, n, (i : Int))) S6.d hL (fun z H7 Qe hz g7 d7 k7 => ?_) fun H7 g7 i7 => ?_
        · obtain ⟨C2, dx2, fs2, e2, c2, n2, l2⟩ := fld_r2 (m := "other") (v := .str o) (ho6.gr (gr_in g7 hL)) k (by decide) rfl
          exact ⟨rfl, _, rfl, p, C2, dx2, fs2, _, rfl, e2, c2, n2, l2, _, rfl, _, rfl, (show 3 ≤ sizeLine by decide), fun r hr => k7 _ _ (.new hr) (im_spot hr d7)⟩
        · have S7 := S6.gr0 g7
          refine ⟨_, _, rfl, α, Rs, lk, D, fu, _, Ft6, O, _, lo, S7.J, S7.d, i7, by rw [List.length_map]; have := hn6.few; omega, fun s hs => ?_, by rw [List.length_map]; omega, ?_⟩
          · obtain ⟨n, hn2, rfl⟩ := List.mem_map.mp hs
            exact hDn n hn2
          · rw [hgo]
            exact post.of2 S7.g S7.w
    · rintro σ H' ⟨a', Ft', w7, w8, rfl, S', hwm, ho', hn', hgo, hfa⟩
      rw [List.drop_of_length_le (by rw [List.length_range]; exact Nat.le_refl _)] at hgo
      refine ⟨_, rfl, "lacks", Un2 Ft' O, rfl, by decide +kernel, S'.d, fun w H6 g6 i6 => ⟨(show 2 ≤ sizeLine by decide), fun r2 h2 => ?_⟩⟩
      exact ((S'.gr0 g6).gr0 (.new h2)).fin post hgo (Im.new_tup h2 (S'.d.gr g6) (.cons (.str _) (.cons i6 .nil)))
theorem lookedD_or {α : Type} (lk : Lk α) : ∀ (ss : List Spot) (acc : List PyData) (a : α), (∃ ds b, lookedD lk ss acc a = (callD ds, b) ∧ ds.length ≤ acc.length + ss.length) ∨ ∃ d b, lookedD lk ss acc a = (valueD d, b)
  | [], acc, a => .inl ⟨acc, a, rfl, Nat.le_refl _⟩
  | s :: ss, acc, a => by
    rw [lookedD_app]
    split
    · exact .inr ⟨_, _, rfl⟩
    · rcases lookedD_or lk ss (acc ++ [(lk s.1 s.2.1 s.2.2 a).1]) (lk s.1 s.2.1 s.2.2 a).2 with ⟨ds, b, e, l⟩ | h
      · refine .inl ⟨ds, b, e, ?_⟩
        rw [List.length_append] at l
        show ds.length ≤ acc.length + (ss.length + 1)
        have : [(lk s.1 s.2.1 s.2.2 a).1].length = 1 := rfl
        omega
      · exact .inr h
theorem aboveD_value {α : Type} (i : Int) (d : PyData) (b : α) : aboveD i (valueD d, b) = (valueD d, b) := by
  cases d <;> rfl
theorem aboveD_call {α : Type} (i : Int) (ds : List PyData) (b : α) : aboveD i (callD ds, b) = (callD (.int i :: ds), b) := by
  show (if ("call" : Str) = "call" then (callD (.int i :: ds), b) else (.tuple [.str "call", .list ds], b)) = _
  exact if_pos rfl
theorem im_two {K : PySem.W.Frag} {F : FS} {H : Hp} {v : V} {x : Str} {d : PyData} (h : Im K F H v (.tuple [.str x, d])) : ∃ b u, v = .ref b ∧ SqT K H b [.str x, u] ∧ Im K F H u d := by
  obtain ⟨b, xs, rfl, h1, h2⟩ := h.to_tup
  cases h2 with
  | cons k1 k2 =>
    cases k1
    cases k2 with
    | cons k2 k3 =>
      cases k3
      exact ⟨b, _, rfl, h1.sq, k2⟩
theorem pu_Above_gather {R : Rt} {kx : Nat} (k : ClsF R.K "Above" ["function", "names", "first"]) (vs : List V) (H : Hp) (Q : VK) (E : XK) (h : sp_Above_gather R kx vs H Q E) :
    t_Above_gather R kx { nx := fun _ H' => Q .non H', rt := Q } (L2.start ["self", "look", "many", "table", "column", "place", "cells", "kind", "told", "name"] vs) H := by
  obtain ⟨s, fl, fm, tv, cv, pv, rfl, i, ns, α, Rs, lk, mn, D, DM, fu, a, Ft, O, p, fv, t, c, pl, rfl, rfl, rfl, rfl, lo, mo, ⟨q, ho, hn, hi⟩, hJ, hdom, hg, hm, hfu, post⟩ := h
  obtain ⟨C', dx, fs, e1, c1, n1, l1⟩ := fld_r2 (m := "names") (v := .ref q) ho k (by decide) rfl
  refine ⟨_, rfl, p, C', dx, fs, _, rfl, e1, c1, n1, l1, q, rfl, ⟨_, .of hn.at_⟩, fun L hL => ?_⟩
  refine names_lc (K := R.K) (F := Un2 Ft O) hn.at_ (by have := hn.few; omega) (fun n => spotD (t, n, pl)) hdom hL (fun x H1 Qe hx g1 d1 k1 => ?_) fun ys H1 g1 e2 i1 => ?_
  · refine ⟨rfl, _, rfl, _, rfl, _, rfl, (show 3 ≤ sizeLine by decide), fun r hr => k1 _ _ (.new hr) (im_spot hr d1)⟩
  have S1 := (GT.begin hJ hdom).gr0 g1
  have hnf := notF hdom hL
  have post1 := post.of g1
  have hlen : ys.length ≤ 6 := by
    rw [i1.len, List.length_map]
    exact hn.few
  have hmap : ns.map (fun n => spotD (t, n, pl)) = (ns.map fun n => (t, n, pl)).map spotD := by rw [List.map_map] <;> rfl
  rw [hmap] at i1
  refine ⟨_, rfl, _, _, rfl, rfl, _, rfl, ?_⟩
  by_cases hp : pl > 0
  · refine ift (decide_eq_true hp) ?_
    refine ⟨_, rfl, _, rfl, _, rfl, _, rfl, _, _, rfl, rfl, (show 3 ≤ sizeLine by decide), fun r1 h1 => ⟨(show 1 ≤ sizeLine by decide), fun r2 h2 => ?_⟩⟩
    have S2 := S1.gr0 (.new h1 (o := .tup [.str t, .str c, .int (pl - 1)]))
    have g2 : Gr F0 H1 (upd H1 r1 (.tup [.str t, .str c, .int (pl - 1)])) := .new h1
    have i2 : Im R.K (Un2 Ft O) _ _ _ := im_spot (K := R.K) (t := t) (n := c) (i := pl - 1) h1 S1.d
    have i1' := i1.gr g2.of0
    have e3 := g2.keep L _ e2 id
    generalize upd H1 r1 (.tup [.str t, .str c, .int (pl - 1)]) = H2 at *
    have g3 : Gr F0 H2 (upd H2 r2 (.lst [.ref r1])) := .new h2
    refine ⟨_, rfl, r2, L, _, _, rfl, rfl, .of upd_same, .of (g3.keep L _ e3 id), line1 (by show 1 + ys.length ≤ 1000; omega), fun r3 h3 => ?_⟩
    have S3 := S2.gr0 g3
    have i2' := i2.gr g3.of0
    have i1'' := i1'.gr g3.of0
    generalize upd H2 r2 (.lst [.ref r1]) = H3 at *
    have g4 : Gr F0 H3 (upd H3 r3 (.lst ([.ref r1] ++ ys))) := .new h3
    have S4 := S3.gr0 g4
    have i4 : Im R.K (Un2 Ft O) _ _ (.list (((t, c, pl - 1) :: ns.map fun n => (t, n, pl)).map spotD)) := Im.new_lst (K := R.K) h3 S3.d (.cons i2' i1'')
    have er : gatherD lk mn (.above i ns) t c pl a = lookedD lk ((t, c, pl - 1) :: ns.map fun n => (t, n, pl)) [] a := if_pos hp
    rw [er] at post1
    refine ⟨_, _, rfl, α, Rs, lk, D, fu, a, Ft, O, _, lo, S4.J, S4.d, i4, ?_, fun s hs => ?_, by show (ns.map _).length + 1 ≤ fu a; rw [List.length_map]; exact hfu, post1.of (g2.trans (g3.trans g4))⟩
    · show (ns.map _).length + 1 ≤ 1000
      rw [List.length_map]
      have := hn.few
      omega
    · rcases List.mem_cons.mp hs with e | hs
      · rw [e]
        exact hg.1 hp
      · obtain ⟨n, hn2, rfl⟩ := List.mem_map.mp hs
        exact hg.2 n hn2
  · have er : gatherD lk mn (.above i ns) t c pl a = aboveD i (lookedD lk (ns.map fun n => (t, n, pl)) [] a) := if_neg hp
    rw [er] at post
    refine iff' (decide_eq_false hp) ⟨_, rfl, _, rfl, _, _, rfl, α, Rs, lk, D, fu, a, Ft, O, ns.map fun n => (t, n, pl), lo, S1.J, S1.d, .lst (.of e2 hnf) i1, by rw [List.length_map]; have := hn.few; omega, fun s hs => ?_, by rw [List.length_map]; exact Nat.le_trans (Nat.le_succ _) hfu, fun w Ft2 H2 hJ2 g2 w2 d2 iw => ?_⟩
    · obtain ⟨n, hn2, rfl⟩ := List.mem_map.mp hs
      exact hg.2 n hn2
    have S2 := S1.look hJ2 g2 w2 d2
    have ho2 := (ho.gr g1.of0).after g2 w2
    rcases lookedD_or lk (ns.map fun n => (t, n, pl)) [] a with ⟨ds, b, e, hds⟩ | ⟨d, b, e⟩
    · rw [e] at iw post S2
      rw [aboveD_call] at post
      obtain ⟨r, u, rfl, hr, iu⟩ := im_two iw
      obtain ⟨la, xs, rfl, hl, hx⟩ := iu.to_lst
      have hxl : xs.length ≤ 6 := by
        rw [hx.len]
        rw [List.length_map] at hds
        have := hn.few
        have z : ([] : List PyData).length = 0 := rfl
        omega
      refine ⟨r, _, rfl, hr, rfl, _, _, rfl, _, _, rfl, rfl, _, rfl, rfl, _, rfl, ift (decide_eq_true rfl) ?_⟩
      obtain ⟨C1, dx1, fs1, e0, c0, n0, l0⟩ := fld_r2 (m := "first") (v := .int i) ho2 k (by decide) rfl
      refine ⟨_, rfl, p, C1, dx1, fs1, _, rfl, e0, c0, n0, l0, (show 1 ≤ sizeLine by decide), fun r1 h1 => ?_⟩
      have g3 : Gr F0 H2 (upd H2 r1 (.lst [.int i])) := .new h1
      refine ⟨_, rfl, r1, la, _, _, rfl, rfl, .of upd_same, (hl.gr g3.of0).ll, line1 (by show 1 + xs.length ≤ 1000; omega), fun r2 h2 => ⟨(show 2 ≤ sizeLine by decide), fun r3 h3 => ?_⟩⟩
      have S3 := S2.gr0 g3
      have hx3 := hx.gr (g3.of0 (F := Un2 Ft2 O))
      generalize upd H2 r1 (.lst [.int i]) = H3 at *
      have S4 := S3.gr0 (.new h2 (o := .lst ([.int i] ++ xs)))
      have i4 : Im R.K (Un2 Ft2 O) _ _ (.list (.int i :: ds)) := Im.new_lst (K := R.K) h2 S3.d (.cons (.int i) hx3)
      exact (S4.gr0 (.new h3)).fin post rfl (Im.new_tup h3 S4.d (.cons (.str _) (.cons i4 .nil)))
    · rw [e] at iw post S2
      rw [aboveD_value] at post
      obtain ⟨r, u, rfl, hr, iu⟩ := im_two iw
      refine ⟨r, _, rfl, hr, rfl, _, _, rfl, _, _, rfl, rfl, _, rfl, rfl, _, rfl, iff' (decide_eq_false (by decide +kernel)) ⟨_, rfl, _, rfl, (show 2 ≤ sizeLine by decide), fun r3 h3 => ?_⟩⟩
      exact (S2.gr0 (.new h3)).fin post rfl (Im.new_tup h3 S2.d (.cons (.str _) (.cons iu .nil)))
/-- a comprehension of data of a kind -/
theorem lc_any {K : PySem.W.Frag} {J : It} {n : Nat} {G : Hp → Prop} {Y : Nat → Hp → V → Hp → Prop} (w : Walk J n G Y) {g : TG} {te : TE} {vs : List Nat} {σ : L2.St} {H1 : Hp} {D : Addr} {Qd : Hp → Prop} (F : FS) (Pd : PyData → Prop) (hn : n ≤ sizeLine) (dF : Dom F H1) (hD : H1 D = none)
    (hG : ∀ H, Gr (fun b => b = D) H1 H → G H)
    (hs : ∀ i x H H' (Qe : VK), i < n → Gr (fun b => b = D) H1 H → Dom (Un2 F fun b => b = D) H → Y i H x H' → (∀ y d H'', Gr F0 H H'' → Pd d → Im K (Un2 F fun b => b = D) H'' y d → Qe y H'') → g x (wipe σ vs) H' fun σ2 H2 => wipe σ2 vs = wipe σ vs ∧ te σ2 H2 Qe)
    (hd : ∀ ys ds H, Gr F0 H1 H → H D = some (.lst ys) → ds.length = n → (∀ d ∈ ds, Pd d) → ImAll K F H ys ds → Qd H) :
    ∃ W : Nat → Nat → Hp → Prop, (∃ m, W 0 m (upd H1 D (.lst []))) ∧ ∀ i m H, W i m H →
      (J.stop i H ∧ Qd H) ∨ (J.go i H ∧ ∃ Nx : Hp → Prop, (∀ H', Nx H' → ∃ m', m' < m ∧ W (i + 1) m' H') ∧ ∀ x H', J.yld i H x H' → g x (wipe σ vs) H' fun σ2 H2 => wipe σ2 vs = wipe σ vs ∧ tYes σ2 H2 fun b H3 =>
        if b = true then te σ2 H3 fun y H4 => ∃ acc, H4 D = some (.lst acc) ∧ acc.length < sizeLine ∧ Nx (upd H4 D (.lst (acc ++ [y]))) else Nx H3) := by
  refine lc_it w (fun i H => Gr (fun b => b = D) H1 H ∧ ∃ ys ds, H D = some (.lst ys) ∧ ys.length = i ∧ ds.length = i ∧ (∀ d ∈ ds, Pd d) ∧ ImAll K (Un2 F fun b => b = D) H ys ds) ?_ (fun i H _ h => hG H h.1) ?_ ?_
  · exact ⟨(Gr.refl _ _).upd (.inl rfl), [], [], upd_same, rfl, rfl, (fun _ z => nomatch z), .nil⟩
  · rintro i x H H' hi ⟨g1, ys, ds, e1, hl, hl2, hp, ha⟩ y
    have dom : Dom (Un2 F fun b => b = D) H := fun b hb => by
      rcases hb with hb | hb
      · obtain ⟨o, e⟩ := dF b hb
        exact g1.some e
      · subst hb
        exact ⟨_, e1⟩
    refine hs i x H H' _ hi g1 dom y fun y d H'' g2 pd hy => ?_
    have e2 := g2.keep D _ e1 id
    refine ⟨ys, e2, by omega, g1.trans2 g2 (fun _ z => z.elim) |>.upd (.inl rfl), ys ++ [y], ds ++ [d], upd_same, by rw [List.length_append, hl]; rfl, by rw [List.length_append, hl2]; rfl, fun z hz => ?_, ?_⟩
    · rcases List.mem_append.mp hz with z1 | z1
      · exact hp z z1
      · rw [List.mem_singleton.mp z1]
        exact pd
    · have gu : Gr (Un2 F fun b => b = D) H'' (upd H'' D (.lst (ys ++ [y]))) := (Gr.refl _ _).upd (.inl (.inr rfl))
      exact ((ha.gr g2.of0).gr gu).snoc (hy.gr gu)
  · rintro H ⟨g1, ys, ds, e1, hl, hl2, hp, ha⟩
    refine hd ys ds H ⟨fun b o e _ => g1.keep b o e fun z => ?_, g1.back⟩ e1 hl2 hp (ha.wk (gr_wk fun b z => .inl z))
    rw [z, hD] at e
    cases e
/-! ### functions made by the law, handed in: what stands while they are called -/
structure FnD where
  f : Addr
  Fn : CF
  fr : List Str
  ws : List V
structure JN (R : Rt) (gs : Option Addr) (fns : List FnD) (ims : List (V × PyData)) (g : List Spot) (Ft O : FS) (H : Hp) : Prop where
  ft : ∀ b, Ft b ↔ gs = some b
  at_ : ∀ ga, gs = some ga → ¬ O ga ∧ ∃ vacc, H ga = some (.lst vacc) ∧ ImAll R.K (Un2 Ft O) H vacc (g.map spotD)
  fns : ∀ d ∈ fns, FnH H d.f d.Fn ∧ (¬ O d.f ∧ ¬ O d.Fn.c) ∧ Caps H d.Fn.cl d.fr d.ws ∧ ∀ c ∈ d.Fn.cl.map (·.2), ¬ O c
  ims : ∀ y ∈ ims, Im R.K (Un2 Ft O) H y.1 y.2
theorem fn_ne {H : Hp} {f ga : Addr} {Fn : CF} {vs : List V} (h : FnH H f Fn) (e : H ga = some (.lst vs)) : ¬ f = ga ∧ ¬ Fn.c = ga := by
  refine ⟨fun z => ?_, fun z => ?_⟩
  · have h1 := h.1
    rw [z, e] at h1
    have h2 := Option.some.inj h1
    unfold CloO at h2
    cases h2
  · have h1 := h.2
    rw [z, e] at h1
    have h2 := Option.some.inj h1
    unfold CodeO at h2
    cases h2
theorem cap_ne {H : Hp} {ga : Addr} {cl : List (Str × Addr)} {fr : List Str} {ws vs : List V} (h : Caps H cl fr ws) (e : H ga = some (.lst vs)) : ∀ c ∈ cl.map (·.2), ¬ c = ga := fun c hc z => by
  obtain ⟨o, u, e2, _⟩ := h.cells c hc
  rw [z, e] at e2
  cases e2
def ResN (R : Rt) (gs : Option Addr) (fns : List FnD) (ims : List (V × PyData)) : Res (List Spot) where
  J := JN R gs fns ims
  dis := fun h b hb z => (h.at_ b ((h.ft b).mp z)).1 hb
  dom := fun h b hb => by
    obtain ⟨_, vacc, e, _⟩ := h.at_ b ((h.ft b).mp hb)
    exact ⟨_, e⟩
  keep := fun {a Ft O H H'} h g => by
    have gu : Gr (Un2 Ft O) H H' := g.mono fun _ z => .inr z
    refine ⟨h.ft, fun ga hg => ?_, fun d hd => ?_, fun y hy => (h.ims y hy).gr gu⟩
    · obtain ⟨n, vacc, e, ia⟩ := h.at_ ga hg
      exact ⟨n, vacc, g.keep ga _ e n, ia.gr gu⟩
    · obtain ⟨h1, h2, h3, h4⟩ := h.fns d hd
      exact ⟨h1.gr g h2.1 h2.2, h2, h3.gr g h4, h4⟩
  wk := fun {a Ft O O' H} h w => by
    have wu : Wk (Un2 Ft O) (Un2 Ft O') H := fun b hb => by
      rcases hb with hb | hb
      · exact .inl (.inl hb)
      · exact (w b hb).imp .inr id
    have no : ∀ {b : Addr} {o : HO}, H b = some o → ¬ O b → ¬ O' b := fun {b o} e n z => (w b z).elim n fun e2 => by
      rw [e] at e2
      cases e2
    refine ⟨h.ft, fun ga hg => ?_, fun d hd => ?_, fun y hy => (h.ims y hy).wk wu⟩
    · obtain ⟨n, vacc, e, ia⟩ := h.at_ ga hg
      exact ⟨no e n, vacc, e, ia.wk wu⟩
    · obtain ⟨h1, h2, h3, h4⟩ := h.fns d hd
      refine ⟨h1, ⟨no h1.1 h2.1, no h1.2 h2.2⟩, h3, fun c hc => ?_⟩
      obtain ⟨o, u, e, _⟩ := h3.cells c hc
      exact no e (h4 c hc)
theorem im_hide {K : PySem.W.Frag} {F : FS} {H : Hp} {cs : List Addr} {v : V} {d : PyData} (hc : ∀ c ∈ cs, CellN H c) (h : Im K F H v d) : Im K (fun b => F b ∧ b ∉ cs) (hide cs H) v d := by
  have rd : ∀ {a : Addr} {u : HO}, (∀ x, u ≠ .own x) → (∀ x w, u ≠ .frz x w) → Rd H a u → Rd (hide cs H) a u := fun {a u} hu hu2 r => by
    rcases r with e | ⟨o, e⟩
    · by_cases ha : a ∈ cs
      · obtain ⟨x, z, e2, _⟩ := hc a ha
        rw [e] at e2
        exact absurd (Option.some.inj e2) (hu2 _ _)
      · exact .inl (by rw [hide_out ha]; exact e)
    · have ha : a ∉ cs := fun hc2 => by
        obtain ⟨x, z, e2, _⟩ := hc a hc2
        rw [e] at e2
        injection e2 with e3
        injection e3 with e4 e5
        exact hu z e5
      exact .inr ⟨o, by rw [hide_out ha]; exact e⟩
  exact Im.map (fun a xs z => z.imp (fun y => ⟨rd (fun _ e => by cases e) (fun _ _ e => by cases e) y.1, fun e => y.2 e.1⟩) id) (fun a xs z => z.imp (fun y => ⟨rd (fun _ e => by cases e) (fun _ _ e => by cases e) y.1, fun e => y.2 e.1⟩) id) d v h
theorem wk0 {F : FS} {H : Hp} : Wk F F0 H := fun _ z => z.elim
theorem im_hide0 {K : PySem.W.Frag} {F : FS} {H : Hp} {cs : List Addr} {v : V} {d : PyData} (hc : ∀ c ∈ cs, CellN H c) (h : Im K F H v d) : Im K F0 (hide cs H) v d := (im_hide hc h).wk wk0
section
variable {R : Rt} {ga : Addr} {gs : Option Addr} {fns : List FnD} {ims : List (V × PyData)} {d : FnD} {k kx : Nat} {spL : List V → Sp}
/-- a look that notes where it looked, in the list at ga -/
theorem note_ok (hd : d ∈ fns) (M : R.C k d.f (cloSp d.f d.Fn d.fr 3 spL)) (hk : k ≤ kx) (lkv : Str → Str → Int → PyData) (D : Str → Str → Int → Prop) (hv : ∀ t c p, D t c p → isValue (lkv t c p) = true)
    (hsp : ∀ (H : Hp) (F : FS) (vacc : List V) (t c : Str) (p : Int) (Q : VK), H ga = some (.lst vacc) → vacc.length < 100000 → F ga → Dom F H → (∀ y ∈ ims, Im R.K F H y.1 y.2) → D t c p →
      (∀ w r H', H r = none → Gr (fun b => b = ga) H H' → H' ga = some (.lst (vacc ++ [.ref r])) → H' r = some (.tup [.str t, .str c, .int p]) → Im R.K F H' w (lkv t c p) → Q w H') → spL d.ws [.str t, .str c, .int p] H Q E0) :
    LookOk R.K R.C kx (.ref d.f) (ResN R (some ga) fns ims) (fun t c p g => (lkv t c p, g ++ [(t, c, p)])) D (fun g => 90000 - g.length) := by
  refine ⟨⟨d.f, k, _, rfl, M, hk, fun a Ft O H h => ⟨_, (h.fns d hd).1.1⟩, fun g Ft O H t c p Q h dom hp hfu q => ?_⟩, fun t c p g hp => hv t c p hp, fun t c p g => ?_⟩
  · obtain ⟨no, vacc, e, ia⟩ := h.at_ ga rfl
    obtain ⟨hfn, hnf, hcp, hnc⟩ := h.fns d hd
    have hcells := hcp.cells
    have hga : ga ∉ d.Fn.cl.map (·.2) := fun z => cap_ne hcp e ga z rfl
    have hft : Ft ga := (h.ft ga).mpr rfl
    have hla := ia.len
    rw [List.length_map] at hla
    have hfu' : 0 < 90000 - g.length := hfu
    refine ⟨hfn, rfl, _, hcp, hsp _ _ vacc t c p _ (by rw [hide_out hga]; exact e) (by omega) ⟨.inl hft, hga⟩ dom.hide (fun y hy => im_hide hcells (h.ims y hy)) hp fun w r H' hr g' e1 e2 iw non => ?_⟩
    have gb := gr_bring (F := fun b => b = ga) g'
    have gft : Gr Ft H (bring (d.Fn.cl.map (·.2)) H H') := gb.mono fun b hb => (h.ft b).mpr (by rw [hb])
    have gu : Gr (Un2 Ft O) H (bring (d.Fn.cl.map (·.2)) H H') := gft.mono fun _ z => .inl z
    have hw : Wk Ft Ft H := fun _ z => .inl z
    have nor : r ∉ d.Fn.cl.map (·.2) := fun z => by
      rw [non r z] at e2
      cases e2
    have hr0 : H r = none := by
      rw [hide_out nor] at hr
      exact hr
    have e1' : bring (d.Fn.cl.map (·.2)) H H' ga = some (.lst (vacc ++ [.ref r])) := by rw [bring_out hga]; exact e1
    have e2' : bring (d.Fn.cl.map (·.2)) H H' r = some (.tup [.str t, .str c, .int p]) := by rw [bring_out nor]; exact e2
    have nF : ¬ Un2 Ft O r := dom.no hr0
    refine q w Ft _ ⟨h.ft, fun ga' hg' => ?_, fun d' hd' => ?_, fun y hy => (h.ims y hy).gr gu⟩ gft hw (dom.gr gb) (iw.bring non)
    · cases hg'
      refine ⟨no, _, e1', ?_⟩
      rw [List.map_append]
      exact (ia.gr gu).snoc (.tup (.of e2' nF) (.cons (.str _) (.cons (.str _) (.cons (.int _) .nil))))
    · obtain ⟨h1, h2, h3, h4⟩ := h.fns d' hd'
      obtain ⟨nf1, nc1⟩ := fn_ne h1 e
      exact ⟨h1.gr gb nf1 nc1, h2, h3.gr gb (cap_ne h3 e), h4⟩
  · show 90000 - g.length ≤ 90000 - (g ++ [(t, c, p)]).length + 1
    rw [List.length_append]
    show 90000 - g.length ≤ 90000 - (g.length + 1) + 1
    omega
/-- a look that changes nothing -/
theorem quiet_ok (hd : d ∈ fns) (M : R.C k d.f (cloSp d.f d.Fn d.fr 3 spL)) (hk : k ≤ kx) (lkv : Str → Str → Int → PyData) (D : Str → Str → Int → Prop) (hv : ∀ t c p, D t c p → isValue (lkv t c p) = true)
    (hsp : ∀ (H : Hp) (F : FS) (t c : Str) (p : Int) (Q : VK), Dom F H → (∀ y ∈ ims, Im R.K F H y.1 y.2) → D t c p → (∀ w H', Gr F0 H H' → Im R.K F H' w (lkv t c p) → Q w H') → spL d.ws [.str t, .str c, .int p] H Q E0) :
    LookOk R.K R.C kx (.ref d.f) (ResN R gs fns ims) (fun t c p g => (lkv t c p, g)) D (fun _ => 90000) := by
  refine ⟨⟨d.f, k, _, rfl, M, hk, fun a Ft O H h => ⟨_, (h.fns d hd).1.1⟩, fun g Ft O H t c p Q h dom hp hfu q => ?_⟩, fun t c p g hp => hv t c p hp, fun t c p g => Nat.le_succ _⟩
  obtain ⟨hfn, hnf, hcp, hnc⟩ := h.fns d hd
  refine ⟨hfn, rfl, _, hcp, hsp _ _ t c p _ dom.hide (fun y hy => im_hide hcp.cells (h.ims y hy)) hp fun w H' g' iw non => ?_⟩
  have gb := gr_bring (F := F0) g'
  exact q w Ft _ ((ResN R gs fns ims).keep h gb.of0) gb.of0 (fun _ z => .inl z) (dom.gr gb) (iw.bring non)
theorem manyN_ok (hd : d ∈ fns) (M : R.C k d.f (cloSp d.f d.Fn d.fr 1 spL)) (hk : k ≤ kx) (mn : Str → Nat) (D : Str → Prop) (hm : ∀ t, D t → mn t < 2 ^ 20)
    (hsp : ∀ (H : Hp) (F : FS) (t : Str) (Q : VK), Dom F H → (∀ y ∈ ims, Im R.K F H y.1 y.2) → D t → (∀ H', Gr F0 H H' → Q (.int (mn t : Nat)) H') → spL d.ws [.str t] H Q E0) :
    ManyOk R.C kx (.ref d.f) (ResN R gs fns ims) mn D := by
  refine ⟨⟨d.f, k, _, rfl, M, hk, fun a Ft O H h => ⟨_, (h.fns d hd).1.1⟩, fun g Ft O H t Q h dom hp q => ?_⟩, hm⟩
  obtain ⟨hfn, hnf, hcp, hnc⟩ := h.fns d hd
  exact ⟨hfn, rfl, _, hcp, hsp _ _ t _ dom.hide (fun y hy => im_hide hcp.cells (h.ims y hy)) hp fun H' g' non => q _ (gr_bring g')⟩
end
/-! ### numbers written -/
abbrev figures : Str := "0123456789"
def figsS (x : Str) : Str := if cutS x none (some 1) = "-" then cutS x (some 1) none else x
def headZ (z : Str) : Bool := decide (z.cps.toList.head? = some 48)
def wholeB (x : Str) : Bool := (decide ((1 : Int) ≤ ((figsS x).length : Nat)) && decide ((((figsS x).length : Nat) : Int) ≤ 60)) && ((figsS x).cps.toList.all (fun c => decide (c ∈ figures.cps.toList)) && !(headZ (figsS x) && !decide (x = "0")))
def wholeD (x : Str) : Option Int := if wholeB x then PySem.intText? x else none
def optV : Option Int → V
  | some n => .int n
  | none => .non
def sp_whole_of (R : Rt) : Sp := Sp1 fun v H Q _ => ∃ x, v = .str x ∧ x.length ≤ 100000 ∧ ∀ H', Gr F0 H H' → Q (optV (wholeD x)) H'
/-! ### rules of texts -/
/-- a rule made: r, its function g (within D); nothing else is changed but the tables of code objects -/
def RuleMade (R : Rt) (H : Hp) (r : RuleD) (g : List Int → PyData) (D : List Int → Prop) (Q : VK) : Prop :=
  ∀ p fv H', H p = none → Gr (Tb R) H H' → TabsN R.T H' → (∀ F, Dm F H → ¬ F p ∧ RAt R.K F H' p fv r ∧ FunOk R.K R.C F H' fv g D) → Q (.ref p) H'
def maxI : Int → List Int → Int
  | m, [] => m
  | m, n :: ns => maxI (if m < n then n else m) ns
def minI : Int → List Int → Int
  | m, [] => m
  | m, n :: ns => minI (if n < m then n else m) ns
def groupF (word : Str) (ns : List Int) : PyData :=
  if word = "sum" then withinD ns.sum else if word = "most" then .int (maxI (ns.headD 0) ns) else if word = "least" then .int (minI (ns.headD 0) ns) else .int (ns.length : Nat)
abbrev groupWords : List Str := ["sum", "most", "least", "many"]
def sp_of_group (R : Rt) : Sp := Sp2 fun v w H Q _ => ∃ (a : Addr) (ns : List Int) (word : Str) (F : FS), v = .ref a ∧ w = .str word ∧ SqL R.K H a (ns.map V.int) ∧ word ∈ groupWords ∧ 0 < ns.length ∧ Dom F H ∧ ∀ u H', Gr F0 H H' → Im R.K F H' u (groupF word ns) → Q u H'
def spl_group (R : Rt) : List V → Sp := fun ws vs H Q E => ∃ w v, ws = [w] ∧ vs = [v] ∧ sp_of_group R [v, w] H Q E
def groupDom (ns : List Int) : Prop := 0 < ns.length
def sp_read_group (R : Rt) : Sp := Sp1 fun v H Q _ => ∃ (a : Addr) (k n word : Str), v = .ref a ∧ H a = some (.lst [.str k, .str n, .str word]) ∧ nameS k = true ∧ nameS n = true ∧ word ∈ groupWords ∧ TabsN R.T H ∧ RuleMade R H (.group k n) (groupF word) groupDom Q
def sp_read_rule_group (R : Rt) : Sp := Sp1 fun v H Q _ => ∃ (x k n word : Str), v = .str x ∧ Txt.split x " " = [("group" : Str), k, n, word] ∧ x.length ≤ 1000 ∧ nameS k = true ∧ nameS n = true ∧ word ∈ groupWords ∧ TabsN R.T H ∧ RuleMade R H (.group k n) (groupF word) groupDom Q
def sp_read_lookup (R : Rt) : Sp := Sp1 fun v H Q _ => ∃ (a : Addr) (k o t n : Str), v = .ref a ∧ H a = some (.lst [.str k, .str o, .str t, .str n]) ∧ nameS k = true ∧ nameS o = true ∧ nameS t = true ∧ nameS n = true ∧ TabsN R.T H ∧ RuleMade R H (.lookup k o t [n]) (fun ns => .int (ns.headD 0)) groupDom Q
def spl_first (R : Rt) : List V → Sp := fun ws vs H Q E => ∃ (a : Addr) (ns : List Int), ws = [] ∧ vs = [.ref a] ∧ H a = some (.lst (ns.map V.int)) ∧ 0 < ns.length ∧ Q (.int (ns.headD 0)) H
def sp_read_mend (R : Rt) : Sp := Sp1 fun v H Q _ => ∃ (a : Addr) (n w : Str) (i : Int), v = .ref a ∧ H a = some (.lst [.str n, .str w]) ∧ nameS n = true ∧ w.length ≤ 1000 ∧ wholeD w = some i ∧ TabsN R.T H ∧ RuleMade R H (.mend n) (fun _ => .int i) (fun _ => True) Q
def spl_const (R : Rt) : List V → Sp := fun ws vs H Q E => ∃ w v, ws = [w] ∧ vs = [v] ∧ Q w H
def sp_read_rule_lm (R : Rt) : Sp := Sp1 fun v H Q _ => ∃ (x : Str), v = .str x ∧ x.length ≤ 1000 ∧ TabsN R.T H ∧
  ((∃ k o t n : Str, Txt.split x " " = [("lookup" : Str), k, o, t, n] ∧ nameS k = true ∧ nameS o = true ∧ nameS t = true ∧ nameS n = true ∧ RuleMade R H (.lookup k o t [n]) (fun ns => .int (ns.headD 0)) groupDom Q) ∨
   (∃ (n w : Str) (i : Int), Txt.split x " " = [("mend" : Str), n, w] ∧ nameS n = true ∧ w.length ≤ 1000 ∧ wholeD w = some i ∧ RuleMade R H (.mend n) (fun _ => .int i) (fun _ => True) Q))
def t_whole_of (R : Rt) : TS := (tSeq (tIfS (tNot (tB (tCB (rIsi R.K) (tCons (tVar 0) (tCons (tC (.ty "str")) tNil))))) (tRet (tC .non)) tNext)
  (tSeq (tAsg (tVar 0) (gName 1))
  (tSeq (tIfS (tTest (tOp rEq (tSl rSlS (tVar 0) tNoPart (tPart (tC (.int 1)))) (tC (.str "-")))) (tAsg (tSl rSlS (tVar 0) (tPart (tC (.int 1))) tNoPart) (gName 1)) tNext)
  (tSeq (tIfS (tOr (tNot (tTest (tChain rLeI rLeI (tC (.int 1)) (tCB (rLen R.K) (tCons (tVar 1) tNil)) (tC (.int 60))))) (tNot (tB (tCB (rAll R.K) (tCons (tLc (iStr (tVar 1)) (gName 2) tYes (tOp rInS (tVar 2) (tC (.str "0123456789"))) [2]) tNil))))) (tRet (tC .non)) tNext)
  (tSeq (tIfS (tAnd (tTest (tOp rEq (tOp rIxS (tVar 1) (tC (.int 0))) (tC (.str "0")))) (tTest (tOp rNe (tVar 0) (tC (.str "0"))))) (tRet (tC .non)) tNext)
  (tRet (tCB rIntS (tCons (tVar 0) tNil))))))))
def t_of_group (R : Rt) : TS := (tSeq (tIfS (tTest (tOp rEq (tVar 1) (tC (.str "sum")))) (tRet (tCall (sp_within R) [] E0 (tCons (tCB (rSum R.K) (tCons (tVar 0) tNil)) tNil))) tNext)
  (tSeq (tIfS (tTest (tOp rEq (tVar 1) (tC (.str "most")))) (tRet (tCB (rMax R.K) (tCons (tVar 0) tNil))) tNext)
  (tSeq (tIfS (tTest (tOp rEq (tVar 1) (tC (.str "least")))) (tRet (tCB (rMin R.K) (tCons (tVar 0) tNil))) tNext)
  (tRet (tCB (rLen R.K) (tCons (tVar 0) tNil))))))
def t_read_group (R : Rt) (cells : List (Str × Addr)) : TR := (tRSeq (tAsg (tVar 0) (gUnl R.K 3 (gCons (gName 1) (gCons (gName 2) (gCons (gName 3) gNil)))))
  (tRSeq (tIfS (tOr (tNot (tB (tCall (sp_is_name R) [] E0 (tCons (tVar 1) tNil)))) (tOr (tNot (tB (tCall (sp_is_name R) [] E0 (tCons (tVar 2) tNil)))) (tTest (tOp (rIn R.K true) (tVar 3) (tC (.ref (He.ga R.K "GROUPS"))))))) tNever tNext)
  (tRRet (tMake (He.ga R.K "Group") (sp_Group_init R) [] E0 (tCons (tVar 1) (tCons (tVar 2) (tCons (tMk R.T (He.tabOf R.K (He.codeOf R.K ("read_group", none))) (R.fn 0 cells)) tNil)))))))
def t_read_rule_group (R : Rt) : TS := (tSeq (tIfS (tNot (tB (tCB (rIsi R.K) (tCons (tVar 0) (tCons (tC (.ty "str")) tNil))))) tNever tNext)
  (tSeq (tAsg (tM1 rSplit (tVar 0) (tC (.str " "))) (gName 1))
  (tSeq (tAsg (tOp (rIxL R.K) (tVar 1) (tC (.int 0))) (gName 2))
  (tSeq (tIfS (tOr (tTest (tOp (rNotInW R.K R.w) (tVar 2) (tC (.ref (He.ga R.K "HEADS"))))) (tTest (tOp rLtI (tCB (rLen R.K) (tCons (tVar 1) tNil)) (tOp (rIxD R.K R.w) (tC (.ref (He.ga R.K "HEADS"))) (tVar 2))))) tNever tNext)
  (tSeq (tIfS (tTest (tOp rEq (tVar 2) (tC (.str "cells")))) tNever tNext)
  (tSeq (tIfS (tTest (tOp rEq (tVar 2) (tC (.str "above")))) tNever tNext)
  (tSeq (tIfS (tTest (tOp rNe (tCB (rLen R.K) (tCons (tVar 1) tNil)) (tOp (rIxD R.K R.w) (tC (.ref (He.ga R.K "HEADS"))) (tVar 2)))) tNever tNext)
  (tSeq (tIfS (tTest (tOp rEq (tVar 2) (tC (.str "group")))) (tRet (tCall (sp_read_group R) [] E0 (tCons (tSl (rSlL R.K) (tVar 1) (tPart (tC (.int 1))) tNoPart) tNil))) tNext)
  (tSeq (tIfS (tTest (tOp rEq (tVar 2) (tC (.str "lookup")))) tNever tNext)
  tNever)))))))))
def tl_read_group_lam (R : Rt) : TE := (tCall (sp_of_group R) [] E0 (tCons (tVar 0) (tCons (tVar 1) tNil)))
def t_read_lookup (R : Rt) (cells : List (Str × Addr)) : TR := (tRSeq (tAsg (tVar 0) (gUnl R.K 4 (gCons (gName 1) (gCons (gName 2) (gCons (gName 3) (gCons (gName 4) gNil))))))
  (tRSeq (tIfS (tNot (tB (tCB (rAll R.K) (tCons (tLc (iList R.K (tVar 0)) (gName 5) tYes (tCall (sp_is_name R) [] E0 (tCons (tVar 5) tNil)) [5]) tNil)))) tNever tNext)
  (tRRet (tMake (He.ga R.K "Lookup") (sp_Lookup_init R) [] E0 (tCons (tVar 1) (tCons (tVar 2) (tCons (tVar 3) (tCons (tLst (tCons (tVar 4) tNil)) (tCons (tMk R.T (He.tabOf R.K (He.codeOf R.K ("read_lookup", none))) (R.fn 10 cells)) tNil)))))))))
def t_read_mend (R : Rt) (cells : List (Str × Addr)) : TR := (tRSeq (tAsg (tCall (sp_whole_of R) [] E0 (tCons (tOp (rIxL R.K) (tVar 0) (tC (.int 1))) tNil)) (gName 1))
  (tRSeq (tIfS (tOr (tNot (tB (tCall (sp_is_name R) [] E0 (tCons (tOp (rIxL R.K) (tVar 0) (tC (.int 0))) tNil)))) (tTest (tOp rIsN (tVar 1) (tC .non)))) tNever tNext)
  (tRRet (tMake (He.ga R.K "Mend") (sp_Mend_init R) [] E0 (tCons (tOp (rIxL R.K) (tVar 0) (tC (.int 0))) (tCons (tMk R.T (He.tabOf R.K (He.codeOf R.K ("read_mend", none))) (R.fn 11 cells)) tNil))))))
def t_read_rule_lm (R : Rt) : TS := (tSeq (tIfS (tNot (tB (tCB (rIsi R.K) (tCons (tVar 0) (tCons (tC (.ty "str")) tNil))))) tNever tNext)
  (tSeq (tAsg (tM1 rSplit (tVar 0) (tC (.str " "))) (gName 1))
  (tSeq (tAsg (tOp (rIxL R.K) (tVar 1) (tC (.int 0))) (gName 2))
  (tSeq (tIfS (tOr (tTest (tOp (rNotInW R.K R.w) (tVar 2) (tC (.ref (He.ga R.K "HEADS"))))) (tTest (tOp rLtI (tCB (rLen R.K) (tCons (tVar 1) tNil)) (tOp (rIxD R.K R.w) (tC (.ref (He.ga R.K "HEADS"))) (tVar 2))))) tNever tNext)
  (tSeq (tIfS (tTest (tOp rEq (tVar 2) (tC (.str "cells")))) tNever tNext)
  (tSeq (tIfS (tTest (tOp rEq (tVar 2) (tC (.str "above")))) tNever tNext)
  (tSeq (tIfS (tTest (tOp rNe (tCB (rLen R.K) (tCons (tVar 1) tNil)) (tOp (rIxD R.K R.w) (tC (.ref (He.ga R.K "HEADS"))) (tVar 2)))) tNever tNext)
  (tSeq (tIfS (tTest (tOp rEq (tVar 2) (tC (.str "group")))) tNever tNext)
  (tSeq (tIfS (tTest (tOp rEq (tVar 2) (tC (.str "lookup")))) (tRet (tCall (sp_read_lookup R) [] E0 (tCons (tSl (rSlL R.K) (tVar 1) (tPart (tC (.int 1))) tNoPart) tNil))) tNext)
  (tRet (tCall (sp_read_mend R) [] E0 (tCons (tSl (rSlL R.K) (tVar 1) (tPart (tC (.int 1))) tNoPart) tNil))))))))))))
def tl_read_lookup_lam (R : Rt) : TE := (tOp (rIxL R.K) (tVar 0) (tC (.int 0)))
def tl_read_mend_lam (R : Rt) : TE := (tVar 1)
theorem cut_head (x : Str) : TL.tl (cutS x none (some 1)) = (TL.tl x).take 1 := by
  have e1 : HT.sIx x.length 0 none = 0 := rfl
  have e2 : HT.sIx x.length x.length (some 1) = min 1 x.length := HT.sIx_nat _ _ 1
  have h : TL.tl (cutS x none (some 1)) = ((TL.tl x).drop (HT.sIx x.length 0 none)).take (HT.sIx x.length x.length (some 1) - HT.sIx x.length 0 none) := rfl
  rw [h, e1, e2, List.drop_zero, Nat.sub_zero, TL.len_tl]
  cases TL.tl x with
  | nil => rfl
  | cons c r => rw [show min 1 (c :: r).length = 1 by rw [List.length_cons]; omega]
theorem cut_tail (x : Str) : TL.tl (cutS x (some 1) none) = (TL.tl x).drop 1 := by
  have e1 : HT.sIx x.length 0 (some 1) = min 1 x.length := HT.sIx_nat _ _ 1
  have e2 : HT.sIx x.length x.length none = x.length := rfl
  have h : TL.tl (cutS x (some 1) none) = ((TL.tl x).drop (HT.sIx x.length 0 (some 1))).take (HT.sIx x.length x.length none - HT.sIx x.length 0 (some 1)) := rfl
  rw [h, e1, e2, TL.len_tl]
  cases TL.tl x with
  | nil => rfl
  | cons c r =>
    rw [show min 1 (c :: r).length = 1 by rw [List.length_cons]; omega]
    show r.take ((r.length + 1) - 1) = r
    rw [Nat.add_sub_cancel, List.take_length]
theorem fig_dig {l : List Nat} (h : l.all (fun c => decide (c ∈ figures.cps.toList)) = true) : NumText.AllDigits l := fun c hc =>
  (by decide +kernel : ∀ c ∈ figures.cps.toList, 48 ≤ c ∧ c ≤ 57) c (of_decide_eq_true (List.all_eq_true.mp h c hc))
theorem dig_fig {c : Nat} (h : 48 ≤ c ∧ c ≤ 57) : c ∈ figures.cps.toList := by
  have e : figures.cps.toList = [48, 49, 50, 51, 52, 53, 54, 55, 56, 57] := by decide +kernel
  rw [e]
  obtain ⟨h1, h2⟩ := h
  simp only [List.mem_cons, List.not_mem_nil, or_false]
  omega
theorem minus_tl {x : Str} (h : cutS x none (some 1) = "-") : TL.tl x = 45 :: TL.tl (cutS x (some 1) none) := by
  have e : (TL.tl x).take 1 = [45] := by
    rw [← cut_head, h]
    decide +kernel
  rw [cut_tail]
  cases q : TL.tl x with
  | nil =>
    rw [q] at e
    cases e
  | cons c r =>
    rw [q] at e
    have e2 : [c] = [45] := e
    injection e2 with e3
    rw [e3]
    rfl
theorem whole_int {x : Str} (h : wholeB x = true) : x.length ≤ 61 ∧ ∃ n, PySem.intText? x = some n := by
  unfold wholeB at h
  obtain ⟨h1, h2⟩ := Bool.and_eq_true_iff.mp h
  obtain ⟨h1, h3⟩ := Bool.and_eq_true_iff.mp h1
  obtain ⟨h4, _⟩ := Bool.and_eq_true_iff.mp h2
  have h5 := of_decide_eq_true h1
  have h6 := of_decide_eq_true h3
  have hd := fig_dig h4
  unfold figsS at h5 h6 hd
  by_cases hm : cutS x none (some 1) = "-"
  · rw [if_pos hm] at h5 h6 hd
    have e := minus_tl hm
    have hl : x.length = (cutS x (some 1) none).length + 1 := by rw [TL.len_tl, e, List.length_cons, TL.len_tl]
    refine ⟨by omega, _, PySem.intText_neg (x := x) e hd (fun z => ?_) (by omega)⟩
    have z2 : (cutS x (some 1) none).length = 0 := by rw [TL.len_tl, z]; rfl
    omega
  · rw [if_neg hm] at h5 h6 hd
    refine ⟨by omega, _, PySem.intText_digits (x := x) hd (fun z => ?_) (by omega)⟩
    have z2 : x.length = 0 := by rw [TL.len_tl, show TL.tl x = [] from z]; rfl
    omega
theorem str1_eq {c : Nat} : decide (V.str ⟨#[c]⟩ = V.str "0") = decide (c = 48) := by
  refine decide_eq_decide.mpr ⟨fun e => ?_, fun e => ?_⟩
  · have e2 := congrArg TL.tl (V.str.inj e)
    have e3 : TL.tl "0" = [48] := by decide +kernel
    rw [e3] at e2
    have e4 : [c] = [48] := e2
    injection e4
  · rw [e]
    refine congrArg V.str (TL.ext_tl ?_)
    show [48] = TL.tl "0"
    decide +kernel
theorem pu_whole_of {R : Rt} (vs : List V) (H : Hp) (Q : VK) (E : XK) (h : sp_whole_of R vs H Q E) : t_whole_of R { nx := fun _ H' => Q .non H', rt := Q } (L2.start ["word", "figures", "sign"] vs) H := by
  obtain ⟨v, rfl, x, rfl, hl, q⟩ := h
  have hline : x.length ≤ sizeLine := Nat.le_trans hl (by decide)
  refine ⟨_, rfl, _, _, _, _, _, rfl, .ty _, ty_of (.str x), kit_ty (kit_str (.str x)), _, rfl, iteF ?_⟩
  have rest : ∀ (fg : Str), fg = figsS x → (tSeq (tIfS (tOr (tNot (tTest (tChain rLeI rLeI (tC (.int 1)) (tCB (rLen R.K) (tCons (tVar 1) tNil)) (tC (.int 60))))) (tNot (tB (tCB (rAll R.K) (tCons (tLc (iStr (tVar 1)) (gName 2) tYes (tOp rInS (tVar 2) (tC (.str "0123456789"))) [2]) tNil))))) (tRet (tC .non)) tNext)
      (tSeq (tIfS (tAnd (tTest (tOp rEq (tOp rIxS (tVar 1) (tC (.int 0))) (tC (.str "0")))) (tTest (tOp rNe (tVar 0) (tC (.str "0"))))) (tRet (tC .non)) tNext) (tRet (tCB rIntS (tCons (tVar 0) tNil)))))
      { nx := fun _ H' => Q .non H', rt := Q } [some (.str x), some (.str fg), none] H := by
    intro fg hfg
    have hfl : fg.length ≤ x.length := by
      rw [hfg]
      unfold figsS
      split
      · exact cutS_length _ _ _
      · exact Nat.le_refl _
    have hfs : fg.length ≤ sizeLine := Nat.le_trans hfl hline
    refine ⟨_, rfl, _, _, rfl, ⟨hfs, rfl⟩, _, _, rfl, rfl, _, rfl, ?_⟩
    unfold wholeD wholeB at q
    rw [← hfg] at q
    cases h1 : decide ((1 : Int) ≤ (fg.length : Nat)) with
    | false =>
      rw [h1] at q
      exact iff' rfl ⟨_, rfl, ift rfl (q H (Gr.refl _ _))⟩
    | true =>
    refine ift rfl ⟨_, _, rfl, rfl, _, rfl, ?_⟩
    cases h2 : decide (((fg.length : Nat) : Int) ≤ 60) with
    | false =>
      rw [h1, h2] at q
      exact ift rfl (q H (Gr.refl _ _))
    | true =>
    rw [h1, h2] at q
    refine iff' rfl ?_
    dsimp only [tNot, tB, tCB, tCons, tNil]
    refine lc_signs (K := R.K) (x := fg) (z := figures) (i := 2) hfs (fun Qx qx => ⟨_, rfl, qx⟩) (show 2 < 3 by decide) ?_ ?_
    · exact fun σ' H' c Qe e k => ⟨_, e, c, figures, rfl, rfl, k⟩
    · intro p H' g e
      refine ⟨_, _, rfl, .of e, _, rfl, ?_⟩
      rw [all_map_id]
      cases h3 : fg.cps.toList.all (fun c => decide (c ∈ figures.cps.toList)) with
      | false =>
        rw [h3] at q
        exact iteT (q H' g)
      | true =>
      rw [h3] at q
      have h5 := of_decide_eq_true h1
      obtain ⟨c, r, ec⟩ : ∃ c r, fg.cps.toList = c :: r := by
        cases z : fg.cps.toList with
        | nil =>
          have z2 : fg.length = 0 := by rw [TL.len_tl, show TL.tl fg = [] from z]; rfl
          omega
        | cons c r => exact ⟨c, r, rfl⟩
      refine iteF ⟨_, rfl, fg, 0, c, rfl, rfl, hfs, by rw [ec]; exact (show atI (c :: r) ((0 : Nat) : Int) = some c from atI_nat rfl), rfl, _, rfl, ?_⟩
      rw [str1_eq]
      have hz : headZ fg = decide (c = 48) := by
        unfold headZ
        rw [ec]
        refine decide_eq_decide.mpr ⟨fun e => Option.some.inj e, fun e => congrArg some e⟩
      rw [hz] at q
      have fin : wholeB x = true → (∀ H', Gr F0 H H' → Q (optV (PySem.intText? x)) H') → (tRet (tCB rIntS (tCons (tVar 0) tNil))) { nx := fun _ H' => Q .non H', rt := Q } [some (.str x), some (.str fg), none] H' := fun hb k => by
        obtain ⟨hl2, n, en⟩ := whole_int hb
        refine ⟨_, rfl, x, n, rfl, en, by omega, ?_⟩
        have z := k H' g
        rw [en] at z
        exact z
      have hb0 : wholeB x = !(decide (c = 48) && !decide (x = "0")) := by
        unfold wholeB
        rw [← hfg, h1, h2, h3, hz]
        rfl
      cases h6 : decide (c = 48) with
      | false =>
        rw [h6] at q hb0
        exact iff' rfl (fin hb0 fun H' g => q H' g)
      | true =>
        rw [h6] at q hb0
        refine ift rfl ⟨_, rfl, rfl, _, rfl, ?_⟩
        by_cases h7 : x = "0"
        · rw [decide_eq_true h7] at q hb0
          exact iff' (by rw [decide_eq_true (congrArg V.str h7)]; rfl) (fin hb0 fun H' g => q H' g)
        · rw [decide_eq_false h7] at q
          exact ift (by rw [decide_eq_false fun e => h7 (V.str.inj e)]; rfl) (q H' g)
  refine ⟨_, rfl, _, rfl, _, rfl, x, rfl, hline, rfl, _, rfl, ?_⟩
  by_cases hm : cutS x none (some 1) = "-"
  · refine ift (decide_eq_true (congrArg V.str hm)) ⟨_, rfl, _, rfl, x, rfl, hline, rest _ ?_⟩
    unfold figsS
    rw [if_pos hm]
  · refine iff' (decide_eq_false fun e => hm (V.str.inj e)) (rest _ ?_)
    unfold figsS
    rw [if_neg hm]
/-! ### a number's text, read -/
theorem numL_head : ∀ n : Nat, 0 < n → (TL.numL n).head? ≠ some 48 := by
  intro n
  induction n using Nat.strongRecOn with
  | _ n ih =>
    intro h0
    by_cases h : n < 10
    · rw [TL.numL_lt h]
      intro e
      have e2 : 48 + n = 48 := Option.some.inj e
      omega
    · rw [TL.numL_step (by omega)]
      have h1 := ih (n / 10) (by omega) (by omega)
      cases q : TL.numL (n / 10) with
      | nil => exact absurd q (TL.numL_ne _)
      | cons c r =>
        rw [q] at h1
        exact h1
theorem txt_pos (n : Nat) : TL.tl (Str.ofString (toString (n : Int))) = TL.numL n := TL.tl_num n
theorem txt_neg (n : Nat) : TL.tl (Str.ofString (toString (Int.negSucc n))) = 45 :: TL.numL (n + 1) := by
  have e : toString (Int.negSucc n) = "-" ++ toString ((n + 1 : Nat) : Int) := rfl
  have e2 := txt_pos (n + 1)
  rw [TL.tl_ofString] at e2 ⊢
  rw [e, String.toList_append, List.map_append, e2]
  rfl
theorem all_fig {l : List Nat} (h : NumText.AllDigits l) : l.all (fun c => decide (c ∈ figures.cps.toList)) = true := List.all_eq_true.mpr fun c hc => decide_eq_true (dig_fig (h c hc))
/-- a text of up to sixty figures -/
structure NumTxt (x : Str) (i : Int) : Prop where
  fig : ∃ n : Nat, TL.tl (figsS x) = TL.numL n ∧ (TL.numL n).length ≤ 60 ∧ (n = 0 → x = "0")
  int : PySem.intText? x = some i
theorem NumTxt.whole {x : Str} {i : Int} (h : NumTxt x i) : wholeD x = some i := by
  obtain ⟨n, e, hl, h0⟩ := h.fig
  have hlen : (figsS x).length = (TL.numL n).length := by rw [TL.len_tl, e]
  have hne := TL.numL_ne n
  have h1 : 1 ≤ (TL.numL n).length := (List.length_pos_iff.mpr hne)
  unfold wholeD
  have hb : wholeB x = true := by
    unfold wholeB
    rw [show (figsS x).cps.toList = TL.numL n from e, all_fig (TL.numL_digits n), decide_eq_true (show (1 : Int) ≤ ((figsS x).length : Nat) by omega), decide_eq_true (show (((figsS x).length : Nat) : Int) ≤ 60 by omega)]
    by_cases hz : n = 0
    · rw [decide_eq_true (h0 hz)]
      simp
    · have hh : headZ (figsS x) = false := by
        unfold headZ
        rw [show (figsS x).cps.toList = TL.numL n from e]
        exact decide_eq_false (numL_head n (by omega))
      rw [hh]
      rfl
  rw [if_pos hb, h.int]
theorem len60 {n : Nat} (h : (n : Int) < 1000000000000000000000000000000000000000000000000000000000000) : (TL.numL n).length ≤ 60 := by
  refine TL.numL_len (by decide) ?_
  have e : (10 : Nat) ^ 60 = 1000000000000000000000000000000000000000000000000000000000000 := by decide +kernel
  rw [e]
  omega
theorem num_txt {i : Int} (h1 : -1000000000000000000000000000000000000000000000000000000000000 < i) (h2 : i < 1000000000000000000000000000000000000000000000000000000000000) : NumTxt (Str.ofString (toString i)) i := by
  cases i with
  | ofNat n =>
    have e := txt_pos n
    have h2' : (n : Int) < 1000000000000000000000000000000000000000000000000000000000000 := h2
    have hnm : ¬ cutS (Str.ofString (toString (n : Int))) none (some 1) = "-" := fun z => by
      have z2 := minus_tl z
      rw [e] at z2
      have z3 := TL.numL_digits n 45 (by rw [z2]; exact List.mem_cons_self)
      omega
    have ef : figsS (Str.ofString (toString (n : Int))) = Str.ofString (toString (n : Int)) := if_neg hnm
    refine ⟨⟨n, by show TL.tl (figsS (Str.ofString (toString (n : Int)))) = _; rw [ef, e], len60 h2', fun z => ?_⟩, TL.int_num (Nat.le_trans (len60 h2') (by decide))⟩
    subst z
    exact TL.ext_tl (by show TL.tl (Str.ofString (toString ((0 : Nat) : Int))) = _; rw [e, TL.numL_lt (by decide)]; decide +kernel)
  | negSucc n =>
    have e := txt_neg n
    have h2' : ((n + 1 : Nat) : Int) < 1000000000000000000000000000000000000000000000000000000000000 := by omega
    have hm : cutS (Str.ofString (toString (Int.negSucc n))) none (some 1) = "-" := TL.ext_tl (by rw [cut_head, e]; show [45] = TL.tl "-"; decide +kernel)
    have ef : figsS (Str.ofString (toString (Int.negSucc n))) = cutS (Str.ofString (toString (Int.negSucc n))) (some 1) none := if_pos hm
    have ec : TL.tl (cutS (Str.ofString (toString (Int.negSucc n))) (some 1) none) = TL.numL (n + 1) := by
      rw [cut_tail, e]
      rfl
    have hl := len60 h2'
    refine ⟨⟨n + 1, by rw [ef, ec], hl, fun z => absurd z (by omega)⟩, ?_⟩
    have z := PySem.intText_neg (x := Str.ofString (toString (Int.negSucc n))) (cs := TL.numL (n + 1)) e (TL.numL_digits _) (TL.numL_ne _) (by rw [TL.len_tl, e, List.length_cons]; omega)
    rw [TL.numL_val] at z
    exact z
theorem num_free {i : Int} {s : Nat} (h : s < 45 ∨ 57 < s) : s ∉ TL.tl (Str.ofString (toString i)) := by
  cases i with
  | ofNat n =>
    show s ∉ TL.tl (Str.ofString (toString (n : Int)))
    rw [txt_pos]
    exact TL.numL_free (by omega)
  | negSucc n =>
    rw [txt_neg]
    intro hm
    rcases List.mem_cons.mp hm with e | hm
    · omega
    · exact TL.numL_free (by omega) hm
theorem num_len {i : Int} (h1 : -1000000000000000000000000000000000000000000000000000000000000 < i) (h2 : i < 1000000000000000000000000000000000000000000000000000000000000) : (Str.ofString (toString i)).length ≤ 61 := by
  cases i with
  | ofNat n =>
    show (Str.ofString (toString (n : Int))).length ≤ 61
    rw [TL.len_tl, txt_pos]
    have := len60 (n := n) h2
    omega
  | negSucc n =>
    rw [TL.len_tl, txt_neg, List.length_cons]
    have := len60 (n := n + 1) (by omega)
    omega
theorem maxI_eq : ∀ (ns : List Int) (m : Int), (maxI m ns = m ∨ maxI m ns ∈ ns) ∧ m ≤ maxI m ns ∧ ∀ y ∈ ns, y ≤ maxI m ns
  | [], m => ⟨.inl rfl, Int.le_refl _, fun _ h => nomatch h⟩
  | n :: ns, m => by
    obtain ⟨h1, h2, h3⟩ := maxI_eq ns (if m < n then n else m)
    show (maxI (if m < n then n else m) ns = m ∨ maxI (if m < n then n else m) ns ∈ n :: ns) ∧ m ≤ maxI (if m < n then n else m) ns ∧ ∀ y ∈ n :: ns, y ≤ maxI (if m < n then n else m) ns
    by_cases h : m < n
    · rw [if_pos h] at h1 h2 h3 ⊢
      refine ⟨.inr ?_, by omega, fun y hy => ?_⟩
      · rcases h1 with e | e
        · rw [e]; exact List.mem_cons_self
        · exact List.mem_cons_of_mem _ e
      · rcases List.mem_cons.mp hy with e | hy
        · rw [e]; exact h2
        · exact h3 y hy
    · rw [if_neg h] at h1 h2 h3 ⊢
      refine ⟨h1.imp id (List.mem_cons_of_mem _), h2, fun y hy => ?_⟩
      rcases List.mem_cons.mp hy with e | hy
      · rw [e]; omega
      · exact h3 y hy
theorem minI_eq : ∀ (ns : List Int) (m : Int), (minI m ns = m ∨ minI m ns ∈ ns) ∧ minI m ns ≤ m ∧ ∀ y ∈ ns, minI m ns ≤ y
  | [], m => ⟨.inl rfl, Int.le_refl _, fun _ h => nomatch h⟩
  | n :: ns, m => by
    obtain ⟨h1, h2, h3⟩ := minI_eq ns (if n < m then n else m)
    show (minI (if n < m then n else m) ns = m ∨ minI (if n < m then n else m) ns ∈ n :: ns) ∧ minI (if n < m then n else m) ns ≤ m ∧ ∀ y ∈ n :: ns, minI (if n < m then n else m) ns ≤ y
    by_cases h : n < m
    · rw [if_pos h] at h1 h2 h3 ⊢
      refine ⟨.inr ?_, by omega, fun y hy => ?_⟩
      · rcases h1 with e | e
        · rw [e]; exact List.mem_cons_self
        · exact List.mem_cons_of_mem _ e
      · rcases List.mem_cons.mp hy with e | hy
        · rw [e]; exact h2
        · exact h3 y hy
    · rw [if_neg h] at h1 h2 h3 ⊢
      refine ⟨h1.imp id (List.mem_cons_of_mem _), h2, fun y hy => ?_⟩
      rcases List.mem_cons.mp hy with e | hy
      · rw [e]; omega
      · exact h3 y hy
theorem maxI_un {ns : List Int} (hn : 0 < ns.length) {m : Int} (h1 : m ∈ ns) (h2 : ∀ y ∈ ns, y ≤ m) : maxI (ns.headD 0) ns = m := by
  obtain ⟨a, b, c⟩ := maxI_eq ns (ns.headD 0)
  have hh : ns.headD 0 ∈ ns := by
    cases ns with
    | nil => cases hn
    | cons x r => exact List.mem_cons_self
  have h3 : maxI (ns.headD 0) ns ∈ ns := by
    rcases a with e | e
    · rw [e]; exact hh
    · exact e
  exact Int.le_antisymm (h2 _ h3) (c m h1)
theorem minI_un {ns : List Int} (hn : 0 < ns.length) {m : Int} (h1 : m ∈ ns) (h2 : ∀ y ∈ ns, m ≤ y) : minI (ns.headD 0) ns = m := by
  obtain ⟨a, b, c⟩ := minI_eq ns (ns.headD 0)
  have hh : ns.headD 0 ∈ ns := by
    cases ns with
    | nil => cases hn
    | cons x r => exact List.mem_cons_self
  have h3 : minI (ns.headD 0) ns ∈ ns := by
    rcases a with e | e
    · rw [e]; exact hh
    · exact e
  exact Int.le_antisymm (c m h1) (h2 _ h3)
/-- the constant GREAT -/
def GreatK (K : PySem.W.Frag) : Prop := ∀ F H, Im K F H (.ref (He.ga K "GREAT")) (flt "great")
theorem sc_str {x y : Str} : scal (.str x) (.str y) = true := rfl
theorem pu_of_group {R : Rt} (hG : GreatK R.K) (vs : List V) (H : Hp) (Q : VK) (E : XK) (h : sp_of_group R vs H Q E) : t_of_group R { nx := fun _ H' => Q .non H', rt := Q } (L2.start ["some", "word"] vs) H := by
  obtain ⟨v, w, rfl, a, ns, word, F, rfl, rfl, hs, hw, hn, dF, q⟩ := h
  refine ⟨_, rfl, rfl, _, rfl, ?_⟩
  by_cases h1 : word = "sum"
  · subst h1
    refine ift (decide_eq_true rfl) ⟨_, rfl, a, ns, rfl, hs, _, rfl, _, rfl, fun e => ?_, fun e => ?_⟩
    · refine q _ _ (Gr.refl _ _) ?_
      show Im _ _ _ _ (withinD ns.sum)
      unfold withinD
      rw [e, if_pos rfl]
      exact .int _
    · refine q _ _ (Gr.refl _ _) ?_
      show Im _ _ _ _ (withinD ns.sum)
      unfold withinD
      rw [e, if_neg Bool.false_ne_true]
      exact hG _ _
  refine iff' (decide_eq_false fun e => h1 (V.str.inj e)) ⟨_, rfl, rfl, _, rfl, ?_⟩
  by_cases h2 : word = "most"
  · subst h2
    refine ift (decide_eq_true rfl) ⟨_, rfl, a, ns, rfl, hs, hn, fun m m1 m2 => q _ _ (Gr.refl _ _) ?_⟩
    have e : groupF "most" ns = .int m := by
      unfold groupF
      rw [if_neg (by decide +kernel), if_pos rfl, maxI_un hn m1 m2]
    rw [e]
    exact .int m
  refine iff' (decide_eq_false fun e => h2 (V.str.inj e)) ⟨_, rfl, rfl, _, rfl, ?_⟩
  by_cases h3 : word = "least"
  · subst h3
    refine ift (decide_eq_true rfl) ⟨_, rfl, a, ns, rfl, hs, hn, fun m m1 m2 => q _ _ (Gr.refl _ _) ?_⟩
    have e : groupF "least" ns = .int m := by
      unfold groupF
      rw [if_neg (by decide +kernel), if_neg (by decide +kernel), if_pos rfl, minI_un hn m1 m2]
    rw [e]
    exact .int m
  refine iff' (decide_eq_false fun e => h3 (V.str.inj e)) ⟨_, rfl, _, _, rfl, .inl ⟨_, hs, rfl⟩, q _ _ (Gr.refl _ _) ?_⟩
  have e : groupF word ns = .int (ns.length : Nat) := by
    unfold groupF
    rw [if_neg h1, if_neg h2, if_neg h3]
  rw [e, List.length_map]
  exact .int _
/-! ### a maker of a rule -/
theorem gr_trk {cells : List (Str × Addr)} {N : List Str} {σ : L2.St} {H H2 : Hp} (t : Trk cells N σ H H2) : Gr F0 H H2 := ⟨fun _ _ e _ => t.keep e, fun b e => by
  cases q : H b with
  | none => rfl
  | some o =>
    rw [t.keep q] at e
    cases e⟩
theorem gr_mk {R : Rt} {P : Addr} {Hm H1 : Hp} (hP : Tb R P) (eN : ∀ b o, Hm b = some o → b ≠ P → H1 b = some o) (nn : ∀ b, H1 b = none → Hm b = none) : Gr (Tb R) Hm H1 :=
  ⟨fun b o e n => eN b o e fun z => n (z ▸ hP), nn⟩
theorem gr_tabs {T : List NTab} {H H' : Hp} (t : TabsN T H) (g : Gr F0 H H') : TabsN T H' := t.ext fun b o e => g.keep b o e id
theorem made_fin {R : Rt} {i : Nat} {fr : List Str} {k : Nat} {sp : List V → Sp} {cells : List (Str × Addr)} {N : List Str} {σ : L2.St} {H0 Hm H1 H' : Hp} {f c' x dx P C : Addr} {r : RuleD} {g : List Int → PyData} {D : List Int → Prop} {Q : VK} {ws : List V} (W : Hp → Prop)
    (m : MkOk R i fr k 1 sp) (hk : k ≤ 60) (g0 : Gr F0 H0 Hm) (hP : Tb R P) (eN : ∀ b o, Hm b = some o → b ≠ P → H1 b = some o) (nn : ∀ b, H1 b = none → Hm b = none) (T1 : TabsN R.T H1) (f0 : Hm f = none) (f1 : H1 f = some (CloO f (R.fn i cells c'))) (c1 : H1 c' = some (CodeO c' (R.fn i cells c').qual))
    (x0 : H1 x = none) (d0 : H1 dx = none) (hdx : dx ≠ x) (gi : Gr (fun b => b = x) (upd (upd H1 dx (.own x)) x (.ins C dx [])) H') (ra : ∀ F : FS, ¬ F x → Dom F (upd (upd H1 dx (.own x)) x (.ins C dx [])) → RAt R.K F H' x (.ref f) r)
    (hcl : ∀ y ∈ fr, ∃ c, cells.lookup y = some c) (len : ws.length = fr.length) (hjs : ∀ (i : Nat) (y : Str), fr[i]? = some y → ∃ (j : Nat) (v : V), N[j]? = some y ∧ σ[j]? = some (some v) ∧ ws[i]? = some v)
    (hW : ∀ F, Dm F H0 → ∀ H2 H3, Trk cells N σ H' H2 → Gr F H2 H3 → W (hide ((R.fn i cells c').cl.map (·.2)) H3))
    (fn : ∀ (F' : FS) (H2 : Hp) (a : Addr) (ns : List Int) (Q : VK), W H2 → H2 a = some (.lst (ns.map V.int)) → D ns → Dom F' H2 → (∀ w H3, Gr F0 H2 H3 → Im R.K F' H3 w (g ns) → Q w H3) → sp ws [.ref a] H2 Q E0)
    (post : RuleMade R H0 r g D Q) : ∀ H2, Trk cells N σ H' H2 → Q (.ref x) H2 := by
  intro H2 t
  have g1 : Gr (Tb R) Hm H1 := gr_mk hP eN nn
  have gx : Gr (fun b => b = x) H1 (upd (upd H1 dx (.own x)) x (.ins C dx [])) := ((Gr.refl _ _).upd (.inr d0)).upd (.inl rfl)
  have gx0 : Gr F0 H1 H' := by
    refine ⟨fun b o e _ => ?_, fun b e => gx.back b (gi.back b e)⟩
    have ne : ¬ b = x := fun z => by
      rw [z, x0] at e
      cases e
    exact gi.keep b o (gx.keep b o e ne) ne
  have g2 : Gr F0 H1 H2 := gx0.trans (gr_trk t)
  have gA : Gr (Tb R) H0 H2 := (g0.of0.trans g1).trans g2.of0
  have x00 : H0 x = none := g0.back x (nn x x0)
  refine post x (.ref f) H2 x00 gA (gr_tabs T1 g2) fun F dF => ⟨dF.d.no x00, (ra F (dF.d.no x00) ?_).gr (gr_trk t).of0, ?_⟩
  · intro b hb
    obtain ⟨o, e⟩ := dF.d b hb
    have n0 : H1 b ≠ none := fun z => by
      have z2 := g0.back b (nn b z)
      rw [e] at z2
      cases z2
    cases e1 : H1 b with
    | none => exact absurd e1 n0
    | some o1 =>
      have ne : ¬ b = x := fun z => by
        rw [z, x0] at e1
        cases e1
      exact ⟨o1, gx.keep b o1 e1 ne⟩
  · have fc : (R.fn i cells c').c = c' := m.c _ _
    have hf2 : H2 f = some (CloO f (R.fn i cells c')) := g2.keep f _ f1 id
    have hc2 : H2 c' = some (CodeO c' (R.fn i cells c').qual) := g2.keep c' _ c1 id
    have CP : Caps H2 (R.fn i cells c').cl fr ws := m.caps t hcl len hjs
    have nF : ¬ F f := dF.d.no (g0.back f f0)
    have nC : ¬ F c' := fun z => by
      obtain ⟨o, e, n⟩ := dF c' z
      by_cases hcP : c' = P
      · have hm := g0.keep c' o e id
        obtain ⟨p, hp, e2⟩ := hP
        obtain ⟨ps, e3, _⟩ := T1 p hp
        rw [e2, ← hcP, c1] at e3
        have e4 := Option.some.inj e3
        unfold CodeO at e4
        cases e4
      · have e1 := eN c' o (g0.keep c' o e id) hcP
        rw [c1] at e1
        exact n _ (Option.some.inj e1).symm
    have nK : ∀ c ∈ (R.fn i cells c').cl.map (·.2), ¬ F c := fun c hc => by
      have hcell : c ∈ cells.map (·.2) := by
        obtain ⟨ln, e1, _, h3⟩ := m.ln
        rw [e1] at hc
        obtain ⟨p, hp, rfl⟩ := List.mem_map.mp hc
        rcases cloFrom_mem (n := p.1) (c := p.2) hp with z | ⟨z1, z2⟩
        · exact nomatch z
        · obtain ⟨c, hc⟩ := hcl _ (h3 _ z1 rfl)
          have e2 : p.2 = c := by rw [z2, show cells.lookup p.1 = some c from hc] <;> rfl
          rw [e2]
          exact List.mem_map.mpr ⟨_, PySem.mem_of_lookup hc, rfl⟩
      exact dF.d.no (g0.back c (nn c (gx0.back c (t.non c hcell))))
    refine ⟨f, k, _, rfl, m.ct f cells c', hk, fun H3 g3 => ⟨⟨_, g3.keep f _ hf2 nF⟩, fun F' a ns Q' ha hD dF' post' => ?_⟩⟩
    have C3 := CP.gr g3 nK
    refine ⟨⟨g3.keep f _ hf2 nF, by rw [fc]; exact g3.keep c' _ hc2 nC⟩, rfl, ws, C3, ?_⟩
    exact fn _ _ a ns _ (hW F dF H2 H3 t g3) (hide_keep C3.cells ha fun x u z => by cases z) hD dF'.hide (hQ_of post')
theorem pu_read_group {R : Rt} (kC : ClsF R.K "Group" ["function", "key", "name"]) (m : MkOk R 0 ["word"] 4 1 (spl_group R)) (hGr : ∀ H, SqT R.K H (He.ga R.K "GROUPS") (groupWords.map V.str)) (hP : Tb R (He.tabOf R.K (He.codeOf R.K ("read_group", none)))) (cells : List (Str × Addr)) (hcl : ∀ y ∈ (["word"] : List Str), ∃ c, cells.lookup y = some c)
    (vs : List V) (H : Hp) (Q : VK) (E : XK) (h : sp_read_group R vs H Q E) : t_read_group R cells (fun v σ' H' => ∀ H2, Trk cells ["words", "key", "name", "word"] σ' H' H2 → Q v H2) (L2.start ["words", "key", "name", "word"] vs) H := by
  obtain ⟨v, rfl, a, kk, n, word, rfl, ha, hkk, hn, hw, hT, post⟩ := h
  refine ⟨_, rfl, a, _, rfl, .of ha, rfl, _, _, rfl, _, _, rfl, _, _, rfl, rfl, ?_⟩
  refine ⟨_, rfl, _, rfl, .str kk, .str kk, smS_name hkk, fun Ha ga => ⟨_, rfl, ?_⟩⟩
  rw [show isName (.str kk) = true from hkk]
  refine iteF ⟨_, rfl, _, rfl, .str n, .str n, smS_name hn, fun Hb gb => ⟨_, rfl, ?_⟩⟩
  rw [show isName (.str n) = true from hn]
  refine iteF ⟨_, rfl, _, _, rfl, .inr (hGr _), rfl, by decide +kernel, _, rfl, ?_⟩
  have hin : inV (.str word) (groupWords.map V.str) = true := by
    rcases List.mem_cons.mp hw with e | hw
    · subst e; decide +kernel
    rcases List.mem_cons.mp hw with e | hw
    · subst e; decide +kernel
    rcases List.mem_cons.mp hw with e | hw
    · subst e; decide +kernel
    rw [List.mem_singleton.mp hw]; decide +kernel
  rw [hin]
  refine iteF ?_
  have gb0 := ga.trans gb
  refine ⟨_, rfl, _, rfl, gr_tabs hT gb0, fun f c' H1 eN nn T1 f0 f1 c1 x dx x0 d0 hdx => ?_⟩
  refine ⟨_, _, _, _, rfl, x, dx, kk, n, rfl, rfl, rfl, hkk, hn, upd_same, fun H' gi ra => ⟨rfl, ?_⟩⟩
  refine made_fin (fun _ => True) (ws := [.str word]) m (by decide) gb0 hP eN nn T1 f0 f1 c1 x0 d0 hdx gi ra hcl rfl (fun i y e => ?_) (fun _ _ _ _ _ _ => trivial) (fun F' H2 a ns Q' _ ha hD dF' post' => ?_) post
  · cases i with
    | zero =>
      cases e
      exact ⟨3, _, rfl, rfl, rfl⟩
    | succ i => cases e
  · exact ⟨_, _, rfl, rfl, _, _, rfl, a, ns, word, F', rfl, rfl, .of ha, hw, hD, dF', post'⟩
/-- the table of heads -/
structure HeadK (R : Rt) (h : Str) (n : Int) : Prop where
  at_ : KDct R.K R.w (He.ga R.K "HEADS") h (.int n)
  ns : (He.ga R.K "HEADS" == sysModules) = false
theorem isi_str {K : PySem.W.Frag} {H : Hp} {x : Str} {Q : VK} (q : Q (.bl true) H) : rIsi K [.str x, .ty "str"] H Q := ⟨_, _, _, _, _, rfl, .ty _, ty_of (.str x), kit_ty (kit_str (.str x)), q⟩
theorem pu_read_rule_group {R : Rt} (hH : HeadK R "group" 4) (vs : List V) (H : Hp) (Q : VK) (E : XK) (h : sp_read_rule_group R vs H Q E) : t_read_rule_group R { nx := fun _ H' => Q .non H', rt := Q } (L2.start ["text", "words", "head"] vs) H := by
  obtain ⟨v, rfl, x, k, n, word, rfl, hs, hl, hk, hn, hw, hT, post⟩ := h
  refine ⟨_, rfl, _, _, _, _, _, rfl, .ty _, ty_of (.str x), kit_ty (kit_str (.str x)), _, rfl, iteF ?_⟩
  refine ⟨_, rfl, ⟨x, rfl⟩, x, " ", rfl, rfl, by decide +kernel, Nat.le_trans (Nat.add_le_add_right hl 2) (by decide), ?_⟩
  rw [hs]
  intro p hp
  have e1 : upd H p (.lst ([("group" : Str), k, n, word].map V.str)) p = some (.lst [.str "group", .str k, .str n, .str word]) := upd_same
  have g1 : Gr F0 H (upd H p (.lst ([("group" : Str), k, n, word].map V.str))) := .new hp
  generalize upd H p (.lst ([("group" : Str), k, n, word].map V.str)) = H1 at *
  refine ⟨_, rfl, p, _, 0, .str "group", rfl, rfl, .of e1, rfl, ?_⟩
  refine ⟨_, rfl, _, _, _, rfl, rfl, hH.ns, hH.at_, _, rfl, ?_⟩
  refine iteF ⟨_, rfl, _, _, rfl, .inl ⟨_, .of e1, rfl⟩, _, rfl, _, _, _, rfl, rfl, hH.at_, _, _, rfl, rfl, _, rfl, ?_⟩
  refine iff' (show decide ((4 : Int) < 4) = false by decide) ?_
  refine ⟨_, rfl, rfl, _, rfl, iff' (by decide +kernel) ?_⟩
  refine ⟨_, rfl, rfl, _, rfl, iff' (by decide +kernel) ?_⟩
  refine ⟨_, rfl, _, _, rfl, .inl ⟨_, .of e1, rfl⟩, _, rfl, _, _, _, rfl, rfl, hH.at_, rfl, _, rfl, iff' (show (!decide (V.int 4 = V.int 4)) = false by decide) ?_⟩
  refine ⟨_, rfl, rfl, _, rfl, ift (by decide +kernel) ?_⟩
  refine ⟨_, rfl, _, rfl, p, _, rfl, .of e1, fun r hr => ?_⟩
  have ec : cutV [V.str "group", .str k, .str n, .str word] (some 1) none = [.str k, .str n, .str word] := rfl
  rw [ec]
  have g2 : Gr F0 H1 (upd H1 r (.lst [.str k, .str n, .str word])) := .new hr
  have g3 := g1.trans g2
  refine ⟨_, rfl, r, k, n, word, rfl, upd_same, hk, hn, hw, gr_tabs hT g3, fun p' fv H' n' g' T' post' => ?_⟩
  refine post p' fv H' (g3.back p' n') (g3.of0.trans g') T' fun F dF => post' F ?_
  intro b hb
  obtain ⟨o, e, z⟩ := dF b hb
  exact ⟨o, g3.keep b o e id, z⟩
theorem pu_read_lookup {R : Rt} (kC : ClsF R.K "Lookup" ["function", "key", "other", "theirs", "names"]) (m : MkOk R 10 [] 4 1 (spl_first R)) (hP : Tb R (He.tabOf R.K (He.codeOf R.K ("read_lookup", none)))) (cells : List (Str × Addr))
    (vs : List V) (H : Hp) (Q : VK) (E : XK) (h : sp_read_lookup R vs H Q E) : t_read_lookup R cells (fun v σ' H' => ∀ H2, Trk cells ["words", "key", "table", "theirs", "name", "word"] σ' H' H2 → Q v H2) (L2.start ["words", "key", "table", "theirs", "name", "word"] vs) H := by
  obtain ⟨v, rfl, a, k, o, t, n, rfl, ha, hk, ho, ht, hn, hT, post⟩ := h
  refine ⟨_, rfl, a, _, rfl, .of ha, rfl, _, _, rfl, _, _, rfl, _, _, rfl, _, _, rfl, rfl, ?_⟩
  refine ⟨_, rfl, a, rfl, ⟨_, .of ha⟩, fun D hD => ?_⟩
  have ha' : H a = some (.lst ([k, o, t, n].map V.str)) := ha
  refine names_lc (K := R.K) (F := F0) (ns := [k, o, t, n]) ha' (by simp) (fun x => .bool (nameS x)) dom0 hD (fun x H1 Qe hx g1 d1 k1 => ?_) fun ys Ha ga ea ia => ?_
  · have hnx : nameS x = true := by
      simp only [List.mem_cons, List.not_mem_nil, or_false] at hx
      rcases hx with rfl | rfl | rfl | rfl
      · exact hk
      · exact ho
      · exact ht
      · exact hn
    exact ⟨rfl, _, rfl, _, rfl, .str x, .str x, smS_name hnx, fun H' g' => k1 _ _ g' (.bl _)⟩
  have eb : ys = [nameS k, nameS o, nameS t, nameS n].map V.bl := bools_of ia
  rw [eb] at ea
  refine ⟨D, [nameS k, nameS o, nameS t, nameS n], rfl, .of ea, _, rfl, ?_⟩
  rw [hk, ho, ht, hn]
  refine iteF ⟨_, rfl, _, rfl, _, rfl, _, rfl, (show 1 ≤ sizeLine by decide), fun l hl => ?_⟩
  have g2 : Gr F0 Ha (upd Ha l (.lst [.str n])) := .new hl
  have el : upd Ha l (.lst [.str n]) l = some (.lst ([n].map V.str)) := upd_same
  have gb := ga.trans g2
  generalize upd Ha l (.lst [.str n]) = Hb at *
  refine ⟨gr_tabs hT gb, fun f c' H1 eN nn T1 f0 f1 c1 => ?_⟩
  intro x dx x0 d0 hdx
  have nl : ¬ Tb R l := (show Dom (Tb R) Ha from fun b ⟨p, hp, e⟩ => by
    obtain ⟨ps, h1, _⟩ := gr_tabs hT ga p hp
    rw [e] at h1
    exact ⟨_, h1⟩).no hl
  have el1 : H1 l = some (.lst ([n].map V.str)) := (gr_mk hP eN nn).keep l _ el nl
  have elx : upd (upd H1 dx (.own x)) x (.ins (He.ga R.K "Lookup") dx []) l = some (.lst ([n].map V.str)) := by
    have n1 : ¬ l = x := fun z => by
      rw [z, x0] at el1
      cases el1
    have n2 : ¬ l = dx := fun z => by
      rw [z, d0] at el1
      cases el1
    rw [upd_ne n1, upd_ne n2]
    exact el1
  refine ⟨_, _, _, _, _, _, rfl, x, dx, l, [n], k, o, t, rfl, rfl, rfl, rfl, hk, ho, ht, upd_same, rfl, elx, by simp, (fun y hy => by rw [List.mem_singleton.mp hy]; exact hn), fun H' gi ra => ⟨rfl, ?_⟩⟩
  refine made_fin (fun _ => True) (ws := []) m (by decide) gb hP eN nn T1 f0 f1 c1 x0 d0 hdx gi ra (fun y hy => nomatch hy) rfl (fun i y e => by cases i <;> cases e) (fun _ _ _ _ _ _ => trivial) (fun F' H2 a ns Q' _ ha hD dF' post' => ?_) post
  exact ⟨a, ns, rfl, rfl, ha, hD, post' _ _ (Gr.refl _ _) (.int _)⟩
theorem pu_read_mend {R : Rt} (kC : ClsF R.K "Mend" ["function", "name"]) (m : MkOk R 11 ["number"] 4 1 (spl_const R)) (hP : Tb R (He.tabOf R.K (He.codeOf R.K ("read_mend", none)))) (cells : List (Str × Addr)) (hcl : ∀ y ∈ (["number"] : List Str), ∃ c, cells.lookup y = some c)
    (vs : List V) (H : Hp) (Q : VK) (E : XK) (h : sp_read_mend R vs H Q E) : t_read_mend R cells (fun v σ' H' => ∀ H2, Trk cells ["words", "number"] σ' H' H2 → Q v H2) (L2.start ["words", "number"] vs) H := by
  obtain ⟨v, rfl, a, n, w, i, rfl, ha, hn, hw, hi, hT, post⟩ := h
  refine ⟨_, rfl, a, _, 1, .str w, rfl, rfl, .of ha, rfl, _, rfl, w, rfl, by omega, fun Ha ga => ?_⟩
  rw [hi]
  have ha1 := ga.keep a _ ha id
  refine ⟨_, rfl, a, _, 0, .str n, rfl, rfl, .of ha1, rfl, _, rfl, .str n, .str n, smS_name hn, fun Hb gb => ⟨_, rfl, ?_⟩⟩
  rw [show isName (.str n) = true from hn]
  have gab := ga.trans gb
  have ha2 := gb.keep a _ ha1 id
  refine iteF ⟨_, rfl, rfl, _, rfl, iff' (decide_eq_false fun e => by cases e) ?_⟩
  refine ⟨_, rfl, a, _, 0, .str n, rfl, rfl, .of ha2, rfl, gr_tabs hT gab, fun f c' H1 eN nn T1 f0 f1 c1 => ?_⟩
  intro x dx x0 d0 hdx
  refine ⟨_, _, _, rfl, x, dx, n, rfl, rfl, hn, upd_same, fun H' gi ra => ⟨rfl, ?_⟩⟩
  refine made_fin (fun _ => True) (ws := [.int i]) m (by decide) gab hP eN nn T1 f0 f1 c1 x0 d0 hdx gi ra hcl rfl (fun i y e => ?_) (fun _ _ _ _ _ _ => trivial) (fun F' H2 a ns Q' _ ha hD dF' post' => ?_) post
  · cases i with
    | zero =>
      cases e
      exact ⟨1, _, rfl, rfl, rfl⟩
    | succ i => cases e
  · exact ⟨_, _, rfl, rfl, post' _ _ (Gr.refl _ _) (.int _)⟩
theorem pu_read_rule_lm {R : Rt} (hL : HeadK R "lookup" 5) (hM : HeadK R "mend" 3) (vs : List V) (H : Hp) (Q : VK) (E : XK) (h : sp_read_rule_lm R vs H Q E) : t_read_rule_lm R { nx := fun _ H' => Q .non H', rt := Q } (L2.start ["text", "words", "head"] vs) H := by
  obtain ⟨v, rfl, x, rfl, hl, hT, hc⟩ := h
  have back : ∀ {r g D H1 H2}, Gr F0 H H1 → Gr F0 H1 H2 → RuleMade R H r g D Q → RuleMade R H2 r g D Q := fun {r g D H1 H2} g1 g2 post p' fv H' n' g' T' post' => by
    have g3 := g1.trans g2
    refine post p' fv H' (g3.back p' n') (g3.of0.trans g') T' fun F dF => post' F ?_
    intro b hb
    obtain ⟨o, e, z⟩ := dF b hb
    exact ⟨o, g3.keep b o e id, z⟩
  refine ⟨_, rfl, _, _, _, _, _, rfl, .ty _, ty_of (.str x), kit_ty (kit_str (.str x)), _, rfl, iteF ?_⟩
  refine ⟨_, rfl, ⟨x, rfl⟩, x, " ", rfl, rfl, by decide +kernel, Nat.le_trans (Nat.add_le_add_right hl 2) (by decide), ?_⟩
  rcases hc with ⟨k, o, t, n, hs, hk, ho, ht, hn, post⟩ | ⟨n, w, i, hs, hn, hw, hi, post⟩
  · rw [hs]
    intro p hp
    have e1 : upd H p (.lst ([("lookup" : Str), k, o, t, n].map V.str)) p = some (.lst [.str "lookup", .str k, .str o, .str t, .str n]) := upd_same
    have g1 : Gr F0 H (upd H p (.lst ([("lookup" : Str), k, o, t, n].map V.str))) := .new hp
    generalize upd H p (.lst ([("lookup" : Str), k, o, t, n].map V.str)) = H1 at *
    refine ⟨_, rfl, p, _, 0, .str "lookup", rfl, rfl, .of e1, rfl, ?_⟩
    refine ⟨_, rfl, _, _, _, rfl, rfl, hL.ns, hL.at_, _, rfl, ?_⟩
    refine iteF ⟨_, rfl, _, _, rfl, .inl ⟨_, .of e1, rfl⟩, _, rfl, _, _, _, rfl, rfl, hL.at_, _, _, rfl, rfl, _, rfl, ?_⟩
    refine iff' (show decide ((5 : Int) < 5) = false by decide) ?_
    refine ⟨_, rfl, rfl, _, rfl, iff' (by decide +kernel) ?_⟩
    refine ⟨_, rfl, rfl, _, rfl, iff' (by decide +kernel) ?_⟩
    refine ⟨_, rfl, _, _, rfl, .inl ⟨_, .of e1, rfl⟩, _, rfl, _, _, _, rfl, rfl, hL.at_, rfl, _, rfl, iff' (show (!decide (V.int 5 = V.int 5)) = false by decide) ?_⟩
    refine ⟨_, rfl, rfl, _, rfl, iff' (by decide +kernel) ?_⟩
    refine ⟨_, rfl, rfl, _, rfl, ift (by decide +kernel) ?_⟩
    refine ⟨_, rfl, _, rfl, p, _, rfl, .of e1, fun r hr => ?_⟩
    have ec : cutV [V.str "lookup", .str k, .str o, .str t, .str n] (some 1) none = [.str k, .str o, .str t, .str n] := rfl
    rw [ec]
    have g2 : Gr F0 H1 (upd H1 r (.lst [.str k, .str o, .str t, .str n])) := .new hr
    exact ⟨_, rfl, r, k, o, t, n, rfl, upd_same, hk, ho, ht, hn, gr_tabs hT (g1.trans g2), back g1 g2 post⟩
  · rw [hs]
    intro p hp
    have e1 : upd H p (.lst ([("mend" : Str), n, w].map V.str)) p = some (.lst [.str "mend", .str n, .str w]) := upd_same
    have g1 : Gr F0 H (upd H p (.lst ([("mend" : Str), n, w].map V.str))) := .new hp
    generalize upd H p (.lst ([("mend" : Str), n, w].map V.str)) = H1 at *
    refine ⟨_, rfl, p, _, 0, .str "mend", rfl, rfl, .of e1, rfl, ?_⟩
    refine ⟨_, rfl, _, _, _, rfl, rfl, hM.ns, hM.at_, _, rfl, ?_⟩
    refine iteF ⟨_, rfl, _, _, rfl, .inl ⟨_, .of e1, rfl⟩, _, rfl, _, _, _, rfl, rfl, hM.at_, _, _, rfl, rfl, _, rfl, ?_⟩
    refine iff' (show decide ((3 : Int) < 3) = false by decide) ?_
    refine ⟨_, rfl, rfl, _, rfl, iff' (by decide +kernel) ?_⟩
    refine ⟨_, rfl, rfl, _, rfl, iff' (by decide +kernel) ?_⟩
    refine ⟨_, rfl, _, _, rfl, .inl ⟨_, .of e1, rfl⟩, _, rfl, _, _, _, rfl, rfl, hM.at_, rfl, _, rfl, iff' (show (!decide (V.int 3 = V.int 3)) = false by decide) ?_⟩
    refine ⟨_, rfl, rfl, _, rfl, iff' (by decide +kernel) ?_⟩
    refine ⟨_, rfl, rfl, _, rfl, iff' (by decide +kernel) ?_⟩
    refine ⟨_, rfl, _, rfl, p, _, rfl, .of e1, fun r hr => ?_⟩
    have ec : cutV [V.str "mend", .str n, .str w] (some 1) none = [.str n, .str w] := rfl
    rw [ec]
    have g2 : Gr F0 H1 (upd H1 r (.lst [.str n, .str w])) := .new hr
    exact ⟨_, rfl, r, n, w, i, rfl, upd_same, hn, hw, hi, gr_tabs hT (g1.trans g2), back g1 g2 post⟩
theorem pul_first {R : Rt} (ws vs : List V) (H : Hp) (Q : VK) (E : XK) (h : spl_first R ws vs H Q E) : tl_read_lookup_lam R (startF ["some"] vs (ws.map some)) H Q := by
  obtain ⟨a, ns, rfl, rfl, ha, hn, q⟩ := h
  cases ns with
  | nil => cases hn
  | cons n ms => exact ⟨_, rfl, a, _, 0, .int n, rfl, rfl, .of ha, (show atI ((n :: ms).map V.int) ((0 : Nat) : Int) = some (V.int n) from atI_nat rfl), q⟩
/-! ### the laws' own defs -/
def sp_law_cell (R : Rt) : Sp := Sp2 fun v k H Q _ => ∃ (a : Addr) (sc : List Int) (n : Int), v = .ref a ∧ SqL R.K H a (sc.map V.int) ∧ sc.length ≤ 100 ∧ k = .int n ∧ 0 ≤ n ∧ n < 1000 ∧ ∀ i, Q (.int i) H
def sp_law_number (R : Rt) : Sp := Sp1 fun v H Q _ => ∃ c, v = .int c ∧ ∀ i H', Gr F0 H H' → inR i = true → Q (.int i) H'
def sp_law_key (R : Rt) : Sp := Sp1 fun v H Q _ => ∃ c F, v = .int c ∧ Dom F H ∧ ∀ w d H', Gr F0 H H' → isValue d = true → Im R.K F H' w d → Q w H'
abbrev sp_law_once (R : Rt) : Sp := sp_each_once R
/-- of a class: isinstance -/
structure ClsI (K : PySem.W.Frag) (C : Str) : Prop where
  c : Cls K (He.ga K C)
  ha : PySem.W.findIn K (.ref (He.ga K C)) "__class__" = some (some (.builtin "object.__class__"))
  hn : PySem.W.specialIn K (.builtin "object.__class__") "__get__" = some (some (.builtin "getset_descriptor.__get__"))
  ht : PySem.W.takesIn K (.builtin "object.__class__") = some true
  hm : PySem.W.mroIn K (He.ga K C) (.type "object") = some true
theorem ClsI.isi {K : PySem.W.Frag} {C : Str} (h : ClsI K C) {F : FS} {H : Hp} {p : Addr} {al : List (Str × V)} (o : ObjAt K F H p C al) : ∃ (t u : Value), ClsV (.ref (He.ga K C)) u ∧ TyX K H (.ref p) t ∧ PySem.W.kitOne K t u = some true := by
  obtain ⟨dx, fs, e, _⟩ := o.ob
  exact ⟨_, _, .own _, .base (.ins e h.c h.ha h.hn h.ht h.hm), if_pos (beq_self_eq_true _)⟩
/-- the law: it tells True -/
def sp_law (R : Rt) : Sp := Sp1 fun v H Q _ => ∃ (a : Addr) (sc : List Int), v = .ref a ∧ SqL R.K H a (sc.map V.int) ∧ sc.length ≤ 63 ∧ TabsN R.T H ∧ ∀ H', Q (.bl true) H'
/-- a function that notes its looks in a list -/
def spl_law_look (R : Rt) : List V → Sp := fun ws vs H Q E => ∃ (ga : Addr) (vacc : List V) (kv nv : V) (ds nds : List PyData) (key t c : Str) (pl : Nat) (F : FS), ws = [.ref ga, .str key, kv, nv] ∧ vs = [.str t, .str c, .int (pl : Nat)] ∧ H ga = some (.lst vacc) ∧ vacc.length < 100000 ∧ F ga ∧ Dom F H ∧
  Im R.K F H kv (.list ds) ∧ Im R.K F H nv (.list nds) ∧ pl < ds.length ∧ pl < nds.length ∧
  ∀ w r H', H r = none → Gr (fun b => b = ga) H H' → H' ga = some (.lst (vacc ++ [.ref r])) → H' r = some (.tup [.str t, .str c, .int (pl : Nat)]) → Im R.K F H' w (if c = key then ds.getD pl .none else nds.getD pl .none) → Q w H'
def spl_many (R : Rt) : List V → Sp := fun ws vs H Q E => ∃ w v, ws = [w] ∧ vs = [v] ∧ Q w H
theorem atI_in {α : Type} {xs : List α} {i : Int} (h0 : 0 ≤ i) (h : i < (xs.length : Int)) : ∃ y, xs[i.toNat]? = some y ∧ atI xs i = some y := by
  have hn : i.toNat < xs.length := by omega
  refine ⟨xs[i.toNat], List.getElem?_eq_getElem hn, ?_⟩
  have z := atI_nat (List.getElem?_eq_getElem hn)
  rw [Int.toNat_of_nonneg h0] at z
  exact z
theorem atI_int {ns : List Int} {i : Int} (h0 : 0 ≤ i) (h : i < (ns.length : Int)) : ∃ y, atI (ns.map V.int) i = some (.int y) ∧ y ∈ ns := by
  obtain ⟨v, e1, e2⟩ := atI_in (xs := ns.map V.int) h0 (by rw [List.length_map]; exact h)
  obtain ⟨y, hy, rfl⟩ := map_at e1
  exact ⟨y, e2, List.mem_of_getElem? hy⟩
theorem cmul_small {i j : Int} (h1 : -(2 ^ 64) < i) (h2 : i < 2 ^ 64) : CMul i j := .inl ⟨h1, h2⟩
theorem e60 : (10 : Int) ^ (60 : Int).toNat = 1000000000000000000000000000000000000000000000000000000000000 := by decide +kernel
theorem e30 : (10 : Int) ^ (30 : Int).toNat = 1000000000000000000000000000000 := by decide +kernel
theorem inR_of {i : Int} (h1 : -1000000000000000000000000000000000000000000000000000000000000 < i) (h2 : i < 1000000000000000000000000000000000000000000000000000000000000) : inR i = true := by
  unfold inR
  refine decide_eq_true ?_
  rw [show (10 : Int) ^ 60 = 1000000000000000000000000000000000000000000000000000000000000 by decide +kernel]
  split <;> omega
theorem inR_to {i : Int} (h : inR i = true) : -1000000000000000000000000000000000000000000000000000000000000 < i ∧ i < 1000000000000000000000000000000000000000000000000000000000000 := by
  have h2 := of_decide_eq_true h
  rw [show (10 : Int) ^ 60 = 1000000000000000000000000000000000000000000000000000000000000 by decide +kernel] at h2
  split at h2 <;> omega
theorem isV_int {i : Int} (h : inR i = true) : isValue (.int i) = true := by
  show (inR i || _) = true
  rw [h] <;> rfl
theorem isV_flt {x : Str} (h : nameS x = true) : isValue (flt x) = true := by
  show (false || (decide (("fault" : Str) = "fault") && nameS x)) = true
  rw [h, decide_eq_true rfl] <;> rfl
def isTupD : PyData → Bool
  | .tuple _ => true
  | _ => false
theorem cut1 (x : V) (xs : List V) : cutV (x :: xs) (some 1) none = xs := by
  unfold cutV
  have e1 : HT.sIx (x :: xs).length 0 (some 1) = 1 := by
    simp [HT.sIx]
  have e2 : HT.sIx (x :: xs).length (x :: xs).length none = xs.length + 1 := rfl
  rw [e1, e2]
  show xs.take (xs.length + 1 - 1) = xs
  rw [Nat.add_sub_cancel, List.take_length]
theorem getD_nat {xs : List V} {i : Nat} {x : V} (h : xs[i]? = some x) : atI xs (i : Int) = some x := atI_nat h
theorem is_tup {K : PySem.W.Frag} {H : Hp} {v : V} {d : PyData} (h : Dp K H v d) : ∃ (t u : Value), ClsV (.ty "tuple") u ∧ TyX K H v t ∧ PySem.W.kitOne K t u = some (isTupD d) :=
  ⟨_, _, .ty _, ty_of h, kit_ty (by rw [kit_tuple]; cases d <;> rfl)⟩
theorem atI_str {ns : List Str} {i : Int} (h0 : 0 ≤ i) (h : i < (ns.length : Int)) : ∃ y, atI (ns.map V.str) i = some (.str y) ∧ y ∈ ns := by
  obtain ⟨v, e1, e2⟩ := atI_in (xs := ns.map V.str) h0 (by rw [List.length_map]; exact h)
  obtain ⟨y, hy, rfl⟩ := map_at e1
  exact ⟨y, e2, List.mem_of_getElem? hy⟩
theorem emod_in (i : Int) {n : Int} (h : 0 < n) : 0 ≤ i % n ∧ i % n < n := ⟨Int.emod_nonneg i (by omega), Int.emod_lt_of_pos i h⟩
theorem str_len {x : Str} (h : nameS x = true) : x.length ≤ 8 := name_short h
theorem isT_fault {d : PyData} (h : isValue d = true) : isFault d = isTupD d := by
  cases d with
  | tuple xs =>
    have h2 : (false || isFault (.tuple xs)) = true := h
    rw [Bool.false_or] at h2
    rw [h2] <;> rfl
  | _ => rfl
theorem val_int {d : PyData} (h : isValue d = true) (e : isTupD d = false) : ∃ i, d = .int i ∧ inR i = true := by
  cases d with
  | int i =>
    have h2 : (inR i || false) = true := h
    rw [Bool.or_false] at h2
    exact ⟨i, rfl, h2⟩
  | tuple xs => cases e
  | _ => cases h
theorem tb_dom {R : Rt} {H : Hp} (t : TabsN R.T H) : Dm (Tb R) H := fun b ⟨p, hp, e⟩ => by
  obtain ⟨ps, h1, _⟩ := t p hp
  rw [e] at h1
  exact ⟨_, h1, fun q z => by unfold CodeO at z; cases z⟩
theorem sq_gr {K : PySem.W.Frag} {H H' : Hp} {a : Addr} {xs : List V} (h : SqL K H a xs) (g : Gr F0 H H') : SqL K H' a xs := h.imp (fun z => g.rd z id) id
theorem FunOk.wk {K : PySem.W.Frag} {C : CK} {F F' : FS} {H : Hp} {fv : V} {g : List Int → PyData} {D : List Int → Prop} (h : FunOk K C F H fv g D) (w : Wk F F' H) : FunOk K C F' H fv g D := by
  obtain ⟨f, k, sp, e, c, hk, r⟩ := h.run
  refine ⟨f, k, sp, e, c, hk, fun H' g' => r H' ⟨fun b o e n => g'.keep b o e fun z => ?_, g'.back⟩⟩
  rcases w b z with z | z
  · exact n z
  · rw [e] at z
    cases z
theorem FunOk.gr {K : PySem.W.Frag} {C : CK} {F : FS} {H H1 : Hp} {fv : V} {g : List Int → PyData} {D : List Int → Prop} (h : FunOk K C F H fv g D) (g1 : Gr F H H1) : FunOk K C F H1 fv g D := by
  obtain ⟨f, k, sp, e, c, hk, r⟩ := h.run
  exact ⟨f, k, sp, e, c, hk, fun H' g' => r H' (g1.trans g')⟩
theorem gr_hide {cells : List (Str × Addr)} {N : List Str} {σ : L2.St} {H K2 H' : Hp} {F : FS} (t : Trk cells N σ H K2) (g : Gr F K2 H') : Gr F H (hide (cells.map (·.2)) H') := by
  refine ⟨fun b o e n => ?_, fun b e => ?_⟩
  · rw [hide_out fun hc => ?_]
    · exact g.keep b o (t.keep e) n
    · have z := t.non b hc
      rw [e] at z
      cases z
  · by_cases hb : b ∈ cells.map (·.2)
    · exact t.non b hb
    · rw [hide_out hb] at e
      exact (gr_trk t).back b (g.back b e)
theorem val_dp {d : PyData} (h : isValue d = true) : d.depth ≤ 1 := by
  rcases Bool.or_eq_true_iff.mp h with h | h
  · cases d <;> first | (rw [int_dp]; exact Nat.zero_le _) | cases h
  · match d, h with
    | .tuple [.str x, w], h =>
      obtain ⟨y, rfl⟩ : ∃ y, w = .str y := by
        have z := (Bool.and_eq_true_iff.mp (show (decide (x = ("fault" : Str)) && isName w) = true from h)).2
        cases w <;> first | exact ⟨_, rfl⟩ | cases z
      simp [PyData.depth, PyData.depthAll]
theorem spot_sh {s : Spot} (h1 : nameS s.1 = true) (h2 : nameS s.2.1 = true) : SeqAt.shaped (spotD s) = true := by
  refine shaped_tuple (fun d hd => ?_) (fun d hd => ?_)
  · simp only [List.mem_cons, List.not_mem_nil, or_false] at hd
    rcases hd with rfl | rfl | rfl
    · exact str_sh h1
    · exact str_sh h2
    · exact int_sh _
  · simp only [List.mem_cons, List.not_mem_nil, or_false] at hd
    rcases hd with rfl | rfl | rfl
    · rw [str_dp]; exact Nat.zero_le _
    · rw [str_dp]; exact Nat.zero_le _
    · rw [int_dp]; exact Nat.zero_le _
theorem spot_dp (s : Spot) : (spotD s).depth ≤ 60 := by simp [spotD, PyData.depth, PyData.depthAll]
theorem onceD_mem : ∀ {ds acc : List PyData} {d : PyData}, d ∈ onceD acc ds → d ∈ acc ∨ d ∈ ds
  | [], acc, d, h => .inl h
  | x :: ds, acc, d, h => by
    rw [onceD_step] at h
    rcases onceD_mem h with z | z
    · split at z
      · exact .inl z
      · rcases List.mem_append.mp z with z | z
        · exact .inl z
        · rw [List.mem_singleton.mp z]
          exact .inr List.mem_cons_self
    · exact .inr (List.mem_cons_of_mem _ z)
theorem once_sh {ds : List PyData} (h : ∀ d ∈ ds, SeqAt.shaped d = true) (h2 : ∀ d ∈ ds, d.depth ≤ 60) : SeqAt.shaped (.list (onceD [] ds)) = true :=
  shaped_list (fun d hd => (onceD_mem hd).elim (fun z => nomatch z) (h d)) fun d hd => (onceD_mem hd).elim (fun z => nomatch z) (h2 d)
theorem eqv_sh {d : PyData} (h : SeqAt.shaped d = true) : PyData.eqv d d = true := SeqAt.eqv_refl d (SeqAt.canLay_of_shaped h)
theorem value_sh {d : PyData} (h : isValue d = true) : SeqAt.shaped (valueD d) = true := by
  refine shaped_tuple (fun x hd => ?_) (fun x hd => ?_)
  · simp only [List.mem_cons, List.not_mem_nil, or_false] at hd
    rcases hd with rfl | rfl
    · exact str_sh (by decide +kernel)
    · exact val_sh h
  · simp only [List.mem_cons, List.not_mem_nil, or_false] at hd
    rcases hd with rfl | rfl
    · rw [str_dp]; exact Nat.zero_le _
    · exact Nat.le_trans (val_dp h) (by decide)
theorem list_dp {ds : List PyData} {n : Nat} (h : ∀ d ∈ ds, d.depth ≤ n) : (PyData.list ds).depth ≤ n + 1 := by
  have z := depthAll_le h
  unfold PyData.depth
  omega
theorem call_sh {ds : List PyData} (h : ∀ d ∈ ds, isValue d = true) : SeqAt.shaped (callD ds) = true := by
  refine shaped_tuple (fun x hd => ?_) (fun x hd => ?_)
  · simp only [List.mem_cons, List.not_mem_nil, or_false] at hd
    rcases hd with rfl | rfl
    · exact str_sh (by decide +kernel)
    · exact shaped_list (fun d hd => val_sh (h d hd)) fun d hd => Nat.le_trans (val_dp (h d hd)) (by decide)
  · simp only [List.mem_cons, List.not_mem_nil, or_false] at hd
    rcases hd with rfl | rfl
    · rw [str_dp]; exact Nat.zero_le _
    · exact Nat.le_trans (list_dp fun d hd => val_dp (h d hd)) (by decide)
def intOf : PyData → Int
  | .int i => i
  | _ => 0
theorem is_of {K : PySem.W.Frag} {H : Hp} {v : V} {d : PyData} {T : String} {b : Bool} (h : Dp K H v d) (e : kitB (tyName d) T = some b) : ∃ (t u : Value), ClsV (.ty T) u ∧ TyX K H v t ∧ PySem.W.kitOne K t u = some b :=
  ⟨_, _, .ty _, ty_of h, kit_ty e⟩
theorem not_bool {d : PyData} (h : isValue d = true) : kitB (tyName d) "bool" = some false := by
  rw [kit_bool]
  cases d <;> first | rfl | cases h
theorem onceD_pair (t k n : Str) : onceD [] [pairD t k, pairD t n] = if k = n then [pairD t k] else [pairD t k, pairD t n] := by
  have e : PyData.eqv (pairD t k) (pairD t n) = decide (k = n) := by
    simp [pairD, PyData.eqv, PyData.eqvAll]
    rw [Bool.eq_iff_iff]
    simp
  show onceD (if ([pairD t k] : List PyData).any (fun z => PyData.eqv z (pairD t n)) then [pairD t k] else [pairD t k] ++ [pairD t n]) [] = _
  have e2 : ([pairD t k] : List PyData).any (fun z => PyData.eqv z (pairD t n)) = decide (k = n) := by
    show (PyData.eqv (pairD t k) (pairD t n) || false) = _
    rw [e, Bool.or_false]
  rw [e2]
  by_cases h : k = n
  · rw [decide_eq_true h, if_pos rfl, if_pos h]
    rfl
  · rw [decide_eq_false h, if_neg Bool.false_ne_true, if_neg h]
    rfl
abbrev sp_read_rule (R : Rt) : Sp := sp_read_rule_lm R
/-! ### what is looked at, in turn -/
def walkGo (ds : List PyData) (kd : PyData) (acc : List Spot) : List Nat → List Spot × Option Nat
  | [] => (acc, none)
  | j :: js => if PyData.eqv (ds.getD j .none) kd then (acc ++ [(("lookup" : Str), ("theirs" : Str), (j : Int)), (("lookup" : Str), ("named" : Str), (j : Int))], some j) else walkGo ds kd (acc ++ [(("lookup" : Str), ("theirs" : Str), (j : Int))]) js
def keySpot (pl : Nat) : Spot := (("t" : Str), ("key" : Str), (pl : Int))
def walk55 (ds : List PyData) (kd : PyData) (pl : Nat) : List Spot × Option Nat := walkGo ds kd [keySpot pl] (List.range ds.length)
def asked55 (ds : List PyData) (kd : PyData) (pl : Nat) : List PyData :=
  if isTupD kd then [.list [spotD (keySpot pl)], valueD kd, .none]
  else match (walk55 ds kd pl).2 with
    | some j => [.list ((walk55 ds kd pl).1.map spotD), .none, .int (j : Nat)]
    | none => [.list ((walk55 ds kd pl).1.map spotD), valueD (flt "lacks"), .none]
def sp_law_asked (R : Rt) : Sp := Sp3 fun kv ksv pv H Q _ => ∃ (kd : PyData) (ds : List PyData) (pl : Nat) (F : FS), Im R.K F H kv kd ∧ Im R.K F H ksv (.list ds) ∧ pv = .int (pl : Nat) ∧ isValue kd = true ∧ (∀ d ∈ ds, isValue d = true) ∧ ds.length ≤ 100 ∧ Dom F H ∧
  ∀ w H', Gr F0 H H' → Im R.K F H' w (.tuple (asked55 ds kd pl)) → Q w H'
def sp_law_lookup (R : Rt) : Sp := Sp4 fun sv kv ksv nv H Q _ => ∃ (a : Addr) (sc : List Int) (kd : PyData) (ds nds : List PyData), sv = .ref a ∧ SqL R.K H a (sc.map V.int) ∧ sc.length ≤ 100 ∧ Im R.K (Tb R) H kv kd ∧ Im R.K (Tb R) H ksv (.list ds) ∧ Im R.K (Tb R) H nv (.list nds) ∧
  isValue kd = true ∧ (∀ d ∈ ds, isValue d = true) ∧ (∀ d ∈ nds, ∃ i, d = .int i ∧ inR i = true) ∧ ds.length = nds.length ∧ ds.length ≤ 8 ∧ TabsN R.T H ∧ ∀ H', Gr (Tb R) H H' → TabsN R.T H' → Q (.bl true) H'
def sp_law_mend (R : Rt) : Sp := Sp2 fun sv nv H Q _ => ∃ (a : Addr) (sc : List Int) (i : Int), sv = .ref a ∧ SqL R.K H a (sc.map V.int) ∧ sc.length ≤ 100 ∧ nv = .int i ∧ inR i = true ∧ TabsN R.T H ∧ ∀ H', Q (.bl true) H'
/-- the look of the lookup law -/
def lkv55 (kd : PyData) (ds nds : List PyData) (_t c : Str) (p : Int) : PyData := if c = "key" then kd else if c = "theirs" then ds.getD p.toNat .none else nds.getD p.toNat .none
def spl_look55 (R : Rt) : List V → Sp := fun ws vs H Q E => ∃ (ga : Addr) (vacc : List V) (kv ksv nv : V) (kd : PyData) (ds nds : List PyData) (t c : Str) (p : Int) (F : FS), ws = [.ref ga, kv, ksv, nv] ∧ vs = [.str t, .str c, .int p] ∧ H ga = some (.lst vacc) ∧ vacc.length < 100000 ∧ F ga ∧ Dom F H ∧
  Im R.K F H kv kd ∧ Im R.K F H ksv (.list ds) ∧ Im R.K F H nv (.list nds) ∧ (c = "key" ∨ (0 ≤ p ∧ p < ds.length)) ∧ ds.length = nds.length ∧
  ∀ w r H', H r = none → Gr (fun b => b = ga) H H' → H' ga = some (.lst (vacc ++ [.ref r])) → H' r = some (.tup [.str t, .str c, .int p]) → Im R.K F H' w (lkv55 kd ds nds t c p) → Q w H'
def spl_many55 (R : Rt) : List V → Sp := fun ws vs H Q E => ∃ (v : V) (t : Str) (ds : List PyData) (F : FS), ws = [v] ∧ vs = [.str t] ∧ Im R.K F H v (.list ds) ∧ Dom F H ∧ ∀ H', Gr F0 H H' → Q (.int ((if t = "lookup" then ds.length else 9 : Nat) : Nat)) H'
def spl_mend (R : Rt) : List V → Sp := fun ws vs H Q E => ∃ w a b c, ws = [w] ∧ vs = [a, b, c] ∧ Q w H
def spl_three (R : Rt) : List V → Sp := fun ws vs H Q E => ∃ a, ws = [] ∧ vs = [a] ∧ Q (.int 3) H
def t_law_cell (R : Rt) : TS := (tSeq (tIfS (tTest (tOp rLtI (tVar 1) (tCB (rLen R.K) (tCons (tVar 0) tNil)))) (tRet (tOp (rIxL R.K) (tVar 0) (tVar 1))) tNext)
  (tSeq (tAsg (tC (.int 41)) (gName 2))
  (tSeq (tIfS (tTest (tOp rGtI (tCB (rLen R.K) (tCons (tVar 0) tNil)) (tC (.int 0)))) (tAsg (tOp rModI (tOp (rIxL R.K) (tVar 0) (tOp rModI (tVar 1) (tCB (rLen R.K) (tCons (tVar 0) tNil)))) (tC (.int 2147483647))) (gName 2)) tNext)
  (tRet (tOp rModI (tOp rMulI (tOp rAddI (tOp rAddI (tVar 2) (tOp rMulI (tVar 1) (tVar 1))) (tC (.int 5))) (tOp rAddI (tC (.int 48271)) (tOp rMulI (tC (.int 16807)) (tVar 1)))) (tC (.int 2147483629)))))))
def t_law_number (R : Rt) : TS := (tSeq (tAsg (tOp rSubI (tOp rPowI (tC (.int 10)) (tC (.int 60))) (tC (.int 1))) (gName 1))
  (tSeq (tIfS (tTest (tOp rEq (tOp rModI (tVar 0) (tC (.int 4))) (tC (.int 0)))) (tRet (tOp rSubI (tOp rModI (tOp rDivI (tVar 0) (tC (.int 4))) (tOp rAddI (tOp rMulI (tC (.int 2)) (tVar 1)) (tC (.int 1)))) (tVar 1))) tNext)
  (tSeq (tIfS (tTest (tOp rEq (tOp rModI (tVar 0) (tC (.int 4))) (tC (.int 1)))) (tRet (tOp (rIxL R.K) (tLst (tCons (tVar 1) (tCons (tOp rSubI (tC (.int 0)) (tVar 1)) (tCons (tC (.int 0)) (tCons (tOp rPowI (tC (.int 10)) (tC (.int 30))) (tCons (tOp rSubI (tC (.int 0)) (tOp rPowI (tC (.int 10)) (tC (.int 30)))) tNil)))))) (tOp rModI (tOp rDivI (tVar 0) (tC (.int 4))) (tC (.int 5))))) tNext)
  (tRet (tOp rSubI (tOp rModI (tOp rDivI (tVar 0) (tC (.int 4))) (tC (.int 15))) (tC (.int 7)))))))
def t_law_key (R : Rt) : TS := (tSeq (tIfS (tTest (tOp rEq (tOp rModI (tVar 0) (tC (.int 5))) (tC (.int 4)))) (tRet (tTup (tCons (tC (.str "fault")) (tCons (tC (.str "odd")) tNil)))) tNext)
  (tRet (tOp (rIxL R.K) (tLst (tCons (tC (.int 0)) (tCons (tC (.int 1)) (tCons (tUn rNeg (tC (.int 1))) (tCons (tOp rSubI (tOp rPowI (tC (.int 10)) (tC (.int 60))) (tC (.int 1))) tNil))))) (tOp rModI (tVar 0) (tC (.int 4))))))
def t_law_asked (R : Rt) : TS := (tSeq (tAsg (tLst (tCons (tTup (tCons (tC (.str "t")) (tCons (tC (.str "key")) (tCons (tVar 2) tNil)))) tNil)) (gName 3))
  (tSeq (tIfS (tB (tCB (rIsi R.K) (tCons (tVar 0) (tCons (tC (.ty "tuple")) tNil)))) (tRet (tTup (tCons (tVar 3) (tCons (tTup (tCons (tC (.str "value")) (tCons (tVar 0) tNil))) (tCons (tC .non) tNil))))) tNext)
  (tSeq (tFor (iRng1 (tCons (tCB (rLen R.K) (tCons (tVar 1) tNil)) tNil)) (gName 4)
  (tSeq (tDrop (tBM R.K "list" rAppend (tVar 3) (tCons (tTup (tCons (tC (.str "lookup")) (tCons (tC (.str "theirs")) (tCons (tVar 4) tNil)))) tNil)))
  (tIfS (tTest (tOp (rEqD R.K) (tOp (rIxL R.K) (tVar 1) (tVar 4)) (tVar 0))) (tRet (tTup (tCons (tOp (rCatI R.K) (tVar 3) (tLst (tCons (tTup (tCons (tC (.str "lookup")) (tCons (tC (.str "named")) (tCons (tVar 4) tNil)))) tNil))) (tCons (tC .non) (tCons (tVar 4) tNil))))) tNext)))
  (tRet (tTup (tCons (tVar 3) (tCons (tTup (tCons (tC (.str "value")) (tCons (tTup (tCons (tC (.str "fault")) (tCons (tC (.str "lacks")) tNil))) tNil))) (tCons (tC .non) tNil))))))))
def t_law_once (R : Rt) : TS := (tSeq (tAsg (tLst tNil) (gName 1))
  (tSeq (tFor (iList R.K (tVar 0)) (gName 2)
  (tIfS (tTest (tOp (rNotInD R.K) (tVar 2) (tVar 1))) (tDrop (tBM R.K "list" rAppend (tVar 1) (tCons (tVar 2) tNil))) tNext))
  (tRet (tVar 1))))
theorem pu_law_cell {R : Rt} (vs : List V) (H : Hp) (Q : VK) (E : XK) (h : sp_law_cell R vs H Q E) : t_law_cell R { nx := fun _ H' => Q .non H', rt := Q } (L2.start ["script", "k", "seed"] vs) H := by
  obtain ⟨v, k, rfl, a, sc, n, rfl, hs, hl, rfl, h0, h1, q⟩ := h
  refine ⟨_, rfl, _, rfl, _, _, rfl, .inl ⟨_, hs, rfl⟩, _, _, rfl, rfl, _, rfl, ?_⟩
  rw [List.length_map]
  by_cases hn : n < (sc.length : Int)
  · obtain ⟨y, ey, _⟩ := atI_int h0 hn
    exact ift (decide_eq_true hn) ⟨_, rfl, _, rfl, a, _, n, _, rfl, rfl, hs, ey, q y⟩
  refine iff' (decide_eq_false hn) ?_
  have fin : ∀ sd : Int, 0 ≤ sd → sd < 2147483648 → tRet (tOp rModI (tOp rMulI (tOp rAddI (tOp rAddI (tVar 2) (tOp rMulI (tVar 1) (tVar 1))) (tC (.int 5))) (tOp rAddI (tC (.int 48271)) (tOp rMulI (tC (.int 16807)) (tVar 1)))) (tC (.int 2147483629))) { nx := fun _ H' => Q .non H', rt := Q } [some (.ref a), some (.int n), some (.int sd)] H := by
    intro sd s0 s1
    have hnn : n * n ≤ 1000 * 1000 := Int.mul_le_mul (by omega) (by omega) h0 (by omega)
    have hn0 : 0 ≤ n * n := Int.mul_nonneg h0 h0
    refine ⟨_, rfl, _, rfl, _, rfl, _, _, rfl, rfl, cmul_small (by omega) (by omega), _, _, rfl, rfl, _, _, rfl, rfl, _, rfl, _, _, rfl, rfl, .inl ⟨by decide, by decide⟩, _, _, rfl, rfl, _, _, rfl, rfl, cmul_small (by omega) (by omega), _, _, rfl, rfl, (show (0 : Int) < 2147483629 by decide), q _⟩
  refine ⟨_, rfl, _, _, rfl, .inl ⟨_, hs, rfl⟩, _, _, rfl, rfl, _, rfl, ?_⟩
  rw [List.length_map]
  by_cases hp : (sc.length : Int) > 0
  · refine ift (decide_eq_true hp) ?_
    refine ⟨_, rfl, _, rfl, _, rfl, _, _, rfl, .inl ⟨_, hs, rfl⟩, _, _, rfl, rfl, ?_, ?_⟩
    · rw [List.length_map]; exact hp
    · rw [List.length_map]
      obtain ⟨y, ey, _⟩ := atI_int (ns := sc) (Int.emod_nonneg n (by omega)) (Int.emod_lt_of_pos n hp)
      exact ⟨a, _, _, _, rfl, rfl, hs, ey, _, _, rfl, rfl, (show (0 : Int) < 2147483647 by decide), fin _ (Int.emod_nonneg y (by decide)) (by have := Int.emod_lt_of_pos y (show (0 : Int) < 2147483647 by decide); omega)⟩
  · exact iff' (decide_eq_false hp) (fin 41 (by decide) (by decide))
theorem pu_law_number {R : Rt} (vs : List V) (H : Hp) (Q : VK) (E : XK) (h : sp_law_number R vs H Q E) : t_law_number R { nx := fun _ H' => Q .non H', rt := Q } (L2.start ["cell", "far"] vs) H := by
  obtain ⟨v, rfl, c, rfl, q⟩ := h
  refine ⟨_, _, rfl, rfl, ⟨by decide, by decide, by decide⟩, _, _, rfl, rfl, ?_⟩
  rw [e60]
  refine ⟨_, rfl, _, _, rfl, rfl, (show (0 : Int) < 4 by decide), rfl, _, rfl, ?_⟩
  by_cases h1 : c % 4 = 0
  · refine ift (decide_eq_true (congrArg V.int h1)) ⟨_, rfl, _, _, rfl, rfl, ⟨by decide, by decide⟩, _, rfl, _, _, rfl, rfl, cmul_small (by decide) (by decide), _, _, rfl, rfl, _, _, rfl, rfl, (by show (0 : Int) < _; decide), _, rfl, _, _, rfl, rfl, q _ H (Gr.refl _ _) ?_⟩
    have z1 := Int.emod_nonneg (c / 4) (b := 2 * (1000000000000000000000000000000000000000000000000000000000000 - 1) + 1) (by decide)
    have z2 := Int.emod_lt_of_pos (c / 4) (b := 2 * (1000000000000000000000000000000000000000000000000000000000000 - 1) + 1) (by decide)
    exact inR_of (by omega) (by omega)
  refine iff' (decide_eq_false fun e => h1 (V.int.inj e)) ⟨_, rfl, _, _, rfl, rfl, (show (0 : Int) < 4 by decide), rfl, _, rfl, ?_⟩
  by_cases h2 : c % 4 = 1
  · refine ift (decide_eq_true (congrArg V.int h2)) ⟨_, rfl, _, rfl, _, _, rfl, rfl, _, _, rfl, rfl, ⟨by decide, by decide, by decide⟩, _, _, rfl, rfl, ⟨by decide, by decide, by decide⟩, _, _, rfl, rfl, (show 5 ≤ sizeLine by decide), fun p hp => ?_⟩
    rw [e30]
    obtain ⟨y, ey, hy⟩ := atI_int (ns := [1000000000000000000000000000000000000000000000000000000000000 - 1, 0 - (1000000000000000000000000000000000000000000000000000000000000 - 1), 0, 1000000000000000000000000000000, 0 - 1000000000000000000000000000000]) (Int.emod_nonneg (c / 4) (b := 5) (by decide)) (Int.emod_lt_of_pos (c / 4) (b := 5) (by decide))
    refine ⟨_, rfl, _, _, rfl, rfl, ⟨by decide, by decide⟩, _, _, rfl, rfl, (show (0 : Int) < 5 by decide), p, _, _, _, rfl, rfl, .of upd_same, ey, q y _ (.new hp) ?_⟩
    simp only [List.mem_cons, List.not_mem_nil, or_false] at hy
    rcases hy with rfl | rfl | rfl | rfl | rfl <;> exact inR_of (by decide) (by decide)
  refine iff' (decide_eq_false fun e => h2 (V.int.inj e)) ⟨_, rfl, _, _, rfl, rfl, ⟨by decide, by decide⟩, _, _, rfl, rfl, (show (0 : Int) < 15 by decide), _, _, rfl, rfl, q _ H (Gr.refl _ _) ?_⟩
  have z1 := Int.emod_nonneg (c / 4) (b := 15) (by decide)
  have z2 := Int.emod_lt_of_pos (c / 4) (b := 15) (by decide)
  exact inR_of (by omega) (by omega)
theorem pu_law_key {R : Rt} (vs : List V) (H : Hp) (Q : VK) (E : XK) (h : sp_law_key R vs H Q E) : t_law_key R { nx := fun _ H' => Q .non H', rt := Q } (L2.start ["cell"] vs) H := by
  obtain ⟨v, rfl, c, F, rfl, dF, q⟩ := h
  refine ⟨_, rfl, _, _, rfl, rfl, (show (0 : Int) < 5 by decide), rfl, _, rfl, ?_⟩
  by_cases h1 : c % 5 = 4
  · refine ift (decide_eq_true (congrArg V.int h1)) ⟨(show 2 ≤ sizeLine by decide), fun p hp => q _ (flt "odd") _ (.new hp) (isV_flt (by decide +kernel)) (im_flt hp dF)⟩
  refine iff' (decide_eq_false fun e => h1 (V.int.inj e)) ⟨_, rfl, _, _, rfl, rfl, ⟨by decide, by decide, by decide⟩, _, _, rfl, rfl, (show 4 ≤ sizeLine by decide), fun p hp => ?_⟩
  rw [e60]
  obtain ⟨y, ey, hy⟩ := atI_int (ns := [0, 1, -1, 1000000000000000000000000000000000000000000000000000000000000 - 1]) (Int.emod_nonneg c (b := 4) (by decide)) (Int.emod_lt_of_pos c (b := 4) (by decide))
  refine ⟨_, rfl, _, _, rfl, rfl, (show (0 : Int) < 4 by decide), p, _, _, _, rfl, rfl, .of upd_same, ey, q _ (.int y) _ (.new hp) (isV_int ?_) (.int y)⟩
  simp only [List.mem_cons, List.not_mem_nil, or_false] at hy
  rcases hy with rfl | rfl | rfl | rfl <;> exact inR_of (by decide) (by decide)
theorem walkGo_cons {ds : List PyData} {kd : PyData} {acc : List Spot} {j : Nat} {js : List Nat} : walkGo ds kd acc (j :: js) = if PyData.eqv (ds.getD j .none) kd then (acc ++ [(("lookup" : Str), ("theirs" : Str), (j : Int)), (("lookup" : Str), ("named" : Str), (j : Int))], some j) else walkGo ds kd (acc ++ [(("lookup" : Str), ("theirs" : Str), (j : Int))]) js := rfl
theorem pu_law_asked {R : Rt} (vs : List V) (H : Hp) (Q : VK) (E : XK) (h : sp_law_asked R vs H Q E) : t_law_asked R { nx := fun _ H' => Q .non H', rt := Q } (L2.start ["key", "keys", "place", "asked", "at"] vs) H := by
  obtain ⟨kv, ksv, pv, rfl, kd, ds, pl, F, ikd, hk, rfl, hvk, hv, hl, dF, q⟩ := h
  obtain ⟨la, xs, rfl, hL, hA⟩ := hk.to_lst
  have hxl := hA.len
  refine ⟨_, rfl, (show 3 ≤ sizeLine by decide), fun r1 h1 => ⟨(show 1 ≤ sizeLine by decide), fun r2 h2 => ?_⟩⟩
  have g1 : Gr F0 H (upd H r1 (.tup [.str "t", .str "key", .int (pl : Nat)])) := .new h1
  have i1 : Im R.K F _ _ _ := im_spot (K := R.K) (t := "t") (n := "key") (i := (pl : Nat)) h1 dF
  have d1 := dF.gr g1
  generalize upd H r1 (.tup [.str "t", .str "key", .int (pl : Nat)]) = H1 at *
  have g2 : Gr F0 H1 (upd H1 r2 (.lst [.ref r1])) := .new h2
  have e2 : upd H1 r2 (.lst [.ref r1]) r2 = some (.lst [.ref r1]) := upd_same
  have n2 := d1.no h2
  have i2 := i1.gr g2.of0
  have d2 := d1.gr g2
  have gH := g1.trans g2
  have w0 : Wk F (Un2 F fun b => b = r2) H := fun b hb => hb.imp id fun e => by rw [e]; exact g1.back _ h2
  have w1 : Wk F (Un2 F fun b => b = r2) H1 := fun b hb => hb.imp id fun e => by rw [e]; exact h2
  have i1w := (i1.wk w1).gr g2.of0
  generalize upd H1 r2 (.lst [.ref r1]) = H2 at *
  have ikd2 := ikd.gr gH.of0
  obtain ⟨ty, u, c1, c2, c3⟩ := is_tup ikd2.d
  refine ⟨_, rfl, _, _, _, _, _, rfl, c1, c2, c3, _, rfl, ?_⟩
  unfold asked55 at q
  cases eT : isTupD kd with
  | true =>
    rw [eT, if_pos rfl] at q
    refine ift rfl ⟨_, rfl, _, rfl, (show 2 ≤ sizeLine by decide), fun r3 h3 => ⟨(show 3 ≤ sizeLine by decide), fun r4 h4 => ?_⟩⟩
    have g3 : Gr F0 H2 (upd H2 r3 (.tup [.str "value", kv])) := .new h3
    have i3 : Im R.K F _ _ (valueD kd) := Im.new_tup (K := R.K) h3 d2 (.cons (.str _) (.cons ikd2 .nil))
    refine q _ _ ((gH.trans g3).trans (.new h4)) (Im.new_tup h4 (d2.gr g3) (.cons (.lst (.of (g3.keep r2 _ e2 id) n2) (.cons (i2.gr g3.of0) .nil)) (.cons i3 (.cons .non .nil))))
  | false =>
  rw [eT, if_neg Bool.false_ne_true] at q
  refine iff' rfl ⟨_, rfl, _, _, rfl, .inl ⟨xs, (hL.gr gH.of0).sq, rfl⟩, _, rfl, by omega, by omega, ?_⟩
  rw [Int.toNat_natCast]
  have gF : ∀ {H'}, Gr (fun b => b = r2) H2 H' → Gr F0 H H' := fun {H'} g => by
    refine ⟨fun b o e _ => g.keep b o (gH.keep b o e id) fun z => ?_, fun b e => gH.back b (g.back b e)⟩
    rw [z, g1.back _ h2] at e
    cases e
  refine for_range (fun i σ H' => ∃ acc vacc w4, σ = [some kv, some (.ref la), some (.int (pl : Nat)), some (.ref r2), w4] ∧ Gr (fun b => b = r2) H2 H' ∧ H' r2 = some (.lst vacc) ∧ ImAll R.K (Un2 F fun b => b = r2) H' vacc (acc.map spotD) ∧
    walkGo ds kd acc ((List.range ds.length).drop i) = walk55 ds kd pl ∧ acc.length = i + 1) ?_ ?_ ?_
  · exact ⟨[keySpot pl], [.ref r1], none, rfl, Gr.refl _ _, e2, .cons i1w .nil, rfl, rfl⟩
  · rintro i σ H' hi ⟨acc, vacc, w4, rfl, g, ea, ia, hw, hal⟩
    rw [Int.zero_add]
    rw [hxl] at hi
    rw [range_drop hi, walkGo_cons] at hw
    have hdi : ds.getD i .none = ds[i] := getD_of (List.getElem?_eq_getElem hi)
    have dom' : Dom (Un2 F fun b => b = r2) H' := fun b hb => by
      rcases hb with hb | rfl
      · obtain ⟨o, e⟩ := d2 b hb
        exact g.some e
      · exact ⟨_, ea⟩
    have hla := ia.len
    rw [List.length_map] at hla
    refine ⟨_, rfl, .inl ⟨rfl, _, .of ea⟩, _, rfl, (show 3 ≤ sizeLine by decide), fun r5 h5 => ?_⟩
    have g5 : Gr F0 H' (upd H' r5 (.tup [.str "lookup", .str "theirs", .int (i : Nat)])) := .new h5
    have i5 : Im R.K (Un2 F fun b => b = r2) _ _ _ := im_spot (K := R.K) (t := "lookup") (n := "theirs") (i := (i : Nat)) h5 dom'
    have ea5 := g5.keep r2 _ ea id
    refine ⟨r2, vacc, _, rfl, rfl, ea5, Nat.lt_of_lt_of_le (by omega : vacc.length < 1001) (by decide), ?_⟩
    have ia5 := ia.gr g5.of0
    have gg5 := g.trans g5.of0
    have dom5 := dom'.gr g5
    generalize upd H' r5 (.tup [.str "lookup", .str "theirs", .int (i : Nat)]) = H5 at *
    have g6 : Gr (fun b => b = r2) H5 (upd H5 r2 (.lst (vacc ++ [.ref r5]))) := (Gr.refl _ _).upd (.inl rfl)
    have g6' : Gr (Un2 F fun b => b = r2) H5 (upd H5 r2 (.lst (vacc ++ [.ref r5]))) := g6.mono fun _ z => .inr z
    have ea6 : upd H5 r2 (.lst (vacc ++ [.ref r5])) r2 = some (.lst (vacc ++ [.ref r5])) := upd_same
    have ia6 := (ia5.snoc i5).gr g6'
    have gg6 := gg5.trans g6
    have dom6 := dom5.gr g6
    generalize upd H5 r2 (.lst (vacc ++ [.ref r5])) = H6 at *
    have g0 := gF gg6
    obtain ⟨xi, hxi, hii⟩ := (hA.gr g0.of0).getD (List.getElem?_eq_getElem hi)
    refine ⟨_, rfl, _, rfl, la, _, _, xi, rfl, rfl, (hL.gr g0.of0).sq, getD_nat hxi, _, rfl, _, kd, hii.d, (ikd.gr g0.of0).d, val_sh (hv _ (List.getElem_mem hi)), val_sh hvk, _, rfl, ?_⟩
    rw [hdi] at hw
    have i6map : ImAll R.K (Un2 F fun b => b = r2) H6 (vacc ++ [.ref r5]) ((acc ++ [(("lookup" : Str), ("theirs" : Str), (i : Int))]).map spotD) := by
      rw [List.map_append]
      exact ia6
    cases eal : PyData.eqv ds[i] kd with
    | false =>
      rw [eal, if_neg Bool.false_ne_true] at hw
      exact iff' rfl ⟨acc ++ [(("lookup" : Str), ("theirs" : Str), (i : Int))], vacc ++ [.ref r5], _, rfl, gg6, ea6, i6map, hw, by rw [List.length_append, hal]; rfl⟩
    | true =>
      rw [eal, if_pos rfl] at hw
      refine ift rfl ⟨_, rfl, _, rfl, (show 3 ≤ sizeLine by decide), fun r7 h7 => ⟨(show 1 ≤ sizeLine by decide), fun r8 h8 => ?_⟩⟩
      have d6F : Dom F H6 := fun b hb => dom6 b (.inl hb)
      have g7 : Gr F0 H6 (upd H6 r7 (.tup [.str "lookup", .str "named", .int (i : Nat)])) := .new h7
      have i7 : Im R.K F _ _ _ := im_spot (K := R.K) (t := "lookup") (n := "named") (i := (i : Nat)) h7 d6F
      have ea7 := g7.keep r2 _ ea6 id
      have ia7 := (i6map.wk fun b hb => .inl (.inl hb) : ImAll R.K F H6 _ _).gr g7.of0
      have d7 := d6F.gr g7
      have g07 := g0.trans g7
      generalize upd H6 r7 (.tup [.str "lookup", .str "named", .int (i : Nat)]) = H7 at *
      have g8 : Gr F0 H7 (upd H7 r8 (.lst [.ref r7])) := .new h8
      have ea8 := g8.keep r2 _ ea7 id
      have e8 : upd H7 r8 (.lst [.ref r7]) r8 = some (.lst [.ref r7]) := upd_same
      have i8 := i7.gr g8.of0
      have ia8 := ia7.gr g8.of0
      have d8 := d7.gr g8
      have g08 := g07.trans g8
      generalize upd H7 r8 (.lst [.ref r7]) = H8 at *
      refine ⟨r2, r8, _, _, rfl, rfl, .of ea8, .of e8, ?_, fun r9 h9 => ?_⟩
      · rw [List.length_append]
        exact line1 (by show vacc.length + 1 + 1 ≤ 1000; omega)
      have g9 : Gr F0 H8 (upd H8 r9 (.lst ((vacc ++ [.ref r5]) ++ [.ref r7]))) := .new h9
      have i9 : Im R.K F _ _ (.list (((acc ++ [(("lookup" : Str), ("theirs" : Str), (i : Int))]).map spotD) ++ [spotD (("lookup" : Str), ("named" : Str), (i : Int))])) := Im.new_lst (K := R.K) h9 d8 (ia8.app (.cons i8 .nil))
      refine ⟨_, rfl, (show 3 ≤ sizeLine by decide), fun r10 h10 => ?_⟩
      rw [← hw] at q
      refine q _ _ ((g08.trans g9).trans (.new h10)) (Im.new_tup h10 (d8.gr g9) (.cons ?_ (.cons .non (.cons (.int _) .nil))))
      rw [List.map_append, List.append_assoc (List.map spotD acc)] at i9
      rw [List.map_append]
      exact i9
  · rintro σ H' ⟨acc, vacc, w4, rfl, g, ea, ia, hw, hal⟩
    rw [hxl, List.drop_of_length_le (by rw [List.length_range]; exact Nat.le_refl _)] at hw
    have hw' : (acc, none) = walk55 ds kd pl := hw
    have gz := gF g
    have dz := dF.gr gz
    refine ⟨_, rfl, (show 2 ≤ sizeLine by decide), fun r4 h4 => ⟨(show 2 ≤ sizeLine by decide), fun r5 h5 => ⟨(show 3 ≤ sizeLine by decide), fun r6 h6 => ?_⟩⟩⟩
    have g4 : Gr F0 H' (upd H' r4 (.tup [.str "fault", .str "lacks"])) := .new h4
    have i4 : Im R.K F _ _ (flt "lacks") := im_flt h4 dz
    have ia4 := (ia.wk fun b hb => .inl (.inl hb) : ImAll R.K F H' _ _).gr g4.of0
    have ea4 := g4.keep r2 _ ea id
    have d4 := dz.gr g4
    generalize upd H' r4 (.tup [.str "fault", .str "lacks"]) = H4 at *
    have g5 : Gr F0 H4 (upd H4 r5 (.tup [.str "value", .ref r4])) := .new h5
    have i5 : Im R.K F _ _ (valueD (flt "lacks")) := Im.new_tup (K := R.K) h5 d4 (.cons (.str _) (.cons i4 .nil))
    rw [← hw'] at q
    exact q _ _ (((gz.trans g4).trans g5).trans (.new h6)) (Im.new_tup h6 (d4.gr g5) (.cons (.lst (.of (g5.keep r2 _ ea4 id) n2) (ia4.gr g5.of0)) (.cons i5 (.cons .non .nil))))
theorem pu_law_once {R : Rt} (vs : List V) (H : Hp) (Q : VK) (E : XK) (h : sp_law_once R vs H Q E) : t_law_once R { nx := fun _ H' => Q .non H', rt := Q } (L2.start ["spots", "found", "spot"] vs) H := pu_each_once vs H Q E h
def t_law_lookup (R : Rt) (cells : List (Str × Addr)) : TS := (tSeq (tAsg (tOp rModI (tCall (sp_law_cell R) [] E0 (tCons (tVar 0) (tCons (tC (.int 3)) tNil))) (tC (.int 9))) (gName 4))
  (tSeq (tAsg (tCall (sp_read_rule R) [] E0 (tCons (tC (.str "lookup key lookup theirs named")) tNil)) (gName 5))
  (tSeq (tAsg (tLst tNil) (gName 6))
  (tSeq (tAsg (tMk R.T (He.tabOf R.K (He.codeOf R.K ("_law_lookup", none))) (R.fn 1 cells)) (gName 7))
  (tSeq (tAsg (tMethT (He.ga R.K "Lookup") "gather" cells ["script", "key", "keys", "numbers", "place", "rule", "gone", "_law_look", "told", "asked", "due", "at"] (sp_Lookup_gather R 10) E0 (tVar 5) (tCons (tVar 7) (tCons (tMk R.T (He.tabOf R.K (He.codeOf R.K ("_law_lookup", none))) (R.fn 2 cells)) (tCons (tC (.str "t")) (tCons (tC (.str "own")) (tCons (tVar 4) tNil)))))) (gName 8))
  (tSeq (tAsg (tCall (sp_law_asked R) [] E0 (tCons (tVar 1) (tCons (tVar 2) (tCons (tVar 4) tNil)))) (gTup R.K 3 (gCons (gName 9) (gCons (gName 10) (gCons (gName 11) gNil)))))
  (tSeq (tIfS (tOr (tNot (tB (tCB (rIsi R.K) (tCons (tVar 5) (tCons (tC (.ref (He.ga R.K "Lookup"))) tNil))))) (tTest (tOp (rNeD R.K) (tCall (sp_law_once R) [] E0 (tCons (tVar 6) tNil)) (tCall (sp_law_once R) [] E0 (tCons (tVar 9) tNil))))) (tRet (tC (.bl false))) tNext)
  (tSeq (tIfS (tTest (tOp (rNeD R.K) (tMeth (He.ga R.K "Lookup") "leans" (sp_Lookup_leans R) [] E0 (tVar 5) (tCons (tC (.str "t")) tNil)) (tLst (tCons (tTup (tCons (tC (.str "t")) (tCons (tC (.str "key")) tNil))) (tCons (tTup (tCons (tC (.str "lookup")) (tCons (tC (.str "theirs")) tNil))) (tCons (tTup (tCons (tC (.str "lookup")) (tCons (tC (.str "named")) tNil))) tNil)))))) (tRet (tC (.bl false))) tNext)
  (tSeq (tIfS (tTest (tOp rIsN (tVar 11) (tC .non))) (tRet (tOp (rEqD R.K) (tVar 8) (tVar 10))) tNext)
  (tRet (tAndV (tOp (rEqD R.K) (tVar 8) (tTup (tCons (tC (.str "call")) (tCons (tLst (tCons (tOp (rIxL R.K) (tVar 3) (tVar 11)) tNil)) tNil)))) (tOp (rEqD R.K) (tMeth (He.ga R.K "Lookup") "reckon" (sp_Rule_reckon R) [] E0 (tVar 5) (tCons (tOp (rIxT R.K) (tVar 8) (tC (.int 1))) tNil)) (tOp (rIxL R.K) (tVar 3) (tVar 11))))))))))))))
def t_law_mend (R : Rt) (cells : List (Str × Addr)) : TS := (tSeq (tAsg (tOp (rIxL R.K) (tLst (tCons (tC (.str "mend")) (tCons (tC (.str "a")) (tCons (tC (.str "zzzzzzzz")) (tCons (tC (.str "up")) tNil))))) (tOp rModI (tCall (sp_law_cell R) [] E0 (tCons (tVar 0) (tCons (tC (.int 4)) tNil))) (tC (.int 4)))) (gName 2))
  (tSeq (tAsg (tOp (rIxL R.K) (tLst (tCons (tVar 1) (tCons (tTup (tCons (tC (.str "fault")) (tCons (tC (.str "odd")) tNil))) (tCons (tTup (tCons (tC (.str "fault")) (tCons (tC (.str "mend")) tNil))) (tCons (tC (.int 0)) tNil))))) (tOp rModI (tCall (sp_law_cell R) [] E0 (tCons (tVar 0) (tCons (tC (.int 5)) tNil))) (tC (.int 4)))) (gName 3))
  (tSeq (tAsg (tCall (sp_law_number R) [] E0 (tCons (tCall (sp_law_cell R) [] E0 (tCons (tVar 0) (tCons (tC (.int 1)) tNil))) tNil)) (gName 4))
  (tSeq (tAsg (tCall (sp_read_rule R) [] E0 (tCons (tOp rAddS (tOp rAddS (tOp rAddS (tC (.str "mend ")) (tVar 2)) (tC (.str " "))) (tCB rStrI (tCons (tVar 4) tNil))) tNil)) (gName 5))
  (tSeq (tAsg (tMethT (He.ga R.K "Mend") "gather" cells ["script", "number", "name", "value", "due", "rule", "told"] (sp_Mend_gather R 10) E0 (tVar 5) (tCons (tMk R.T (He.tabOf R.K (He.codeOf R.K ("_law_mend", none))) (R.fn 3 cells)) (tCons (tMk R.T (He.tabOf R.K (He.codeOf R.K ("_law_mend", none))) (R.fn 4 cells)) (tCons (tC (.str "t")) (tCons (tC (.str "own")) (tCons (tC (.int 2)) tNil)))))) (gName 6))
  (tSeq (tIfS (tOr (tNot (tB (tCB (rIsi R.K) (tCons (tVar 5) (tCons (tC (.ref (He.ga R.K "Mend"))) tNil))))) (tTest (tOp (rNeD R.K) (tMeth (He.ga R.K "Mend") "leans" (sp_Mend_leans R) [] E0 (tVar 5) (tCons (tC (.str "t")) tNil)) (tLst (tCons (tTup (tCons (tC (.str "t")) (tCons (tVar 2) tNil))) tNil))))) (tRet (tC (.bl false))) tNext)
  (tSeq (tIfS (tB (tCB (rIsi R.K) (tCons (tVar 3) (tCons (tC (.ty "int")) tNil)))) (tRet (tOp (rEqD R.K) (tVar 6) (tTup (tCons (tC (.str "value")) (tCons (tVar 3) tNil))))) tNext)
  (tRet (tAndV (tOp (rEqD R.K) (tVar 6) (tTup (tCons (tC (.str "call")) (tCons (tLst tNil) tNil)))) (tOp (rEqD R.K) (tMeth (He.ga R.K "Mend") "reckon" (sp_Rule_reckon R) [] E0 (tVar 5) (tCons (tLst tNil) tNil)) (tVar 4)))))))))))
def t_law (R : Rt) : TS := (tSeq (tAsg (tOp rModI (tCall (sp_law_cell R) [] E0 (tCons (tVar 0) (tCons (tC (.int 0)) tNil))) (tC (.int 9))) (gName 1))
  (tSeq (tAsg (tLc (iRng1 (tCons (tVar 1) tNil)) (gName 5) tYes (tCall (sp_law_key R) [] E0 (tCons (tCall (sp_law_cell R) [] E0 (tCons (tVar 0) (tCons (tOp rAddI (tC (.int 6)) (tVar 5)) tNil))) tNil)) [5]) (gName 2))
  (tSeq (tAsg (tLc (iRng1 (tCons (tVar 1) tNil)) (gName 5) tYes (tCall (sp_law_number R) [] E0 (tCons (tCall (sp_law_cell R) [] E0 (tCons (tVar 0) (tCons (tOp rAddI (tC (.int 15)) (tVar 5)) tNil))) tNil)) [5]) (gName 3))
  (tSeq (tAsg (tCall (sp_law_key R) [] E0 (tCons (tCall (sp_law_cell R) [] E0 (tCons (tVar 0) (tCons (tC (.int 2)) tNil))) tNil)) (gName 4))
  (tRet (tAndV (tCall (sp_law_lookup R) [] E0 (tCons (tVar 0) (tCons (tVar 4) (tCons (tVar 2) (tCons (tVar 3) tNil))))) (tCall (sp_law_mend R) [] E0 (tCons (tVar 0) (tCons (tCall (sp_law_number R) [] E0 (tCons (tCall (sp_law_cell R) [] E0 (tCons (tVar 0) (tCons (tC (.int 24)) tNil))) tNil)) tNil)))))))))
def t_lookup_c (R : Rt) (cells : List (Str × Addr)) : TS := (tSeq (tAsg (tCall (sp_law_asked R) [] E0 (tCons (tVar 1) (tCons (tVar 2) (tCons (tVar 4) tNil)))) (gTup R.K 3 (gCons (gName 9) (gCons (gName 10) (gCons (gName 11) gNil)))))
  (tSeq (tIfS (tOr (tNot (tB (tCB (rIsi R.K) (tCons (tVar 5) (tCons (tC (.ref (He.ga R.K "Lookup"))) tNil))))) (tTest (tOp (rNeD R.K) (tCall (sp_law_once R) [] E0 (tCons (tVar 6) tNil)) (tCall (sp_law_once R) [] E0 (tCons (tVar 9) tNil))))) (tRet (tC (.bl false))) tNext)
  (tSeq (tIfS (tTest (tOp (rNeD R.K) (tMeth (He.ga R.K "Lookup") "leans" (sp_Lookup_leans R) [] E0 (tVar 5) (tCons (tC (.str "t")) tNil)) (tLst (tCons (tTup (tCons (tC (.str "t")) (tCons (tC (.str "key")) tNil))) (tCons (tTup (tCons (tC (.str "lookup")) (tCons (tC (.str "theirs")) tNil))) (tCons (tTup (tCons (tC (.str "lookup")) (tCons (tC (.str "named")) tNil))) tNil)))))) (tRet (tC (.bl false))) tNext)
  (tSeq (tIfS (tTest (tOp rIsN (tVar 11) (tC .non))) (tRet (tOp (rEqD R.K) (tVar 8) (tVar 10))) tNext)
  (tRet (tAndV (tOp (rEqD R.K) (tVar 8) (tTup (tCons (tC (.str "call")) (tCons (tLst (tCons (tOp (rIxL R.K) (tVar 3) (tVar 11)) tNil)) tNil)))) (tOp (rEqD R.K) (tMeth (He.ga R.K "Lookup") "reckon" (sp_Rule_reckon R) [] E0 (tVar 5) (tCons (tOp (rIxT R.K) (tVar 8) (tC (.int 1))) tNil)) (tOp (rIxL R.K) (tVar 3) (tVar 11)))))))))
def tl_law_lookup__law_look (R : Rt) : TS := (tSeq (tDrop (tBM R.K "list" rAppend (tVar 3) (tCons (tTup (tCons (tVar 0) (tCons (tVar 1) (tCons (tVar 2) tNil)))) tNil)))
  (tSeq (tIfS (tTest (tOp rEq (tVar 1) (tC (.str "key")))) (tRet (tVar 4)) tNext)
  (tSeq (tIfS (tTest (tOp rEq (tVar 1) (tC (.str "theirs")))) (tRet (tOp (rIxL R.K) (tVar 5) (tVar 2))) tNext)
  (tRet (tOp (rIxL R.K) (tVar 6) (tVar 2))))))
def tl_law_lookup_lam (R : Rt) : TE := (tOp (rIxL R.K) (tLst (tCons (tC (.int 9)) (tCons (tCB (rLen R.K) (tCons (tVar 1) tNil)) tNil))) (tCB rInt1 (tCons (tOp rEq (tVar 0) (tC (.str "lookup"))) tNil)))
def tl_law_mend_lam (R : Rt) : TE := (tVar 3)
def tl_law_mend_lam2 (R : Rt) : TE := (tC (.int 3))
theorem pul_look55 {R : Rt} (ws vs : List V) (H : Hp) (Q : VK) (E : XK) (h : spl_look55 R ws vs H Q E) : tl_law_lookup__law_look R { nx := fun _ H' => Q .non H', rt := Q } (startF ["table", "column", "at", "gone", "key", "keys", "numbers"] vs (ws.map some)) H := by
  obtain ⟨ga, vacc, kv, ksv, nv, kd, ds, nds, t, c, p, F, rfl, rfl, hg, hl, hF, dF, id1, ik, im, hp, hlen, q⟩ := h
  refine ⟨_, rfl, .inl ⟨rfl, _, .of hg⟩, _, rfl, _, rfl, _, rfl, (show 3 ≤ sizeLine by decide), fun r hr => ?_⟩
  have g1 : Gr F0 H (upd H r (.tup [.str t, .str c, .int p])) := .new hr
  have ne : ¬ r = ga := fun z => by
    rw [z, hg] at hr
    cases hr
  refine ⟨ga, vacc, _, rfl, rfl, g1.keep ga _ hg id, Nat.lt_of_lt_of_le hl (by decide), ?_⟩
  have e1 : upd H r (.tup [.str t, .str c, .int p]) r = some (.tup [.str t, .str c, .int p]) := upd_same
  have id2 := id1.gr g1.of0
  have ik1 := ik.gr g1.of0
  have im1 := im.gr g1.of0
  generalize upd H r (.tup [.str t, .str c, .int p]) = H1 at *
  have g2 : Gr (fun b => b = ga) H1 (upd H1 ga (.lst (vacc ++ [.ref r]))) := (Gr.refl _ _).upd (.inl rfl)
  have e2 : upd H1 ga (.lst (vacc ++ [.ref r])) ga = some (.lst (vacc ++ [.ref r])) := upd_same
  have e3 := g2.keep r _ e1 ne
  have g3 : Gr F H1 (upd H1 ga (.lst (vacc ++ [.ref r]))) := g2.mono fun b hb => by rw [hb]; exact hF
  have id3 := id2.gr g3
  have ik2 := ik1.gr g3
  have im2 := im1.gr g3
  generalize upd H1 ga (.lst (vacc ++ [.ref r])) = H2 at *
  have g := g1.of0.trans g2
  refine ⟨_, rfl, rfl, _, rfl, ?_⟩
  unfold lkv55 at q
  by_cases hc : c = "key"
  · rw [if_pos hc] at q
    exact ift (decide_eq_true (congrArg V.str hc)) ⟨_, rfl, q _ r H2 hr g e2 e3 id3⟩
  rw [if_neg hc] at q
  obtain ⟨p0, p1⟩ : 0 ≤ p ∧ p < ds.length := hp.resolve_left hc
  refine iff' (decide_eq_false fun e => hc (V.str.inj e)) ⟨_, rfl, rfl, _, rfl, ?_⟩
  obtain ⟨la, xs, rfl, hL, hA⟩ := ik2.to_lst
  obtain ⟨lb, ys, rfl, hL2, hA2⟩ := im2.to_lst
  have h1 : p.toNat < ds.length := by omega
  have h2 : p.toNat < nds.length := by omega
  have ep : p = ((p.toNat : Nat) : Int) := (Int.toNat_of_nonneg p0).symm
  by_cases hc2 : c = "theirs"
  · rw [if_pos hc2] at q
    obtain ⟨x, hx, ix⟩ := hA.getD (List.getElem?_eq_getElem h1)
    rw [getD_of (List.getElem?_eq_getElem h1)] at q
    refine ift (decide_eq_true (congrArg V.str hc2)) ⟨_, rfl, _, rfl, la, _, p, _, rfl, rfl, hL.sq, ?_, q x r H2 hr g e2 e3 ix⟩
    rw [ep]
    exact getD_nat hx
  · rw [if_neg hc2] at q
    obtain ⟨x, hx, ix⟩ := hA2.getD (List.getElem?_eq_getElem h2)
    rw [getD_of (List.getElem?_eq_getElem h2)] at q
    refine iff' (decide_eq_false fun e => hc2 (V.str.inj e)) ⟨_, rfl, _, rfl, lb, _, p, _, rfl, rfl, hL2.sq, ?_, q x r H2 hr g e2 e3 ix⟩
    rw [ep]
    exact getD_nat hx
theorem pul_many55 {R : Rt} (ws vs : List V) (H : Hp) (Q : VK) (E : XK) (h : spl_many55 R ws vs H Q E) : tl_law_lookup_lam R (startF ["table", "keys"] vs (ws.map some)) H Q := by
  obtain ⟨v, t, ds, F, rfl, rfl, iv, dF, q⟩ := h
  obtain ⟨la, xs, rfl, hL, hA⟩ := iv.to_lst
  refine ⟨_, rfl, _, _, rfl, .inl ⟨xs, hL.sq, rfl⟩, (show 2 ≤ sizeLine by decide), fun r hr => ?_⟩
  have g1 : Gr F0 H (upd H r (.lst [.int 9, .int (xs.length : Nat)])) := .new hr
  refine ⟨_, rfl, rfl, .inr ⟨_, rfl, r, _, _, (if t = "lookup" then V.int (xs.length : Nat) else V.int 9), rfl, rfl, .of upd_same, ?_, ?_⟩⟩
  · by_cases ht : t = "lookup"
    · rw [decide_eq_true (congrArg V.str ht), if_pos ht]
      rfl
    · rw [decide_eq_false fun e => ht (V.str.inj e), if_neg ht]
      rfl
  · have z := q _ g1
    by_cases ht : t = "lookup"
    · rw [if_pos ht] at z ⊢
      exact (congrArg (fun n : Nat => Q (V.int (n : Int)) (upd H r (.lst [.int 9, .int (xs.length : Nat)]))) hA.len).mpr z
    · rw [if_neg ht] at z ⊢
      exact z
theorem pul_mend {R : Rt} (ws vs : List V) (H : Hp) (Q : VK) (E : XK) (h : spl_mend R ws vs H Q E) : tl_law_mend_lam R (startF ["table", "column", "at", "value"] vs (ws.map some)) H Q := by
  obtain ⟨w, a, b, c, rfl, rfl, q⟩ := h
  exact ⟨_, rfl, q⟩
theorem pul_three {R : Rt} (ws vs : List V) (H : Hp) (Q : VK) (E : XK) (h : spl_three R ws vs H Q E) : tl_law_mend_lam2 R (startF ["table"] vs (ws.map some)) H Q := by
  obtain ⟨a, rfl, rfl, q⟩ := h
  exact q
theorem sq_gr_tb {R : Rt} {H H' : Hp} {a : Addr} {xs : List V} (h : SqL R.K H a xs) (t : TabsN R.T H) (g : Gr (Tb R) H H') : SqL R.K H' a xs := h.imp (fun z => g.rd z fun ⟨p, hp, e⟩ => by
  obtain ⟨ps, h1, _⟩ := t p hp
  rw [e] at h1
  rcases z with z | ⟨o, z⟩ <;> rw [h1] at z <;> cases z) id
def gath55 (kd : PyData) (ds nds : List PyData) (pl : Nat) : PyData × List Spot := if isTupD kd then (valueD kd, [keySpot pl]) else match walk55 ds kd pl with
  | (s, some j) => (callD [nds.getD j .none], s)
  | (s, none) => (valueD (flt "lacks"), s)
abbrev lk55 (kd : PyData) (ds nds : List PyData) : Lk (List Spot) := fun t c p g => (lkv55 kd ds nds t c p, g ++ [(t, c, p)])
theorem looked_one {α : Type} {lk : Lk α} {t c : Str} {p : Int} {a a' : α} {v : PyData} (e : lk t c p a = (v, a')) (h : isFault v = false) : lookedD lk [(t, c, p)] [] a = (callD [v], a') := by
  simp [lookedD, e, h]
theorem lookup_go {kd : PyData} {ds nds : List PyData} (hf : ∀ j, j < ds.length → isFault (nds.getD j .none) = false) : ∀ (js : List Nat) (g : List Spot), (∀ j ∈ js, j < ds.length) →
    lookupGo (lk55 kd ds nds) "lookup" "theirs" ["named"] kd js g = match walkGo ds kd g js with
      | (s, some j) => (callD [nds.getD j .none], s)
      | (s, none) => (valueD (flt "lacks"), s)
  | [], g, _ => rfl
  | j :: js, g, h => by
    have ih := lookup_go (kd := kd) hf js
    have e1 : lkv55 kd ds nds "lookup" "theirs" ((j : Nat) : Int) = ds.getD j .none := by
      unfold lkv55
      rw [if_neg (by decide +kernel), if_pos rfl, Int.toNat_natCast]
    have e2 : lkv55 kd ds nds "lookup" "named" ((j : Nat) : Int) = nds.getD j .none := by
      unfold lkv55
      rw [if_neg (by decide +kernel), if_neg (by decide +kernel), Int.toNat_natCast]
    have e3 : lk55 kd ds nds "lookup" "theirs" ((j : Nat) : Int) g = (ds.getD j .none, g ++ [(("lookup" : Str), ("theirs" : Str), (j : Int))]) := congrArg (fun z => (z, g ++ [(("lookup" : Str), ("theirs" : Str), (j : Int))])) e1
    have e4 : ∀ g', lk55 kd ds nds "lookup" "named" ((j : Nat) : Int) g' = (nds.getD j .none, g' ++ [(("lookup" : Str), ("named" : Str), (j : Int))]) := fun g' => congrArg (fun z => (z, g' ++ [(("lookup" : Str), ("named" : Str), (j : Int))])) e2
    unfold lookupGo
    rw [walkGo_cons, e3]
    dsimp only
    cases e : PyData.eqv (ds.getD j .none) kd with
    | false =>
      rw [if_neg Bool.false_ne_true, if_neg Bool.false_ne_true]
      exact ih _ fun x hx => h x (List.mem_cons_of_mem _ hx)
    | true =>
      rw [if_pos rfl, if_pos rfl]
      show lookedD (lk55 kd ds nds) [(("lookup" : Str), ("named" : Str), ((j : Nat) : Int))] [] _ = _
      rw [looked_one (e4 _) (hf j (h j List.mem_cons_self)), List.append_assoc]
      rfl
theorem gather55 {kd : PyData} {ds nds : List PyData} {pl : Nat} {mn : Str → Nat} (hmn : mn "lookup" = ds.length) (hvk : isValue kd = true) (hf : ∀ j, j < ds.length → isFault (nds.getD j .none) = false) :
    gatherD (lk55 kd ds nds) mn (.lookup "key" "lookup" "theirs" ["named"]) "t" "own" (pl : Nat) [] = gath55 kd ds nds pl := by
  have e0 : gatherD (lk55 kd ds nds) mn (.lookup "key" "lookup" "theirs" ["named"]) "t" "own" (pl : Nat) [] = if isFault (lkv55 kd ds nds "t" "key" (pl : Nat)) = true then (valueD (lkv55 kd ds nds "t" "key" (pl : Nat)), [] ++ [keySpot pl]) else lookupGo (lk55 kd ds nds) "lookup" "theirs" ["named"] (lkv55 kd ds nds "t" "key" (pl : Nat)) (List.range (mn "lookup")) ([] ++ [keySpot pl]) := rfl
  have e1 : lkv55 kd ds nds "t" "key" (pl : Nat) = kd := if_pos rfl
  rw [e0, e1, isT_fault hvk, hmn, List.nil_append]
  unfold gath55
  cases isTupD kd with
  | true => rfl
  | false =>
    rw [if_neg Bool.false_ne_true, if_neg Bool.false_ne_true, lookup_go hf _ _ fun j hj => List.mem_range.mp hj]
    rfl
theorem walkGo_mem {ds : List PyData} {kd : PyData} : ∀ {js : List Nat} {acc : List Spot} {s : Spot}, s ∈ (walkGo ds kd acc js).1 → s ∈ acc ∨ (s.1 = "lookup" ∧ (s.2.1 = "theirs" ∨ s.2.1 = "named"))
  | [], _, _, h => .inl h
  | j :: js, acc, s, h => by
    rw [walkGo_cons] at h
    split at h
    · rcases List.mem_append.mp h with h | h
      · exact .inl h
      · rcases List.mem_cons.mp h with e | h
        · rw [e]; exact .inr ⟨rfl, .inl rfl⟩
        · rw [List.mem_singleton.mp h]; exact .inr ⟨rfl, .inr rfl⟩
    · rcases walkGo_mem h with h | h
      · rcases List.mem_append.mp h with h | h
        · exact .inl h
        · rw [List.mem_singleton.mp h]; exact .inr ⟨rfl, .inl rfl⟩
      · exact .inr h
theorem walkGo_len {ds : List PyData} {kd : PyData} : ∀ (js : List Nat) (acc : List Spot), (walkGo ds kd acc js).1.length ≤ acc.length + js.length + 1
  | [], acc => by show acc.length ≤ acc.length + 0 + 1; omega
  | j :: js, acc => by
    rw [walkGo_cons]
    split
    · rw [List.length_append]
      show acc.length + 2 ≤ acc.length + (js.length + 1) + 1
      omega
    · have z := walkGo_len (ds := ds) (kd := kd) js (acc ++ [(("lookup" : Str), ("theirs" : Str), (j : Int))])
      rw [List.length_append] at z
      have z2 : [(("lookup" : Str), ("theirs" : Str), (j : Int))].length = 1 := rfl
      show _ ≤ acc.length + (js.length + 1) + 1
      omega
theorem walkGo_lt {ds : List PyData} {kd : PyData} : ∀ {js : List Nat} {acc : List Spot} {j : Nat}, (walkGo ds kd acc js).2 = some j → j ∈ js
  | [], _, _, h => nomatch h
  | i :: js, acc, j, h => by
    rw [walkGo_cons] at h
    split at h
    · rw [← Option.some.inj h]; exact List.mem_cons_self
    · exact List.mem_cons_of_mem _ (walkGo_lt h)
theorem asked_fst (kd : PyData) (ds nds : List PyData) (pl : Nat) : ∃ x y, asked55 ds kd pl = [.list ((gath55 kd ds nds pl).2.map spotD), x, y] ∧ ((y = .none ∧ (gath55 kd ds nds pl).1 = x ∧ ((x = valueD kd ∧ isTupD kd = true) ∨ x = valueD (flt "lacks"))) ∨ ∃ j, j < ds.length ∧ y = .int (j : Nat) ∧ (gath55 kd ds nds pl).1 = callD [nds.getD j .none]) := by
  unfold asked55 gath55
  cases e : isTupD kd with
  | true => exact ⟨_, _, rfl, .inl ⟨rfl, rfl, .inl ⟨rfl, rfl⟩⟩⟩
  | false =>
    rw [if_neg Bool.false_ne_true, if_neg Bool.false_ne_true]
    cases q : walk55 ds kd pl with
    | mk s o =>
      cases o with
      | none => exact ⟨_, _, rfl, .inl ⟨rfl, rfl, .inr rfl⟩⟩
      | some j =>
        have hj : (walk55 ds kd pl).2 = some j := by rw [q]
        exact ⟨_, _, rfl, .inr ⟨j, List.mem_range.mp (walkGo_lt hj), rfl, rfl⟩⟩
theorem gath_mem {kd : PyData} {ds nds : List PyData} {pl : Nat} {s : Spot} (h : s ∈ (gath55 kd ds nds pl).2) : nameS s.1 = true ∧ nameS s.2.1 = true := by
  have k0 : nameS (keySpot pl).1 = true ∧ nameS (keySpot pl).2.1 = true := ⟨by show nameS "t" = true; decide +kernel, by show nameS "key" = true; decide +kernel⟩
  have w : s ∈ (walk55 ds kd pl).1 → nameS s.1 = true ∧ nameS s.2.1 = true := fun hs => by
    rcases walkGo_mem hs with hs | ⟨h1, h2⟩
    · rw [List.mem_singleton.mp hs]
      exact k0
    · rw [h1]
      refine ⟨by decide +kernel, ?_⟩
      rcases h2 with h2 | h2 <;> rw [h2] <;> decide +kernel
  unfold gath55 at h
  split at h
  · rw [List.mem_singleton.mp h]
    exact k0
  · cases q : walk55 ds kd pl with
    | mk t o =>
      rw [q] at h w
      cases o with
      | none => exact w h
      | some j => exact w h
theorem gath_len {kd : PyData} {ds nds : List PyData} {pl : Nat} : (gath55 kd ds nds pl).2.length ≤ ds.length + 2 := by
  have z := walkGo_len (ds := ds) (kd := kd) (List.range ds.length) [keySpot pl]
  rw [List.length_range] at z
  have z1 : [keySpot pl].length = 1 := rfl
  unfold gath55
  split
  · show 1 ≤ _
    omega
  · cases q : walk55 ds kd pl with
    | mk t o =>
      have q2 : (walkGo ds kd [keySpot pl] (List.range ds.length)).1 = t := by
        have := congrArg Prod.fst q
        exact this
      rw [q2] at z
      cases o with
      | none => show t.length ≤ _; omega
      | some j => show t.length ≤ _; omega
theorem leans55 : leansD (.lookup "key" "lookup" "theirs" ["named"]) "t" = [pairD "t" "key", pairD "lookup" "theirs", pairD "lookup" "named"] := by rfl
theorem tb_dom' {R : Rt} {H : Hp} (t : TabsN R.T H) : Dom (Tb R) H := (tb_dom t).d
theorem pu_lookup_c {R : Rt} (kL : ClsF R.K "Lookup" ["function", "key", "other", "theirs", "names"]) (cI : ClsI R.K "Lookup") (cells : List (Str × Addr)) (H : Hp) (Q : VK) (a : Addr) (kv ksv nv : V) (kd : PyData) (ds nds : List PyData) (pl : Nat) (p ga f : Addr) (fv w : V)
    (hr : RAt R.K F0 H p fv (.lookup "key" "lookup" "theirs" ["named"])) (hfo : FunOk R.K R.C F0 H fv (fun ns => .int (ns.headD 0)) groupDom) (ikd : Im R.K F0 H kv kd) (iks : Im R.K F0 H ksv (.list ds)) (ins : Im R.K F0 H nv (.list nds)) (hvk : isValue kd = true) (hv : ∀ d ∈ ds, isValue d = true) (hnum : ∀ d ∈ nds, ∃ i, d = .int i ∧ inR i = true) (hlen : ds.length = nds.length) (h8 : ds.length ≤ 8)
    (hg : Im R.K F0 H (.ref ga) (.list ((gath55 kd ds nds pl).2.map spotD))) (hw : Im R.K F0 H w (gath55 kd ds nds pl).1) (q : ∀ H', Gr F0 H H' → Q (.bl true) H') :
    t_lookup_c R cells { nx := fun _ H' => Q .non H', rt := Q } [some (.ref a), some kv, some ksv, some nv, some (.int (pl : Nat)), some (.ref p), some (.ref ga), some (.ref f), some w, none, none, none] H := by
  have shA : ∀ d ∈ (gath55 kd ds nds pl).2.map spotD, SeqAt.shaped d = true := fun d hd => by
    obtain ⟨s, hs, rfl⟩ := List.mem_map.mp hd
    exact spot_sh (gath_mem hs).1 (gath_mem hs).2
  have dpA : ∀ d ∈ (gath55 kd ds nds pl).2.map spotD, d.depth ≤ 60 := fun d hd => by
    obtain ⟨s, hs, rfl⟩ := List.mem_map.mp hd
    exact spot_dp s
  have leA : ((gath55 kd ds nds pl).2.map spotD).length ≤ 1000 := by
    rw [List.length_map]
    have := gath_len (kd := kd) (ds := ds) (nds := nds) (pl := pl)
    omega
  refine ⟨_, rfl, _, rfl, _, rfl, _, _, _, rfl, kd, ds, pl, F0, ikd, iks, rfl, hvk, hv, by omega, dom0, fun wa H1 g1 ia => ?_⟩
  obtain ⟨x, y, ex, hxy⟩ := asked_fst kd ds nds pl
  rw [ex] at ia
  obtain ⟨ta, xa, rfl, hta, hxa⟩ := ia.to_tup
  cases hxa with
  | cons ia1 hx2 =>
  cases hx2 with
  | cons ia2 hx3 =>
  cases hx3 with
  | cons ia3 hx4 =>
  cases hx4
  refine ⟨ta, _, rfl, hta.sq, rfl, _, _, rfl, _, _, rfl, _, _, rfl, rfl, ?_⟩
  have hg1 := hg.gr g1
  have hw1 := hw.gr g1
  have hr1 := hr.gr g1
  have hfo1 := hfo.gr g1
  have ins1 := ins.gr g1
  have hr1' := hr1
  obtain ⟨nq, ho, hnm, _⟩ := hr1'
  obtain ⟨t4, u4, b1, b2, b3⟩ := cI.isi ho
  refine ⟨_, rfl, _, _, _, _, _, rfl, b1, b2, b3, _, rfl, iteF ?_⟩
  refine ⟨_, rfl, _, rfl, _, F0, hg1, dom0, shA, dpA, leA, fun pa va H2 na ga2 ea iva => ⟨_, rfl, _, rfl, _, F0, ia1.gr ga2, dom0, shA, dpA, leA, fun pb vb H3 nb gb2 eb ivb => ?_⟩⟩
  have io : Dp R.K H3 (.ref pa) (.list (onceD [] ((gath55 kd ds nds pl).2.map spotD))) := .lst (.of (gb2.keep pa _ ea id)) (iva.gr gb2).d
  have ip : Dp R.K H3 (.ref pb) (.list (onceD [] ((gath55 kd ds nds pl).2.map spotD))) := .lst (.of eb) ivb.d
  have osh := once_sh shA dpA
  refine ⟨_, _, io, ip, osh, osh, _, rfl, iff' (by rw [eqv_sh osh]; rfl) ?_⟩
  have g2 : Gr F0 H1 H3 := ga2.trans gb2
  have hr3 := hr1.gr g2
  have hr3' := hr3
  obtain ⟨nq3, ho3, hnm3, _⟩ := hr3'
  obtain ⟨dx2, fs2, ep2, lk2⟩ := ho3.ob
  refine ⟨_, rfl, p, dx2, fs2, rfl, ep2, by rw [lk2]; rfl, ?_⟩
  refine ⟨_, _, rfl, "key", "lookup", "theirs", ["named"], p, F0, "t", fv, rfl, rfl, by decide +kernel, hr3, dom0, fun wl H4 g4 i4 => ?_⟩
  rw [leans55] at i4
  refine ⟨(show 2 ≤ sizeLine by decide), fun q1 hq1 => ⟨(show 2 ≤ sizeLine by decide), fun q2 hq2 => ⟨(show 2 ≤ sizeLine by decide), fun q3 hq3 => ⟨(show 3 ≤ sizeLine by decide), fun q4 hq4 => ?_⟩⟩⟩⟩
  have j1 : Im R.K F0 _ _ _ := im_pair (K := R.K) (t := "t") (n := "key") hq1 dom0
  have g5 : Gr F0 H4 (upd H4 q1 (.tup [.str "t", .str "key"])) := .new hq1
  generalize upd H4 q1 (.tup [.str "t", .str "key"]) = H5 at *
  have j2 : Im R.K F0 _ _ _ := im_pair (K := R.K) (t := "lookup") (n := "theirs") hq2 dom0
  have g6 : Gr F0 H5 (upd H5 q2 (.tup [.str "lookup", .str "theirs"])) := .new hq2
  have j1' := j1.gr g6
  generalize upd H5 q2 (.tup [.str "lookup", .str "theirs"]) = H6 at *
  have j3 : Im R.K F0 _ _ _ := im_pair (K := R.K) (t := "lookup") (n := "named") hq3 dom0
  have g7 : Gr F0 H6 (upd H6 q3 (.tup [.str "lookup", .str "named"])) := .new hq3
  have j1'' := j1'.gr g7
  have j2' := j2.gr g7
  generalize upd H6 q3 (.tup [.str "lookup", .str "named"]) = H7 at *
  have g8 : Gr F0 H7 (upd H7 q4 (.lst [.ref q1, .ref q2, .ref q3])) := .new hq4
  have j4 : Im R.K F0 _ _ (.list [pairD "t" "key", pairD "lookup" "theirs", pairD "lookup" "named"]) := Im.new_lst (K := R.K) hq4 dom0 (.cons j1'' (.cons j2' (.cons j3 .nil)))
  have g48 := ((g5.trans g6).trans g7).trans g8
  generalize upd H7 q4 (.lst [.ref q1, .ref q2, .ref q3]) = H8 at *
  have shL : SeqAt.shaped (.list [pairD "t" "key", pairD "lookup" "theirs", pairD "lookup" "named"]) = true := by decide +kernel
  refine ⟨_, _, (i4.gr g48).d, j4.d, shL, shL, _, rfl, iff' (by rw [eqv_sh shL]; rfl) ?_⟩
  have g38 := g4.trans g48
  have g18 := g2.trans g38
  have hw8 := hw1.gr g18
  have hr8 := hr3.gr g38
  have hfo8 := hfo1.gr g18
  have ins8 := ins1.gr g18
  have ia28 := ia2.gr g18
  have gQ := g1.trans g18
  rcases hxy with ⟨rfl, ex1, hx⟩ | ⟨j, hj, rfl, ew⟩
  · cases ia3
    refine ⟨_, rfl, rfl, _, rfl, ift (decide_eq_true rfl) ⟨_, rfl, _, rfl, _, _, hw8.d, ia28.d, ?_, ?_, ?_⟩⟩
    · rw [ex1]
      rcases hx with ⟨rfl, _⟩ | rfl
      · exact value_sh hvk
      · exact value_sh (isV_flt (by decide +kernel))
    · rcases hx with ⟨rfl, _⟩ | rfl
      · exact value_sh hvk
      · exact value_sh (isV_flt (by decide +kernel))
    · rw [ex1]
      have sh : SeqAt.shaped x = true := by
        rcases hx with ⟨rfl, _⟩ | rfl
        · exact value_sh hvk
        · exact value_sh (isV_flt (by decide +kernel))
      rw [eqv_sh sh]
      exact q _ gQ
  · cases ia3
    rw [ew] at hw8
    have hj2 : j < nds.length := by omega
    obtain ⟨i, ei, hi⟩ := hnum _ (List.getElem_mem hj2)
    have eD : nds.getD j .none = .int i := by rw [getD_of (List.getElem?_eq_getElem hj2), ei]
    rw [eD] at hw8
    refine ⟨_, rfl, rfl, _, rfl, iff' (decide_eq_false fun e => by cases e) ?_⟩
    obtain ⟨lb, ys, rfl, hL2, hA2⟩ := ins8.to_lst
    obtain ⟨yv, hyv, iyv⟩ := hA2.getD (List.getElem?_eq_getElem hj2)
    rw [ei] at iyv
    cases iyv
    refine ⟨_, rfl, _, rfl, _, rfl, lb, _, _, .int i, rfl, rfl, hL2.sq, getD_nat hyv, (show 1 ≤ sizeLine by decide), fun s1 hs1 => ⟨(show 2 ≤ sizeLine by decide), fun s2 hs2 => ?_⟩⟩
    have g9 : Gr F0 H8 (upd H8 s1 (.lst [.int i])) := .new hs1
    have l1 : Im R.K F0 _ _ (.list [.int i]) := Im.new_lst (K := R.K) hs1 dom0 (.cons (.int i) .nil)
    have hw9 := hw8.gr g9
    have hr9 := hr8.gr g9
    have hfo9 := hfo8.gr g9
    have hL9 := hL2.gr g9
    generalize upd H8 s1 (.lst [.int i]) = H9 at *
    have g10 : Gr F0 H9 (upd H9 s2 (.tup [.str "call", .ref s1])) := .new hs2
    have l2 : Im R.K F0 _ _ (callD [.int i]) := Im.new_tup (K := R.K) hs2 dom0 (.cons (.str _) (.cons l1 .nil))
    have hw10 := hw9.gr g10
    have hr10 := hr9.gr g10
    have hfo10 := hfo9.gr g10
    have hL10 := hL9.gr g10
    generalize upd H9 s2 (.tup [.str "call", .ref s1]) = H10 at *
    have shC : SeqAt.shaped (callD [.int i]) = true := call_sh fun d hd => by rw [List.mem_singleton.mp hd]; exact isV_int hi
    refine ⟨_, _, hw10.d, l2.d, shC, shC, _, rfl, ?_⟩
    rw [eqv_sh shC, if_pos rfl]
    obtain ⟨tt, u5, rfl, htt, iu⟩ := im_two hw10
    obtain ⟨lu, us, rfl, hLu, hAu⟩ := iu.to_lst
    have eus : us = ([i] : List Int).map V.int := ints_of hAu
    subst eus
    have hr10' := hr10
    obtain ⟨nq5, ho5, _, _⟩ := hr10'
    obtain ⟨dx5, fs5, ep5, lk5⟩ := ho5.ob
    refine ⟨_, rfl, p, dx5, fs5, rfl, ep5, by rw [lk5]; rfl, _, rfl, tt, [.str "call", .ref lu], 1, .ref lu, rfl, rfl, htt, rfl, ?_⟩
    refine ⟨_, _, rfl, p, He.ga R.K "Lookup", dx5, fs5, fv, _, groupDom, F0, F0, lu, [i], rfl, rfl, ep5, kL.c, kL.na _ (by decide), by rw [lk5]; rfl, hfo10, hLu.sq, Nat.zero_lt_one, isV_small (isV_int hi), dom0, fun wf H11 g11 i11 => ?_⟩
    have eset : settle (.int (([i] : List Int).headD 0)) = .int i := if_pos (isV_int hi)
    rw [eset] at i11
    refine ⟨_, rfl, _, rfl, lb, _, _, .int i, rfl, rfl, (hL10.gr g11).sq, getD_nat hyv, _, _, i11.d, .int i, int_sh i, int_sh i, ?_⟩
    rw [eqv_sh (int_sh i)]
    exact q _ (((gQ.trans g9).trans g10).trans g11)
theorem tabs_gr1 {T : List NTab} {H H' : Hp} {ga : Addr} {xs : List V} (t : TabsN T H) (e : H ga = some (.lst xs)) (g : Gr (fun b => b = ga) H H') : TabsN T H' := fun p hp => by
  obtain ⟨ps, h1, h2, h3⟩ := t p hp
  refine ⟨ps, g.keep _ _ h1 fun z => ?_, h2, fun pos cv hc => ?_⟩
  · rw [z, e] at h1
    cases h1
  · obtain ⟨c, e1, e2⟩ := h3 pos cv hc
    refine ⟨c, e1, g.keep _ _ e2 fun z => ?_⟩
    rw [z, e] at e2
    have e3 := Option.some.inj e2
    unfold CodeO at e3
    cases e3
/-- the lookup law -/
theorem pu_law_lookup {R : Rt} (M1 : MkOk R 1 ["gone", "key", "keys", "numbers"] 3 3 (spl_look55 R)) (M2 : MkOk R 2 ["keys"] 3 1 (spl_many55 R)) (kL : ClsF R.K "Lookup" ["function", "key", "other", "theirs", "names"]) (cI : ClsI R.K "Lookup")
    (hP : Tb R (He.tabOf R.K (He.codeOf R.K ("_law_lookup", none)))) (cells : List (Str × Addr)) (hcl : ∀ y ∈ (["gone", "key", "keys", "numbers"] : List Str), ∃ c, cells.lookup y = some c)
    (vs : List V) (H : Hp) (Q : VK) (E : XK) (h : sp_law_lookup R vs H Q E) : t_law_lookup R cells { nx := fun _ H' => Q .non H', rt := Q } (L2.start ["script", "key", "keys", "numbers", "place", "rule", "gone", "_law_look", "told", "asked", "due", "at"] vs) H := by
  obtain ⟨sv, kv, ksv, nv, rfl, a, sc, kd, ds, nds, rfl, hs, hl, ikd, iks, ins, hvk, hv, hnum, hlen, h8, hT, q⟩ := h
  have hf : ∀ j, j < ds.length → isFault (nds.getD j .none) = false := fun j hj => by
    rw [getD_of (List.getElem?_eq_getElem (hlen ▸ hj))]
    obtain ⟨i, ei, _⟩ := hnum _ (List.getElem_mem (hlen ▸ hj))
    rw [ei]
    rfl
  have hv2 : ∀ d ∈ nds, isValue d = true := fun d hd => by
    obtain ⟨i, rfl, hi⟩ := hnum d hd
    exact isV_int hi
  refine ⟨_, rfl, _, _, rfl, a, sc, _, rfl, hs, hl, rfl, by decide, by decide, fun i4 => ?_⟩
  refine ⟨_, _, rfl, rfl, (show (0 : Int) < 9 by decide), ?_⟩
  obtain ⟨m0, m1⟩ := emod_in i4 (n := 9) (by decide)
  dsimp only
  generalize i4 % 9 = m8 at *
  obtain ⟨pl, hn⟩ : ∃ pl : Nat, m8 = (pl : Int) := ⟨m8.toNat, (Int.toNat_of_nonneg m0).symm⟩
  subst hn
  refine ⟨_, rfl, _, rfl, by decide +kernel, hT, .inl ⟨"key", "lookup", "theirs", "named", by decide +kernel, by decide +kernel, by decide +kernel, by decide +kernel, by decide +kernel, fun p fv H1 np g1 T1 post => ?_⟩⟩
  obtain ⟨_, hr, hfo⟩ := post (Tb R) (tb_dom hT)
  have ikd1 := ikd.gr g1
  have iks1 := iks.gr g1
  have ins1 := ins.gr g1
  refine ⟨(show 0 ≤ sizeLine by decide), fun ga hga => ?_⟩
  have g2 : Gr F0 H1 (upd H1 ga (.lst [])) := .new hga
  have e2 : upd H1 ga (.lst []) ga = some (.lst []) := upd_same
  have T2 := gr_tabs T1 g2
  generalize upd H1 ga (.lst []) = H2 at *
  have nga := (tb_dom T1).d.no hga
  refine ⟨T2, fun f c' H3 eN nn T3 f0 f1 c1 => ?_⟩
  have g3 : Gr (Tb R) H2 H3 := gr_mk hP eN nn
  obtain ⟨nq, ho, hnm, _⟩ := RAt.gr (g2.of0.trans g3) hr
  obtain ⟨dx, fs, ep, lk⟩ := ho.ob
  refine ⟨_, rfl, p, dx, fs, rfl, ep, by rw [lk]; rfl, _, rfl, T3, fun f2 c2 H4 eN2 nn2 T4 f20 f21 c21 => ⟨_, rfl, ?_⟩⟩
  have g4 : Gr (Tb R) H3 H4 := gr_mk hP eN2 nn2
  intro K2 t
  have gt := gr_trk t
  have g14 : Gr (Tb R) H1 H4 := (g2.of0.trans g3).trans g4
  have g12 : Gr (Tb R) H1 K2 := g14.trans gt.of0
  have w1 : Wk (Tb R) (Un2 (Tb R) fun b => b = ga) H1 := fun b hb => hb.imp id fun e => by rw [e]; exact hga
  have gF : Gr (Un2 (Tb R) fun b => b = ga) H1 K2 := g12.mono fun _ z => .inl z
  have wd : ∀ X, Wk (Un2 (Tb R) fun b => b = ga) (Un2 (fun b => b = ga) F0) X := fun X b hb => .inl (by
    rcases hb with hb | hb
    · exact .inr hb
    · exact hb.elim)
  have rF := RAt.wk w1 hr
  have eg : K2 ga = some (.lst []) := gt.keep ga _ (g4.keep ga _ (g3.keep ga _ e2 nga) nga) id
  have F1 : FnH K2 f (R.fn 1 cells c') := by
    refine ⟨gt.keep f _ (g4.keep f _ f1 ((tb_dom T2).d.no f0)) id, ?_⟩
    rw [M1.c]
    exact gt.keep c' _ (g4.keep c' _ c1 fun z => (by
      obtain ⟨o, e, no⟩ := tb_dom T3 c' z
      rw [c1] at e
      exact no _ (Option.some.inj e).symm)) id
  have F2 : FnH K2 f2 (R.fn 2 cells c2) := ⟨gt.keep f2 _ f21 id, by rw [M2.c]; exact gt.keep c2 _ c21 id⟩
  have cap1 : Caps K2 (R.fn 1 cells c').cl ["gone", "key", "keys", "numbers"] [.ref ga, kv, ksv, nv] := M1.caps t hcl rfl fun i y e => by
      rcases i with _ | _ | _ | _ | i
      · cases e; exact ⟨6, _, rfl, rfl, rfl⟩
      · cases e; exact ⟨1, _, rfl, rfl, rfl⟩
      · cases e; exact ⟨2, _, rfl, rfl, rfl⟩
      · cases e; exact ⟨3, _, rfl, rfl, rfl⟩
      · cases e
  have cap2 : Caps K2 (R.fn 2 cells c2).cl ["keys"] [ksv] := M2.caps t (fun y hy => hcl y (by
    simp only [List.mem_cons, List.not_mem_nil, or_false] at hy ⊢
    simp [hy])) rfl fun i y e => by
      rcases i with _ | i
      · cases e; exact ⟨2, _, rfl, rfl, rfl⟩
      · cases e
  have dom2 : Dom (Un2 (fun b => b = ga) F0) K2 := fun b hb => by
    rcases hb with hb | hb
    · rw [hb]; exact ⟨_, eg⟩
    · exact hb.elim
  have J0 : JN R (some ga) [⟨f, R.fn 1 cells c', ["gone", "key", "keys", "numbers"], [.ref ga, kv, ksv, nv]⟩, ⟨f2, R.fn 2 cells c2, ["keys"], [ksv]⟩] [(kv, kd), (ksv, .list ds), (nv, .list nds)] [] (fun b => b = ga) F0 K2 := by
    refine ⟨fun b => ⟨fun e => by rw [e], fun e => (Option.some.inj e).symm⟩, fun ga' e => ?_, fun d hd => ?_, fun y hy => ?_⟩
    · cases e
      exact ⟨id, [], eg, .nil⟩
    · simp only [List.mem_cons, List.not_mem_nil, or_false] at hd
      rcases hd with rfl | rfl
      · exact ⟨F1, ⟨id, id⟩, cap1, fun _ _ => id⟩
      · exact ⟨F2, ⟨id, id⟩, cap2, fun _ _ => id⟩
    · simp only [List.mem_cons, List.not_mem_nil, or_false] at hy
      rcases hy with rfl | rfl | rfl
      · exact ((ikd1.wk w1).gr gF).wk (wd _)
      · exact ((iks1.wk w1).gr gF).wk (wd _)
      · exact ((ins1.wk w1).gr gF).wk (wd _)
  refine ⟨_, _, _, _, _, _, rfl, "key", "lookup", "theirs", ["named"], List Spot, ResN R (some ga) [⟨f, R.fn 1 cells c', ["gone", "key", "keys", "numbers"], [.ref ga, kv, ksv, nv]⟩, ⟨f2, R.fn 2 cells c2, ["keys"], [ksv]⟩] [(kv, kd), (ksv, .list ds), (nv, .list nds)], lk55 kd ds nds, fun t => (if t = "lookup" then ds.length else 9), fun _ c p => c = "key" ∨ (0 ≤ p ∧ p < ds.length), fun _ => True, fun g => 90000 - g.length, [], fun b => b = ga, F0, p, fv, "t", "own", (pl : Nat), rfl, rfl, rfl, rfl,
    note_ok (d := ⟨f, R.fn 1 cells c', ["gone", "key", "keys", "numbers"], [.ref ga, kv, ksv, nv]⟩) (k := 3) (kx := 10) List.mem_cons_self (M1.ct _ _ _) (by decide) (lkv55 kd ds nds) _ (fun t c p hp => ?_) (fun H' F' vacc t c p Q' e0 hl0 hF0 dF0 hi0 hp0 q0 => ?_), manyN_ok (d := ⟨f2, R.fn 2 cells c2, ["keys"], [ksv]⟩) (k := 3) (kx := 10) (List.mem_cons_of_mem _ List.mem_cons_self) (M2.ct _ _ _) (by decide) _ _ (fun t _ => ?_) (fun H' F' t Q' dF0 hi0 _ q0 => ?_), RAt.wk (wd _) (RAt.gr gF rF), J0, dom2, ⟨.inl rfl, fun j hj => ⟨.inr ⟨by omega, ?_⟩, fun n _ => .inr ⟨by omega, ?_⟩⟩⟩, trivial, ?_, fun w Ft' H' hJ gg ww dd iw hcells => ?_⟩
  · unfold lkv55
    rcases hp with hp | hp
    · rw [if_pos hp]; exact hvk
    · split
      · exact hvk
      · split
        · rw [getD_of (List.getElem?_eq_getElem (show p.toNat < ds.length by omega))]
          exact hv _ (List.getElem_mem _)
        · rw [getD_of (List.getElem?_eq_getElem (show p.toNat < nds.length by omega))]
          exact hv2 _ (List.getElem_mem _)
  · exact ⟨ga, vacc, kv, ksv, nv, kd, ds, nds, t, c, p, F', rfl, rfl, e0, hl0, hF0, dF0, hi0 (kv, kd) (by simp), hi0 (ksv, .list ds) (by simp), hi0 (nv, .list nds) (by simp), hp0, hlen, q0⟩
  · split
    · exact Nat.lt_of_le_of_lt h8 (by decide)
    · decide
  · exact ⟨ksv, t, ds, F', rfl, rfl, hi0 (ksv, .list ds) (by simp), dF0, q0⟩
  · have hj' : j < if ("lookup" : Str) = "lookup" then ds.length else 9 := hj
    rw [if_pos rfl] at hj'
    omega
  · have hj' : j < if ("lookup" : Str) = "lookup" then ds.length else 9 := hj
    rw [if_pos rfl] at hj'
    omega
  · show 1 + ((if ("lookup" : Str) = "lookup" then ds.length else 9) + 1) ≤ 90000 - 0
    rw [if_pos rfl]
    omega
  have eg4 : H4 ga = some (.lst []) := g4.keep ga _ (g3.keep ga _ e2 nga) nga
  have gh : Gr (fun b => b = ga) H4 (hide (cells.map (·.2)) H') := gr_hide t gg
  have gz : Gr (Un2 (Tb R) fun b => b = ga) H1 (hide (cells.map (·.2)) H') := (g14.mono fun _ z => .inl z).trans (gh.mono fun _ z => .inr z)
  have gT : Gr (Tb R) H (hide (cells.map (·.2)) H') := g1.trans (gr_out gz hga)
  have Th := tabs_gr1 T4 eg4 gh
  have emn : gatherD (lk55 kd ds nds) (fun t => if t = "lookup" then ds.length else 9) (.lookup "key" "lookup" "theirs" ["named"]) "t" "own" (pl : Nat) [] = gath55 kd ds nds pl := gather55 (if_pos rfl) hvk hf
  rw [emn] at iw hJ
  obtain ⟨_, vacc, ev, iv⟩ := hJ.at_ ga rfl
  have ig : Im R.K F0 H' (.ref ga) (.list ((gath55 kd ds nds pl).2.map spotD)) := .lst (.of ev id) (iv.wk wk0)
  exact pu_lookup_c kL cI cells _ Q a kv ksv nv kd ds nds pl p ga f fv w (RAt.wk wk0 (RAt.gr gz rF)) (((hfo.wk w1).gr gz).wk wk0) (((ikd1.wk w1).gr gz).wk wk0) (((iks1.wk w1).gr gz).wk wk0) (((ins1.wk w1).gr gz).wk wk0) hvk hv hnum hlen h8 (im_hide0 hcells ig) (im_hide0 hcells iw) fun H'' g'' => q H'' (gT.trans g''.of0) (gr_tabs Th g'')
abbrev names55 : List Str := ["mend", "a", "zzzzzzzz", "up"]
theorem free55 : ∀ n ∈ names55, nameS n = true ∧ 32 ∉ TL.tl n := by decide +kernel
theorem split_mend {n w : Str} (hn : 32 ∉ TL.tl n) (hw : 32 ∉ TL.tl w) : Txt.split ((((("mend " : Str) ++ n) ++ " ") ++ w)) " " = [("mend" : Str), n, w] := by
  have ey : TL.tl " " = 32 :: [] := by decide +kernel
  have e : ((("mend " : Str) ++ n) ++ " ") ++ w = Txt.join " " [("mend" : Str), n, w] := by
    rw [TL.join_eq]
    refine TL.ext_tl ?_
    rw [TL.tl_join]
    show TL.tl (((("mend " : Str) ++ n) ++ " ") ++ w) = TL.tl "mend" ++ (TL.tl " " ++ (TL.tl n ++ (TL.tl " " ++ TL.tl w)))
    rw [TL.tl_append, TL.tl_append, TL.tl_append]
    have e2 : TL.tl "mend " = TL.tl "mend" ++ TL.tl " " := by decide +kernel
    rw [e2]
    simp only [List.append_assoc]
  rw [e]
  refine TL.split_join ey (by decide +kernel) (by simp) fun p hp => ?_
  simp only [List.mem_cons, List.not_mem_nil, or_false] at hp
  rcases hp with rfl | rfl | rfl
  · decide +kernel
  · exact hn
  · exact hw
theorem app_len (a b : Str) : (a ++ b).length = a.length + b.length := by rw [TL.len_tl, TL.tl_append, List.length_append, TL.len_tl, TL.len_tl]
theorem gather_mend {vd : PyData} {n t c : Str} {p : Int} {mn : Str → Nat} {g : List Spot} : gatherD (fun _ _ _ g => (vd, g)) mn (.mend n) t c p g = (if isFault vd then callD [] else valueD vd, g) := by
  show (if isFault vd = true then (callD [], g) else (valueD vd, g)) = _
  cases isFault vd <;> rfl
theorem pu_law_mend {R : Rt} (M4 : MkOk R 3 ["value"] 3 3 (spl_mend R)) (M5 : MkOk R 4 [] 3 1 (spl_three R)) (kM : ClsF R.K "Mend" ["function", "name"]) (cI : ClsI R.K "Mend")
    (hP : Tb R (He.tabOf R.K (He.codeOf R.K ("_law_mend", none)))) (cells : List (Str × Addr)) (hcl : ∀ y ∈ (["value"] : List Str), ∃ c, cells.lookup y = some c)
    (vs : List V) (H : Hp) (Q : VK) (E : XK) (h : sp_law_mend R vs H Q E) : t_law_mend R cells { nx := fun _ H' => Q .non H', rt := Q } (L2.start ["script", "number", "name", "value", "due", "rule", "told"] vs) H := by
  obtain ⟨sv, nv, rfl, a, sc, i0, rfl, hs, hl, rfl, hi0, hT, q⟩ := h
  refine ⟨(show 4 ≤ sizeLine by decide), fun r1 h1 => ?_⟩
  have g1 : Gr F0 H (upd H r1 (.lst [.str "mend", .str "a", .str "zzzzzzzz", .str "up"])) := .new h1
  have e1 : upd H r1 (.lst [.str "mend", .str "a", .str "zzzzzzzz", .str "up"]) r1 = some (.lst (names55.map V.str)) := upd_same
  have T1 := gr_tabs hT g1
  generalize upd H r1 (.lst [.str "mend", .str "a", .str "zzzzzzzz", .str "up"]) = H1 at *
  refine ⟨_, rfl, _, _, rfl, a, sc, _, rfl, sq_gr hs g1, hl, rfl, by decide, by decide, fun i4 => ?_⟩
  obtain ⟨name, en, hname⟩ := atI_str (ns := names55) (emod_in i4 (n := 4) (by decide)).1 (emod_in i4 (n := 4) (by decide)).2
  refine ⟨_, _, rfl, rfl, (show (0 : Int) < 4 by decide), r1, _, _, _, rfl, rfl, .of e1, en, ?_⟩
  obtain ⟨hnm, hnf⟩ := free55 name hname
  -- the value
  have D1 := tb_dom' T1
  refine ⟨_, rfl, (show 2 ≤ sizeLine by decide), fun r2 h2 => ⟨(show 2 ≤ sizeLine by decide), fun r3 h3 => ⟨(show 4 ≤ sizeLine by decide), fun r4 h4 => ?_⟩⟩⟩
  have i2 : Im R.K (Tb R) _ _ (flt "odd") := im_flt (K := R.K) (x := "odd") h2 D1
  have g2 : Gr F0 H1 (upd H1 r2 (.tup [.str "fault", .str "odd"])) := .new h2
  have D2 := D1.gr g2
  generalize upd H1 r2 (.tup [.str "fault", .str "odd"]) = H2 at *
  have i3 : Im R.K (Tb R) _ _ (flt "mend") := im_flt (K := R.K) (x := "mend") h3 D2
  have g3 : Gr F0 H2 (upd H2 r3 (.tup [.str "fault", .str "mend"])) := .new h3
  have i2' := i2.gr g3.of0
  have D3 := D2.gr g3
  generalize upd H2 r3 (.tup [.str "fault", .str "mend"]) = H3 at *
  have g4 : Gr F0 H3 (upd H3 r4 (.lst [.int i0, .ref r2, .ref r3, .int 0])) := .new h4
  have e4 : upd H3 r4 (.lst [.int i0, .ref r2, .ref r3, .int 0]) r4 = some (.lst [.int i0, .ref r2, .ref r3, .int 0]) := upd_same
  have iA : ImAll R.K (Tb R) H3 [.int i0, .ref r2, .ref r3, .int 0] [.int i0, flt "odd", flt "mend", .int 0] := .cons (.int _) (.cons i2' (.cons i3 (.cons (.int _) .nil)))
  have iA4 := iA.gr g4.of0
  have g14 := ((g1.trans g2).trans g3).trans g4
  have T4 := gr_tabs hT g14
  generalize upd H3 r4 (.lst [.int i0, .ref r2, .ref r3, .int 0]) = H4 at *
  refine ⟨_, rfl, _, _, rfl, a, sc, _, rfl, sq_gr hs g14, hl, rfl, by decide, by decide, fun i5 => ?_⟩
  obtain ⟨v, hv1, hv2⟩ := atI_in (xs := [V.int i0, .ref r2, .ref r3, .int 0]) (emod_in i5 (n := 4) (by decide)).1 (emod_in i5 (n := 4) (by decide)).2
  refine ⟨_, _, rfl, rfl, (show (0 : Int) < 4 by decide), r4, _, _, _, rfl, rfl, .of e4, hv2, ?_⟩
  obtain ⟨vd, hvd, iv⟩ := iA4.get hv1
  have hval : isValue vd = true := by
    have hm := List.mem_of_getElem? hvd
    simp only [List.mem_cons, List.not_mem_nil, or_false] at hm
    rcases hm with rfl | rfl | rfl | rfl
    · exact isV_int hi0
    · exact isV_flt (by decide +kernel)
    · exact isV_flt (by decide +kernel)
    · exact isV_int (by decide +kernel)
  clear hv1 hv2 hvd iA iA4 e4 i2 i2' i3
  -- the number
  refine ⟨_, rfl, _, _, rfl, a, sc, _, rfl, sq_gr hs g14, hl, rfl, by decide, by decide, fun c1 => ⟨_, rfl, c1, rfl, fun due H5 g5 hdue => ?_⟩⟩
  obtain ⟨b1, b2⟩ := inR_to hdue
  have T5 := gr_tabs T4 g5
  have iv5 := iv.gr g5.of0
  have hlen := num_len b1 b2
  have hnl := name_short hnm
  have l5 : ("mend " : Str).length = 5 := by decide +kernel
  have l1 : (" " : Str).length = 1 := by decide +kernel
  have lg : due.natAbs.log2 < 1920 := by
    have hb : due.natAbs < 1000000000000000000000000000000000000000000000000000000000000 := by omega
    by_cases hz : due.natAbs = 0
    · rw [hz]; decide
    · exact (Nat.log2_lt hz).mpr (Nat.lt_trans hb (by decide +kernel))
  refine ⟨_, rfl, _, _, rfl, rfl, line1 (by omega), _, _, rfl, rfl, line1 (by rw [app_len]; omega), _, rfl, due, rfl, lg, _, _, rfl, rfl, line1 (by rw [app_len, app_len]; omega), ?_⟩
  refine ⟨_, rfl, _, rfl, by rw [app_len, app_len, app_len]; omega, T5, .inr ⟨name, Str.ofString (toString due), due, split_mend hnf (num_free (by decide)), hnm, by omega, (num_txt b1 b2).whole, fun p fv H6 np g6 T6 post => ?_⟩⟩
  obtain ⟨_, hr, hfo⟩ := post (Tb R) (tb_dom T5)
  have iv6 := iv5.gr g6
  obtain ⟨dx, fs, ep, lk⟩ := hr.1.ob
  refine ⟨_, rfl, p, dx, fs, rfl, ep, by rw [lk]; rfl, T6, fun f c' H7 eN nn T7 f0 f1 c1' => ?_⟩
  have g7 : Gr (Tb R) H6 H7 := gr_mk hP eN nn
  refine ⟨T7, fun f2 c2 H8 eN2 nn2 T8 f20 f21 c21 => ?_⟩
  have g8 : Gr (Tb R) H7 H8 := gr_mk hP eN2 nn2
  intro K2 t
  have gt := gr_trk t
  have gK : Gr (Tb R) H6 K2 := (g7.trans g8).trans gt.of0
  have F1 : FnH K2 f (R.fn 3 cells c') := by
    refine ⟨gt.keep f _ (g8.keep f _ f1 ((tb_dom T6).d.no f0)) id, ?_⟩
    rw [M4.c]
    exact gt.keep c' _ (g8.keep c' _ c1' fun z => (by
      obtain ⟨o, e, no⟩ := tb_dom T7 c' z
      rw [c1'] at e
      exact no _ (Option.some.inj e).symm)) id
  have F2 : FnH K2 f2 (R.fn 4 cells c2) := ⟨gt.keep f2 _ f21 id, by rw [M5.c]; exact gt.keep c2 _ c21 id⟩
  have cap1 : Caps K2 (R.fn 3 cells c').cl ["value"] [v] := M4.caps t hcl rfl fun i y e => by
    rcases i with _ | i
    · cases e; exact ⟨3, _, rfl, rfl, rfl⟩
    · cases e
  have cap2 : Caps K2 (R.fn 4 cells c2).cl [] [] := M5.caps t (fun y hy => nomatch hy) rfl fun i y e => by cases i <;> cases e
  have J0 : JN R none [⟨f, R.fn 3 cells c', ["value"], [v]⟩, ⟨f2, R.fn 4 cells c2, [], []⟩] [(v, vd)] [] F0 F0 K2 := by
    refine ⟨fun b => ⟨fun e => e.elim, (fun e => nomatch e)⟩, (fun ga' e => nomatch e), fun d hd => ?_, fun y hy => ?_⟩
    · simp only [List.mem_cons, List.not_mem_nil, or_false] at hd
      rcases hd with rfl | rfl
      · exact ⟨F1, ⟨id, id⟩, cap1, fun _ _ => id⟩
      · exact ⟨F2, ⟨id, id⟩, cap2, fun _ _ => id⟩
    · rw [List.mem_singleton.mp hy]
      exact (iv6.gr gK).wk fun b hb => hb.elim (fun z => z.elim) fun z => z.elim
  have dom2 : Dom (Un2 F0 F0) K2 := fun b hb => hb.elim (fun z => z.elim) fun z => z.elim
  refine ⟨_, _, _, _, _, _, rfl, name, List Spot, ResN R none [⟨f, R.fn 3 cells c', ["value"], [v]⟩, ⟨f2, R.fn 4 cells c2, [], []⟩] [(v, vd)], fun _ _ _ g => (vd, g), fun _ => 3, fun _ _ _ => True, fun _ => True, fun _ => 90000, [], F0, F0, p, fv, "t", "own", 2, rfl, rfl, rfl, rfl,
    quiet_ok (d := ⟨f, R.fn 3 cells c', ["value"], [v]⟩) (k := 3) (kx := 10) List.mem_cons_self (M4.ct _ _ _) (by decide) (fun _ _ _ => vd) _ (fun _ _ _ _ => hval) (fun H' F' t c p Q' dF0 hi0 _ q0 => ⟨v, _, _, _, rfl, rfl, q0 _ _ (Gr.refl _ _) (hi0 (v, vd) (by simp))⟩),
    manyN_ok (d := ⟨f2, R.fn 4 cells c2, [], []⟩) (k := 3) (kx := 10) (List.mem_cons_of_mem _ List.mem_cons_self) (M5.ct _ _ _) (by decide) _ _ (fun _ _ => by decide) (fun H' F' t Q' dF0 hi0 _ q0 => ⟨_, rfl, rfl, q0 _ (Gr.refl _ _)⟩),
    RAt.wk (fun b hb => hb.elim (fun z => z.elim) fun z => z.elim) (RAt.gr gK hr), J0, dom2, trivial, trivial, (show 1 ≤ 90000 by decide), fun w Ft' H9 hJ gg ww dd iw hcells => ?_⟩
  rw [gather_mend] at iw
  have gh : Gr F0 H8 (hide (cells.map (·.2)) H9) := gr_hide t gg
  have gz : Gr (Tb R) H6 (hide (cells.map (·.2)) H9) := (g7.trans g8).trans gh.of0
  have hw := im_hide0 hcells iw
  have hr9 : RAt R.K F0 _ p fv (.mend name) := RAt.wk wk0 (RAt.gr gz hr)
  have hfo9 := (hfo.gr gz).wk (wk0 (H := hide (cells.map (·.2)) H9))
  have iv9 := (iv6.gr gz).wk (wk0 (H := hide (cells.map (·.2)) H9))
  generalize hide (cells.map (·.2)) H9 = Hh at *
  have hr9' := hr9
  obtain ⟨ho, hnx⟩ := hr9'
  obtain ⟨t4, u4, k1, k2, k3⟩ := cI.isi ho
  obtain ⟨dx2, fs2, ep2, lk2⟩ := ho.ob
  refine ⟨_, rfl, _, _, _, _, _, rfl, k1, k2, k3, _, rfl, iteF ?_⟩
  refine ⟨_, rfl, p, dx2, fs2, rfl, ep2, by rw [lk2]; rfl, ?_⟩
  refine ⟨_, _, rfl, name, p, F0, "t", fv, rfl, rfl, by decide +kernel, hr9, dom0, fun wl Ha ga ia => ?_⟩
  have ia' : Im R.K F0 Ha wl (.list [pairD "t" name]) := ia
  refine ⟨_, rfl, (show 2 ≤ sizeLine by decide), fun s1 hs1 => ⟨(show 1 ≤ sizeLine by decide), fun s2 hs2 => ?_⟩⟩
  have j1 : Im R.K F0 _ _ _ := im_pair (K := R.K) (t := "t") (n := name) hs1 dom0
  have gb : Gr F0 Ha (upd Ha s1 (.tup [.str "t", .str name])) := .new hs1
  generalize upd Ha s1 (.tup [.str "t", .str name]) = Hb at *
  have j2 : Im R.K F0 _ _ (.list [pairD "t" name]) := Im.new_lst (K := R.K) hs2 dom0 (.cons j1 .nil)
  have gc : Gr F0 Hb (upd Hb s2 (.lst [.ref s1])) := .new hs2
  generalize upd Hb s2 (.lst [.ref s1]) = Hc at *
  have pn := pair_sh (t := "t") (n := name) (by decide +kernel) hnm
  have shL : SeqAt.shaped (.list [pairD "t" name]) = true := shaped_list (fun d hd => by rw [List.mem_singleton.mp hd]; exact pn) fun d hd => by rw [List.mem_singleton.mp hd]; exact pair_dp _ _
  refine ⟨_, _, ((ia'.gr gb).gr gc).d, j2.d, shL, shL, _, rfl, iff' (by rw [eqv_sh shL]; rfl) ?_⟩
  have gq := (ga.trans gb).trans gc
  have hwc := hw.gr gq
  have hrc := hr9.gr gq
  have hfc := hfo9.gr gq
  have ivc := iv9.gr gq
  obtain ⟨t5, u5, m1, m2, m3⟩ := is_of (T := "int") (b := !isTupD vd) ivc.d (by
    rw [kit_int]
    cases vd with
    | int i => rfl
    | tuple xs => rfl
    | _ => cases hval)
  refine ⟨_, rfl, _, _, _, _, _, rfl, m1, m2, m3, _, rfl, ?_⟩
  rw [isT_fault hval] at hwc
  cases eT : isTupD vd with
  | false =>
    rw [eT, if_neg Bool.false_ne_true] at hwc
    refine ift rfl ⟨_, rfl, _, rfl, (show 2 ≤ sizeLine by decide), fun s3 hs3 => ?_⟩
    have gd : Gr F0 Hc (upd Hc s3 (.tup [.str "value", v])) := .new hs3
    have j3 : Im R.K F0 _ _ (valueD vd) := Im.new_tup (K := R.K) hs3 dom0 (.cons (.str _) (.cons ivc .nil))
    have sh := value_sh hval
    refine ⟨_, _, (hwc.gr gd).d, j3.d, sh, sh, ?_⟩
    rw [eqv_sh sh]
    exact q _
  | true =>
    rw [eT, if_pos rfl] at hwc
    refine iff' rfl ⟨_, rfl, (show 0 ≤ sizeLine by decide), fun s3 hs3 => ⟨(show 2 ≤ sizeLine by decide), fun s4 hs4 => ?_⟩⟩
    have gd : Gr F0 Hc (upd Hc s3 (.lst [])) := .new hs3
    have j3 : Im R.K F0 _ _ (.list []) := Im.new_lst (K := R.K) hs3 dom0 .nil
    have hwd := hwc.gr gd
    have hrd := hrc.gr gd
    have hfd := hfc.gr gd
    generalize upd Hc s3 (.lst []) = Hd at *
    have ge : Gr F0 Hd (upd Hd s4 (.tup [.str "call", .ref s3])) := .new hs4
    have j4 : Im R.K F0 _ _ (callD []) := Im.new_tup (K := R.K) hs4 dom0 (.cons (.str _) (.cons j3 .nil))
    have hwe := hwd.gr ge
    have hre := hrd.gr ge
    have hfe := hfd.gr ge
    generalize upd Hd s4 (.tup [.str "call", .ref s3]) = Hy at *
    have shC : SeqAt.shaped (callD []) = true := call_sh fun d hd => nomatch hd
    refine ⟨_, _, hwe.d, j4.d, shC, shC, _, rfl, ?_⟩
    rw [eqv_sh shC, if_pos rfl]
    obtain ⟨dx5, fs5, ep5, lk5⟩ := hre.1.ob
    refine ⟨_, rfl, p, dx5, fs5, rfl, ep5, by rw [lk5]; rfl, (show 0 ≤ sizeLine by decide), fun s5 hs5 => ?_⟩
    have gf : Gr F0 Hy (upd Hy s5 (.lst [])) := .new hs5
    have e5 : upd Hy s5 (.lst []) s5 = some (.lst ((([] : List Int)).map V.int)) := upd_same
    have ep6 := gf.keep p _ ep5 id
    have hff := hfe.gr gf
    generalize upd Hy s5 (.lst []) = Hf at *
    refine ⟨_, _, rfl, p, He.ga R.K "Mend", dx5, fs5, fv, _, (fun _ => True), F0, F0, s5, [], rfl, rfl, ep6, kM.c, kM.na _ (by decide), by rw [lk5]; rfl, hff, .of e5, trivial, isV_small (isV_int hdue), dom0, fun wf Hg gg2 ig => ?_⟩
    have eset : settle (.int due) = .int due := if_pos (isV_int hdue)
    rw [eset] at ig
    refine ⟨_, rfl, _, _, ig.d, .int due, int_sh due, int_sh due, ?_⟩
    rw [eqv_sh (int_sh due)]
    exact q _
theorem pu_law55 {R : Rt} (vs : List V) (H : Hp) (Q : VK) (E : XK) (h : sp_law R vs H Q E) : t_law R { nx := fun _ H' => Q .non H', rt := Q } (L2.start ["script", "many", "keys", "numbers", "key", "k"] vs) H := by
  obtain ⟨v, rfl, a, sc, rfl, hs, hl, hT, q⟩ := h
  refine ⟨_, rfl, _, _, rfl, a, sc, _, rfl, hs, by omega, rfl, by decide, by decide, fun i0 => ?_⟩
  refine ⟨_, _, rfl, rfl, (show (0 : Int) < 9 by decide), ?_⟩
  obtain ⟨m0, m1⟩ := emod_in i0 (n := 9) (by decide)
  dsimp only
  generalize i0 % 9 = m8 at *
  obtain ⟨n, hn⟩ : ∃ n : Nat, m8 = (n : Int) := ⟨m8.toNat, (Int.toNat_of_nonneg m0).symm⟩
  subst hn
  refine ⟨_, rfl, _, rfl, by omega, by omega, fun D hD => ?_⟩
  rw [Int.toNat_natCast]
  refine lc_any (K := R.K) (walk_range (lo := 0) (n := n)) (Tb R) (fun d => isValue d = true) (line1 (by omega)) (tb_dom hT).d hD (fun _ _ => trivial) ?_ ?_
  · rintro i x Ha Hb Qe hi g dom ⟨rfl, rfl⟩ k
    refine ⟨rfl, _, rfl, _, rfl, _, _, rfl, rfl, _, _, rfl, a, sc, _, rfl, sq_gr hs (gr_in g hD), by omega, rfl, by omega, by omega, fun c => ?_⟩
    exact ⟨_, rfl, c, _, rfl, dom, fun w d H' g' hv iw => k w d H' g' hv iw⟩
  intro ys ds H3 g3 eD hlD hv iD
  have T3 := gr_tabs hT g3
  have ik : Im R.K (Tb R) H3 (.ref D) (.list ds) := .lst (.of eD ((tb_dom hT).d.no hD)) iD
  clear iD eD
  refine ⟨_, rfl, _, rfl, by omega, by omega, fun D2 hD2 => ?_⟩
  rw [Int.toNat_natCast]
  refine lc_any (K := R.K) (walk_range (lo := 0) (n := n)) (Tb R) (fun d => ∃ i, d = .int i ∧ inR i = true) (line1 (by omega)) (tb_dom T3).d hD2 (fun _ _ => trivial) ?_ ?_
  · rintro i x Ha Hb Qe hi g dom ⟨rfl, rfl⟩ k
    refine ⟨rfl, _, rfl, _, rfl, _, _, rfl, rfl, _, _, rfl, a, sc, _, rfl, sq_gr hs (g3.trans (gr_in g hD2)), by omega, rfl, by omega, by omega, fun c => ?_⟩
    exact ⟨_, rfl, c, rfl, fun i H' g' hi => k (.int i) (.int i) H' g' ⟨i, rfl, hi⟩ (.int i)⟩
  intro zs es H4 g4 eD2 hlE hw iE
  have T4 := gr_tabs T3 g4
  have gC := g3.trans g4
  have ie : Im R.K (Tb R) H4 (.ref D2) (.list es) := .lst (.of eD2 ((tb_dom T3).d.no hD2)) iE
  have ik4 := ik.gr g4.of0
  clear iE eD2
  refine ⟨_, rfl, _, _, rfl, a, sc, _, rfl, sq_gr hs gC, by omega, rfl, by decide, by decide, fun c2 => ⟨_, rfl, c2, Tb R, rfl, tb_dom' T4, fun kv kd H5 g5 hvk ikd => ?_⟩⟩
  have T5 := gr_tabs T4 g5
  have g05 := gC.trans g5
  refine ⟨_, rfl, _, rfl, _, rfl, _, rfl, _, _, _, _, rfl, a, sc, kd, ds, es, rfl, sq_gr hs g05, by omega, ikd, ik4.gr g5.of0, ie.gr g5.of0, hvk, hv, hw, hlD.trans hlE.symm, by omega, T5, fun H6 g6 T6 => ⟨_, rfl, ?_⟩⟩
  rw [if_pos rfl]
  have hs6 := sq_gr_tb (sq_gr hs g05) T5 g6
  refine ⟨_, rfl, _, rfl, _, _, rfl, a, sc, _, rfl, hs6, by omega, rfl, by decide, by decide, fun c3 => ⟨_, rfl, c3, rfl, fun i7 H7 g7 h7 => ?_⟩⟩
  exact ⟨_, _, rfl, a, sc, i7, rfl, sq_gr hs6 g7, by omega, rfl, h7, gr_tabs T6 g7, q⟩
def top (i : Nat) : Stmt := PySem.Challenge.pw_lazycols_k55_lookup_and_mend_read.main.body.getD i (.Pass ⟨0, 0, 0, 0⟩)
abbrev s_is_whole : Stmt := top 7
abbrev s_is_name : Stmt := top 8
abbrev s_is_fault : Stmt := top 9
abbrev s_is_number : Stmt := top 10
abbrev s_is_value : Stmt := top 11
abbrev s_fault : Stmt := top 12
abbrev s_settled : Stmt := top 13
abbrev s_name_told : Stmt := top 29
abbrev s_names_told : Stmt := top 30
abbrev s_each_once : Stmt := top 31
abbrev s_looked : Stmt := top 32
abbrev s_whole_of : Stmt := top 16
abbrev s_Rule_init : Stmt := inClass (top 33) 0
abbrev s_Rule_reckon : Stmt := inClass (top 33) 1
abbrev s_Lookup_init : Stmt := inClass (top 37) 0
abbrev s_Lookup_leans : Stmt := inClass (top 37) 1
abbrev s_Lookup_gather : Stmt := inClass (top 37) 2
abbrev s_Mend_init : Stmt := inClass (top 38) 0
abbrev s_Mend_leans : Stmt := inClass (top 38) 1
abbrev s_Mend_gather : Stmt := inClass (top 38) 2
abbrev s_read_lookup : Stmt := top 46
abbrev s_read_mend : Stmt := top 47
abbrev s_read_rule : Stmt := top 48
abbrev s_law_cell : Stmt := top 50
abbrev s_law_number : Stmt := top 51
abbrev s_law_key : Stmt := top 52
abbrev s_law_asked : Stmt := top 53
abbrev s_law_once : Stmt := top 56
abbrev s_law_lookup : Stmt := top 54
abbrev s_law_mend : Stmt := top 55
abbrev s_law : Stmt := top 57
abbrev s_read_lookup_lam : Expr := (xArg 4 (xRet (bodyAt s_read_lookup 2)))
abbrev s_read_mend_lam : Expr := (xArg 1 (xRet (bodyAt s_read_mend 2)))
abbrev s_law_lookup__law_look : Stmt := (bodyAt s_law_lookup 3)
abbrev s_law_lookup_lam : Expr := (xArg 1 (xAsg (bodyAt s_law_lookup 4)))
abbrev s_law_mend_lam : Expr := (xArg 0 (xAsg (bodyAt s_law_mend 4)))
abbrev s_law_mend_lam2 : Expr := (xArg 1 (xAsg (bodyAt s_law_mend 4)))
theorem sc_is_whole : FnScope ["thing"] ["thing"] (defScope s_is_whole) := ⟨rfl, rfl, rfl, by decide +kernel, rfl, by decide +kernel, by decide +kernel⟩
theorem sc_is_name : FnScope ["thing", "sign"] ["thing"] (defScope s_is_name) := ⟨rfl, rfl, rfl, by decide +kernel, rfl, by decide +kernel, by decide +kernel⟩
theorem sc_is_fault : FnScope ["thing"] ["thing"] (defScope s_is_fault) := ⟨rfl, rfl, rfl, by decide +kernel, rfl, by decide +kernel, by decide +kernel⟩
theorem sc_is_number : FnScope ["thing"] ["thing"] (defScope s_is_number) := ⟨rfl, rfl, rfl, by decide +kernel, rfl, by decide +kernel, by decide +kernel⟩
theorem sc_is_value : FnScope ["thing"] ["thing"] (defScope s_is_value) := ⟨rfl, rfl, rfl, by decide +kernel, rfl, by decide +kernel, by decide +kernel⟩
theorem sc_fault : FnScope ["word"] ["word"] (defScope s_fault) := ⟨rfl, rfl, rfl, by decide +kernel, rfl, by decide +kernel, by decide +kernel⟩
theorem sc_settled : FnScope ["thing"] ["thing"] (defScope s_settled) := ⟨rfl, rfl, rfl, by decide +kernel, rfl, by decide +kernel, by decide +kernel⟩
theorem sc_name_told : FnScope ["name"] ["name"] (defScope s_name_told) := ⟨rfl, rfl, rfl, by decide +kernel, rfl, by decide +kernel, by decide +kernel⟩
theorem sc_names_told : FnScope ["names", "name"] ["names"] (defScope s_names_told) := ⟨rfl, rfl, rfl, by decide +kernel, rfl, by decide +kernel, by decide +kernel⟩
theorem sc_each_once : FnScope ["spots", "found", "spot"] ["spots"] (defScope s_each_once) := ⟨rfl, rfl, rfl, by decide +kernel, rfl, by decide +kernel, by decide +kernel⟩
theorem sc_looked : FnScope ["look", "cells", "found", "table", "column", "place", "value"] ["look", "cells"] (defScope s_looked) := ⟨rfl, rfl, rfl, by decide +kernel, rfl, by decide +kernel, by decide +kernel⟩
theorem sc_whole_of : FnScope ["word", "figures", "sign"] ["word"] (defScope s_whole_of) := ⟨rfl, rfl, rfl, by decide +kernel, rfl, by decide +kernel, by decide +kernel⟩
theorem sc_Rule_init : FnScope ["self", "function"] ["self", "function"] (defScope s_Rule_init) := ⟨rfl, rfl, rfl, by decide +kernel, rfl, by decide +kernel, by decide +kernel⟩
theorem sc_Rule_reckon : FnScope ["self", "some"] ["self", "some"] (defScope s_Rule_reckon) := ⟨rfl, rfl, rfl, by decide +kernel, rfl, by decide +kernel, by decide +kernel⟩
theorem sc_Lookup_init : FnScope ["self", "key", "other", "theirs", "names", "function"] ["self", "key", "other", "theirs", "names", "function"] (defScope s_Lookup_init) := ⟨rfl, rfl, rfl, by decide +kernel, rfl, by decide +kernel, by decide +kernel⟩
theorem sc_Lookup_leans : FnScope ["self", "table", "behind", "name"] ["self", "table"] (defScope s_Lookup_leans) := ⟨rfl, rfl, rfl, by decide +kernel, rfl, by decide +kernel, by decide +kernel⟩
theorem sc_Lookup_gather : FnScope ["self", "look", "many", "table", "column", "place", "mine", "at", "name"] ["self", "look", "many", "table", "column", "place"] (defScope s_Lookup_gather) := ⟨rfl, rfl, rfl, by decide +kernel, rfl, by decide +kernel, by decide +kernel⟩
theorem sc_Mend_init : FnScope ["self", "name", "function"] ["self", "name", "function"] (defScope s_Mend_init) := ⟨rfl, rfl, rfl, by decide +kernel, rfl, by decide +kernel, by decide +kernel⟩
theorem sc_Mend_leans : FnScope ["self", "table"] ["self", "table"] (defScope s_Mend_leans) := ⟨rfl, rfl, rfl, by decide +kernel, rfl, by decide +kernel, by decide +kernel⟩
theorem sc_Mend_gather : FnScope ["self", "look", "many", "table", "column", "place", "value"] ["self", "look", "many", "table", "column", "place"] (defScope s_Mend_gather) := ⟨rfl, rfl, rfl, by decide +kernel, rfl, by decide +kernel, by decide +kernel⟩
theorem sc_read_lookup : FnScope ["words", "key", "table", "theirs", "name", "word"] ["words"] (defScope s_read_lookup) := ⟨rfl, rfl, rfl, by decide +kernel, rfl, by decide +kernel, by decide +kernel⟩
theorem sc_read_mend : FnScope ["words", "number"] ["words"] (defScope s_read_mend) := ⟨rfl, rfl, rfl, by decide +kernel, rfl, by decide +kernel, by decide +kernel⟩
theorem sc_read_rule : FnScope ["text", "words", "head"] ["text"] (defScope s_read_rule) := ⟨rfl, rfl, rfl, by decide +kernel, rfl, by decide +kernel, by decide +kernel⟩
theorem sc_law_cell : FnScope ["script", "k", "seed"] ["script", "k"] (defScope s_law_cell) := ⟨rfl, rfl, rfl, by decide +kernel, rfl, by decide +kernel, by decide +kernel⟩
theorem sc_law_number : FnScope ["cell", "far"] ["cell"] (defScope s_law_number) := ⟨rfl, rfl, rfl, by decide +kernel, rfl, by decide +kernel, by decide +kernel⟩
theorem sc_law_key : FnScope ["cell"] ["cell"] (defScope s_law_key) := ⟨rfl, rfl, rfl, by decide +kernel, rfl, by decide +kernel, by decide +kernel⟩
theorem sc_law_asked : FnScope ["key", "keys", "place", "asked", "at"] ["key", "keys", "place"] (defScope s_law_asked) := ⟨rfl, rfl, rfl, by decide +kernel, rfl, by decide +kernel, by decide +kernel⟩
theorem sc_law_once : FnScope ["spots", "found", "spot"] ["spots"] (defScope s_law_once) := ⟨rfl, rfl, rfl, by decide +kernel, rfl, by decide +kernel, by decide +kernel⟩
theorem sc_law_lookup : FnScope ["script", "key", "keys", "numbers", "place", "rule", "gone", "_law_look", "told", "asked", "due", "at"] ["script", "key", "keys", "numbers"] (defScope s_law_lookup) := ⟨rfl, rfl, rfl, by decide +kernel, rfl, by decide +kernel, by decide +kernel⟩
theorem sc_law_mend : FnScope ["script", "number", "name", "value", "due", "rule", "told"] ["script", "number"] (defScope s_law_mend) := ⟨rfl, rfl, rfl, by decide +kernel, rfl, by decide +kernel, by decide +kernel⟩
theorem sc_law : FnScope ["script", "many", "keys", "numbers", "key", "k"] ["script"] (defScope s_law) := ⟨rfl, rfl, rfl, by decide +kernel, rfl, by decide +kernel, by decide +kernel⟩
theorem sc_read_lookup_lam : NScope ["some"] ["some"] [] (lamScope s_read_lookup_lam) := nscope_by (by decide +kernel)
theorem sc_read_mend_lam : NScope ["some", "number"] ["some"] ["number"] (lamScope s_read_mend_lam) := nscope_by (by decide +kernel)
theorem sc_law_lookup__law_look : NScope ["table", "column", "at", "gone", "key", "keys", "numbers"] ["table", "column", "at"] ["gone", "key", "keys", "numbers"] (defScope s_law_lookup__law_look) := nscope_by (by decide +kernel)
theorem sc_law_lookup_lam : NScope ["table", "keys"] ["table"] ["keys"] (lamScope s_law_lookup_lam) := nscope_by (by decide +kernel)
theorem sc_law_mend_lam : NScope ["table", "column", "at", "value"] ["table", "column", "at"] ["value"] (lamScope s_law_mend_lam) := nscope_by (by decide +kernel)
theorem sc_law_mend_lam2 : NScope ["table"] ["table"] [] (lamScope s_law_mend_lam2) := nscope_by (by decide +kernel)
def rdB (K : PySem.W.Frag) (C : Str) : Bool := PySem.W.readsIn K (He.ga K C) (.type "type") && He.eqO (PySem.W.specialIn K (.ref (He.ga K C)) "__getattribute__") (some (some (.builtin "type.__getattribute__")))
theorem rdB_ok {K : PySem.W.Frag} {C : Str} (h : rdB K C = true) : ClX.CRead K (He.ga K C) (.type "type") := ⟨(He.ba h).1, He.eqO_ok (He.ba h).2⟩
def atB (K : PySem.W.Frag) (C m : Str) : Bool := match PySem.W.findCls K (.ref (He.ga K C)) (.type "type") m with
  | some (.val v) => decide (v = .ref (He.fAd K (C, some m)))
  | _ => false
theorem atB_ok {K : PySem.W.Frag} {C m : Str} (h : atB K C m = true) : PySem.W.findCls K (.ref (He.ga K C)) (.type "type") m = some (.val (.ref (He.fAd K (C, some m)))) := by
  unfold atB at h
  split at h
  · rename_i v e
    rw [e, of_decide_eq_true h]
  · cases h
def isiB (K : PySem.W.Frag) (C : Str) : Bool := He.eqO (PySem.W.findIn K (.ref (He.ga K C)) "__class__") (some (some (.builtin "object.__class__"))) && (He.eqO (PySem.W.specialIn K (.builtin "object.__class__") "__get__") (some (some (.builtin "getset_descriptor.__get__"))) &&
  (decide (PySem.W.takesIn K (.builtin "object.__class__") = some true) && decide (PySem.W.mroIn K (He.ga K C) (.type "object") = some true)))
theorem isiB_ok {K : PySem.W.Frag} {C : Str} (h : isiB K C = true) (c : Cls K (He.ga K C)) : ClsI K C := ⟨c, He.eqO_ok (He.ba h).1, He.eqO_ok (He.ba (He.ba h).2).1, of_decide_eq_true (He.ba (He.ba (He.ba h).2).2).1, of_decide_eq_true (He.ba (He.ba (He.ba h).2).2).2⟩
def sameB (K : PySem.W.Frag) (C m D : Str) : Bool := decide (He.ma K (He.ga K C) m = He.fAd K (D, some m))
theorem sameB_ok {K : PySem.W.Frag} {C m D : Str} (h : sameB K C m D = true) (M : Meth K (He.ga K C) m (He.ma K (He.ga K C) m)) : Meth K (He.ga K C) m (He.fAd K (D, some m)) := by
  rw [← of_decide_eq_true h]
  exact M
theorem im_const {K : PySem.W.Frag} {a : Addr} {ss : List Str} (h : ∀ H, SqT K H a (ss.map V.str)) (F : FS) (H : Hp) : Im K F H (.ref a) (.tuple (ss.map PyData.str)) := by
  rcases h (fun _ => none) with (z | ⟨o, z⟩) | z
  · cases z
  · cases z
  · exact .tup (.inr z) (ImAll.strs ss)
theorem tab_un {T : List NTab} (nd : (T.map (·.1)).Nodup) {a : Addr} {nm : Nat → Nat → Str} (h : (a, nm) ∈ T) : ∀ p ∈ T, p.1 = a → p.2 = nm := by
  induction T with
  | nil => exact nomatch h
  | cons x r ih =>
    rw [List.map_cons, List.nodup_cons] at nd
    intro p hp e
    rcases List.mem_cons.mp h with h1 | h1 <;> rcases List.mem_cons.mp hp with h2 | h2
    · rw [h2, ← h1]
    · exact absurd (List.mem_map.mpr ⟨p, h2, by rw [e, ← h1]⟩) nd.1
    · exact absurd (List.mem_map.mpr ⟨(a, nm), h1, by rw [← h2, e]⟩) nd.1
    · exact ih nd.2 h1 p h2 e
theorem cells_has {n : Nat} {names : List (Str × NameKind)} {y : Str} (h : names.lookup y = some .cell) : ∃ c, (cellsFrom n names []).lookup y = some c := Option.isSome_iff_exists.mp (PySem.W.cellsFrom_some _ _ _ (.inl h))
theorem cells_all {n : Nat} {names : List (Str × NameKind)} {ys : List Str} (h : ∀ y ∈ ys, names.lookup y = some .cell) : ∀ y ∈ ys, ∃ c, (cellsFrom n names []).lookup y = some c := fun y hy => cells_has (h y hy)
/-! the Hook: what the names reach, and the table of the interpreter's own statics -/
def asC (g : Addr → Option Obj) (n : Nat) : List Addr := He.asD g n ++ [cStatics]
def frC (g : Addr → Option Obj) (n : Nat) : PySem.W.Frag := He.frT g (asC g n)
def obsC (n : Nat) (fa : List He.Fa) (fn : List He.DefD) (ts : List He.Tab) (tf : List He.Defn) (ex : PySem.W.Frag → Bool) (g : Addr → Option Obj) : He.AlX := (He.obsT fa fn ts (frC g n), ex (frC g n) && He.tabsB g tf (frC g n))
theorem saysC_of {n : Nat} {fa : List He.Fa} {fn : List He.DefD} {ts : List He.Tab} {tf : List He.Defn} {ex : PySem.W.Frag → Bool} {w : World} {h : Heap} (e : obsC n fa fn ts tf ex h.get? = He.valX fn ts w) : He.SaysX fa fn ts tf ex w h (frC h.get? n) := by
  have e1 : He.obsT fa fn ts (frC h.get? n) = He.valT fn ts w := congrArg (fun z : He.AlX => z.1) e
  have e2 : (ex (frC h.get? n) && He.tabsB h.get? tf (frC h.get? n)) = true := congrArg (fun z : He.AlX => z.2) e
  obtain ⟨h1, h2⟩ := He.ba e2
  have key : ∀ p ∈ tf, PySem.W.codeHdIn (frC h.get? n) (He.cT (frC h.get? n) p).1 (He.cT (frC h.get? n) p).2 = true ∧ ∃ o, h.get? (He.cT (frC h.get? n) p).2 = some o ∧ He.emptyTab o = true := fun p hp => by
    obtain ⟨h3, h4⟩ := He.ba (List.all_eq_true.mp h2 p hp)
    refine ⟨h3, ?_⟩
    cases q : h.get? (He.cT (frC h.get? n) p).2 with
    | none =>
      rw [q] at h4
      cases h4
    | some o =>
      rw [q] at h4
      exact ⟨o, rfl, h4⟩
  exact ⟨e1, h1, fun p hp => (key p hp).1, fun p hp => by
    obtain ⟨_, o, q, z⟩ := key p hp
    exact He.frT_none q z, fun p hp => by
    obtain ⟨_, o, q, z⟩ := key p hp
    rw [q, He.emptyTab_eq z]⟩
def hookC (n : Nat) (fa : List He.Fa) (fn : List He.DefD) (ts : List He.Tab) (tf : List He.Defn) (ex : PySem.W.Frag → Bool) : PySem.W.Hook where
  α := He.AlX
  obs := fun s => obsC n fa fn ts tf ex s.heap.get?
  val := fun w => He.valX fn ts w
  says := fun w h => ∃ K : PySem.W.Frag, K.In h ∧ He.SaysX fa fn ts tf ex w h K
  of := fun _ _ e => ⟨_, He.frT_in, saysC_of e⟩
  keeps := fun _ _ _ ⟨K, hK, c⟩ k => ⟨K, PySem.W.Frag.In.keeps hK k, ⟨c.t, c.more, c.hd, c.out, fun p hp => k _ _ (c.empty p hp)⟩⟩
theorem obsC_eq {n : Nat} {fa : List He.Fa} {fn : List He.DefD} {ts : List He.Tab} {tf : List He.Defn} {ex : PySem.W.Frag → Bool} {g : Addr → Option Obj} {s : Shared} (h : ∀ a, g a = s.heap.get? a) : obsC n fa fn ts tf ex g = (hookC n fa fn ts tf ex).obs s := by
  have e : g = s.heap.get? := funext h
  rw [e] <;> rfl
def stLine (s : Stmt) : Nat := match s with
  | .FunctionDef _ _ _ _ _ _ _ _ _ p => p.line
  | _ => 0
theorem tabs_empty {T : List NTab} {H : Hp} (h : ∀ p ∈ T, H p.1 = some (.tbl #[])) : TabsN T H := fun p hp => ⟨#[], h p hp, trivial, fun _ _ e => nomatch e⟩
theorem kdct {K : PySem.W.Frag} {w : World} {a : Addr} {kvs : List (Str × He.Dv)} {k : Str} {v : He.Dv} (h : ∃ es n, KDict K w a es n) (hv : He.valsB K a kvs = true) (hm : (k, v) ∈ kvs) : KDct K w a k (v.v K) := by
  obtain ⟨es, n, D⟩ := h
  obtain ⟨u, e, r⟩ := He.valsB_ok hv hm
  exact ⟨es, n, u, D.at_, D.lit, e, r⟩

def mkF (i : Nat) (cl : List (Str × Addr)) (c : Addr) : CF := match i with
  | 10 => ⟨"<lambda>", "read_lookup.<locals>.<lambda>", lamArgs s_read_lookup_lam, .expr (lamBody s_read_lookup_lam), lamScope s_read_lookup_lam, cloFrom cl (lamScope s_read_lookup_lam).names [], c⟩
  | 11 => ⟨"<lambda>", "read_mend.<locals>.<lambda>", lamArgs s_read_mend_lam, .expr (lamBody s_read_mend_lam), lamScope s_read_mend_lam, cloFrom cl (lamScope s_read_mend_lam).names [], c⟩
  | 1 => ⟨"_law_look", "_law_lookup.<locals>._law_look", defArgs s_law_lookup__law_look, .stmts (defBody s_law_lookup__law_look), defScope s_law_lookup__law_look, cloFrom cl (defScope s_law_lookup__law_look).names [], c⟩
  | 2 => ⟨"<lambda>", "_law_lookup.<locals>.<lambda>", lamArgs s_law_lookup_lam, .expr (lamBody s_law_lookup_lam), lamScope s_law_lookup_lam, cloFrom cl (lamScope s_law_lookup_lam).names [], c⟩
  | 3 => ⟨"<lambda>", "_law_mend.<locals>.<lambda>", lamArgs s_law_mend_lam, .expr (lamBody s_law_mend_lam), lamScope s_law_mend_lam, cloFrom cl (lamScope s_law_mend_lam).names [], c⟩
  | 4 => ⟨"<lambda>", "_law_mend.<locals>.<lambda>", lamArgs s_law_mend_lam2, .expr (lamBody s_law_mend_lam2), lamScope s_law_mend_lam2, cloFrom cl (lamScope s_law_mend_lam2).names [], c⟩
  | _ => ⟨"", "", ⟨[], [], none, [], [], none, []⟩, .stmts [], ⟨.function, [], false, false, []⟩, cl, c⟩
def nm_read_lookup (l _ : Nat) : Str := "read_lookup.<locals>.<lambda>"
def nm_read_mend (l _ : Nat) : Str := "read_mend.<locals>.<lambda>"
def nm_law_lookup (l _ : Nat) : Str := if l = stLine s_law_lookup__law_look then "_law_lookup.<locals>._law_look" else "_law_lookup.<locals>.<lambda>"
def nm_law_mend (l _ : Nat) : Str := "_law_mend.<locals>.<lambda>"
def tabs (K : PySem.W.Frag) : List NTab := [(He.tabOf K (He.codeOf K ("read_lookup", none)), nm_read_lookup), (He.tabOf K (He.codeOf K ("read_mend", none)), nm_read_mend), (He.tabOf K (He.codeOf K ("_law_lookup", none)), nm_law_lookup), (He.tabOf K (He.codeOf K ("_law_mend", none)), nm_law_mend)]
abbrev rt (P : Program) (w : World) (K : PySem.W.Frag) (mg : Str → Option Value) (base : Heap) : Rt := ⟨K, w, Clo P w K mg base, tabs K, mkF⟩
structure Tx (P : Program) (w : World) (K : PySem.W.Frag) (mg : Str → Option Value) (base : Heap) : Prop where
  g_FIGURES : ∃ t, mg "FIGURES" = some (.str "0123456789" t)
  g_HEADS : mg "HEADS" = some (.ref (He.ga K "HEADS"))
  g_LETTERS : ∃ t, mg "LETTERS" = some (.str "abcdefghijklmnopqrstuvwxyz" t)
  g_Lookup : mg "Lookup" = some (.ref (He.ga K "Lookup"))
  g_MOST_NAMES : ∃ t, mg "MOST_NAMES" = some (.int 6 t)
  g_Mend : mg "Mend" = some (.ref (He.ga K "Mend"))
  g_Rule : mg "Rule" = some (.ref (He.ga K "Rule"))
  g__law_asked : mg "_law_asked" = some (.ref (He.ga K "_law_asked"))
  g__law_cell : mg "_law_cell" = some (.ref (He.ga K "_law_cell"))
  g__law_key : mg "_law_key" = some (.ref (He.ga K "_law_key"))
  g__law_lookup : mg "_law_lookup" = some (.ref (He.ga K "_law_lookup"))
  g__law_mend : mg "_law_mend" = some (.ref (He.ga K "_law_mend"))
  g__law_number : mg "_law_number" = some (.ref (He.ga K "_law_number"))
  g__law_once : mg "_law_once" = some (.ref (He.ga K "_law_once"))
  g_each_once : mg "each_once" = some (.ref (He.ga K "each_once"))
  g_fault : mg "fault" = some (.ref (He.ga K "fault"))
  g_is_fault : mg "is_fault" = some (.ref (He.ga K "is_fault"))
  g_is_name : mg "is_name" = some (.ref (He.ga K "is_name"))
  g_is_number : mg "is_number" = some (.ref (He.ga K "is_number"))
  g_is_value : mg "is_value" = some (.ref (He.ga K "is_value"))
  g_is_whole : mg "is_whole" = some (.ref (He.ga K "is_whole"))
  g_law : mg "law" = some (.ref (He.ga K "law"))
  g_looked : mg "looked" = some (.ref (He.ga K "looked"))
  g_name_told : mg "name_told" = some (.ref (He.ga K "name_told"))
  g_names_told : mg "names_told" = some (.ref (He.ga K "names_told"))
  g_read_lookup : mg "read_lookup" = some (.ref (He.ga K "read_lookup"))
  g_read_mend : mg "read_mend" = some (.ref (He.ga K "read_mend"))
  g_read_rule : mg "read_rule" = some (.ref (He.ga K "read_rule"))
  g_settled : mg "settled" = some (.ref (He.ga K "settled"))
  g_whole_of : mg "whole_of" = some (.ref (He.ga K "whole_of"))
  n_abs : mg "abs" = none
  n_all : mg "all" = none
  n_bool : mg "bool" = none
  n_int : mg "int" = none
  n_isinstance : mg "isinstance" = none
  n_len : mg "len" = none
  n_list : mg "list" = none
  n_range : mg "range" = none
  n_str : mg "str" = none
  n_tuple : mg "tuple" = none
  c_Lookup : Cls K (He.ga K "Lookup")
  c_Mend : Cls K (He.ga K "Mend")
  na_Lookup_function : NoAttr K (He.ga K "Lookup") "function"
  na_Lookup_key : NoAttr K (He.ga K "Lookup") "key"
  na_Lookup_other : NoAttr K (He.ga K "Lookup") "other"
  na_Lookup_theirs : NoAttr K (He.ga K "Lookup") "theirs"
  na_Lookup_names : NoAttr K (He.ga K "Lookup") "names"
  na_Mend_function : NoAttr K (He.ga K "Mend") "function"
  na_Mend_name : NoAttr K (He.ga K "Mend") "name"
  m_Lookup : Mk K (He.ga K "Lookup") (He.ma K (He.ga K "Lookup") "__init__")
  m_Mend : Mk K (He.ga K "Mend") (He.ma K (He.ga K "Mend") "__init__")
  mt_Lookup_gather : Meth K (He.ga K "Lookup") "gather" (He.ma K (He.ga K "Lookup") "gather")
  mt_Lookup_leans : Meth K (He.ga K "Lookup") "leans" (He.ma K (He.ga K "Lookup") "leans")
  mu_Lookup_reckon : Meth K (He.ga K "Lookup") "reckon" (He.ma K (He.ga K "Lookup") "reckon")
  mt_Lookup_reckon : Meth K (He.ga K "Lookup") "reckon" (He.fAd K ("Rule", some "reckon"))
  mt_Mend_gather : Meth K (He.ga K "Mend") "gather" (He.ma K (He.ga K "Mend") "gather")
  mt_Mend_leans : Meth K (He.ga K "Mend") "leans" (He.ma K (He.ga K "Mend") "leans")
  mu_Mend_reckon : Meth K (He.ga K "Mend") "reckon" (He.ma K (He.ga K "Mend") "reckon")
  mt_Mend_reckon : Meth K (He.ga K "Mend") "reckon" (He.fAd K ("Rule", some "reckon"))
  rd_Rule : ClX.CRead K (He.ga K "Rule") (.type "type")
  at_Rule_init : PySem.W.findCls K (.ref (He.ga K "Rule")) (.type "type") "__init__" = some (.val (.ref (He.fAd K ("Rule", some "__init__"))))
  i_Lookup : ClsI K "Lookup"
  i_Mend : ClsI K "Mend"
  hv_HEADS : He.valsB K (He.ga K "HEADS") [("cells", .int 2), ("above", .int 3), ("group", .int 4), ("lookup", .int 5), ("mend", .int 3)] = true
  hd_HEADS : ∃ es n, KDict K w (He.ga K "HEADS") es n
  tdis : ((tabs K).map (·.1)).Nodup
  f_is_whole : FunD K "is_whole" "is_whole" (defArgs s_is_whole) (defBody s_is_whole) (defScope s_is_whole) [] [] (He.fAd K ("is_whole", none)) (fdOf K (He.fAd K ("is_whole", none)))
  f_is_name : FunD K "is_name" "is_name" (defArgs s_is_name) (defBody s_is_name) (defScope s_is_name) [] [] (He.fAd K ("is_name", none)) (fdOf K (He.fAd K ("is_name", none)))
  f_is_fault : FunD K "is_fault" "is_fault" (defArgs s_is_fault) (defBody s_is_fault) (defScope s_is_fault) [] [] (He.fAd K ("is_fault", none)) (fdOf K (He.fAd K ("is_fault", none)))
  f_is_number : FunD K "is_number" "is_number" (defArgs s_is_number) (defBody s_is_number) (defScope s_is_number) [] [] (He.fAd K ("is_number", none)) (fdOf K (He.fAd K ("is_number", none)))
  f_is_value : FunD K "is_value" "is_value" (defArgs s_is_value) (defBody s_is_value) (defScope s_is_value) [] [] (He.fAd K ("is_value", none)) (fdOf K (He.fAd K ("is_value", none)))
  f_fault : FunD K "fault" "fault" (defArgs s_fault) (defBody s_fault) (defScope s_fault) [] [] (He.fAd K ("fault", none)) (fdOf K (He.fAd K ("fault", none)))
  f_settled : FunD K "settled" "settled" (defArgs s_settled) (defBody s_settled) (defScope s_settled) [] [] (He.fAd K ("settled", none)) (fdOf K (He.fAd K ("settled", none)))
  f_name_told : FunD K "name_told" "name_told" (defArgs s_name_told) (defBody s_name_told) (defScope s_name_told) [] [] (He.fAd K ("name_told", none)) (fdOf K (He.fAd K ("name_told", none)))
  f_names_told : FunD K "names_told" "names_told" (defArgs s_names_told) (defBody s_names_told) (defScope s_names_told) [] [] (He.fAd K ("names_told", none)) (fdOf K (He.fAd K ("names_told", none)))
  f_each_once : FunD K "each_once" "each_once" (defArgs s_each_once) (defBody s_each_once) (defScope s_each_once) [] [] (He.fAd K ("each_once", none)) (fdOf K (He.fAd K ("each_once", none)))
  f_looked : FunD K "looked" "looked" (defArgs s_looked) (defBody s_looked) (defScope s_looked) [] [] (He.fAd K ("looked", none)) (fdOf K (He.fAd K ("looked", none)))
  f_whole_of : FunD K "whole_of" "whole_of" (defArgs s_whole_of) (defBody s_whole_of) (defScope s_whole_of) [] [] (He.fAd K ("whole_of", none)) (fdOf K (He.fAd K ("whole_of", none)))
  f_Rule_init : FunD K "__init__" "Rule.__init__" (defArgs s_Rule_init) (defBody s_Rule_init) (defScope s_Rule_init) [] [] (He.fAd K ("Rule", some "__init__")) (fdOf K (He.fAd K ("Rule", some "__init__")))
  f_Rule_reckon : FunD K "reckon" "Rule.reckon" (defArgs s_Rule_reckon) (defBody s_Rule_reckon) (defScope s_Rule_reckon) [] [] (He.fAd K ("Rule", some "reckon")) (fdOf K (He.fAd K ("Rule", some "reckon")))
  f_Lookup_init : FunD K "__init__" "Lookup.__init__" (defArgs s_Lookup_init) (defBody s_Lookup_init) (defScope s_Lookup_init) [] [] (He.fAd K ("Lookup", some "__init__")) (fdOf K (He.fAd K ("Lookup", some "__init__")))
  f_Lookup_leans : FunD K "leans" "Lookup.leans" (defArgs s_Lookup_leans) (defBody s_Lookup_leans) (defScope s_Lookup_leans) [] [] (He.fAd K ("Lookup", some "leans")) (fdOf K (He.fAd K ("Lookup", some "leans")))
  f_Lookup_gather : FunD K "gather" "Lookup.gather" (defArgs s_Lookup_gather) (defBody s_Lookup_gather) (defScope s_Lookup_gather) [] [] (He.fAd K ("Lookup", some "gather")) (fdOf K (He.fAd K ("Lookup", some "gather")))
  f_Mend_init : FunD K "__init__" "Mend.__init__" (defArgs s_Mend_init) (defBody s_Mend_init) (defScope s_Mend_init) [] [] (He.fAd K ("Mend", some "__init__")) (fdOf K (He.fAd K ("Mend", some "__init__")))
  f_Mend_leans : FunD K "leans" "Mend.leans" (defArgs s_Mend_leans) (defBody s_Mend_leans) (defScope s_Mend_leans) [] [] (He.fAd K ("Mend", some "leans")) (fdOf K (He.fAd K ("Mend", some "leans")))
  f_Mend_gather : FunD K "gather" "Mend.gather" (defArgs s_Mend_gather) (defBody s_Mend_gather) (defScope s_Mend_gather) [] [] (He.fAd K ("Mend", some "gather")) (fdOf K (He.fAd K ("Mend", some "gather")))
  f_read_lookup : FunD K "read_lookup" "read_lookup" (defArgs s_read_lookup) (defBody s_read_lookup) (defScope s_read_lookup) [] [] (He.fAd K ("read_lookup", none)) (fdOf K (He.fAd K ("read_lookup", none)))
  f_read_mend : FunD K "read_mend" "read_mend" (defArgs s_read_mend) (defBody s_read_mend) (defScope s_read_mend) [] [] (He.fAd K ("read_mend", none)) (fdOf K (He.fAd K ("read_mend", none)))
  f_read_rule : FunD K "read_rule" "read_rule" (defArgs s_read_rule) (defBody s_read_rule) (defScope s_read_rule) [] [] (He.fAd K ("read_rule", none)) (fdOf K (He.fAd K ("read_rule", none)))
  f_law_cell : FunD K "_law_cell" "_law_cell" (defArgs s_law_cell) (defBody s_law_cell) (defScope s_law_cell) [] [] (He.fAd K ("_law_cell", none)) (fdOf K (He.fAd K ("_law_cell", none)))
  f_law_number : FunD K "_law_number" "_law_number" (defArgs s_law_number) (defBody s_law_number) (defScope s_law_number) [] [] (He.fAd K ("_law_number", none)) (fdOf K (He.fAd K ("_law_number", none)))
  f_law_key : FunD K "_law_key" "_law_key" (defArgs s_law_key) (defBody s_law_key) (defScope s_law_key) [] [] (He.fAd K ("_law_key", none)) (fdOf K (He.fAd K ("_law_key", none)))
  f_law_asked : FunD K "_law_asked" "_law_asked" (defArgs s_law_asked) (defBody s_law_asked) (defScope s_law_asked) [] [] (He.fAd K ("_law_asked", none)) (fdOf K (He.fAd K ("_law_asked", none)))
  f_law_once : FunD K "_law_once" "_law_once" (defArgs s_law_once) (defBody s_law_once) (defScope s_law_once) [] [] (He.fAd K ("_law_once", none)) (fdOf K (He.fAd K ("_law_once", none)))
  f_law_lookup : FunD K "_law_lookup" "_law_lookup" (defArgs s_law_lookup) (defBody s_law_lookup) (defScope s_law_lookup) [] [] (He.fAd K ("_law_lookup", none)) (fdOf K (He.fAd K ("_law_lookup", none)))
  f_law_mend : FunD K "_law_mend" "_law_mend" (defArgs s_law_mend) (defBody s_law_mend) (defScope s_law_mend) [] [] (He.fAd K ("_law_mend", none)) (fdOf K (He.fAd K ("_law_mend", none)))
  f_law : FunD K "law" "law" (defArgs s_law) (defBody s_law) (defScope s_law) [] [] (He.fAd K ("law", none)) (fdOf K (He.fAd K ("law", none)))
  tb_read_lookup : TabB base mg (He.codeOf K ("read_lookup", none)) (He.tabOf K (He.codeOf K ("read_lookup", none)))
  tb_read_mend : TabB base mg (He.codeOf K ("read_mend", none)) (He.tabOf K (He.codeOf K ("read_mend", none)))
  tb_law_lookup : TabB base mg (He.codeOf K ("_law_lookup", none)) (He.tabOf K (He.codeOf K ("_law_lookup", none)))
  tb_law_mend : TabB base mg (He.codeOf K ("_law_mend", none)) (He.tabOf K (He.codeOf K ("_law_mend", none)))
def fn_is_whole : He.DefD := ⟨("is_whole", none), "is_whole", "is_whole", defArgs s_is_whole, defBody s_is_whole, defScope s_is_whole, [], []⟩
def fn_is_name : He.DefD := ⟨("is_name", none), "is_name", "is_name", defArgs s_is_name, defBody s_is_name, defScope s_is_name, [], []⟩
def fn_is_fault : He.DefD := ⟨("is_fault", none), "is_fault", "is_fault", defArgs s_is_fault, defBody s_is_fault, defScope s_is_fault, [], []⟩
def fn_is_number : He.DefD := ⟨("is_number", none), "is_number", "is_number", defArgs s_is_number, defBody s_is_number, defScope s_is_number, [], []⟩
def fn_is_value : He.DefD := ⟨("is_value", none), "is_value", "is_value", defArgs s_is_value, defBody s_is_value, defScope s_is_value, [], []⟩
def fn_fault : He.DefD := ⟨("fault", none), "fault", "fault", defArgs s_fault, defBody s_fault, defScope s_fault, [], []⟩
def fn_settled : He.DefD := ⟨("settled", none), "settled", "settled", defArgs s_settled, defBody s_settled, defScope s_settled, [], []⟩
def fn_name_told : He.DefD := ⟨("name_told", none), "name_told", "name_told", defArgs s_name_told, defBody s_name_told, defScope s_name_told, [], []⟩
def fn_names_told : He.DefD := ⟨("names_told", none), "names_told", "names_told", defArgs s_names_told, defBody s_names_told, defScope s_names_told, [], []⟩
def fn_each_once : He.DefD := ⟨("each_once", none), "each_once", "each_once", defArgs s_each_once, defBody s_each_once, defScope s_each_once, [], []⟩
def fn_looked : He.DefD := ⟨("looked", none), "looked", "looked", defArgs s_looked, defBody s_looked, defScope s_looked, [], []⟩
def fn_whole_of : He.DefD := ⟨("whole_of", none), "whole_of", "whole_of", defArgs s_whole_of, defBody s_whole_of, defScope s_whole_of, [], []⟩
def fn_Rule_init : He.DefD := ⟨("Rule", some "__init__"), "__init__", "Rule.__init__", defArgs s_Rule_init, defBody s_Rule_init, defScope s_Rule_init, [], []⟩
def fn_Rule_reckon : He.DefD := ⟨("Rule", some "reckon"), "reckon", "Rule.reckon", defArgs s_Rule_reckon, defBody s_Rule_reckon, defScope s_Rule_reckon, [], []⟩
def fn_Lookup_init : He.DefD := ⟨("Lookup", some "__init__"), "__init__", "Lookup.__init__", defArgs s_Lookup_init, defBody s_Lookup_init, defScope s_Lookup_init, [], []⟩
def fn_Lookup_leans : He.DefD := ⟨("Lookup", some "leans"), "leans", "Lookup.leans", defArgs s_Lookup_leans, defBody s_Lookup_leans, defScope s_Lookup_leans, [], []⟩
def fn_Lookup_gather : He.DefD := ⟨("Lookup", some "gather"), "gather", "Lookup.gather", defArgs s_Lookup_gather, defBody s_Lookup_gather, defScope s_Lookup_gather, [], []⟩
def fn_Mend_init : He.DefD := ⟨("Mend", some "__init__"), "__init__", "Mend.__init__", defArgs s_Mend_init, defBody s_Mend_init, defScope s_Mend_init, [], []⟩
def fn_Mend_leans : He.DefD := ⟨("Mend", some "leans"), "leans", "Mend.leans", defArgs s_Mend_leans, defBody s_Mend_leans, defScope s_Mend_leans, [], []⟩
def fn_Mend_gather : He.DefD := ⟨("Mend", some "gather"), "gather", "Mend.gather", defArgs s_Mend_gather, defBody s_Mend_gather, defScope s_Mend_gather, [], []⟩
def fn_read_lookup : He.DefD := ⟨("read_lookup", none), "read_lookup", "read_lookup", defArgs s_read_lookup, defBody s_read_lookup, defScope s_read_lookup, [], []⟩
def fn_read_mend : He.DefD := ⟨("read_mend", none), "read_mend", "read_mend", defArgs s_read_mend, defBody s_read_mend, defScope s_read_mend, [], []⟩
def fn_read_rule : He.DefD := ⟨("read_rule", none), "read_rule", "read_rule", defArgs s_read_rule, defBody s_read_rule, defScope s_read_rule, [], []⟩
def fn_law_cell : He.DefD := ⟨("_law_cell", none), "_law_cell", "_law_cell", defArgs s_law_cell, defBody s_law_cell, defScope s_law_cell, [], []⟩
def fn_law_number : He.DefD := ⟨("_law_number", none), "_law_number", "_law_number", defArgs s_law_number, defBody s_law_number, defScope s_law_number, [], []⟩
def fn_law_key : He.DefD := ⟨("_law_key", none), "_law_key", "_law_key", defArgs s_law_key, defBody s_law_key, defScope s_law_key, [], []⟩
def fn_law_asked : He.DefD := ⟨("_law_asked", none), "_law_asked", "_law_asked", defArgs s_law_asked, defBody s_law_asked, defScope s_law_asked, [], []⟩
def fn_law_once : He.DefD := ⟨("_law_once", none), "_law_once", "_law_once", defArgs s_law_once, defBody s_law_once, defScope s_law_once, [], []⟩
def fn_law_lookup : He.DefD := ⟨("_law_lookup", none), "_law_lookup", "_law_lookup", defArgs s_law_lookup, defBody s_law_lookup, defScope s_law_lookup, [], []⟩
def fn_law_mend : He.DefD := ⟨("_law_mend", none), "_law_mend", "_law_mend", defArgs s_law_mend, defBody s_law_mend, defScope s_law_mend, [], []⟩
def fn_law : He.DefD := ⟨("law", none), "law", "law", defArgs s_law, defBody s_law, defScope s_law, [], []⟩
def fn : List He.DefD := [fn_is_whole, fn_is_name, fn_is_fault, fn_is_number, fn_is_value, fn_fault, fn_settled, fn_name_told, fn_names_told, fn_each_once, fn_looked, fn_whole_of, fn_Rule_init, fn_Rule_reckon, fn_Lookup_init, fn_Lookup_leans, fn_Lookup_gather, fn_Mend_init, fn_Mend_leans, fn_Mend_gather, fn_read_lookup, fn_read_mend, fn_read_rule, fn_law_cell, fn_law_number, fn_law_key, fn_law_asked, fn_law_once, fn_law_lookup, fn_law_mend, fn_law]
def fa : List He.Fa := ([(.str "FIGURES" "0123456789"), (.glo "HEADS"), (.str "LETTERS" "abcdefghijklmnopqrstuvwxyz"), (.glo "Lookup"), (.int "MOST_NAMES" 6), (.glo "Mend"), (.glo "Rule"), (.glo "_law_asked"), (.glo "_law_cell"), (.glo "_law_key"), (.glo "_law_lookup"), (.glo "_law_mend"), (.glo "_law_number"), (.glo "_law_once"), (.glo "each_once"), (.glo "fault"), (.glo "is_fault"), (.glo "is_name"), (.glo "is_number"), (.glo "is_value"), (.glo "is_whole"), (.glo "law"), (.glo "looked"), (.glo "name_told"), (.glo "names_told"), (.glo "read_lookup"), (.glo "read_mend"), (.glo "read_rule"), (.glo "settled"), (.glo "whole_of")] : List He.Fa) ++ ([(.free "abs"), (.free "all"), (.free "bool"), (.free "int"), (.free "isinstance"), (.free "len"), (.free "list"), (.free "range"), (.free "str"), (.free "tuple"), (.cls "Lookup"), (.cls "Mend"), (.noat "Lookup" "function"), (.noat "Lookup" "key"), (.noat "Lookup" "other"), (.noat "Lookup" "theirs"), (.noat "Lookup" "names"), (.noat "Mend" "function"), (.noat "Mend" "name"), (.mkr "Lookup"), (.mkr "Mend"), (.meth "Lookup" "gather"), (.meth "Lookup" "leans"), (.meth "Lookup" "reckon"), (.meth "Mend" "gather"), (.meth "Mend" "leans"), (.meth "Mend" "reckon")] : List He.Fa)
def exs (K : PySem.W.Frag) : List Bool := [sameB K "Lookup" "reckon" "Rule", sameB K "Mend" "reckon" "Rule", rdB K "Rule", atB K "Rule" "__init__", isiB K "Lookup", isiB K "Mend", He.valsB K (He.ga K "HEADS") [("cells", .int 2), ("above", .int 3), ("group", .int 4), ("lookup", .int 5), ("mend", .int 3)], decide ((tabs K).map (·.1)).Nodup]
def exf (K : PySem.W.Frag) : Bool := (exs K).all id
def tf : List He.Defn := [("read_lookup", none), ("read_mend", none), ("_law_lookup", none), ("_law_mend", none)]
def ts : List He.Tab := [(fun K => He.ga K "HEADS", ["cells", "above", "group", "lookup", "mend"])]
theorem tx_of {P : Program} {w : World} {K : PySem.W.Frag} {mg : Str → Option Value} {h base : Heap} (X : K.In h) (G : h.Ns mainGlobals mg) (c0 : He.SaysX fa fn ts tf exf w h K) (tb : ∀ p ∈ tf, TabB base mg (He.cT K p).1 (He.cT K p).2) : Tx P w K mg base :=
  have c : He.SaysD fa fn K := c0.t.d
  have x : ∀ (i : Nat) {b : Bool}, (exs K)[i]? = some b → b = true := fun i b e => List.all_eq_true.mp c0.more b (List.mem_of_getElem? e)
  { g_FIGURES := He.str_ok X G (c.fact 0 (f := (.str "FIGURES" "0123456789")) rfl),
    g_HEADS := He.glo_ok X G (c.fact 1 (f := (.glo "HEADS")) rfl),
    g_LETTERS := He.str_ok X G (c.fact 2 (f := (.str "LETTERS" "abcdefghijklmnopqrstuvwxyz")) rfl),
    g_Lookup := He.glo_ok X G (c.fact 3 (f := (.glo "Lookup")) rfl),
    g_MOST_NAMES := He.int_ok X G (c.fact 4 (f := (.int "MOST_NAMES" 6)) rfl),
    g_Mend := He.glo_ok X G (c.fact 5 (f := (.glo "Mend")) rfl),
    g_Rule := He.glo_ok X G (c.fact 6 (f := (.glo "Rule")) rfl),
    g__law_asked := He.glo_ok X G (c.fact 7 (f := (.glo "_law_asked")) rfl),
    g__law_cell := He.glo_ok X G (c.fact 8 (f := (.glo "_law_cell")) rfl),
    g__law_key := He.glo_ok X G (c.fact 9 (f := (.glo "_law_key")) rfl),
    g__law_lookup := He.glo_ok X G (c.fact 10 (f := (.glo "_law_lookup")) rfl),
    g__law_mend := He.glo_ok X G (c.fact 11 (f := (.glo "_law_mend")) rfl),
    g__law_number := He.glo_ok X G (c.fact 12 (f := (.glo "_law_number")) rfl),
    g__law_once := He.glo_ok X G (c.fact 13 (f := (.glo "_law_once")) rfl),
    g_each_once := He.glo_ok X G (c.fact 14 (f := (.glo "each_once")) rfl),
    g_fault := He.glo_ok X G (c.fact 15 (f := (.glo "fault")) rfl),
    g_is_fault := He.glo_ok X G (c.fact 16 (f := (.glo "is_fault")) rfl),
    g_is_name := He.glo_ok X G (c.fact 17 (f := (.glo "is_name")) rfl),
    g_is_number := He.glo_ok X G (c.fact 18 (f := (.glo "is_number")) rfl),
    g_is_value := He.glo_ok X G (c.fact 19 (f := (.glo "is_value")) rfl),
    g_is_whole := He.glo_ok X G (c.fact 20 (f := (.glo "is_whole")) rfl),
    g_law := He.glo_ok X G (c.fact 21 (f := (.glo "law")) rfl),
    g_looked := He.glo_ok X G (c.fact 22 (f := (.glo "looked")) rfl),
    g_name_told := He.glo_ok X G (c.fact 23 (f := (.glo "name_told")) rfl),
    g_names_told := He.glo_ok X G (c.fact 24 (f := (.glo "names_told")) rfl),
    g_read_lookup := He.glo_ok X G (c.fact 25 (f := (.glo "read_lookup")) rfl),
    g_read_mend := He.glo_ok X G (c.fact 26 (f := (.glo "read_mend")) rfl),
    g_read_rule := He.glo_ok X G (c.fact 27 (f := (.glo "read_rule")) rfl),
    g_settled := He.glo_ok X G (c.fact 28 (f := (.glo "settled")) rfl),
    g_whole_of := He.glo_ok X G (c.fact 29 (f := (.glo "whole_of")) rfl),
    n_abs := He.free_ok X G (c.fact 30 (f := (.free "abs")) rfl),
    n_all := He.free_ok X G (c.fact 31 (f := (.free "all")) rfl),
    n_bool := He.free_ok X G (c.fact 32 (f := (.free "bool")) rfl),
    n_int := He.free_ok X G (c.fact 33 (f := (.free "int")) rfl),
    n_isinstance := He.free_ok X G (c.fact 34 (f := (.free "isinstance")) rfl),
    n_len := He.free_ok X G (c.fact 35 (f := (.free "len")) rfl),
    n_list := He.free_ok X G (c.fact 36 (f := (.free "list")) rfl),
    n_range := He.free_ok X G (c.fact 37 (f := (.free "range")) rfl),
    n_str := He.free_ok X G (c.fact 38 (f := (.free "str")) rfl),
    n_tuple := He.free_ok X G (c.fact 39 (f := (.free "tuple")) rfl),
    c_Lookup := He.cls_ok (c.fact 40 (f := (.cls "Lookup")) rfl),
    c_Mend := He.cls_ok (c.fact 41 (f := (.cls "Mend")) rfl),
    na_Lookup_function := He.noat_ok (c.fact 42 (f := (.noat "Lookup" "function")) rfl),
    na_Lookup_key := He.noat_ok (c.fact 43 (f := (.noat "Lookup" "key")) rfl),
    na_Lookup_other := He.noat_ok (c.fact 44 (f := (.noat "Lookup" "other")) rfl),
    na_Lookup_theirs := He.noat_ok (c.fact 45 (f := (.noat "Lookup" "theirs")) rfl),
    na_Lookup_names := He.noat_ok (c.fact 46 (f := (.noat "Lookup" "names")) rfl),
    na_Mend_function := He.noat_ok (c.fact 47 (f := (.noat "Mend" "function")) rfl),
    na_Mend_name := He.noat_ok (c.fact 48 (f := (.noat "Mend" "name")) rfl),
    m_Lookup := He.mkr_ok (c.fact 49 (f := (.mkr "Lookup")) rfl),
    m_Mend := He.mkr_ok (c.fact 50 (f := (.mkr "Mend")) rfl),
    mt_Lookup_gather := He.meth_ok (c.fact 51 (f := (.meth "Lookup" "gather")) rfl),
    mt_Lookup_leans := He.meth_ok (c.fact 52 (f := (.meth "Lookup" "leans")) rfl),
    mu_Lookup_reckon := He.meth_ok (c.fact 53 (f := (.meth "Lookup" "reckon")) rfl),
    mt_Lookup_reckon := sameB_ok (x 0 rfl) (He.meth_ok (c.fact 53 (f := (.meth "Lookup" "reckon")) rfl)),
    mt_Mend_gather := He.meth_ok (c.fact 54 (f := (.meth "Mend" "gather")) rfl),
    mt_Mend_leans := He.meth_ok (c.fact 55 (f := (.meth "Mend" "leans")) rfl),
    mu_Mend_reckon := He.meth_ok (c.fact 56 (f := (.meth "Mend" "reckon")) rfl),
    mt_Mend_reckon := sameB_ok (x 1 rfl) (He.meth_ok (c.fact 56 (f := (.meth "Mend" "reckon")) rfl)),
    rd_Rule := rdB_ok (x 2 rfl),
    at_Rule_init := atB_ok (x 3 rfl),
    i_Lookup := isiB_ok (x 4 rfl) (He.cls_ok (c.fact 40 (f := (.cls "Lookup")) rfl)),
    i_Mend := isiB_ok (x 5 rfl) (He.cls_ok (c.fact 41 (f := (.cls "Mend")) rfl)),
    hv_HEADS := (x 6 rfl),
    hd_HEADS := c0.t.tab 0 (t := (fun K => He.ga K "HEADS", ["cells", "above", "group", "lookup", "mend"])) rfl,
    tdis := of_decide_eq_true (x 7 rfl),
    f_is_whole := (let ⟨_, F⟩ := c.def_ 0 (d := fn_is_whole) rfl; fdOf_eq F),
    f_is_name := (let ⟨_, F⟩ := c.def_ 1 (d := fn_is_name) rfl; fdOf_eq F),
    f_is_fault := (let ⟨_, F⟩ := c.def_ 2 (d := fn_is_fault) rfl; fdOf_eq F),
    f_is_number := (let ⟨_, F⟩ := c.def_ 3 (d := fn_is_number) rfl; fdOf_eq F),
    f_is_value := (let ⟨_, F⟩ := c.def_ 4 (d := fn_is_value) rfl; fdOf_eq F),
    f_fault := (let ⟨_, F⟩ := c.def_ 5 (d := fn_fault) rfl; fdOf_eq F),
    f_settled := (let ⟨_, F⟩ := c.def_ 6 (d := fn_settled) rfl; fdOf_eq F),
    f_name_told := (let ⟨_, F⟩ := c.def_ 7 (d := fn_name_told) rfl; fdOf_eq F),
    f_names_told := (let ⟨_, F⟩ := c.def_ 8 (d := fn_names_told) rfl; fdOf_eq F),
    f_each_once := (let ⟨_, F⟩ := c.def_ 9 (d := fn_each_once) rfl; fdOf_eq F),
    f_looked := (let ⟨_, F⟩ := c.def_ 10 (d := fn_looked) rfl; fdOf_eq F),
    f_whole_of := (let ⟨_, F⟩ := c.def_ 11 (d := fn_whole_of) rfl; fdOf_eq F),
    f_Rule_init := (let ⟨_, F⟩ := c.def_ 12 (d := fn_Rule_init) rfl; fdOf_eq F),
    f_Rule_reckon := (let ⟨_, F⟩ := c.def_ 13 (d := fn_Rule_reckon) rfl; fdOf_eq F),
    f_Lookup_init := (let ⟨_, F⟩ := c.def_ 14 (d := fn_Lookup_init) rfl; fdOf_eq F),
    f_Lookup_leans := (let ⟨_, F⟩ := c.def_ 15 (d := fn_Lookup_leans) rfl; fdOf_eq F),
    f_Lookup_gather := (let ⟨_, F⟩ := c.def_ 16 (d := fn_Lookup_gather) rfl; fdOf_eq F),
    f_Mend_init := (let ⟨_, F⟩ := c.def_ 17 (d := fn_Mend_init) rfl; fdOf_eq F),
    f_Mend_leans := (let ⟨_, F⟩ := c.def_ 18 (d := fn_Mend_leans) rfl; fdOf_eq F),
    f_Mend_gather := (let ⟨_, F⟩ := c.def_ 19 (d := fn_Mend_gather) rfl; fdOf_eq F),
    f_read_lookup := (let ⟨_, F⟩ := c.def_ 20 (d := fn_read_lookup) rfl; fdOf_eq F),
    f_read_mend := (let ⟨_, F⟩ := c.def_ 21 (d := fn_read_mend) rfl; fdOf_eq F),
    f_read_rule := (let ⟨_, F⟩ := c.def_ 22 (d := fn_read_rule) rfl; fdOf_eq F),
    f_law_cell := (let ⟨_, F⟩ := c.def_ 23 (d := fn_law_cell) rfl; fdOf_eq F),
    f_law_number := (let ⟨_, F⟩ := c.def_ 24 (d := fn_law_number) rfl; fdOf_eq F),
    f_law_key := (let ⟨_, F⟩ := c.def_ 25 (d := fn_law_key) rfl; fdOf_eq F),
    f_law_asked := (let ⟨_, F⟩ := c.def_ 26 (d := fn_law_asked) rfl; fdOf_eq F),
    f_law_once := (let ⟨_, F⟩ := c.def_ 27 (d := fn_law_once) rfl; fdOf_eq F),
    f_law_lookup := (let ⟨_, F⟩ := c.def_ 28 (d := fn_law_lookup) rfl; fdOf_eq F),
    f_law_mend := (let ⟨_, F⟩ := c.def_ 29 (d := fn_law_mend) rfl; fdOf_eq F),
    f_law := (let ⟨_, F⟩ := c.def_ 30 (d := fn_law) rfl; fdOf_eq F),
    tb_read_lookup := tb ("read_lookup", none) (by decide),
    tb_read_mend := tb ("read_mend", none) (by decide),
    tb_law_lookup := tb ("_law_lookup", none) (by decide),
    tb_law_mend := tb ("_law_mend", none) (by decide) }
section
variable {P : Program} {w : World} {K : PySem.W.Frag} {mg : Str → Option Value} {base : Heap}
theorem Tx.tm_read_lookup (T : Tx P w K mg base) : (He.tabOf K (He.codeOf K ("read_lookup", none)), nm_read_lookup) ∈ tabs K := by unfold tabs; simp
theorem Tx.tu_read_lookup (T : Tx P w K mg base) : ∀ p ∈ tabs K, p.1 = He.tabOf K (He.codeOf K ("read_lookup", none)) → p.2 = nm_read_lookup := tab_un T.tdis T.tm_read_lookup
theorem Tx.tm_read_mend (T : Tx P w K mg base) : (He.tabOf K (He.codeOf K ("read_mend", none)), nm_read_mend) ∈ tabs K := by unfold tabs; simp
theorem Tx.tu_read_mend (T : Tx P w K mg base) : ∀ p ∈ tabs K, p.1 = He.tabOf K (He.codeOf K ("read_mend", none)) → p.2 = nm_read_mend := tab_un T.tdis T.tm_read_mend
theorem Tx.tm_law_lookup (T : Tx P w K mg base) : (He.tabOf K (He.codeOf K ("_law_lookup", none)), nm_law_lookup) ∈ tabs K := by unfold tabs; simp
theorem Tx.tu_law_lookup (T : Tx P w K mg base) : ∀ p ∈ tabs K, p.1 = He.tabOf K (He.codeOf K ("_law_lookup", none)) → p.2 = nm_law_lookup := tab_un T.tdis T.tm_law_lookup
theorem Tx.tm_law_mend (T : Tx P w K mg base) : (He.tabOf K (He.codeOf K ("_law_mend", none)), nm_law_mend) ∈ tabs K := by unfold tabs; simp
theorem Tx.tu_law_mend (T : Tx P w K mg base) : ∀ p ∈ tabs K, p.1 = He.tabOf K (He.codeOf K ("_law_mend", none)) → p.2 = nm_law_mend := tab_un T.tdis T.tm_law_mend
theorem Tx.k_Lookup (T : Tx P w K mg base) : ClsF K "Lookup" ["function", "key", "other", "theirs", "names"] := ⟨T.c_Lookup, fun f hf => by
  simp only [List.mem_cons, List.not_mem_nil, or_false] at hf
  rcases hf with rfl | rfl | rfl | rfl | rfl
  · exact T.na_Lookup_function
  · exact T.na_Lookup_key
  · exact T.na_Lookup_other
  · exact T.na_Lookup_theirs
  · exact T.na_Lookup_names⟩
theorem Tx.k_Mend (T : Tx P w K mg base) : ClsF K "Mend" ["function", "name"] := ⟨T.c_Mend, fun f hf => by
  simp only [List.mem_cons, List.not_mem_nil, or_false] at hf
  rcases hf with rfl | rfl
  · exact T.na_Mend_function
  · exact T.na_Mend_name⟩
theorem Tx.h_cells (T : Tx P w K mg base) : HeadK (rt P w K mg base) "cells" 2 := ⟨kdct (k := "cells") (v := .int 2) T.hd_HEADS T.hv_HEADS (by simp), (let ⟨_, _, D⟩ := T.hd_HEADS; D.low)⟩
theorem Tx.h_above (T : Tx P w K mg base) : HeadK (rt P w K mg base) "above" 3 := ⟨kdct (k := "above") (v := .int 3) T.hd_HEADS T.hv_HEADS (by simp), (let ⟨_, _, D⟩ := T.hd_HEADS; D.low)⟩
theorem Tx.h_group (T : Tx P w K mg base) : HeadK (rt P w K mg base) "group" 4 := ⟨kdct (k := "group") (v := .int 4) T.hd_HEADS T.hv_HEADS (by simp), (let ⟨_, _, D⟩ := T.hd_HEADS; D.low)⟩
theorem Tx.h_lookup (T : Tx P w K mg base) : HeadK (rt P w K mg base) "lookup" 5 := ⟨kdct (k := "lookup") (v := .int 5) T.hd_HEADS T.hv_HEADS (by simp), (let ⟨_, _, D⟩ := T.hd_HEADS; D.low)⟩
theorem Tx.h_mend (T : Tx P w K mg base) : HeadK (rt P w K mg base) "mend" 3 := ⟨kdct (k := "mend") (v := .int 3) T.hd_HEADS T.hv_HEADS (by simp), (let ⟨_, _, D⟩ := T.hd_HEADS; D.low)⟩
theorem Tx.b_is_whole (T : Tx P w K mg base) : Binds K (fdOf K (He.fAd K ("is_whole", none))) ["thing"] [] := T.f_is_whole.bindsN fun _ _ _ _ _ _ us hl => match us, hl with | [_], _ => rfl
theorem Tx.b_is_name (T : Tx P w K mg base) : Binds K (fdOf K (He.fAd K ("is_name", none))) ["thing"] [] := T.f_is_name.bindsN fun _ _ _ _ _ _ us hl => match us, hl with | [_], _ => rfl
theorem Tx.b_is_fault (T : Tx P w K mg base) : Binds K (fdOf K (He.fAd K ("is_fault", none))) ["thing"] [] := T.f_is_fault.bindsN fun _ _ _ _ _ _ us hl => match us, hl with | [_], _ => rfl
theorem Tx.b_is_number (T : Tx P w K mg base) : Binds K (fdOf K (He.fAd K ("is_number", none))) ["thing"] [] := T.f_is_number.bindsN fun _ _ _ _ _ _ us hl => match us, hl with | [_], _ => rfl
theorem Tx.b_is_value (T : Tx P w K mg base) : Binds K (fdOf K (He.fAd K ("is_value", none))) ["thing"] [] := T.f_is_value.bindsN fun _ _ _ _ _ _ us hl => match us, hl with | [_], _ => rfl
theorem Tx.b_fault (T : Tx P w K mg base) : Binds K (fdOf K (He.fAd K ("fault", none))) ["word"] [] := T.f_fault.bindsN fun _ _ _ _ _ _ us hl => match us, hl with | [_], _ => rfl
theorem Tx.b_settled (T : Tx P w K mg base) : Binds K (fdOf K (He.fAd K ("settled", none))) ["thing"] [] := T.f_settled.bindsN fun _ _ _ _ _ _ us hl => match us, hl with | [_], _ => rfl
theorem Tx.b_name_told (T : Tx P w K mg base) : Binds K (fdOf K (He.fAd K ("name_told", none))) ["name"] [] := T.f_name_told.bindsN fun _ _ _ _ _ _ us hl => match us, hl with | [_], _ => rfl
theorem Tx.b_names_told (T : Tx P w K mg base) : Binds K (fdOf K (He.fAd K ("names_told", none))) ["names"] [] := T.f_names_told.bindsN fun _ _ _ _ _ _ us hl => match us, hl with | [_], _ => rfl
theorem Tx.b_each_once (T : Tx P w K mg base) : Binds K (fdOf K (He.fAd K ("each_once", none))) ["spots"] [] := T.f_each_once.bindsN fun _ _ _ _ _ _ us hl => match us, hl with | [_], _ => rfl
theorem Tx.b_looked (T : Tx P w K mg base) : Binds K (fdOf K (He.fAd K ("looked", none))) ["look", "cells"] [] := T.f_looked.bindsN fun _ _ _ _ _ _ us hl => match us, hl with | [_, _], _ => rfl
theorem Tx.b_whole_of (T : Tx P w K mg base) : Binds K (fdOf K (He.fAd K ("whole_of", none))) ["word"] [] := T.f_whole_of.bindsN fun _ _ _ _ _ _ us hl => match us, hl with | [_], _ => rfl
theorem Tx.b_Rule_init (T : Tx P w K mg base) : Binds K (fdOf K (He.fAd K ("Rule", some "__init__"))) ["self", "function"] [] := T.f_Rule_init.bindsN fun _ _ _ _ _ _ us hl => match us, hl with | [_, _], _ => rfl
theorem Tx.b_Rule_reckon (T : Tx P w K mg base) : Binds K (fdOf K (He.fAd K ("Rule", some "reckon"))) ["self", "some"] [] := T.f_Rule_reckon.bindsN fun _ _ _ _ _ _ us hl => match us, hl with | [_, _], _ => rfl
theorem Tx.b_Lookup_init (T : Tx P w K mg base) : Binds K (fdOf K (He.fAd K ("Lookup", some "__init__"))) ["self", "key", "other", "theirs", "names", "function"] [] := T.f_Lookup_init.bindsN fun _ _ _ _ _ _ us hl => match us, hl with | [_, _, _, _, _, _], _ => rfl
theorem Tx.b_Lookup_leans (T : Tx P w K mg base) : Binds K (fdOf K (He.fAd K ("Lookup", some "leans"))) ["self", "table"] [] := T.f_Lookup_leans.bindsN fun _ _ _ _ _ _ us hl => match us, hl with | [_, _], _ => rfl
theorem Tx.b_Lookup_gather (T : Tx P w K mg base) : Binds K (fdOf K (He.fAd K ("Lookup", some "gather"))) ["self", "look", "many", "table", "column", "place"] [] := T.f_Lookup_gather.bindsN fun _ _ _ _ _ _ us hl => match us, hl with | [_, _, _, _, _, _], _ => rfl
theorem Tx.b_Mend_init (T : Tx P w K mg base) : Binds K (fdOf K (He.fAd K ("Mend", some "__init__"))) ["self", "name", "function"] [] := T.f_Mend_init.bindsN fun _ _ _ _ _ _ us hl => match us, hl with | [_, _, _], _ => rfl
theorem Tx.b_Mend_leans (T : Tx P w K mg base) : Binds K (fdOf K (He.fAd K ("Mend", some "leans"))) ["self", "table"] [] := T.f_Mend_leans.bindsN fun _ _ _ _ _ _ us hl => match us, hl with | [_, _], _ => rfl
theorem Tx.b_Mend_gather (T : Tx P w K mg base) : Binds K (fdOf K (He.fAd K ("Mend", some "gather"))) ["self", "look", "many", "table", "column", "place"] [] := T.f_Mend_gather.bindsN fun _ _ _ _ _ _ us hl => match us, hl with | [_, _, _, _, _, _], _ => rfl
theorem Tx.b_read_lookup (T : Tx P w K mg base) : Binds K (fdOf K (He.fAd K ("read_lookup", none))) ["words"] [] := T.f_read_lookup.bindsN fun _ _ _ _ _ _ us hl => match us, hl with | [_], _ => rfl
theorem Tx.b_read_mend (T : Tx P w K mg base) : Binds K (fdOf K (He.fAd K ("read_mend", none))) ["words"] [] := T.f_read_mend.bindsN fun _ _ _ _ _ _ us hl => match us, hl with | [_], _ => rfl
theorem Tx.b_read_rule (T : Tx P w K mg base) : Binds K (fdOf K (He.fAd K ("read_rule", none))) ["text"] [] := T.f_read_rule.bindsN fun _ _ _ _ _ _ us hl => match us, hl with | [_], _ => rfl
theorem Tx.b_law_cell (T : Tx P w K mg base) : Binds K (fdOf K (He.fAd K ("_law_cell", none))) ["script", "k"] [] := T.f_law_cell.bindsN fun _ _ _ _ _ _ us hl => match us, hl with | [_, _], _ => rfl
theorem Tx.b_law_number (T : Tx P w K mg base) : Binds K (fdOf K (He.fAd K ("_law_number", none))) ["cell"] [] := T.f_law_number.bindsN fun _ _ _ _ _ _ us hl => match us, hl with | [_], _ => rfl
theorem Tx.b_law_key (T : Tx P w K mg base) : Binds K (fdOf K (He.fAd K ("_law_key", none))) ["cell"] [] := T.f_law_key.bindsN fun _ _ _ _ _ _ us hl => match us, hl with | [_], _ => rfl
theorem Tx.b_law_asked (T : Tx P w K mg base) : Binds K (fdOf K (He.fAd K ("_law_asked", none))) ["key", "keys", "place"] [] := T.f_law_asked.bindsN fun _ _ _ _ _ _ us hl => match us, hl with | [_, _, _], _ => rfl
theorem Tx.b_law_once (T : Tx P w K mg base) : Binds K (fdOf K (He.fAd K ("_law_once", none))) ["spots"] [] := T.f_law_once.bindsN fun _ _ _ _ _ _ us hl => match us, hl with | [_], _ => rfl
theorem Tx.b_law_lookup (T : Tx P w K mg base) : Binds K (fdOf K (He.fAd K ("_law_lookup", none))) ["script", "key", "keys", "numbers"] [] := T.f_law_lookup.bindsN fun _ _ _ _ _ _ us hl => match us, hl with | [_, _, _, _], _ => rfl
theorem Tx.b_law_mend (T : Tx P w K mg base) : Binds K (fdOf K (He.fAd K ("_law_mend", none))) ["script", "number"] [] := T.f_law_mend.bindsN fun _ _ _ _ _ _ us hl => match us, hl with | [_, _], _ => rfl
theorem Tx.b_law (T : Tx P w K mg base) : Binds K (fdOf K (He.fAd K ("law", none))) ["script"] [] := T.f_law.bindsN fun _ _ _ _ _ _ us hl => match us, hl with | [_], _ => rfl
theorem ok_is_whole (T : Tx P w K mg base) : FnOk P w K mg base CX0 (1) (He.fAd K ("is_whole", none)) (fdOf K (He.fAd K ("is_whole", none))) ["thing"] (sp_is_whole (rt P w K mg base)) := by
  refine fun_okK T.f_is_whole sc_is_whole (fun vs H Q E h => h.len) (fun A outer s H vs Q E hr h => ⟨t_is_whole (rt P w K mg base), ?_, pu_is_whole vs H Q E h⟩)
  exact (pss_one (ps_ret (pe_and (pe_callB call_isi rfl T.n_isinstance (by decide +kernel) (pa_cons (pv 0) (pa_cons (pe_bltn (v := .ty "int") rfl T.n_int (by decide +kernel) rfl) pa_nil))) (pe_one (pe_not (pe_callB call_isi rfl T.n_isinstance (by decide +kernel) (pa_cons (pv 0) (pa_cons (pe_bltn (v := .ty "bool") rfl T.n_bool (by decide +kernel) rfl) pa_nil))))))))
theorem ok_is_name (T : Tx P w K mg base) : FnOk P w K mg base CX0 (1) (He.fAd K ("is_name", none)) (fdOf K (He.fAd K ("is_name", none))) ["thing"] (sp_is_name (rt P w K mg base)) := by
  refine fun_okK T.f_is_name sc_is_name (fun vs H Q E h => h.len) (fun A outer s H vs Q E hr h => ⟨t_is_name (rt P w K mg base), ?_, pu_is_name vs H Q E h⟩)
  exact (pss_cons (ps_if (PW.pt (pw_or (pt_not (pt_val (pe_callB call_isi rfl T.n_isinstance (by decide +kernel) (pa_cons (pv 0) (pa_cons (pe_bltn (v := .ty "str") rfl T.n_str (by decide +kernel) rfl) pa_nil))))) (pw_or1 (pt_not (pt_chain op_le op_le pe_int (pe_callB call_len rfl T.n_len PySem.boot_len (pa_cons (pv 0) pa_nil)) pe_int))))) (pss_one (ps_ret pe_bl)) pss_nil)
  (pss_one (ps_ret (pe_callB (cr_all rfl) rfl T.n_all (by decide +kernel) (pa_cons (pe_lc (own := [("sign", 1)]) (g := (gName 1)) (tt := tYes) (te := (tOp rInS (tVar 1) (tC (.str "abcdefghijklmnopqrstuvwxyz")))) rfl sc_is_name.nd (pi_str (pv 0)) (blkOk_by (N := ["thing", "sign"]) (sc := defScope s_is_name) (by decide +kernel)) (fun _ _ _ _ _ => by exact (pg_name (i := 1) sc_is_name.nd rfl (Or.inl rfl))) (fun _ _ _ _ _ => by exact pts_nil) (fun _ _ _ _ _ => by exact (pe_cmpR op_inS (pv 1) (pe_gstr rfl T.g_LETTERS) (by rfl)))) pa_nil)))))
theorem ok_is_fault (T : Tx P w K mg base) : FnOk P w K mg base CX0 (2) (He.fAd K ("is_fault", none)) (fdOf K (He.fAd K ("is_fault", none))) ["thing"] (sp_is_fault (rt P w K mg base)) := by
  refine fun_okK T.f_is_fault sc_is_fault (fun vs H Q E h => h.len) (fun A outer s H vs Q E hr h => ⟨t_is_fault (rt P w K mg base), ?_, pu_is_fault vs H Q E h⟩)
  exact (pss_cons (ps_if (PW.pt (pw_or (pt_not (pt_val (pe_callB call_isi rfl T.n_isinstance (by decide +kernel) (pa_cons (pv 0) (pa_cons (pe_bltn (v := .ty "tuple") rfl T.n_tuple (by decide +kernel) rfl) pa_nil))))) (pw_or1 (pt_cmpR op_ne (pe_callB call_len rfl T.n_len PySem.boot_len (pa_cons (pv 0) pa_nil)) pe_int (nomark _))))) (pss_one (ps_ret pe_bl)) pss_nil)
  (pss_one (ps_ret (pe_and (pe_callB call_isi rfl T.n_isinstance (by decide +kernel) (pa_cons (pe_ix ix_tup (pv 0) pe_int (fun _ _ => rfl)) (pa_cons (pe_bltn (v := .ty "str") rfl T.n_str (by decide +kernel) rfl) pa_nil))) (pe_and (pe_cmpR op_eq (pe_ix ix_tup (pv 0) pe_int (fun _ _ => rfl)) pe_str (nomark _)) (pe_one (pe_call (ok_is_name T) (hr.mono (by omega)) rfl T.g_is_name T.f_is_name.kp (T.b_is_name) .nil pass0 (pa_cons (pe_ix ix_tup (pv 0) pe_int (fun _ _ => rfl)) pa_nil))))))))
theorem ok_is_number (T : Tx P w K mg base) : FnOk P w K mg base CX0 (2) (He.fAd K ("is_number", none)) (fdOf K (He.fAd K ("is_number", none))) ["thing"] (sp_is_number (rt P w K mg base)) := by
  refine fun_okK T.f_is_number sc_is_number (fun vs H Q E h => h.len) (fun A outer s H vs Q E hr h => ⟨t_is_number (rt P w K mg base), ?_, pu_is_number vs H Q E h⟩)
  exact (pss_one (ps_ret (pe_and (pe_call (ok_is_whole T) (hr.mono (by omega)) rfl T.g_is_whole T.f_is_whole.kp (T.b_is_whole) .nil pass0 (pa_cons (pv 0) pa_nil)) (pe_one (pe_cmpR op_lt (pe_callB call_abs rfl T.n_abs (by decide +kernel) (pa_cons (pv 0) pa_nil)) (pe_op op_pow pe_int pe_int) (nomark _))))))
theorem ok_is_value (T : Tx P w K mg base) : FnOk P w K mg base CX0 (3) (He.fAd K ("is_value", none)) (fdOf K (He.fAd K ("is_value", none))) ["thing"] (sp_is_value (rt P w K mg base)) := by
  refine fun_okK T.f_is_value sc_is_value (fun vs H Q E h => h.len) (fun A outer s H vs Q E hr h => ⟨t_is_value (rt P w K mg base), ?_, pu_is_value vs H Q E h⟩)
  exact (pss_one (ps_ret (pe_or (pe_call (ok_is_number T) (hr.mono (by omega)) rfl T.g_is_number T.f_is_number.kp (T.b_is_number) .nil pass0 (pa_cons (pv 0) pa_nil)) (pe_one (pe_call (ok_is_fault T) (hr.mono (by omega)) rfl T.g_is_fault T.f_is_fault.kp (T.b_is_fault) .nil pass0 (pa_cons (pv 0) pa_nil))))))
theorem ok_fault (T : Tx P w K mg base) : FnOk P w K mg base CX0 (2) (He.fAd K ("fault", none)) (fdOf K (He.fAd K ("fault", none))) ["word"] (sp_fault (rt P w K mg base)) := by
  refine fun_okK T.f_fault sc_fault (fun vs H Q E h => h.len) (fun A outer s H vs Q E hr h => ⟨t_fault (rt P w K mg base), ?_, pu_fault vs H Q E h⟩)
  exact (pss_cons (ps_if (pt_not (pt_val (pe_call (ok_is_name T) (hr.mono (by omega)) rfl T.g_is_name T.f_is_name.kp (T.b_is_name) .nil pass0 (pa_cons (pv 0) pa_nil)))) pss_never pss_nil)
  (pss_one (ps_ret (pe_tup (pa_cons pe_str (pa_cons (pv 0) pa_nil))))))
theorem ok_settled (T : Tx P w K mg base) : FnOk P w K mg base CX0 (4) (He.fAd K ("settled", none)) (fdOf K (He.fAd K ("settled", none))) ["thing"] (sp_settled (rt P w K mg base)) := by
  refine fun_okK T.f_settled sc_settled (fun vs H Q E h => h.len) (fun A outer s H vs Q E hr h => ⟨t_settled (rt P w K mg base), ?_, pu_settled vs H Q E h⟩)
  exact (pss_cons (ps_if (pt_val (pe_call (ok_is_value T) (hr.mono (by omega)) rfl T.g_is_value T.f_is_value.kp (T.b_is_value) .nil pass0 (pa_cons (pv 0) pa_nil))) (pss_one (ps_ret (pv 0))) pss_nil)
  (pss_one (ps_ret (pe_tup (pa_cons pe_str (pa_cons pe_str pa_nil))))))
theorem ok_name_told (T : Tx P w K mg base) : FnOk P w K mg base CX0 (2) (He.fAd K ("name_told", none)) (fdOf K (He.fAd K ("name_told", none))) ["name"] (sp_name_told (rt P w K mg base)) := by
  refine fun_okK T.f_name_told sc_name_told (fun vs H Q E h => h.len) (fun A outer s H vs Q E hr h => ⟨t_name_told (rt P w K mg base), ?_, pu_name_told vs H Q E h⟩)
  exact (pss_cons (ps_if (pt_not (pt_val (pe_call (ok_is_name T) (hr.mono (by omega)) rfl T.g_is_name T.f_is_name.kp (T.b_is_name) .nil pass0 (pa_cons (pv 0) pa_nil)))) pss_never pss_nil)
  (pss_one (ps_ret (pv 0))))
theorem ok_names_told (T : Tx P w K mg base) : FnOk P w K mg base CX0 (3) (He.fAd K ("names_told", none)) (fdOf K (He.fAd K ("names_told", none))) ["names"] (sp_names_told (rt P w K mg base)) := by
  refine fun_okK T.f_names_told sc_names_told (fun vs H Q E h => h.len) (fun A outer s H vs Q E hr h => ⟨t_names_told (rt P w K mg base), ?_, pu_names_told vs H Q E h⟩)
  exact (pss_cons (ps_if (PW.pt (pw_or (pt_not (pt_val (pe_callB call_isi rfl T.n_isinstance (by decide +kernel) (pa_cons (pv 0) (pa_cons (pe_bltn (v := .ty "list") rfl T.n_list (by decide +kernel) rfl) pa_nil))))) (pw_or1 (pt_cmpR op_gt (pe_callB call_len rfl T.n_len PySem.boot_len (pa_cons (pv 0) pa_nil)) (pe_gint rfl T.g_MOST_NAMES) (nomark _))))) pss_never pss_nil)
  (pss_one (ps_ret (pe_lc (own := [("name", 1)]) (g := (gName 1)) (tt := tYes) (te := (tCall (sp_name_told (rt P w K mg base)) [] E0 (tCons (tVar 1) tNil))) rfl sc_names_told.nd (pi_list (pv 0)) (blkOk_by (N := ["names", "name"]) (sc := defScope s_names_told) (by decide +kernel)) (fun _ _ _ _ _ => by exact (pg_name (i := 1) sc_names_told.nd rfl (Or.inl rfl))) (fun _ _ _ _ _ => by exact pts_nil) (fun _ _ _ _ _ => by exact (pe_call (ok_name_told T) (hr.mono (by omega)) rfl T.g_name_told T.f_name_told.kp (T.b_name_told) .nil pass0 (pa_cons (pv 1) pa_nil)))))))
theorem ok_each_once (T : Tx P w K mg base) : FnOk P w K mg base CX0 (1) (He.fAd K ("each_once", none)) (fdOf K (He.fAd K ("each_once", none))) ["spots"] (sp_each_once (rt P w K mg base)) := by
  refine fun_okK T.f_each_once sc_each_once (fun vs H Q E h => h.len) (fun A outer s H vs Q E hr h => ⟨t_each_once (rt P w K mg base), ?_, pu_each_once vs H Q E h⟩)
  exact (pss_cons (ps_set (i := 1) sc_each_once.nd rfl (Or.inl rfl) (pe_lst pa_nil))
  (pss_cons (ps_for PassesOwn.never rfl (pi_list (pv 0)) (pg_name (i := 2) sc_each_once.nd rfl (Or.inl rfl))
  (pss_one (ps_if (pt_cmpR (op_notInD (huD hr)) (pv 2) (pv 1) (by rfl)) (pss_one (ps_expr (pe_bm PySem.F.plainAttrs_list PySem.F.slot_list_append PySem.F.type_list_append mt_append (pv 1) (pa_cons (pv 2) pa_nil)))) pss_nil)))
  (pss_one (ps_ret (pv 1)))))
theorem ok_looked (T : Tx P w K mg base) (kx : Nat) : FnOk P w K mg base CX0 (kx + 3) (He.fAd K ("looked", none)) (fdOf K (He.fAd K ("looked", none))) ["look", "cells"] (sp_looked (rt P w K mg base) kx) := by
  refine fun_okK T.f_looked sc_looked (fun vs H Q E h => h.len) (fun A outer s H vs Q E hr h => ⟨t_looked (rt P w K mg base) kx, ?_, pu_looked vs H Q E h⟩)
  exact (pss_cons (ps_set (i := 2) sc_looked.nd rfl (Or.inl rfl) (pe_lst pa_nil))
  (pss_cons (ps_for PassesOwn.never rfl (pi_list (pv 1)) (pg_tup rfl (pgs_cons (pg_name (i := 3) sc_looked.nd rfl (Or.inl rfl)) (pgs_cons (pg_name (i := 4) sc_looked.nd rfl (Or.inl rfl)) (pgs_cons (pg_name (i := 5) sc_looked.nd rfl (Or.inl rfl)) pgs_nil))))
  (pss_cons (ps_set (i := 6) sc_looked.nd rfl (Or.inl rfl) (pe_callC (i := 0) (kx := kx) (hr.mono (by omega)) rfl (.inl rfl) (pa_cons (pv 3) (pa_cons (pv 4) (pa_cons (pv 5) pa_nil)))))
  (pss_cons (ps_if (pt_val (pe_call (ok_is_fault T) (hr.mono (by omega)) rfl T.g_is_fault T.f_is_fault.kp (T.b_is_fault) .nil pass0 (pa_cons (pv 6) pa_nil))) (pss_one (ps_ret (pe_tup (pa_cons pe_str (pa_cons (pv 6) pa_nil))))) pss_nil)
  (pss_one (ps_expr (pe_bm PySem.F.plainAttrs_list PySem.F.slot_list_append PySem.F.type_list_append mt_append (pv 2) (pa_cons (pv 6) pa_nil)))))))
  (pss_one (ps_ret (pe_tup (pa_cons pe_str (pa_cons (pv 2) pa_nil)))))))
theorem ok_whole_of (T : Tx P w K mg base) : FnOk P w K mg base CX0 (1) (He.fAd K ("whole_of", none)) (fdOf K (He.fAd K ("whole_of", none))) ["word"] (sp_whole_of (rt P w K mg base)) := by
  refine fun_okK T.f_whole_of sc_whole_of (fun vs H Q E h => h.len) (fun A outer s H vs Q E hr h => ⟨t_whole_of (rt P w K mg base), ?_, pu_whole_of vs H Q E h⟩)
  exact (pss_cons (ps_if (pt_not (pt_val (pe_callB call_isi rfl T.n_isinstance (by decide +kernel) (pa_cons (pv 0) (pa_cons (pe_bltn (v := .ty "str") rfl T.n_str (by decide +kernel) rfl) pa_nil))))) (pss_one (ps_ret pe_non)) pss_nil)
  (pss_cons (ps_set (i := 1) sc_whole_of.nd rfl (Or.inl rfl) (pv 0))
  (pss_cons (ps_if (pt_cmpR op_eq (pe_slice sl_str (pv 0) po_none (po_some pe_int)) pe_str (nomark _)) (pss_one (ps_set (i := 1) sc_whole_of.nd rfl (Or.inl rfl) (pe_slice sl_str (pv 0) (po_some pe_int) po_none))) pss_nil)
  (pss_cons (ps_if (PW.pt (pw_or (pt_not (pt_chain op_le op_le pe_int (pe_callB call_len rfl T.n_len PySem.boot_len (pa_cons (pv 1) pa_nil)) pe_int)) (pw_or1 (pt_not (pt_val (pe_callB (cr_all rfl) rfl T.n_all (by decide +kernel) (pa_cons (pe_lc (own := [("sign", 2)]) (g := (gName 2)) (tt := tYes) (te := (tOp rInS (tVar 2) (tC (.str "0123456789")))) rfl sc_whole_of.nd (pi_str (pv 1)) (blkOk_by (N := ["word", "figures", "sign"]) (sc := defScope s_whole_of) (by decide +kernel)) (fun _ _ _ _ _ => by exact (pg_name (i := 2) sc_whole_of.nd rfl (Or.inl rfl))) (fun _ _ _ _ _ => by exact pts_nil) (fun _ _ _ _ _ => by exact (pe_cmpR op_inS (pv 2) (pe_gstr rfl T.g_FIGURES) (by rfl)))) pa_nil))))))) (pss_one (ps_ret pe_non)) pss_nil)
  (pss_cons (ps_if (PW.pt (pw_and (pt_cmpR op_eq (pe_ix ix_str (pv 1) pe_int (fun _ _ => rfl)) pe_str (nomark _)) (pw_and1 (pt_cmpR op_ne (pv 0) pe_str (nomark _))))) (pss_one (ps_ret pe_non)) pss_nil)
  (pss_one (ps_ret (pe_callTy call_int_str rfl T.n_int (by decide +kernel) (pa_cons (pv 0) pa_nil)))))))))
theorem ok_Rule_init (T : Tx P w K mg base) : FnOk P w K mg base CX0 (1) (He.fAd K ("Rule", some "__init__")) (fdOf K (He.fAd K ("Rule", some "__init__"))) ["self", "function"] (sp_Rule_init (rt P w K mg base)) := by
  refine fun_okK T.f_Rule_init sc_Rule_init (fun vs H Q E h => h.len) (fun A outer s H vs Q E hr h => ⟨t_Rule_init (rt P w K mg base), ?_, pu_Rule_init vs H Q E h⟩)
  exact (pss_one (ps_fld (pv 0) (pv 1) rfl))
theorem ok_Rule_reckon (T : Tx P w K mg base) : FnOk P w K mg base CX0 (62) (He.fAd K ("Rule", some "reckon")) (fdOf K (He.fAd K ("Rule", some "reckon"))) ["self", "some"] (sp_Rule_reckon (rt P w K mg base)) := by
  refine fun_okK T.f_Rule_reckon sc_Rule_reckon (fun vs H Q E h => h.len) (fun A outer s H vs Q E hr h => ⟨t_Rule_reckon (rt P w K mg base), ?_, pu_Rule_reckon vs H Q E h⟩)
  exact (pss_one (ps_ret (pe_call (ok_settled T) (hr.mono (by omega)) rfl T.g_settled T.f_settled.kp (T.b_settled) .nil pass0 (pa_cons (pe_fldC (kx := 60) (hr.mono (by omega)) (pv 0) (pa_cons (pe_callTy call_list_of rfl T.n_list (by decide +kernel) (pa_cons (pv 1) pa_nil)) pa_nil)) pa_nil))))
theorem ok_Lookup_init (T : Tx P w K mg base) : FnOk P w K mg base CX0 (4) (He.fAd K ("Lookup", some "__init__")) (fdOf K (He.fAd K ("Lookup", some "__init__"))) ["self", "key", "other", "theirs", "names", "function"] (sp_Lookup_init (rt P w K mg base)) := by
  refine fun_okK T.f_Lookup_init sc_Lookup_init (fun vs H Q E h => h.len) (fun A outer s H vs Q E hr h => ⟨t_Lookup_init (rt P w K mg base), ?_, pu_Lookup_init T.k_Lookup vs H Q E h⟩)
  exact (pss_cons (ps_expr (pe_clsF (pe_glob (v := .ref (He.ga K "Rule")) rfl T.g_Rule rfl) T.rd_Rule T.at_Rule_init (ok_Rule_init T) T.f_Rule_init.kp (hr.mono (by omega)) (T.b_Rule_init) pass0 (pa_cons (pv 0) (pa_cons (pv 5) pa_nil))))
  (pss_cons (ps_fld (pv 0) (pe_call (ok_name_told T) (hr.mono (by omega)) rfl T.g_name_told T.f_name_told.kp (T.b_name_told) .nil pass0 (pa_cons (pv 1) pa_nil)) rfl)
  (pss_cons (ps_fld (pv 0) (pe_call (ok_name_told T) (hr.mono (by omega)) rfl T.g_name_told T.f_name_told.kp (T.b_name_told) .nil pass0 (pa_cons (pv 2) pa_nil)) rfl)
  (pss_cons (ps_fld (pv 0) (pe_call (ok_name_told T) (hr.mono (by omega)) rfl T.g_name_told T.f_name_told.kp (T.b_name_told) .nil pass0 (pa_cons (pv 3) pa_nil)) rfl)
  (pss_one (ps_fld (pv 0) (pe_call (ok_names_told T) (hr.mono (by omega)) rfl T.g_names_told T.f_names_told.kp (T.b_names_told) .nil pass0 (pa_cons (pv 4) pa_nil)) rfl))))))
theorem ok_Lookup_leans (T : Tx P w K mg base) : FnOk P w K mg base CX0 (2) (He.fAd K ("Lookup", some "leans")) (fdOf K (He.fAd K ("Lookup", some "leans"))) ["self", "table"] (sp_Lookup_leans (rt P w K mg base)) := by
  refine fun_okK T.f_Lookup_leans sc_Lookup_leans (fun vs H Q E h => h.len) (fun A outer s H vs Q E hr h => ⟨t_Lookup_leans (rt P w K mg base), ?_, pu_Lookup_leans T.k_Lookup vs H Q E h⟩)
  exact (pss_cons (ps_setLc (i := 2) (own := [("name", 3)]) (g := (gName 3)) (tt := tYes) (te := (tTup (tCons (tFld K (tVar 0) "other") (tCons (tVar 3) tNil)))) rfl sc_Lookup_leans.nd rfl rfl (sw_true rfl rfl rfl (by decide +kernel)) (pi_list (pe_op op_catI (pe_lst (pa_cons (pe_fld (pv 0) rfl) pa_nil)) (pe_fld (pv 0) rfl))) (blkOk_by (N := ["self", "table", "behind", "name"]) (sc := defScope s_Lookup_leans) (by decide +kernel)) (fun _ _ _ _ _ => by exact (pg_name (i := 3) sc_Lookup_leans.nd rfl (Or.inl rfl))) (fun _ _ _ _ _ => by exact pts_nil) (fun _ _ _ _ _ => by exact (pe_tup (pa_cons (pe_fld (pv 0) rfl) (pa_cons (pv 3) pa_nil)))))
  (pss_one (ps_ret (pe_call (ok_each_once T) (hr.mono (by omega)) rfl T.g_each_once T.f_each_once.kp (T.b_each_once) .nil pass0 (pa_cons (pe_op op_catI (pe_lst (pa_cons (pe_tup (pa_cons (pv 1) (pa_cons (pe_fld (pv 0) rfl) pa_nil))) pa_nil)) (pv 2)) pa_nil)))))
theorem ok_Lookup_gather (T : Tx P w K mg base) (kx : Nat) : FnOk P w K mg base CX0 (kx + 5) (He.fAd K ("Lookup", some "gather")) (fdOf K (He.fAd K ("Lookup", some "gather"))) ["self", "look", "many", "table", "column", "place"] (sp_Lookup_gather (rt P w K mg base) kx) := by
  refine fun_okK T.f_Lookup_gather sc_Lookup_gather (fun vs H Q E h => h.len) (fun A outer s H vs Q E hr h => ⟨t_Lookup_gather (rt P w K mg base) kx, ?_, pu_Lookup_gather T.k_Lookup vs H Q E h⟩)
  exact (pss_cons (ps_set (i := 6) sc_Lookup_gather.nd rfl (Or.inl rfl) (pe_callC (i := 1) (kx := kx) (hr.mono (by omega)) rfl (.inl rfl) (pa_cons (pv 3) (pa_cons (pe_fld (pv 0) rfl) (pa_cons (pv 5) pa_nil)))))
  (pss_cons (ps_if (pt_val (pe_call (ok_is_fault T) (hr.mono (by omega)) rfl T.g_is_fault T.f_is_fault.kp (T.b_is_fault) .nil pass0 (pa_cons (pv 6) pa_nil))) (pss_one (ps_ret (pe_tup (pa_cons pe_str (pa_cons (pv 6) pa_nil))))) pss_nil)
  (pss_cons (ps_for PassesOwn.never rfl (pi_range1 rfl T.n_range (pa_cons (pe_callC (i := 2) (kx := kx) (hr.mono (by omega)) rfl (.inl rfl) (pa_cons (pe_fld (pv 0) rfl) pa_nil)) pa_nil)) (pg_name (i := 7) sc_Lookup_gather.nd rfl (Or.inr rfl))
  (pss_one (ps_if (pt_cmpR (op_eqD hr.units) (pe_callC (i := 1) (kx := kx) (hr.mono (by omega)) rfl (.inl rfl) (pa_cons (pe_fld (pv 0) rfl) (pa_cons (pe_fld (pv 0) rfl) (pa_cons (pv 7) pa_nil)))) (pv 6) (nomark _)) (pss_one (ps_ret (pe_call (ok_looked T kx) (hr.mono (by omega)) rfl T.g_looked T.f_looked.kp (T.b_looked) .nil pass0 (pa_cons (pv 1) (pa_cons (pe_lc (own := [("name", 8)]) (g := (gName 8)) (tt := tYes) (te := (tTup (tCons (tFld K (tVar 0) "other") (tCons (tVar 8) (tCons (tVar 7) tNil))))) rfl sc_Lookup_gather.nd (pi_list (pe_fld (pv 0) rfl)) (blkOk_by (N := ["self", "look", "many", "table", "column", "place", "mine", "at", "name"]) (sc := defScope s_Lookup_gather) (by decide +kernel)) (fun _ _ _ _ _ => by exact (pg_name (i := 8) sc_Lookup_gather.nd rfl (Or.inl rfl))) (fun _ _ _ _ _ => by exact pts_nil) (fun _ _ _ _ _ => by exact (pe_tup (pa_cons (pe_fld (pv 0) rfl) (pa_cons (pv 8) (pa_cons (pv 7) pa_nil)))))) pa_nil))))) pss_nil)))
  (pss_one (ps_ret (pe_tup (pa_cons pe_str (pa_cons (pe_call (ok_fault T) (hr.mono (by omega)) rfl T.g_fault T.f_fault.kp (T.b_fault) .nil pass0 (pa_cons pe_str pa_nil)) pa_nil))))))))
theorem ok_Mend_init (T : Tx P w K mg base) : FnOk P w K mg base CX0 (3) (He.fAd K ("Mend", some "__init__")) (fdOf K (He.fAd K ("Mend", some "__init__"))) ["self", "name", "function"] (sp_Mend_init (rt P w K mg base)) := by
  refine fun_okK T.f_Mend_init sc_Mend_init (fun vs H Q E h => h.len) (fun A outer s H vs Q E hr h => ⟨t_Mend_init (rt P w K mg base), ?_, pu_Mend_init T.k_Mend vs H Q E h⟩)
  exact (pss_cons (ps_expr (pe_clsF (pe_glob (v := .ref (He.ga K "Rule")) rfl T.g_Rule rfl) T.rd_Rule T.at_Rule_init (ok_Rule_init T) T.f_Rule_init.kp (hr.mono (by omega)) (T.b_Rule_init) pass0 (pa_cons (pv 0) (pa_cons (pv 2) pa_nil))))
  (pss_one (ps_fld (pv 0) (pe_call (ok_name_told T) (hr.mono (by omega)) rfl T.g_name_told T.f_name_told.kp (T.b_name_told) .nil pass0 (pa_cons (pv 1) pa_nil)) rfl)))
theorem ok_Mend_leans (T : Tx P w K mg base) : FnOk P w K mg base CX0 (1) (He.fAd K ("Mend", some "leans")) (fdOf K (He.fAd K ("Mend", some "leans"))) ["self", "table"] (sp_Mend_leans (rt P w K mg base)) := by
  refine fun_okK T.f_Mend_leans sc_Mend_leans (fun vs H Q E h => h.len) (fun A outer s H vs Q E hr h => ⟨t_Mend_leans (rt P w K mg base), ?_, pu_Mend_leans T.k_Mend vs H Q E h⟩)
  exact (pss_one (ps_ret (pe_lst (pa_cons (pe_tup (pa_cons (pv 1) (pa_cons (pe_fld (pv 0) rfl) pa_nil))) pa_nil))))
theorem ok_Mend_gather (T : Tx P w K mg base) (kx : Nat) : FnOk P w K mg base CX0 (kx + 5) (He.fAd K ("Mend", some "gather")) (fdOf K (He.fAd K ("Mend", some "gather"))) ["self", "look", "many", "table", "column", "place"] (sp_Mend_gather (rt P w K mg base) kx) := by
  refine fun_okK T.f_Mend_gather sc_Mend_gather (fun vs H Q E h => h.len) (fun A outer s H vs Q E hr h => ⟨t_Mend_gather (rt P w K mg base) kx, ?_, pu_Mend_gather T.k_Mend vs H Q E h⟩)
  exact (pss_cons (ps_set (i := 6) sc_Mend_gather.nd rfl (Or.inl rfl) (pe_callC (i := 1) (kx := kx) (hr.mono (by omega)) rfl (.inl rfl) (pa_cons (pv 3) (pa_cons (pe_fld (pv 0) rfl) (pa_cons (pv 5) pa_nil)))))
  (pss_cons (ps_if (pt_val (pe_call (ok_is_fault T) (hr.mono (by omega)) rfl T.g_is_fault T.f_is_fault.kp (T.b_is_fault) .nil pass0 (pa_cons (pv 6) pa_nil))) (pss_one (ps_ret (pe_tup (pa_cons pe_str (pa_cons (pe_lst pa_nil) pa_nil))))) pss_nil)
  (pss_one (ps_ret (pe_tup (pa_cons pe_str (pa_cons (pv 6) pa_nil)))))))
theorem mk_read_lookup_lam (T : Tx P w K mg base) : MkOk (rt P w K mg base) 10 [] 4 1 (spl_first (rt P w K mg base)) := by
  refine ⟨fun _ _ => rfl, ⟨(lamScope s_read_lookup_lam).names, fun _ _ => rfl, by decide +kernel, by decide +kernel⟩, fun f cells c => ?_⟩
  refine clo_of (k := 3) (F := mkF 10 cells c) (ps := ["some"]) sc_read_lookup_lam (fun doc pm ctv us hl => match us, hl with | [_], _ => rfl) fun A outer s H vs ws Q E hr hl1 hl2 h => ?_
  exact ⟨tl_read_lookup_lam (rt P w K mg base), (pe_ix ix_list (pv 0) pe_int (fun _ _ => rfl)), pul_first ws vs H Q E h⟩
theorem ok_read_lookup (T : Tx P w K mg base) : FnOk P w K mg base CX0 (6) (He.fAd K ("read_lookup", none)) (fdOf K (He.fAd K ("read_lookup", none))) ["words"] (sp_read_lookup (rt P w K mg base)) := by
  refine fun_okRK T.f_read_lookup sc_read_lookup (by decide +kernel) (fun vs H Q E h => h.len) (fun A outer s H vs Q E hr h => ⟨t_read_lookup (rt P w K mg base) (cellsFrom (s.heap.objs.size + 1) (defScope s_read_lookup).names []), ?_, pu_read_lookup T.k_Lookup (mk_read_lookup_lam T) ⟨_, T.tm_read_lookup, rfl⟩ _ vs H Q E h⟩)
  exact (psr_cons (ps_asg (pv 0) (pg_unl rfl (pgs_cons (pg_name (i := 1) sc_read_lookup.nd rfl (Or.inl rfl)) (pgs_cons (pg_name (i := 2) sc_read_lookup.nd rfl (Or.inl rfl)) (pgs_cons (pg_name (i := 3) sc_read_lookup.nd rfl (Or.inl rfl)) (pgs_cons (pg_name (i := 4) sc_read_lookup.nd rfl (Or.inl rfl)) pgs_nil))))))
  (psr_cons (ps_if (pt_not (pt_val (pe_callB (cr_all rfl) rfl T.n_all (by decide +kernel) (pa_cons (pe_lc (own := [("word", 5)]) (g := (gName 5)) (tt := tYes) (te := (tCall (sp_is_name (rt P w K mg base)) [] E0 (tCons (tVar 5) tNil))) rfl sc_read_lookup.nd (pi_list (pv 0)) (blkOk_by (N := ["words", "key", "table", "theirs", "name", "word"]) (sc := defScope s_read_lookup) (by decide +kernel)) (fun _ _ _ _ _ => by exact (pg_name (i := 5) sc_read_lookup.nd rfl (Or.inl rfl))) (fun _ _ _ _ _ => by exact pts_nil) (fun _ _ _ _ _ => by exact (pe_call (ok_is_name T) (hr.mono (by omega)) rfl T.g_is_name T.f_is_name.kp (T.b_is_name) .nil pass0 (pa_cons (pv 5) pa_nil)))) pa_nil)))) pss_never pss_nil)
  (psr_ret (pe_make T.m_Lookup (ok_Lookup_init T) (hr.mono (by omega)) rfl T.g_Lookup (T.b_Lookup_init) .nil pass0 (pa_cons (pv 1) (pa_cons (pv 2) (pa_cons (pv 3) (pa_cons (pe_lst (pa_cons (pv 4) pa_nil)) (pa_cons (pe_lam T.tb_read_lookup rfl T.tm_read_lookup rfl T.tu_read_lookup rfl (ndef_free (sc := defScope s_read_lookup) (nsc := lamScope s_read_lookup_lam) (fr := []) (by decide +kernel))) pa_nil)))))))))
theorem mk_read_mend_lam (T : Tx P w K mg base) : MkOk (rt P w K mg base) 11 ["number"] 4 1 (spl_const (rt P w K mg base)) := by
  refine ⟨fun _ _ => rfl, ⟨(lamScope s_read_mend_lam).names, fun _ _ => rfl, by decide +kernel, by decide +kernel⟩, fun f cells c => ?_⟩
  refine clo_of (k := 3) (F := mkF 11 cells c) (ps := ["some"]) sc_read_mend_lam (fun doc pm ctv us hl => match us, hl with | [_], _ => rfl) fun A outer s H vs ws Q E hr hl1 hl2 h => ?_
  exact ⟨tl_read_mend_lam (rt P w K mg base), (pv 1), by obtain ⟨w, v, rfl, rfl, h⟩ := h; exact ⟨_, rfl, h⟩⟩
theorem ok_read_mend (T : Tx P w K mg base) : FnOk P w K mg base CX0 (6) (He.fAd K ("read_mend", none)) (fdOf K (He.fAd K ("read_mend", none))) ["words"] (sp_read_mend (rt P w K mg base)) := by
  refine fun_okRK T.f_read_mend sc_read_mend (by decide +kernel) (fun vs H Q E h => h.len) (fun A outer s H vs Q E hr h => ⟨t_read_mend (rt P w K mg base) (cellsFrom (s.heap.objs.size + 1) (defScope s_read_mend).names []), ?_, pu_read_mend T.k_Mend (mk_read_mend_lam T) ⟨_, T.tm_read_mend, rfl⟩ (cellsFrom (s.heap.objs.size + 1) (defScope s_read_mend).names []) (cells_all (by decide +kernel)) vs H Q E h⟩)
  exact (psr_cons (ps_set (i := 1) sc_read_mend.nd rfl (Or.inr rfl) (pe_call (ok_whole_of T) (hr.mono (by omega)) rfl T.g_whole_of T.f_whole_of.kp (T.b_whole_of) .nil pass0 (pa_cons (pe_ix ix_list (pv 0) pe_int (fun _ _ => rfl)) pa_nil)))
  (psr_cons (ps_if (PW.pt (pw_or (pt_not (pt_val (pe_call (ok_is_name T) (hr.mono (by omega)) rfl T.g_is_name T.f_is_name.kp (T.b_is_name) .nil pass0 (pa_cons (pe_ix ix_list (pv 0) pe_int (fun _ _ => rfl)) pa_nil)))) (pw_or1 (pt_cmpR op_isN1 (pv 1) pe_non (nomark _))))) pss_never pss_nil)
  (psr_ret (pe_make T.m_Mend (ok_Mend_init T) (hr.mono (by omega)) rfl T.g_Mend (T.b_Mend_init) .nil pass0 (pa_cons (pe_ix ix_list (pv 0) pe_int (fun _ _ => rfl)) (pa_cons (pe_lam T.tb_read_mend rfl T.tm_read_mend rfl T.tu_read_mend rfl (ndef_free (sc := defScope s_read_mend) (nsc := lamScope s_read_mend_lam) (fr := ["number"]) (by decide +kernel))) pa_nil))))))
theorem ok_read_rule (T : Tx P w K mg base) : FnOk P w K mg base CX0 (7) (He.fAd K ("read_rule", none)) (fdOf K (He.fAd K ("read_rule", none))) ["text"] (sp_read_rule (rt P w K mg base)) := by
  refine fun_okK T.f_read_rule sc_read_rule (fun vs H Q E h => h.len) (fun A outer s H vs Q E hr h => ⟨t_read_rule_lm (rt P w K mg base), ?_, pu_read_rule_lm T.h_lookup T.h_mend vs H Q E h⟩)
  exact (pss_cons (ps_if (pt_not (pt_val (pe_callB call_isi rfl T.n_isinstance (by decide +kernel) (pa_cons (pv 0) (pa_cons (pe_bltn (v := .ty "str") rfl T.n_str (by decide +kernel) rfl) pa_nil))))) pss_never pss_nil)
  (pss_cons (ps_set (i := 1) sc_read_rule.nd rfl (Or.inl rfl) (pe_split (pv 0) pe_str))
  (pss_cons (ps_set (i := 2) sc_read_rule.nd rfl (Or.inl rfl) (pe_ix ix_list (pv 1) pe_int (fun _ _ => rfl)))
  (pss_cons (ps_if (PW.pt (pw_or (pt_cmpR op_notInW (pv 2) (pe_glob (v := .ref (He.ga K "HEADS")) rfl T.g_HEADS rfl) (by rfl)) (pw_or1 (pt_cmpR op_lt (pe_callB call_len rfl T.n_len PySem.boot_len (pa_cons (pv 1) pa_nil)) (pe_ix ix_kdict (pe_glob (v := .ref (He.ga K "HEADS")) rfl T.g_HEADS rfl) (pv 2) (fun _ _ => rfl)) (nomark _))))) pss_never pss_nil)
  (pss_cons (ps_if (pt_cmpR op_eq (pv 2) pe_str (nomark _)) pss_never pss_nil)
  (pss_cons (ps_if (pt_cmpR op_eq (pv 2) pe_str (nomark _)) pss_never pss_nil)
  (pss_cons (ps_if (pt_cmpR op_ne (pe_callB call_len rfl T.n_len PySem.boot_len (pa_cons (pv 1) pa_nil)) (pe_ix ix_kdict (pe_glob (v := .ref (He.ga K "HEADS")) rfl T.g_HEADS rfl) (pv 2) (fun _ _ => rfl)) (nomark _)) pss_never pss_nil)
  (pss_cons (ps_if (pt_cmpR op_eq (pv 2) pe_str (nomark _)) pss_never pss_nil)
  (pss_cons (ps_if (pt_cmpR op_eq (pv 2) pe_str (nomark _)) (pss_one (ps_ret (pe_call (ok_read_lookup T) (hr.mono (by omega)) rfl T.g_read_lookup T.f_read_lookup.kp (T.b_read_lookup) .nil pass0 (pa_cons (pe_slice sl_list (pv 1) (po_some pe_int) po_none) pa_nil)))) pss_nil)
  (pss_one (ps_ret (pe_call (ok_read_mend T) (hr.mono (by omega)) rfl T.g_read_mend T.f_read_mend.kp (T.b_read_mend) .nil pass0 (pa_cons (pe_slice sl_list (pv 1) (po_some pe_int) po_none) pa_nil)))))))))))))
theorem ok_law_cell (T : Tx P w K mg base) : FnOk P w K mg base CX0 (1) (He.fAd K ("_law_cell", none)) (fdOf K (He.fAd K ("_law_cell", none))) ["script", "k"] (sp_law_cell (rt P w K mg base)) := by
  refine fun_okK T.f_law_cell sc_law_cell (fun vs H Q E h => h.len) (fun A outer s H vs Q E hr h => ⟨t_law_cell (rt P w K mg base), ?_, pu_law_cell vs H Q E h⟩)
  exact (pss_cons (ps_if (pt_cmpR op_lt (pv 1) (pe_callB call_len rfl T.n_len PySem.boot_len (pa_cons (pv 0) pa_nil)) (nomark _)) (pss_one (ps_ret (pe_ix ix_list (pv 0) (pv 1) (fun _ _ => rfl)))) pss_nil)
  (pss_cons (ps_set (i := 2) sc_law_cell.nd rfl (Or.inl rfl) pe_int)
  (pss_cons (ps_if (pt_cmpR op_gt (pe_callB call_len rfl T.n_len PySem.boot_len (pa_cons (pv 0) pa_nil)) pe_int (nomark _)) (pss_one (ps_set (i := 2) sc_law_cell.nd rfl (Or.inl rfl) (pe_op op_mod (pe_ix ix_list (pv 0) (pe_op op_mod (pv 1) (pe_callB call_len rfl T.n_len PySem.boot_len (pa_cons (pv 0) pa_nil))) (fun _ _ => rfl)) pe_int))) pss_nil)
  (pss_one (ps_ret (pe_op op_mod (pe_op op_mul (pe_op op_add (pe_op op_add (pv 2) (pe_op op_mul (pv 1) (pv 1))) pe_int) (pe_op op_add pe_int (pe_op op_mul pe_int (pv 1)))) pe_int))))))
theorem ok_law_number (T : Tx P w K mg base) : FnOk P w K mg base CX0 (1) (He.fAd K ("_law_number", none)) (fdOf K (He.fAd K ("_law_number", none))) ["cell"] (sp_law_number (rt P w K mg base)) := by
  refine fun_okK T.f_law_number sc_law_number (fun vs H Q E h => h.len) (fun A outer s H vs Q E hr h => ⟨t_law_number (rt P w K mg base), ?_, pu_law_number vs H Q E h⟩)
  exact (pss_cons (ps_set (i := 1) sc_law_number.nd rfl (Or.inl rfl) (pe_op op_sub (pe_op op_pow pe_int pe_int) pe_int))
  (pss_cons (ps_if (pt_cmpR op_eq (pe_op op_mod (pv 0) pe_int) pe_int (nomark _)) (pss_one (ps_ret (pe_op op_sub (pe_op op_mod (pe_op op_fdiv (pv 0) pe_int) (pe_op op_add (pe_op op_mul pe_int (pv 1)) pe_int)) (pv 1)))) pss_nil)
  (pss_cons (ps_if (pt_cmpR op_eq (pe_op op_mod (pv 0) pe_int) pe_int (nomark _)) (pss_one (ps_ret (pe_ix ix_list (pe_lst (pa_cons (pv 1) (pa_cons (pe_op op_sub pe_int (pv 1)) (pa_cons pe_int (pa_cons (pe_op op_pow pe_int pe_int) (pa_cons (pe_op op_sub pe_int (pe_op op_pow pe_int pe_int)) pa_nil)))))) (pe_op op_mod (pe_op op_fdiv (pv 0) pe_int) pe_int) (fun _ _ => rfl)))) pss_nil)
  (pss_one (ps_ret (pe_op op_sub (pe_op op_mod (pe_op op_fdiv (pv 0) pe_int) pe_int) pe_int))))))
theorem ok_law_key (T : Tx P w K mg base) : FnOk P w K mg base CX0 (1) (He.fAd K ("_law_key", none)) (fdOf K (He.fAd K ("_law_key", none))) ["cell"] (sp_law_key (rt P w K mg base)) := by
  refine fun_okK T.f_law_key sc_law_key (fun vs H Q E h => h.len) (fun A outer s H vs Q E hr h => ⟨t_law_key (rt P w K mg base), ?_, pu_law_key vs H Q E h⟩)
  exact (pss_cons (ps_if (pt_cmpR op_eq (pe_op op_mod (pv 0) pe_int) pe_int (nomark _)) (pss_one (ps_ret (pe_tup (pa_cons pe_str (pa_cons pe_str pa_nil))))) pss_nil)
  (pss_one (ps_ret (pe_ix ix_list (pe_lst (pa_cons pe_int (pa_cons pe_int (pa_cons (pe_un un_neg pe_int) (pa_cons (pe_op op_sub (pe_op op_pow pe_int pe_int) pe_int) pa_nil))))) (pe_op op_mod (pv 0) pe_int) (fun _ _ => rfl)))))
theorem ok_law_asked (T : Tx P w K mg base) : FnOk P w K mg base CX0 (1) (He.fAd K ("_law_asked", none)) (fdOf K (He.fAd K ("_law_asked", none))) ["key", "keys", "place"] (sp_law_asked (rt P w K mg base)) := by
  refine fun_okK T.f_law_asked sc_law_asked (fun vs H Q E h => h.len) (fun A outer s H vs Q E hr h => ⟨t_law_asked (rt P w K mg base), ?_, pu_law_asked vs H Q E h⟩)
  exact (pss_cons (ps_set (i := 3) sc_law_asked.nd rfl (Or.inl rfl) (pe_lst (pa_cons (pe_tup (pa_cons pe_str (pa_cons pe_str (pa_cons (pv 2) pa_nil)))) pa_nil)))
  (pss_cons (ps_if (pt_val (pe_callB call_isi rfl T.n_isinstance (by decide +kernel) (pa_cons (pv 0) (pa_cons (pe_bltn (v := .ty "tuple") rfl T.n_tuple (by decide +kernel) rfl) pa_nil)))) (pss_one (ps_ret (pe_tup (pa_cons (pv 3) (pa_cons (pe_tup (pa_cons pe_str (pa_cons (pv 0) pa_nil))) (pa_cons pe_non pa_nil)))))) pss_nil)
  (pss_cons (ps_for PassesOwn.never rfl (pi_range1 rfl T.n_range (pa_cons (pe_callB call_len rfl T.n_len PySem.boot_len (pa_cons (pv 1) pa_nil)) pa_nil)) (pg_name (i := 4) sc_law_asked.nd rfl (Or.inl rfl))
  (pss_cons (ps_expr (pe_bm PySem.F.plainAttrs_list PySem.F.slot_list_append PySem.F.type_list_append mt_append (pv 3) (pa_cons (pe_tup (pa_cons pe_str (pa_cons pe_str (pa_cons (pv 4) pa_nil)))) pa_nil)))
  (pss_one (ps_if (pt_cmpR (op_eqD hr.units) (pe_ix ix_list (pv 1) (pv 4) (fun _ _ => rfl)) (pv 0) (nomark _)) (pss_one (ps_ret (pe_tup (pa_cons (pe_op op_catI (pv 3) (pe_lst (pa_cons (pe_tup (pa_cons pe_str (pa_cons pe_str (pa_cons (pv 4) pa_nil)))) pa_nil))) (pa_cons pe_non (pa_cons (pv 4) pa_nil)))))) pss_nil))))
  (pss_one (ps_ret (pe_tup (pa_cons (pv 3) (pa_cons (pe_tup (pa_cons pe_str (pa_cons (pe_tup (pa_cons pe_str (pa_cons pe_str pa_nil))) pa_nil))) (pa_cons pe_non pa_nil)))))))))
theorem ok_law_once (T : Tx P w K mg base) : FnOk P w K mg base CX0 (1) (He.fAd K ("_law_once", none)) (fdOf K (He.fAd K ("_law_once", none))) ["spots"] (sp_law_once (rt P w K mg base)) := by
  refine fun_okK T.f_law_once sc_law_once (fun vs H Q E h => h.len) (fun A outer s H vs Q E hr h => ⟨t_law_once (rt P w K mg base), ?_, pu_law_once vs H Q E h⟩)
  exact (pss_cons (ps_set (i := 1) sc_law_once.nd rfl (Or.inl rfl) (pe_lst pa_nil))
  (pss_cons (ps_for PassesOwn.never rfl (pi_list (pv 0)) (pg_name (i := 2) sc_law_once.nd rfl (Or.inl rfl))
  (pss_one (ps_if (pt_cmpR (op_notInD (huD hr)) (pv 2) (pv 1) (by rfl)) (pss_one (ps_expr (pe_bm PySem.F.plainAttrs_list PySem.F.slot_list_append PySem.F.type_list_append mt_append (pv 1) (pa_cons (pv 2) pa_nil)))) pss_nil)))
  (pss_one (ps_ret (pv 1)))))
theorem mk_law_lookup__law_look (T : Tx P w K mg base) : MkOk (rt P w K mg base) 1 ["gone", "key", "keys", "numbers"] 3 3 (spl_look55 (rt P w K mg base)) := by
  refine ⟨fun _ _ => rfl, ⟨(defScope s_law_lookup__law_look).names, fun _ _ => rfl, by decide +kernel, by decide +kernel⟩, fun f cells c => ?_⟩
  refine clo_of (k := 2) (F := mkF 1 cells c) (ps := ["table", "column", "at"]) sc_law_lookup__law_look (fun doc pm ctv us hl => match us, hl with | [_, _, _], _ => rfl) fun A outer s H vs ws Q E hr hl1 hl2 h => ?_
  exact ⟨tl_law_lookup__law_look (rt P w K mg base), (pss_cons (ps_expr (pe_bm PySem.F.plainAttrs_list PySem.F.slot_list_append PySem.F.type_list_append mt_append (pv 3) (pa_cons (pe_tup (pa_cons (pv 0) (pa_cons (pv 1) (pa_cons (pv 2) pa_nil)))) pa_nil)))
  (pss_cons (ps_if (pt_cmpR op_eq (pv 1) pe_str (nomark _)) (pss_one (ps_ret (pv 4))) pss_nil)
  (pss_cons (ps_if (pt_cmpR op_eq (pv 1) pe_str (nomark _)) (pss_one (ps_ret (pe_ix ix_list (pv 5) (pv 2) (fun _ _ => rfl)))) pss_nil)
  (pss_one (ps_ret (pe_ix ix_list (pv 6) (pv 2) (fun _ _ => rfl))))))), pul_look55 ws vs H Q E h⟩
theorem mk_law_lookup_lam (T : Tx P w K mg base) : MkOk (rt P w K mg base) 2 ["keys"] 3 1 (spl_many55 (rt P w K mg base)) := by
  refine ⟨fun _ _ => rfl, ⟨(lamScope s_law_lookup_lam).names, fun _ _ => rfl, by decide +kernel, by decide +kernel⟩, fun f cells c => ?_⟩
  refine clo_of (k := 2) (F := mkF 2 cells c) (ps := ["table"]) sc_law_lookup_lam (fun doc pm ctv us hl => match us, hl with | [_], _ => rfl) fun A outer s H vs ws Q E hr hl1 hl2 h => ?_
  exact ⟨tl_law_lookup_lam (rt P w K mg base), (pe_ix ix_list (pe_lst (pa_cons pe_int (pa_cons (pe_callB call_len rfl T.n_len PySem.boot_len (pa_cons (pv 1) pa_nil)) pa_nil))) (pe_callTy call_int1 rfl T.n_int (by decide +kernel) (pa_cons (pe_cmpR op_eq (pv 0) pe_str (nomark _)) pa_nil)) (fun _ _ => rfl)), pul_many55 ws vs H Q E h⟩
theorem ok_law_lookup (T : Tx P w K mg base) : FnOk P w K mg base CX0 (75) (He.fAd K ("_law_lookup", none)) (fdOf K (He.fAd K ("_law_lookup", none))) ["script", "key", "keys", "numbers"] (sp_law_lookup (rt P w K mg base)) := by
  refine fun_okK T.f_law_lookup sc_law_lookup (fun vs H Q E h => h.len) (fun A outer s H vs Q E hr h => ⟨t_law_lookup (rt P w K mg base) (cellsFrom (s.heap.objs.size + 1) (defScope s_law_lookup).names []), ?_, pu_law_lookup (mk_law_lookup__law_look T) (mk_law_lookup_lam T) T.k_Lookup T.i_Lookup ⟨_, T.tm_law_lookup, rfl⟩ (cellsFrom (s.heap.objs.size + 1) (defScope s_law_lookup).names []) (cells_all (by decide +kernel)) vs H Q E h⟩)
  exact (pss_cons (ps_set (i := 4) sc_law_lookup.nd rfl (Or.inl rfl) (pe_op op_mod (pe_call (ok_law_cell T) (hr.mono (by omega)) rfl T.g__law_cell T.f_law_cell.kp (T.b_law_cell) .nil pass0 (pa_cons (pv 0) (pa_cons pe_int pa_nil))) pe_int))
  (pss_cons (ps_set (i := 5) sc_law_lookup.nd rfl (Or.inl rfl) (pe_call (ok_read_rule T) (hr.mono (by omega)) rfl T.g_read_rule T.f_read_rule.kp (T.b_read_rule) .nil pass0 (pa_cons pe_str pa_nil)))
  (pss_cons (ps_set (i := 6) sc_law_lookup.nd rfl (Or.inr rfl) (pe_lst pa_nil))
  (pss_cons (ps_def (i := 7) T.tb_law_lookup rfl T.tm_law_lookup rfl T.tu_law_lookup (ndef_free (sc := defScope s_law_lookup) (nsc := defScope s_law_lookup__law_look) (fr := ["gone", "key", "keys", "numbers"]) (by decide +kernel)) rfl rfl rfl sc_law_lookup.nd rfl (Or.inl rfl) (.inl rfl))
  (pss_cons (ps_set (i := 8) sc_law_lookup.nd rfl (Or.inl rfl) (pe_methT (cellsOk_def (by decide +kernel)) (pv 5) T.c_Lookup T.mt_Lookup_gather (ok_Lookup_gather T 10) (hr.mono (by omega)) (T.b_Lookup_gather) (pa_cons (pv 7) (pa_cons (pe_lam T.tb_law_lookup rfl T.tm_law_lookup rfl T.tu_law_lookup rfl (ndef_free (sc := defScope s_law_lookup) (nsc := lamScope s_law_lookup_lam) (fr := ["keys"]) (by decide +kernel))) (pa_cons pe_str (pa_cons pe_str (pa_cons (pv 4) pa_nil)))))))
  (pss_cons (ps_asg (pe_call (ok_law_asked T) (hr.mono (by omega)) rfl T.g__law_asked T.f_law_asked.kp (T.b_law_asked) .nil pass0 (pa_cons (pv 1) (pa_cons (pv 2) (pa_cons (pv 4) pa_nil)))) (pg_tup rfl (pgs_cons (pg_name (i := 9) sc_law_lookup.nd rfl (Or.inl rfl)) (pgs_cons (pg_name (i := 10) sc_law_lookup.nd rfl (Or.inl rfl)) (pgs_cons (pg_name (i := 11) sc_law_lookup.nd rfl (Or.inl rfl)) pgs_nil)))))
  (pss_cons (ps_if (PW.pt (pw_or (pt_not (pt_val (pe_callB call_isi rfl T.n_isinstance (by decide +kernel) (pa_cons (pv 5) (pa_cons (pe_glob (v := .ref (He.ga K "Lookup")) rfl T.g_Lookup rfl) pa_nil))))) (pw_or1 (pt_cmpR (op_neD hr.units) (pe_call (ok_law_once T) (hr.mono (by omega)) rfl T.g__law_once T.f_law_once.kp (T.b_law_once) .nil pass0 (pa_cons (pv 6) pa_nil)) (pe_call (ok_law_once T) (hr.mono (by omega)) rfl T.g__law_once T.f_law_once.kp (T.b_law_once) .nil pass0 (pa_cons (pv 9) pa_nil)) (nomark _))))) (pss_one (ps_ret pe_bl)) pss_nil)
  (pss_cons (ps_if (pt_cmpR (op_neD hr.units) (pe_meth (pv 5) T.c_Lookup T.mt_Lookup_leans (ok_Lookup_leans T) (hr.mono (by omega)) (T.b_Lookup_leans) .nil pass0 (pa_cons pe_str pa_nil)) (pe_lst (pa_cons (pe_tup (pa_cons pe_str (pa_cons pe_str pa_nil))) (pa_cons (pe_tup (pa_cons pe_str (pa_cons pe_str pa_nil))) (pa_cons (pe_tup (pa_cons pe_str (pa_cons pe_str pa_nil))) pa_nil)))) (nomark _)) (pss_one (ps_ret pe_bl)) pss_nil)
  (pss_cons (ps_if (pt_cmpR op_isN1 (pv 11) pe_non (nomark _)) (pss_one (ps_ret (pe_cmpR (op_eqD hr.units) (pv 8) (pv 10) (nomark _)))) pss_nil)
  (pss_one (ps_ret (pe_and (pe_cmpR (op_eqD hr.units) (pv 8) (pe_tup (pa_cons pe_str (pa_cons (pe_lst (pa_cons (pe_ix ix_list (pv 3) (pv 11) (fun _ _ => rfl)) pa_nil)) pa_nil))) (nomark _)) (pe_one (pe_cmpR (op_eqD hr.units) (pe_meth (pv 5) T.c_Lookup T.mt_Lookup_reckon (ok_Rule_reckon T) (hr.mono (by omega)) (T.b_Rule_reckon) .nil pass0 (pa_cons (pe_ix ix_tup (pv 8) pe_int (fun _ _ => rfl)) pa_nil)) (pe_ix ix_list (pv 3) (pv 11) (fun _ _ => rfl)) (nomark _)))))))))))))))
theorem mk_law_mend_lam (T : Tx P w K mg base) : MkOk (rt P w K mg base) 3 ["value"] 3 3 (spl_mend (rt P w K mg base)) := by
  refine ⟨fun _ _ => rfl, ⟨(lamScope s_law_mend_lam).names, fun _ _ => rfl, by decide +kernel, by decide +kernel⟩, fun f cells c => ?_⟩
  refine clo_of (k := 2) (F := mkF 3 cells c) (ps := ["table", "column", "at"]) sc_law_mend_lam (fun doc pm ctv us hl => match us, hl with | [_, _, _], _ => rfl) fun A outer s H vs ws Q E hr hl1 hl2 h => ?_
  exact ⟨tl_law_mend_lam (rt P w K mg base), (pv 3), pul_mend ws vs H Q E h⟩
theorem mk_law_mend_lam2 (T : Tx P w K mg base) : MkOk (rt P w K mg base) 4 [] 3 1 (spl_three (rt P w K mg base)) := by
  refine ⟨fun _ _ => rfl, ⟨(lamScope s_law_mend_lam2).names, fun _ _ => rfl, by decide +kernel, by decide +kernel⟩, fun f cells c => ?_⟩
  refine clo_of (k := 2) (F := mkF 4 cells c) (ps := ["table"]) sc_law_mend_lam2 (fun doc pm ctv us hl => match us, hl with | [_], _ => rfl) fun A outer s H vs ws Q E hr hl1 hl2 h => ?_
  exact ⟨tl_law_mend_lam2 (rt P w K mg base), pe_int, pul_three ws vs H Q E h⟩
theorem ok_law_mend (T : Tx P w K mg base) : FnOk P w K mg base CX0 (75) (He.fAd K ("_law_mend", none)) (fdOf K (He.fAd K ("_law_mend", none))) ["script", "number"] (sp_law_mend (rt P w K mg base)) := by
  refine fun_okK T.f_law_mend sc_law_mend (fun vs H Q E h => h.len) (fun A outer s H vs Q E hr h => ⟨t_law_mend (rt P w K mg base) (cellsFrom (s.heap.objs.size + 1) (defScope s_law_mend).names []), ?_, pu_law_mend (mk_law_mend_lam T) (mk_law_mend_lam2 T) T.k_Mend T.i_Mend ⟨_, T.tm_law_mend, rfl⟩ (cellsFrom (s.heap.objs.size + 1) (defScope s_law_mend).names []) (cells_all (by decide +kernel)) vs H Q E h⟩)
  exact (pss_cons (ps_set (i := 2) sc_law_mend.nd rfl (Or.inl rfl) (pe_ix ix_list (pe_lst (pa_cons pe_str (pa_cons pe_str (pa_cons pe_str (pa_cons pe_str pa_nil))))) (pe_op op_mod (pe_call (ok_law_cell T) (hr.mono (by omega)) rfl T.g__law_cell T.f_law_cell.kp (T.b_law_cell) .nil pass0 (pa_cons (pv 0) (pa_cons pe_int pa_nil))) pe_int) (fun _ _ => rfl)))
  (pss_cons (ps_set (i := 3) sc_law_mend.nd rfl (Or.inr rfl) (pe_ix ix_list (pe_lst (pa_cons (pv 1) (pa_cons (pe_tup (pa_cons pe_str (pa_cons pe_str pa_nil))) (pa_cons (pe_tup (pa_cons pe_str (pa_cons pe_str pa_nil))) (pa_cons pe_int pa_nil))))) (pe_op op_mod (pe_call (ok_law_cell T) (hr.mono (by omega)) rfl T.g__law_cell T.f_law_cell.kp (T.b_law_cell) .nil pass0 (pa_cons (pv 0) (pa_cons pe_int pa_nil))) pe_int) (fun _ _ => rfl)))
  (pss_cons (ps_set (i := 4) sc_law_mend.nd rfl (Or.inl rfl) (pe_call (ok_law_number T) (hr.mono (by omega)) rfl T.g__law_number T.f_law_number.kp (T.b_law_number) .nil pass0 (pa_cons (pe_call (ok_law_cell T) (hr.mono (by omega)) rfl T.g__law_cell T.f_law_cell.kp (T.b_law_cell) .nil pass0 (pa_cons (pv 0) (pa_cons pe_int pa_nil))) pa_nil)))
  (pss_cons (ps_set (i := 5) sc_law_mend.nd rfl (Or.inl rfl) (pe_call (ok_read_rule T) (hr.mono (by omega)) rfl T.g_read_rule T.f_read_rule.kp (T.b_read_rule) .nil pass0 (pa_cons (pe_op op_add_str (pe_op op_add_str (pe_op op_add_str pe_str (pv 2)) pe_str) (pe_callTy call_str_int rfl T.n_str (by decide +kernel) (pa_cons (pv 4) pa_nil))) pa_nil)))
  (pss_cons (ps_set (i := 6) sc_law_mend.nd rfl (Or.inl rfl) (pe_methT (cellsOk_def (by decide +kernel)) (pv 5) T.c_Mend T.mt_Mend_gather (ok_Mend_gather T 10) (hr.mono (by omega)) (T.b_Mend_gather) (pa_cons (pe_lam T.tb_law_mend rfl T.tm_law_mend rfl T.tu_law_mend rfl (ndef_free (sc := defScope s_law_mend) (nsc := lamScope s_law_mend_lam) (fr := ["value"]) (by decide +kernel))) (pa_cons (pe_lam T.tb_law_mend rfl T.tm_law_mend rfl T.tu_law_mend rfl (ndef_free (sc := defScope s_law_mend) (nsc := lamScope s_law_mend_lam2) (fr := []) (by decide +kernel))) (pa_cons pe_str (pa_cons pe_str (pa_cons pe_int pa_nil)))))))
  (pss_cons (ps_if (PW.pt (pw_or (pt_not (pt_val (pe_callB call_isi rfl T.n_isinstance (by decide +kernel) (pa_cons (pv 5) (pa_cons (pe_glob (v := .ref (He.ga K "Mend")) rfl T.g_Mend rfl) pa_nil))))) (pw_or1 (pt_cmpR (op_neD hr.units) (pe_meth (pv 5) T.c_Mend T.mt_Mend_leans (ok_Mend_leans T) (hr.mono (by omega)) (T.b_Mend_leans) .nil pass0 (pa_cons pe_str pa_nil)) (pe_lst (pa_cons (pe_tup (pa_cons pe_str (pa_cons (pv 2) pa_nil))) pa_nil)) (nomark _))))) (pss_one (ps_ret pe_bl)) pss_nil)
  (pss_cons (ps_if (pt_val (pe_callB call_isi rfl T.n_isinstance (by decide +kernel) (pa_cons (pv 3) (pa_cons (pe_bltn (v := .ty "int") rfl T.n_int (by decide +kernel) rfl) pa_nil)))) (pss_one (ps_ret (pe_cmpR (op_eqD hr.units) (pv 6) (pe_tup (pa_cons pe_str (pa_cons (pv 3) pa_nil))) (nomark _)))) pss_nil)
  (pss_one (ps_ret (pe_and (pe_cmpR (op_eqD hr.units) (pv 6) (pe_tup (pa_cons pe_str (pa_cons (pe_lst pa_nil) pa_nil))) (nomark _)) (pe_one (pe_cmpR (op_eqD hr.units) (pe_meth (pv 5) T.c_Mend T.mt_Mend_reckon (ok_Rule_reckon T) (hr.mono (by omega)) (T.b_Rule_reckon) .nil pass0 (pa_cons (pe_lst pa_nil) pa_nil)) (pv 4) (nomark _)))))))))))))
theorem ok_law (T : Tx P w K mg base) : FnOk P w K mg base CX0 (80) (He.fAd K ("law", none)) (fdOf K (He.fAd K ("law", none))) ["script"] (sp_law (rt P w K mg base)) := by
  refine fun_okK T.f_law sc_law (fun vs H Q E h => h.len) (fun A outer s H vs Q E hr h => ⟨t_law (rt P w K mg base), ?_, pu_law55 vs H Q E h⟩)
  exact (pss_cons (ps_set (i := 1) sc_law.nd rfl (Or.inl rfl) (pe_op op_mod (pe_call (ok_law_cell T) (hr.mono (by omega)) rfl T.g__law_cell T.f_law_cell.kp (T.b_law_cell) .nil pass0 (pa_cons (pv 0) (pa_cons pe_int pa_nil))) pe_int))
  (pss_cons (ps_setLc (i := 2) (own := [("k", 5)]) (g := (gName 5)) (tt := tYes) (te := (tCall (sp_law_key (rt P w K mg base)) [] E0 (tCons (tCall (sp_law_cell (rt P w K mg base)) [] E0 (tCons (tVar 0) (tCons (tOp rAddI (tC (.int 6)) (tVar 5)) tNil))) tNil))) rfl sc_law.nd rfl rfl (sw_true rfl rfl rfl (by decide +kernel)) (pi_range1 rfl T.n_range (pa_cons (pv 1) pa_nil)) (blkOk_by (N := ["script", "many", "keys", "numbers", "key", "k"]) (sc := defScope s_law) (by decide +kernel)) (fun _ _ _ _ _ => by exact (pg_name (i := 5) sc_law.nd rfl (Or.inl rfl))) (fun _ _ _ _ _ => by exact pts_nil) (fun _ _ _ _ _ => by exact (pe_call (ok_law_key T) (hr.mono (by omega)) rfl T.g__law_key T.f_law_key.kp (T.b_law_key) .nil pass0 (pa_cons (pe_call (ok_law_cell T) (hr.mono (by omega)) rfl T.g__law_cell T.f_law_cell.kp (T.b_law_cell) .nil pass0 (pa_cons (pv 0) (pa_cons (pe_op op_add pe_int (pv 5)) pa_nil))) pa_nil))))
  (pss_cons (ps_setLc (i := 3) (own := [("k", 5)]) (g := (gName 5)) (tt := tYes) (te := (tCall (sp_law_number (rt P w K mg base)) [] E0 (tCons (tCall (sp_law_cell (rt P w K mg base)) [] E0 (tCons (tVar 0) (tCons (tOp rAddI (tC (.int 15)) (tVar 5)) tNil))) tNil))) rfl sc_law.nd rfl rfl (sw_true rfl rfl rfl (by decide +kernel)) (pi_range1 rfl T.n_range (pa_cons (pv 1) pa_nil)) (blkOk_by (N := ["script", "many", "keys", "numbers", "key", "k"]) (sc := defScope s_law) (by decide +kernel)) (fun _ _ _ _ _ => by exact (pg_name (i := 5) sc_law.nd rfl (Or.inl rfl))) (fun _ _ _ _ _ => by exact pts_nil) (fun _ _ _ _ _ => by exact (pe_call (ok_law_number T) (hr.mono (by omega)) rfl T.g__law_number T.f_law_number.kp (T.b_law_number) .nil pass0 (pa_cons (pe_call (ok_law_cell T) (hr.mono (by omega)) rfl T.g__law_cell T.f_law_cell.kp (T.b_law_cell) .nil pass0 (pa_cons (pv 0) (pa_cons (pe_op op_add pe_int (pv 5)) pa_nil))) pa_nil))))
  (pss_cons (ps_set (i := 4) sc_law.nd rfl (Or.inl rfl) (pe_call (ok_law_key T) (hr.mono (by omega)) rfl T.g__law_key T.f_law_key.kp (T.b_law_key) .nil pass0 (pa_cons (pe_call (ok_law_cell T) (hr.mono (by omega)) rfl T.g__law_cell T.f_law_cell.kp (T.b_law_cell) .nil pass0 (pa_cons (pv 0) (pa_cons pe_int pa_nil))) pa_nil)))
  (pss_one (ps_ret (pe_and (pe_call (ok_law_lookup T) (hr.mono (by omega)) rfl T.g__law_lookup T.f_law_lookup.kp (T.b_law_lookup) .nil pass0 (pa_cons (pv 0) (pa_cons (pv 4) (pa_cons (pv 2) (pa_cons (pv 3) pa_nil))))) (pe_one (pe_call (ok_law_mend T) (hr.mono (by omega)) rfl T.g__law_mend T.f_law_mend.kp (T.b_law_mend) .nil pass0 (pa_cons (pv 0) (pa_cons (pe_call (ok_law_number T) (hr.mono (by omega)) rfl T.g__law_number T.f_law_number.kp (T.b_law_number) .nil pass0 (pa_cons (pe_call (ok_law_cell T) (hr.mono (by omega)) rfl T.g__law_cell T.f_law_cell.kp (T.b_law_cell) .nil pass0 (pa_cons (pv 0) (pa_cons pe_int pa_nil))) pa_nil)) pa_nil)))))))))))
end
/-! ### the end -/
theorem law_end {w : World} {K : PySem.W.Frag} {mg : Str → Option Value} {h : Heap} {f : Addr} (X : K.In h) (G : h.Ns mainGlobals mg) (hmg : mg ("law" : Str) = some (.ref f)) (c : He.SaysX fa fn ts tf exf w h K) :
    LamX.LawAtS PySem.Challenge.rw_lazycols_k55_lookup_and_mend_read w K CX0 80 63 "script" mg f h := by
  have e := hmg.symm.trans (He.glo_ok X G (c.t.d.fact 21 (f := .glo "law") rfl))
  have e2 : f = He.fAd K ("law", none) := by
    cases e
    rfl
  subst e2
  obtain ⟨_, FD⟩ := c.t.d.def_ 30 (d := fn_law) rfl
  have F := fdOf_eq FD
  refine ⟨fdOf K (He.fAd K ("law", none)), tf.map (He.cT K), sp_law (rt PySem.Challenge.rw_lazycols_k55_lookup_and_mend_read.prog w K mg h), ?_, ?_, ?_, ?_, ?_, fun base hb hg htb => ?_⟩
  · intro p hp
    obtain ⟨q, hq, rfl⟩ := List.mem_map.mp hp
    exact c.empty q hq
  · intro p hp
    obtain ⟨q, hq, rfl⟩ := List.mem_map.mp hp
    exact c.out q hq
  · intro p hp
    obtain ⟨q, hq, rfl⟩ := List.mem_map.mp hp
    exact PySem.W.codeHd_of_K X (c.hd q hq)
  · have b := FunD.bindsA (ps := ["script"]) F fun _ _ _ _ _ _ us hl => match us, hl with | [_], _ => rfl
    exact fun s v => b s [v] rfl
  · intro H a ns hl _ hT hS
    refine ⟨_, rfl, a, ns, rfl, hS, hl, tabs_empty fun p hp => ?_, fun _ => rfl⟩
    rcases List.mem_cons.mp hp with rfl | hp
    · exact hT (He.cT K ("read_lookup", none)) (List.mem_map.mpr ⟨_, by decide, rfl⟩)
    rcases List.mem_cons.mp hp with rfl | hp
    · exact hT (He.cT K ("read_mend", none)) (List.mem_map.mpr ⟨_, by decide, rfl⟩)
    rcases List.mem_cons.mp hp with rfl | hp
    · exact hT (He.cT K ("_law_lookup", none)) (List.mem_map.mpr ⟨_, by decide, rfl⟩)
    rcases List.mem_cons.mp hp with rfl | hp
    · exact hT (He.cT K ("_law_mend", none)) (List.mem_map.mpr ⟨_, by decide, rfl⟩)
    exact nomatch hp
  · exact ok_law (tx_of (P := PySem.Challenge.rw_lazycols_k55_lookup_and_mend_read.prog) X G c fun p hp => htb _ (List.mem_map.mpr ⟨p, hp, rfl⟩))
/-! ### the head -/
abbrev R0 : PySem.W.OpenRow := PySem.W.OpenLaw.row PySem.Challenge.rw_lazycols_k55_lookup_and_mend_read
abbrev hk : PySem.W.Hook := hookC 5 fa fn ts tf exf
def ob (s : PySem.W.SharedT) : He.AlX := obsC 5 fa fn ts tf exf (HandSHeadRun.getT s)
theorem ob_eq (s : PySem.W.SharedT) : ob s = hk.obs s.abs := obsC_eq (HandSHeadRun.getT_eq s)
def names : List Str := (["ColsError", "NoName", "NoValue", "NoText", "LETTERS", "is_whole", "is_name", "is_fault", "is_number", "is_value", "fault", "settled", "FIGURES", "whole_of", "SIGNS", "GREAT", "NOUGHT", "read_from", "read_reckoning", "names_in", "within", "signed", "reckoned", "MOST_NAMES", "name_told", "names_told", "each_once", "looked", "Rule", "Cells"] : List Str) ++ (["Above", "Group", "Lookup", "Mend", "HEADS", "GROUPS", "of_group", "read_cells", "read_above", "read_group", "read_lookup", "read_mend", "read_rule", "_law_cell", "_law_number", "_law_key", "_law_asked", "_law_lookup", "_law_mend", "_law_once"] : List Str)
abbrev RQ (w : World) : Prop := HandSHeadRun.RunEq R0 (PySem.W.view R0.prog [57]) hk ob 5000 names w
set_option maxHeartbeats 0 in
theorem run0 (w : World) : RQ (w.withFollow "special-get-raises" false) := by
  intro os
  kernel_rfl
set_option maxHeartbeats 0 in
theorem run1 (w : World) : RQ (w.withFollow "special-get-raises" true) := by
  intro os
  kernel_rfl
theorem run (w : World) : RQ w := PySem.W.byRow2 "special-get-raises" (P := RQ) run0 run1 w
end Z
open PySem PySem.W PySem.Calls PyProof.Rows
theorem PySem.Challenge.cw_lazycols_k55_lookup_and_mend_read_holds : PySem.Challenge.rw_lazycols_k55_lookup_and_mend_read.Holds := by
  w_on; o_law
  refine HandSHeadRun.head_any (r := OpenLaw.row PySem.Challenge.rw_lazycols_k55_lookup_and_mend_read) (q := view (OpenLaw.row PySem.Challenge.rw_lazycols_k55_lookup_and_mend_read).prog [57]) (H := Z.hk) (ob := Z.ob) (M := 5000) (loose := Z.names) (d := HandSHeadRun.topDef (OpenLaw.row PySem.Challenge.rw_lazycols_k55_lookup_and_mend_read).prog 57) (kwd := []) Z.ob_eq
    (by kernel_rfl) (fun s => by kernel_rfl) Z.run (by kernel_rfl) (by kernel_rfl) (by kernel_rfl) (by rfl) (by first | assumption | decide +kernel) (by decide +kernel) ⟨rfl, rfl, rfl, rfl, rfl, by decide +kernel⟩ ?hw ?hc
  case hw => w_witness2
  case hc =>
    refine LamX.walk_ofTsE (l := PySem.Challenge.rw_lazycols_k55_lookup_and_mend_read) (n := 63) (k := 80) (x := "script") (CX := fun _ => L2.CX0) rfl (by decide) (by kernel_rfl) ⟨rfl, by decide, by decide⟩ ?F (fun _ _ _ _ _ z => z)
    intro w mg fa h Y G hmg0
    obtain ⟨K, KX, c⟩ := Y
    have hmg : mg ("law" : PySem.Str) = some (.ref fa) := by
      have e : (HandSHeadRun.topDef (OpenLaw.row PySem.Challenge.rw_lazycols_k55_lookup_and_mend_read).prog 57).name = ("law" : PySem.Str) := by kernel_rfl
      rw [← e]
      exact hmg0
    exact ⟨K, KX, Z.law_end KX G hmg c⟩
