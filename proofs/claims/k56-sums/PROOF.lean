import PyProof.Rows.All
import Wide.All
import OpenK.AllK
import Wide.FinOn
import HandS.ForMost
import HandS.ForExc
import HandS.Deep
import HandS.Wide
import HandS.Lambda
import HandS.EndTab
import HandS.HeadWalk
import HandS.HotCalls
import HandS.ExcIs
import HandS.TupMul
import HandS.Zip
import HandS.Rev
import HandS.Star
import HandS.Style
import HandS.SortInts
import HandS.TupAny
import PyProof.ReprRoads
import PySem.Challenge.RW_nearestkind_k56_whole_sums_without_waiti
import PyProof.Rows.RegStrFacts
set_option Elab.async false
set_option linter.all false
set_option maxRecDepth 100000
set_option maxHeartbeats 4000000
namespace DD
open PySem PySem.Spec PyProof.Rows L2
open LamX (TabS Tabs TabB CodeO ExtN inv_table among_app lamEnv)
/-! a lambda handed to a def: without parameters, or with one that has a number for its default -/
abbrev laFn (name qual : Str) (params : Arguments) (body : Expr) (scope : Scope) (cl : List (Str × Addr)) (dV pm cdv ct : Value) : FuncData :=
  { name, qualname := qual, params, body := .expr body, scope, globals := mainGlobals, closure := cl, defaults := dV, kwdefaults := .none, doc := .none, pyModule := pm, annotations := none, code := cdv, closureTuple := ct, builtins := builtinsNs }
abbrev laObj (name qual : Str) (params : Arguments) (body : Expr) (scope : Scope) (clos : List (Str × Addr)) (dV pm : Value) (c' : Addr) (ctv : Value) : Obj :=
  { cls := .type "function", data := .func (laFn name qual params body scope clos dV pm (.ref c') ctv) }
/-- the parameters that a lambda may have -/
def pdB : Arguments → Option (List Str)
  | ⟨[], [], none, [], [], none, []⟩ => some []
  | ⟨[], [⟨y, _, _⟩], none, [], [], none, [.Constant (.int _) _ _]⟩ => some [y]
  | _ => none
inductive PD : Arguments → List Str → Prop
  | no : PD ⟨[], [], none, [], [], none, []⟩ []
  | one {y : Str} {an : Option Expr} {p1 p2 : Pos} {z : Int} {j : Nat} : PD ⟨[], [⟨y, an, p1⟩], none, [], [], none, [.Constant (.int z) j p2]⟩ [y]
theorem pd_by {ps : Arguments} {ys : List Str} (h : pdB ps = some ys) : PD ps ys := by
  unfold pdB at h
  split at h
  · cases h; exact .no
  · cases h; exact .one
  · cases h
def DfH (h : Heap) (ok : Addr → Prop) (dV : Value) (ys : List Str) : Prop := (ys = [] ∧ dV = .none) ∨ ∃ (y : Str) (T : Addr) (o : Obj) (u : Value) (n : Nat), ys = [y] ∧ dV = .ref T ∧ h.get? T = some o ∧ o.data = .seq #[u] n ∧ ok T
theorem DfH.keeps {h h' : Heap} {ok ok' : Addr → Prop} {dV : Value} {ys : List Str} (d : DfH h ok dV ys) (k : ∀ T o, ok T → h.get? T = some o → h'.get? T = some o ∧ ok' T) : DfH h' ok' dV ys := by
  rcases d with d | ⟨y, T, o, u, n, e1, e2, e3, e4, e5⟩
  · exact .inl d
  · exact .inr ⟨y, T, o, u, n, e1, e2, (k T o e5 e3).1, e4, (k T o e5 e3).2⟩
section
variable {M : Model} {A : Around} {E : Value → Shared → Prop} {s : Shared}
theorem la_binds {name qual : Str} {params : Arguments} {body : Expr} {scope : Scope} {cl : List (Str × Addr)} {dV pm cdv ct : Value} {ys : List Str} {ok : Addr → Prop} {Q : List (Str × Value) → Shared → Prop} (p : PD params ys) (d : DfH s.heap ok dV ys)
    (h : ∀ us : List Value, us.length = ys.length → Q (ys.zip us) s) : wpAny M A (bindArgs (laFn name qual params body scope cl dV pm cdv ct) ⟨[], []⟩) Q E s := by
  cases p with
  | no =>
    rcases d with ⟨_, rfl⟩ | ⟨_, _, _, _, _, e, _⟩
    · exact wpAny_pure (h [] rfl)
    · cases e
  | @one y an p1 p2 z j =>
    rcases d with ⟨e, _⟩ | ⟨y', T, o, u, n, e, rfl, e3, e4, _⟩
    · cases e
    · cases e
      have q := h [u] rfl
      have el : List.lookup y [(y, u)] = some u := by simp [List.lookup]
      show wpAny M A (seqItems? (.ref T) >>= _) Q E s
      refine wpAny_bind (wpAny_seqItems e3 e4 ?_)
      simp only [Option.getD_some, List.length_cons, List.length_nil, Nat.zero_add, List.map_cons, List.map_nil, List.nil_append, List.zip_nil_right, List.lookup_nil, Nat.sub_self, List.drop_zero, List.take_zero, List.filter_nil]
      simp [List.lookup]
      exact wpAny_pure q
abbrev laFd (name qual : Str) (params : Arguments) (body : Expr) (scope : Scope) (cl : List (Str × Addr)) (dV ct : Value) (pos : Pos) (ln : Nat) (env : PySem.Env) : Sem Value := do
  let fd : FuncData := { name, qualname := qual, params, body := .expr body, scope, globals := mainGlobals, closure := cl, closureTuple := ct, code := ← functionCode env pos ln name qual params scope (.expr body), builtins := ← builtinsFor mainGlobals env.builtins, defaults := dV, kwdefaults := .none, annotations := none, pyModule := (← nsGet mainGlobals "__name__").getD .none, doc := ← (pure .none : Sem Value) }
  newObj (.type "function") (.func fd)
theorem la_fd {name qual : Str} {params : Arguments} {body : Expr} {scope : Scope} {env : PySem.Env} {c P : Addr} {ps : Array Value} {pos : Pos} {ln : Nat} {mg : Str → Option Value} {clos : List (Str × Addr)} {Q : Value → Shared → Prop} {dV ct : Value} {h0 : Heap}
    (k : ∀ b o, s.heap.get? b = some o → h0.get? b = some o) (sz : s.heap.objs.size ≤ h0.objs.size) (g0 : h0.Ns mainGlobals mg)
    (hcode : env.code = .ref c) (C : PySem.W.CodeHd s.heap c P) (hP : s.heap.get? P = some { cls := .none, data := .fields ps }) (ht : TriplesOk ps.toList)
    (hgP : mainGlobals ≠ P) (hb : s.heap.BuiltinsAt mg P)
    (miss : codeAmong pos ps.toList = none → ∀ c' ctv h' tk, Heap.ExtBut P s.heap h' → s.heap.objs.size ≤ c' → c' < h'.objs.size → h'.CodeRec (.ref c') qual → h'.get? P = some { cls := .none, data := .fields (ps ++ #[rawInt pos.line, rawInt pos.col, .ref c']) } →
      Q (.ref h'.objs.size) { s with heap := h'.push (laObj name qual params body scope clos dV ((mg "__name__").getD .none) c' ctv), toks := tk })
    (hit : ∀ cv, codeAmong pos ps.toList = some cv → ∀ (ctv : Value) (h' : Heap) (tk : Tok), (∀ b o, s.heap.get? b = some o → h'.get? b = some o) → s.heap.objs.size ≤ h'.objs.size →
      Q (.ref h'.objs.size) { s with heap := h'.push { cls := .type "function", data := .func (laFn name qual params body scope clos dV ((mg "__name__").getD .none) cv ctv) }, toks := tk }) :
    wpAny M A (laFd name qual params body scope clos dV ct pos ln env) Q E { s with heap := h0 } := by
  obtain ⟨bm, ob, hbm, hne0, _, hneP, hbo, hcls, hdict, hdata⟩ := hb
  have C0 := C.keeps k
  cases hf : codeAmong pos ps.toList with
  | none =>
    refine wpAny_bind (wpAny_functionCodeX hcode (C0.code (k _ _ hP) ht) (C0.tab (k _ _ hP)) hf fun c' h' tk hx hge hlt _ hrec htb _ => ?_)
    have hg' := g0.extBut hx hgP
    refine wpAny_bind (wpAny_builtinsFor hg' hbm hne0 (hx _ _ hneP (k _ _ hbo)) hcls hdict hdata ?_)
    refine wpAny_bind (wpAny_nsGet hg' ?_)
    exact wpAny_bind (wpAny_pure (wpAny_newObj_type (miss hf c' _ h' tk (fun b o hb' e => hx b o hb' (k _ _ e)) (Nat.le_trans sz hge) hlt hrec htb.2) (by size_fits)))
  | some cv =>
    refine wpAny_bind (wpAny_functionCode_hit hcode (C0.code (k _ _ hP) ht) hf ?_)
    refine wpAny_bind (wpAny_builtinsFor g0 hbm hne0 (k _ _ hbo) hcls hdict hdata ?_)
    refine wpAny_bind (wpAny_nsGet g0 ?_)
    exact wpAny_bind (wpAny_pure (wpAny_newObj_type (hit cv hf _ _ s.toks k sz) (by size_fits)))
/-- the making, its defaults' tuple dV at hand -/
theorem la_tail {name qual : Str} {params : Arguments} {body : Expr} {scope : Scope} {env : PySem.Env} {c P : Addr} {ps : Array Value} {pos : Pos} {ln : Nat} {mg : Str → Option Value} {clos : List (Str × Addr)} {Q : Value → Shared → Prop} {dV : Value}
    (hcl : closureFor scope env = pure clos) (hge0 : env.globals = mainGlobals) (hg : s.heap.Ns mainGlobals mg) (hcode : env.code = .ref c) (C : PySem.W.CodeHd s.heap c P) (hP : s.heap.get? P = some { cls := .none, data := .fields ps }) (ht : TriplesOk ps.toList)
    (hgP : mainGlobals ≠ P) (hb : s.heap.BuiltinsAt mg P)
    (miss : codeAmong pos ps.toList = none → ∀ c' ctv h' tk, Heap.ExtBut P s.heap h' → s.heap.objs.size ≤ c' → c' < h'.objs.size → h'.CodeRec (.ref c') qual → h'.get? P = some { cls := .none, data := .fields (ps ++ #[rawInt pos.line, rawInt pos.col, .ref c']) } →
      Q (.ref h'.objs.size) { s with heap := h'.push (laObj name qual params body scope clos dV ((mg "__name__").getD .none) c' ctv), toks := tk })
    (hit : ∀ cv, codeAmong pos ps.toList = some cv → ∀ (ctv : Value) (h' : Heap) (tk : Tok), (∀ b o, s.heap.get? b = some o → h'.get? b = some o) → s.heap.objs.size ≤ h'.objs.size →
      Q (.ref h'.objs.size) { s with heap := h'.push { cls := .type "function", data := .func (laFn name qual params body scope clos dV ((mg "__name__").getD .none) cv ctv) }, toks := tk }) :
    wpAny M A (makeTail name qual params (.expr body) scope env dV .none none pos ln) Q E s := by
  unfold makeTail
  rw [hcl, hge0]
  refine wpAny_bind (wpAny_pure ?_)
  have nil : ∀ ct, wpAny M A (laFd name qual params body scope clos dV ct pos ln env) Q E s := fun ct => la_fd (h0 := s.heap) (fun _ _ e => e) (Nat.le_refl _) hg hcode C hP ht hgP hb miss hit
  have one : ∀ ct o, wpAny M A (laFd name qual params body scope clos dV ct pos ln env) Q E { s with heap := s.heap.push o } := fun ct o => la_fd (h0 := s.heap.push o) (fun b o e => Heap.get?_push_of_some _ e) (by rw [Heap.size_push]; omega) (hg.push _) hcode C hP ht hgP hb miss hit
  cases clos with
  | nil =>
    simp only [List.isEmpty_nil, if_true]
    exact wpAny_bind (wpAny_pure (nil .none))
  | cons q r =>
    simp only [List.isEmpty_cons, Bool.false_eq_true, if_false]
    exact wpAny_bind (wpAny_newTextTuple (one _ _))
end
end DD



set_option Elab.async false
set_option linter.all false
set_option maxRecDepth 100000
set_option maxHeartbeats 4000000
namespace DD
open PySem PySem.Spec PyProof.Rows L2
open LamX (TabS Tabs TabB CodeO ExtN inv_table among_app lamEnv)
section
variable {X : Cx} {pins : List (Addr × Obj)} {σ : L2.St} {H : Hp} {s : Shared}
/-- free of what the context tracks -/
def okA (X : Cx) (H : Hp) (a : Addr) : Prop := H a = none ∧ a ∉ frs X.stack
theorem la_make {T : List (Addr × Str)} {c P : Addr} {params : Arguments} {body : Expr} {scope : Scope} {pos : Pos} {E : Value → Shared → Prop} {Q : Value → Shared → Prop} {ys : List Str} (I : Inv X pins σ H s) (TB : TabB X.base X.mg c P) (hcode : X.env.code = .ref c)
    (hm : (P, X.env.qual ++ "<lambda>") ∈ T) (hu : ∀ p ∈ T, p.1 = P → p.2 = X.env.qual ++ "<lambda>") (hT : Tabs T H) (hp : PD params ys) (hfree : ∀ y ∈ scope.names, y.2 = .free → ∃ c, X.env.cells.lookup y.1 = some c)
    (h : ∀ (f c' : Addr) (dV pm ctv : Value) (H1 : Hp) (s' : Shared), Inv X pins σ H1 s' → ExtN H H1 → (∀ b, H b ≠ none → H1 b ≠ none) → Tabs T H1 → DfH s'.heap (okA X H1) dV ys →
      s'.heap.get? f = some (laObj "<lambda>" (X.env.qual ++ "<lambda>") params body scope (cloFrom X.env.cells scope.names []) dV pm c' ctv) → okA X H1 f → H1 c' = some (CodeO c' (X.env.qual ++ "<lambda>")) → Q (.ref f) s') :
    wpAny (model X.prog X.w) X.A (eval (.Lambda params body scope pos) X.env) Q E s := by
  have main : ∀ {dV : Value} {s : Shared}, Inv X pins σ H s → DfH s.heap (okA X H) dV ys →
      wpAny (model X.prog X.w) X.A (makeTail "<lambda>" (X.env.qual ++ "<lambda>") params (.expr body) scope X.env dV .none none pos pos.line) Q E s := by
    intro dV s I df
    obtain ⟨ps, hP, ht, ha⟩ := hT _ hm
    have bP : s.heap.BuiltinsAt X.mg P := TB.bm.keeps I.bk
    have hP' : s.heap.get? P = some { cls := .none, data := .fields ps } := I.hok P _ hP
    have nofr : ∀ f, s.heap.objs.size ≤ f → f ∉ frs X.stack := fun f hf z => by
      rcases List.mem_cons.mp (I.stkSub _ z) with e | e
      · have h1 := I.lt
        rw [← e] at h1
        exact Nat.lt_irrefl _ (Nat.lt_of_lt_of_le h1 hf)
      · exact I.nofs hf e
    refine la_tail (mg := X.mg) (c := c) (P := P) (ps := ps) (closure_ok hfree) I.ok.glob (I.mod.glob.keeps I.bk) hcode (TB.code.keeps I.bk) hP' ht TB.gP bP (fun hc c' ctv h' tk hx hge hlt hrec htb => ?_) fun cv hc ctv h' tk hx hsz => ?_
    · obtain ⟨c2, oc, vs, t, e2, hoc, hd, hv⟩ := hrec
      cases e2
      have hsz : s.heap.objs.size ≤ h'.objs.size := Nat.le_trans hge (Nat.le_of_lt hlt)
      have nC : H c' = none := I.hok.fresh hge
      have I1 := inv_table (t' := tk) (more := #[rawInt pos.line, rawInt pos.col, .ref c']) (h' := h'.push (laObj "<lambda>" (X.env.qual ++ "<lambda>") params body scope (cloFrom X.env.cells scope.names []) dV ((X.mg "__name__").getD .none) c' ctv)) I hP
        (fun b o hb e => Heap.get?_push_of_some _ (hx b o hb e)) (Heap.get?_push_of_some _ htb) hge ⟨oc, vs, t, Heap.get?_push_of_some _ hoc, hd, hv⟩
      have hE : ExtN H (upd (upd H P (.tbl (ps ++ #[rawInt pos.line, rawInt pos.col, .ref c']))) c' (CodeO c' (X.env.qual ++ "<lambda>"))) := fun b o e n => by
        rw [upd_ne (ne_of_none e nC), upd_ne (fun z => n ps (Option.some.inj (e.symm.trans (by rw [z]; exact hP))))]
        exact e
      have eL : (ps ++ #[rawInt pos.line, rawInt pos.col, .ref c']).toList = ps.toList ++ [rawInt pos.line, rawInt pos.col, .ref c'] := by simp
      refine h h'.objs.size c' dV ((X.mg "__name__").getD .none) ctv _ _ I1 hE (fun b z => ?_) (fun p hp => ?_) (df.keeps fun T o hT e => ?_) (Heap.get?_push_size _ rfl) ⟨?_, nofr _ hsz⟩ upd_same
      · by_cases h1 : b = c'
        · rw [h1, upd_same]; exact fun z => nomatch z
        · rw [upd_ne h1]
          by_cases h2 : b = P
          · rw [h2, upd_same]; exact fun z => nomatch z
          · rw [upd_ne h2]; exact z
      · by_cases hb : p.1 = P
        · rw [hu p hp hb, hb]
          refine ⟨_, by rw [upd_ne (ne_of_none hP nC), upd_same], by rw [eL]; exact PySem.TriplesOk_snoc _ _ _ _ ht, fun p' cv hcv => ?_⟩
          rw [eL] at hcv
          rcases among_app _ ht hcv with z | z
          · obtain ⟨c0, e1, e2⟩ := ha p' cv z
            exact ⟨c0, e1, hE _ _ e2 LamX.codeO_ne⟩
          · exact ⟨c', z, upd_same⟩
        · obtain ⟨ps', a1, a2, a3⟩ := hT p hp
          refine ⟨ps', by rw [upd_ne (ne_of_none a1 nC), upd_ne hb]; exact a1, a2, fun p' cv hcv => ?_⟩
          obtain ⟨c0, e1, e2⟩ := a3 p' cv hcv
          exact ⟨c0, e1, hE _ _ e2 LamX.codeO_ne⟩
      · have nP : T ≠ P := fun z => by rw [z] at hT; rw [hT.1] at hP; cases hP
        have nT : T ≠ c' := fun z => by rw [z] at e; exact Nat.lt_irrefl _ (Nat.lt_of_lt_of_le (Heap.lt_size e) hge)
        exact ⟨Heap.get?_push_of_some _ (hx T o nP e), by rw [upd_ne nT, upd_ne nP]; exact hT.1, hT.2⟩
      · have n1 : h'.objs.size ≠ c' := Nat.ne_of_gt hlt
        have n2 : h'.objs.size ≠ P := Nat.ne_of_gt (Nat.lt_of_lt_of_le (Heap.lt_size hP') hsz)
        rw [upd_ne n1, upd_ne n2]
        exact I.hok.fresh hsz
    · obtain ⟨c', e, hco⟩ := ha pos cv hc
      subst e
      have I1 : Inv X pins σ H { s with heap := h'.push (laObj "<lambda>" (X.env.qual ++ "<lambda>") params body scope (cloFrom X.env.cells scope.names []) dV ((X.mg "__name__").getD .none) c' ctv), toks := tk } := I.kept fun b o e => Heap.get?_push_of_some _ (hx b o e)
      exact h h'.objs.size c' dV ((X.mg "__name__").getD .none) ctv H _ I1 (ExtN.refl H) (fun _ z => z) hT (df.keeps fun T o hT e => ⟨Heap.get?_push_of_some _ (hx T o e), hT⟩) (Heap.get?_push_size _ rfl) ⟨I.hok.fresh hsz, nofr _ hsz⟩ hco
  rw [arm_eval_Lambda]
  cases hp with
  | no =>
    show wpAny _ _ (do let dv ← evalAll []; let kdv ← holding dv (evalAllOpt []); makeFunction "<lambda>" (X.env.qual ++ "<lambda>") _ (.expr body) scope X.env dv kdv [] pos pos.line) Q E s
    refine wpAny_bind (wpAny_pure (wpAny_bind (wpAny_holding (wpAny_pure ?_))))
    rw [makeFunction_eq]
    simp only [List.zip_nil_right, List.filterMap_nil, List.isEmpty_nil, if_true, pure_bind]
    exact main I (.inl ⟨rfl, rfl⟩)
  | @one y an p1 p2 z j =>
    show wpAny _ _ (do let dv ← (do let v ← eval (.Constant (.int z) j p2) X.env; return v :: (← holding [v] (evalAll []))); let kdv ← holding dv (evalAllOpt []); makeFunction "<lambda>" (X.env.qual ++ "<lambda>") _ (.expr body) scope X.env dv kdv [] pos pos.line) Q E s
    refine wpAny_bind (wpAny_bind (wpAny_Constant_int (wpAny_bind (wpAny_holding (wpAny_pure (wpAny_pure (wpAny_bind (wpAny_holding (wpAny_pure ?_)))))))))
    rw [makeFunction_eq]
    simp only [List.zip_nil_right, List.filterMap_nil, List.isEmpty_nil, List.isEmpty_cons, Bool.false_eq_true, if_false, if_true, pure_bind]
    refine wpAny_bind (wpAny_newTextTuple ?_)
    have It := I.tok (s.toks + 1)
    refine main (It.kept fun b o e => Heap.get?_push_of_some _ e) (.inr ⟨y, s.heap.objs.size, _, _, 0, rfl, rfl, Heap.get?_push_size _ rfl, rfl, I.hok.fresh (Nat.le_refl _), fun z => ?_⟩)
    rcases List.mem_cons.mp (I.stkSub _ z) with e | e
    · have h1 := I.lt
      rw [← e] at h1
      exact Nat.lt_irrefl _ h1
    · exact I.nofs (Nat.le_refl _) e
end
end DD



set_option Elab.async false
set_option linter.all false
set_option maxRecDepth 100000
set_option maxHeartbeats 4000000
namespace DD
open PySem PySem.Spec PyProof.Rows L2
open LamX (TabS Tabs TabB CodeO ExtN lamEnv)
/-! the lambda called -/
/-- its names: parameters ys, captured ones and globals -/
structure LaS (ys : List Str) (sc scope : Scope) : Prop where
  kind : scope.kind = .function
  co : scope.isCoroutine = false
  gen : scope.isGenerator = false
  own : ∀ y ∈ scope.names, (y.2 = .local → y.1 ∈ ys) ∧ y.2 ≠ .cell
  par : ∀ y ∈ ys, scope.names.lookup y = some .local
  free : ∀ y ∈ scope.names, y.2 = .free → sc.names.lookup y.1 = some .cell ∨ sc.names.lookup y.1 = some .free
def laSB (ys : List Str) (sc scope : Scope) : Bool :=
  decide (scope.kind = .function) && !scope.isCoroutine && !scope.isGenerator && (scope.names.all fun y => (!decide (y.2 = .local) || decide (y.1 ∈ ys)) && !decide (y.2 = .cell) && (!decide (y.2 = .free) || decide (sc.names.lookup y.1 = some .cell) || decide (sc.names.lookup y.1 = some .free))) && ys.all fun y => decide (scope.names.lookup y = some .local)
theorem laS_by {ys : List Str} {sc scope : Scope} (h : laSB ys sc scope = true) : LaS ys sc scope := by
  unfold laSB at h
  simp only [Bool.and_eq_true, Bool.or_eq_true, Bool.not_eq_true', decide_eq_true_eq, decide_eq_false_iff_not, List.all_eq_true] at h
  obtain ⟨⟨⟨⟨h1, h2⟩, h3⟩, h4⟩, h5⟩ := h
  refine ⟨h1, h2, h3, fun y hy => ⟨fun e => ((h4 y hy).1.1).resolve_left fun z => z e, (h4 y hy).1.2⟩, h5, fun y hy e => ?_⟩
  rcases (h4 y hy).2 with (z | z) | z
  · exact absurd e z
  · exact .inl z
  · exact .inr z
theorem LaS.has {ys : List Str} {X : Cx} {scope : Scope} (L : LaS ys X.env.scope scope) (ok : X.Ok) : ∀ y ∈ scope.names, y.2 = .free → ∃ c, X.env.cells.lookup y.1 = some c := fun y hy e => by
  rcases L.free y hy e with k | k
  · exact ok.has _ (.inl k)
  · exact ok.has _ (.inr k)
/-- what the slots hold within: nothing of the parameters' names -/
def wipeN : List Str → List Str → L2.St → L2.St
  | y :: N, ys, v :: σ => (if y ∈ ys then none else v) :: wipeN N ys σ
  | [], _, σ => σ
  | _ :: _, _, [] => []
theorem wipeN_len : ∀ (N ys : List Str) (σ : L2.St), (wipeN N ys σ).length = σ.length
  | _ :: N, ys, _ :: σ => congrArg Nat.succ (wipeN_len N ys σ)
  | [], _, _ => by simp [wipeN]
  | _ :: _, _, [] => by simp [wipeN]
theorem wipeN_get : ∀ {N ys : List Str} {σ : L2.St} {i : Nat} {y : Str} {v : V}, N[i]? = some y → (wipeN N ys σ)[i]? = some (some v) → σ[i]? = some (some v) ∧ y ∉ ys
  | z :: N, ys, u :: σ, 0, y, v, h1, h2 => by
    have h1 : some z = some y := by simpa using h1
    cases h1
    have h2 : some (if z ∈ ys then none else u) = some (some v) := by simpa [wipeN] using h2
    split at h2
    · cases h2
    · cases h2; exact ⟨rfl, by assumption⟩
  | z :: N, ys, u :: σ, i + 1, y, v, h1, h2 => by
    have := wipeN_get (N := N) (ys := ys) (σ := σ) (i := i) (y := y) (v := v) (by simpa using h1) (by simpa [wipeN] using h2)
    exact ⟨by simpa using this.1, this.2⟩
  | [], _, _, i, _, _, h1, _ => by simp at h1
  | _ :: _, _, [], _, _, _, _, h2 => by simp [wipeN] at h2
theorem wipeN_put : ∀ {N ys : List Str} {σ : L2.St} {i : Nat} {v : V}, σ[i]? = some (some v) → (∀ y, N[i]? = some y → y ∉ ys) → (wipeN N ys σ)[i]? = some (some v)
  | z :: N, ys, u :: σ, 0, v, h1, h2 => by
    have h1 : u = some v := by simpa using h1
    have := h2 z rfl
    simp [wipeN, this, h1]
  | z :: N, ys, u :: σ, i + 1, v, h1, h2 => by
    have := wipeN_put (N := N) (ys := ys) (σ := σ) (i := i) (v := v) (by simpa using h1) (fun y hy => h2 y (by simpa using hy))
    simpa [wipeN] using this
  | [], _, _, _, _, h1, _ => by simpa [wipeN] using h1
  | _ :: _, _, [], _, _, h1, _ => by simp at h1
def laCx (X : Cx) (A : Around) (outer : List PySem.Env) (s : Shared) (H : Hp) (E : XK) (scope : Scope) (f c' : Addr) : Cx where
  prog := X.prog
  w := X.w
  K := X.K
  mg := X.mg
  base := X.base
  A := A.deeper (lamEnv X scope s.heap.objs.size f c')
  N := X.N
  s_0 := s
  H_0 := H
  env := lamEnv X scope s.heap.objs.size f c'
  outer := outer
  stack := lamEnv X scope s.heap.objs.size f c' :: outer
  ex := []
  fn := fun _ => false
  calm := true
  pn := []
  xe := fun e s' => wpAny (model X.prog X.w) (A.deeper (lamEnv X scope s.heap.objs.size f c')) (leaving (lamEnv X scope s.heap.objs.size f c') e) (fun _ s'' => L2N.CX X.prog X.w outer H s E e s'') (fun e' s'' => L2N.CX X.prog X.w outer H s E e' s'') s'
section
variable {X : Cx} {pins : List (Addr × Obj)} {σ : L2.St} {H HZ : Hp} {s s1 : Shared} {ys : List Str}
theorem la_start {A : Around} {outer : List PySem.Env} {E : XK} {scope : Scope} {f c' : Addr} {h₁ : Heap} {tk tk' : Nat} {binds : List (Str × Value)} (I : Inv X pins σ H s) (L : LaS ys X.env.scope scope) (e0 : Env0 X.prog X.w X.K X.mg X.base A outer s1 HZ) (hd : A.handled = none)
    (un : Un (frs X.stack) [] H HZ s.heap s1.heap) (hns : h₁.Ns s1.heap.objs.size fun y => binds.reverse.lookup y) (kp : ∀ b o, s1.heap.get? b = some o → h₁.get? b = some o) :
    Inv (laCx X A outer s1 HZ E scope f c') [] (wipeN X.N ys σ) HZ { s1 with heap := h₁, toks := tk } := by
  have hfree := L.has I.ok
  have cm : ∀ {y c}, (cloFrom X.env.cells scope.names []).lookup y = some c → X.env.cells.lookup y = some c := fun {y c} e => by
    rcases cloFrom_mem (PySem.mem_of_lookup e) with hm | ⟨h1, h2⟩
    · cases hm
    · obtain ⟨c1, hc⟩ := hfree _ h1 rfl
      have hc : X.env.cells.lookup y = some c1 := hc
      have e2 : c = c1 := by
        rw [h2, hc] <;> rfl
      rw [e2]
      exact hc
  have look : ∀ {y}, scope.names.lookup y = some .free → ∃ c, (cloFrom X.env.cells scope.names []).lookup y = some c := fun {y} hl => by
    have hy : (y, NameKind.free) ∈ scope.names := PySem.mem_of_lookup hl
    exact mem_lookup (cloFrom_has (cells := X.env.cells) (acc := []) hy)
  have cellK : ∀ {c : Addr} {v : Option Value}, H c = none → s.heap.IsCell c v → h₁.IsCell c v := fun {c v} n ⟨o, ho, hd⟩ => by
    obtain ⟨sl, q⟩ := un.any ho n (by simp)
    exact ⟨_, kp _ _ q, hd⟩
  have noA : ∀ b : Addr, b ∉ (laCx X A outer s1 HZ E scope f c').ex := fun b z => absurd (show b ∈ ([] : List Addr) from z) (by simp)
  refine ⟨⟨e0.mod, L.kind, rfl, rfl, Nat.le_refl _, fun y z c e1 e2 => I.ok.inj y z c (cm e1) (cm e2), fun y hy => ?_, fun y c z _ => ?_, fun _ => hd, Around.frames_deeper e0.frames, .inr ⟨rfl, rfl⟩, fun b z => absurd z (noA b), e0.bs, e0.bsz, fun b _ _ => noA b,
      fun b z => absurd z (noA b), e0.funs, e0.frf⟩,
    rfl, e0.bare, Un.kept kp, ⟨_, hns, fun i y v e1 e2 e3 => ?_⟩, fun y c e => ?_, e0.hok.fresh (Nat.le_refl _), fun y c e => ?_, fun q hq => absurd (show q ∈ ([] : List (Addr × Obj)) ++ [] from hq) (by simp), e0.hok.kept kp, (wipeN_len _ _ _).trans I.len⟩
  · have hy : scope.names.lookup y = some .cell ∨ scope.names.lookup y = some .free := hy
    rcases hy with hy | hy
    · exact absurd rfl (L.own _ (PySem.mem_of_lookup hy)).2
    · exact look hy
  · have z : false = true := z
    cases z
  · have e1 : X.N[i]? = some y := e1
    obtain ⟨e2, ny⟩ := wipeN_get e1 e2
    have e3 : Vis scope y := e3
    rcases e3 with k | k | k
    · exact absurd ((L.own _ (PySem.mem_of_lookup k)).1 rfl) ny
    · exact absurd rfl (L.own _ (PySem.mem_of_lookup k)).2
    · obtain ⟨m, hn, hl⟩ := I.loc
      have hvis : Vis X.env.scope y := (L.free _ (PySem.mem_of_lookup k) rfl).elim (fun k => .inr (.inl k)) (fun k => .inr (.inr k))
      obtain ⟨w', r, q⟩ := hl i y v e1 e2 hvis
      obtain ⟨c2, h2⟩ := look k
      refine ⟨w', r, .inr ⟨.inr k, c2, h2, ?_⟩⟩
      have c1 := cm h2
      rcases q with ⟨k', _⟩ | ⟨_, c3, e', z⟩
      · have k' : X.env.scope.names.lookup y = some .local := k'
        rcases L.free _ (PySem.mem_of_lookup k) rfl with k2 | k2 <;> rw [show X.env.scope.names.lookup y = _ from k2] at k' <;> cases k'
      · rw [c1] at e'
        cases e'
        exact cellK (I.freeC y _ c1) z
  · obtain ⟨w', z⟩ := I.cell y c (cm e)
    exact ⟨w', cellK (I.freeC y c (cm e)) z⟩
  · obtain ⟨v, o, ho, hd⟩ := I.cell y c (cm e)
    exact un.free c o ho (I.freeC y c (cm e)) (by simp)
/-- x(), in the def that got the lambda -/
theorem la_act {CXg : CXT} {Eg : XK} {Ng : List Str} {qg : Str} {sg : Scope} {g f c' : Addr} {cdg dV pm ctv : Value} {params : Arguments} {body : Expr} {scope : Scope} {k i : Nat} {a : Str} {pn : List (Addr × Obj)} {xe : Value → Shared → Prop} {W : WX} {E : XK} {tb : TE} {p1 p2 : Pos}
    (I : Inv X pins σ H s) (L : LaS ys X.env.scope scope) (hp : PD params ys) (df : DfH s.heap (okA X H) dV ys) (hf : s.heap.get? f = some (laObj "<lambda>" (X.env.qual ++ "<lambda>") params body scope (cloFrom X.env.cells scope.names []) dV pm c' ctv)) (hfn : okA X H f)
    (tk : L2N.Takes ((cxOf CXg X.prog X.w X.K X.mg X.base Ng qg sg g cdg X.A X.stack s H Eg).tr pn xe) W) (hW : ∀ cls d σ' H', E cls d H' → W cls d σ' H') (hr : Room (k + 1) (X.A.deeper (envOfC qg sg s.heap.objs.size g cdg)))
    (hbody : ∀ (A : Around) (outer : List PySem.Env) (s : Shared) (H : Hp), A.guards = X.A.guards → Room k (A.deeper (lamEnv X scope s.heap.objs.size f c')) → PE (laCx X A outer s H E scope f c') body tb)
    (hN : Ng[i]? = some a) (hv : Vis sg a) (hd : (a == ("__debug__" : Str)) = false := by decide) (hcd : (a == ("__classdict__" : Str)) = false := by decide) :
    PE ((cxOf CXg X.prog X.w X.K X.mg X.base Ng qg sg g cdg X.A X.stack s H Eg).tr pn xe) (.Call (.Name a p1) [] [] p2)
      (fun σZ HZ Q => σZ[i]? = some (some (.ref f)) ∧ HZ c' = some (CodeO c' (X.env.qual ++ "<lambda>")) ∧ tb (wipeN X.N ys σ) HZ Q) := by
  refine ⟨fun pinsZ sZ σZ HZ Q IZ h => ?_⟩
  obtain ⟨hs, hc, ht⟩ := h
  refine wpAny_Call_Name_kw (thn ((pe_var (pos := p1) (i := i) hN hv hd hcd).run pinsZ sZ σZ HZ (fun v H1 => v = .ref f ∧ H1 = HZ) IZ ⟨.ref f, hs, rfl, rfl⟩) fun u s1 ⟨v, H1, I1, r1, q1⟩ => ?_)
  obtain ⟨ev, eH⟩ := q1
  subst ev
  rw [eH] at I1
  obtain rfl : u = Value.ref f := r1
  have kept : ∀ b o, okA X H b → s.heap.get? b = some o → s1.heap.get? b = some o := fun b o hb e => I1.base.keep b o e hb.1 hb.2 (fun z => nomatch (show b ∈ ([] : List Addr) from z))
  have of1 := kept f _ hfn hf
  have df1 := df.keeps (h' := s1.heap) (ok' := fun _ => True) fun T o hT e => ⟨kept T o hT e, trivial⟩
  refine PySem.W.callWith_F0 ⟨_, _, _, _, of1⟩ ?_
  have un : Un (frs X.stack) [] H HZ s.heap s1.heap := I1.base
  obtain ⟨⟨oc, vs, t, hoc, hdc, hvc⟩, _, _⟩ := I1.hok c' _ hc
  have rc : codeAny (model X.prog X.w) (X.A.deeper (envOfC qg sg s.heap.objs.size g cdg)) (.call (.ref f) ⟨[], []⟩) (CR (L2N.CX X.prog X.w) (envOfC qg sg s.heap.objs.size g cdg :: X.stack) X.prog X.w HZ s1 Q E) s1 := by
    refine PySem.W.kla_callFunE hr.depth of1 rfl L.co L.gen rfl ⟨c', oc, vs, t, rfl, hoc, hdc, hvc⟩ ?_
    refine la_binds hp df1 fun us hl => wpAny_newFunctionEnv (fun y hy => (L.own y hy).2) (fun y hy => L.par _ (List.of_mem_zip (show (y.1, y.2) ∈ ys.zip us from hy)).1) (fun h₁ hns hsb => ⟨I1.nolimit.fresh _ hsb, ?_⟩) L.kind
    show codeAny _ _ (.expr body (lamEnv X scope s1.heap.objs.size f c')) _ _
    have kp : ∀ b o, s1.heap.get? b = some o → h₁.get? b = some o := fun b o e => hsb.extBut b o (Nat.ne_of_lt (Heap.lt_size e)) (Heap.get?_push_of_some _ e)
    have J := la_start (E := E) (f := f) (c' := c') (tk := s1.toks + (ys.zip us).length) (tk' := 0) I L I1.env0 hr.hd un hns kp
    refine PySem.W.kla_codeExpr (wpAny_mono ((hbody (X.A.deeper (envOfC qg sg s.heap.objs.size g cdg)) _ s1 HZ rfl (hr.deeper _)).run [] _ _ HZ Q J ht) (fun v s' hq => ?_) fun e s' hq => hq)
    obtain ⟨w', H', J', rv, q⟩ := hq
    exact ⟨w', H', J'.os, J'.bare, J'.base, J'.hok, rv, q⟩
  have hx : Passes (L2N.CX X.prog X.w) ((cxOf CXg X.prog X.w X.K X.mg X.base Ng qg sg g cdg X.A X.stack s H Eg).tr pn xe) E := L2N.passes_call tk hW
  refine wpAny_call (codeAny_mono rc fun r s' hq => ?_)
  cases r with
  | error e => exact hx pinsZ σZ HZ s1 e s' I1 hq
  | ok fl =>
    cases fl with
    | ret u => exact I1.after hq
    | next => exact False.elim hq
    | brk => exact False.elim hq
    | cont => exact False.elim hq
end
def Gives (X : Cx) (Ng : List Str) (x : Str) (sg : Scope) (g : Addr) (cdg : Value) (bg : List Stmt) (a : Str) (q : Str) (TT : (XK → Hp → VK → Prop) → Hp → VK → Prop) : Prop :=
  ∀ (f c' : Addr) (s : Shared) (H : Hp) (Q : VK) (tl : XK → Hp → VK → Prop),
    (∀ (W : WX) (pn : List (Addr × Obj)) (xe : Value → Shared → Prop) (E : XK) (p1 p2 : Pos), L2N.Takes ((cxOf C8.CX0 X.prog X.w X.K X.mg X.base Ng x sg g cdg X.A X.stack s H C8.E0).tr pn xe) W → (∀ cls d σ' H', E cls d H' → W cls d σ' H') →
      PE ((cxOf C8.CX0 X.prog X.w X.K X.mg X.base Ng x sg g cdg X.A X.stack s H C8.E0).tr pn xe) (.Call (.Name a p1) [] [] p2) (fun σZ HZ Q => σZ[0]? = some (some (.ref f)) ∧ HZ c' = some (CodeO c' q) ∧ tl E HZ Q)) →
    H c' = some (CodeO c' q) → TT tl H Q →
    ∃ t, PSs (cxOf C8.CX0 X.prog X.w X.K X.mg X.base Ng x sg g cdg X.A X.stack s H C8.E0).nox bg t ∧ t { nx := fun _ H' => Q .non H', rt := Q } (L2.start Ng [.ref f]) H
def tLa (N ys : List Str) (T : List (Addr × Str)) (TT : (XK → Hp → VK → Prop) → Hp → VK → Prop) (t : XK → TE) : TE := fun σ H Q => Tabs T H ∧ ∀ H1, ExtN H H1 → (∀ b, H b ≠ none → H1 b ≠ none) → Tabs T H1 → TT (fun E H' Q' => t E (wipeN N ys σ) H' Q') H1 Q
section
variable {X : Cx} {ys : List Str}
/-- x(lambda: body) -/
theorem la_call {T : List (Addr × Str)} {TT : (XK → Hp → VK → Prop) → Hp → VK → Prop} {x a : Str} {g c P : Addr} {k : Nat} {pg : Arguments} {bg : List Stmt} {sg : Scope} {dV kV doc pm cdv ct oc : Value} {an od : Option Addr} {osl : Array (Option Value)} {Ng : List Str}
    {params : Arguments} {body : Expr} {scope : Scope} {t : XK → TE} {p lpos pos : Pos} (hg : Gl X x) (hm : X.mg x = some (.ref g)) (hk : PySem.W.keepIn X.K (.ref g) = true)
    (lk : X.K.lookup g = some ⟨oc, od, .func (PySem.W.fnOf x x pg bg sg dV kV doc pm an cdv ct), osl⟩) (hcg : PySem.W.codeIn X.K cdv x = true) (hb : L2.Binds X.K (PySem.W.fnOf x x pg bg sg dV kV doc pm an cdv ct) [a] []) (Sg : FnScope Ng [a] sg) (hNg : Ng[0]? = some a) (hva : Vis sg a)
    (hG : Gives X Ng x sg g cdv bg a (X.env.qual ++ "<lambda>") TT)
    (TB : TabB X.base X.mg c P) (hcode : X.env.code = .ref c) (hmT : (P, X.env.qual ++ "<lambda>") ∈ T) (hu : ∀ p ∈ T, p.1 = P → p.2 = X.env.qual ++ "<lambda>") (hr : Room (k + 2) X.A) (hp : PD params ys) (L : LaS ys X.env.scope scope)
    (hbody : ∀ (A : Around) (outer : List PySem.Env) (s : Shared) (H : Hp) (E : XK) (f c' : Addr), A.guards = X.A.guards → Room k (A.deeper (lamEnv X scope s.heap.objs.size f c')) → PE (laCx X A outer s H E scope f c') body (t E))
    (hdb : (x == ("__debug__" : Str)) = false := by decide) (hd : (a == ("__debug__" : Str)) = false := by decide) (hcd : (a == ("__classdict__" : Str)) = false := by decide) :
    PE X (.Call (.Name x p) [.Lambda params body scope lpos] [] pos) (tLa X.N ys T TT t) := by
  refine ⟨fun pins s σ H Q I h => ?_⟩
  obtain ⟨hT, h⟩ := h
  refine wpAny_Call_Name_kw (ld_glob I hg hm ?_ hdb)
  refine PySem.W.callWith_K (h₀ := X.base) I.ok.mod.kin hk ?_ (by rfl) (by rfl)
  show wpAny _ _ (spliced ((false, eval (.Lambda params body scope lpos) X.env) :: backTo pos (starEach [] X.env))) _ _ s
  refine Calls.spliced_cons (la_make I TB hcode hmT hu hT hp (L.has I.ok) fun f c' dV' pm' ctv H1 s' I1 eN nN T1 df hf hfn hco => ?_)
  refine Calls.spliced_nil ⟨I1.kIn, ?_⟩
  have rc : codeAny (model X.prog X.w) X.A (.call (.ref g) ⟨[.ref f], []⟩) (CR C8.CX0 X.stack X.prog X.w H1 s' Q C8.E0) s' := by
    refine LamX.run_ofS (N := Ng) (ps := [a]) (us := [.ref f]) (vs := [.ref f]) lk hcg Sg hr I1.env0 (hb s' [.ref f] I1.kIn rfl) (.cons rfl .nil) rfl fun hr' => ?_
    obtain ⟨t', ht', hq'⟩ := hG f c' s' H1 Q (fun E H' Q' => t E (wipeN X.N ys σ) H' Q') (fun W pn xe E p1 p2 tk hW => la_act (i := 0) I1 L hp df hf hfn tk hW hr' (fun A outer s H hg2 hr2 => hbody A outer s H E f c' hg2 hr2) hNg hva hd hcd) hco (h H1 eN nN T1)
    exact ⟨t', ht'.nox, hq'⟩
  refine wpAny_call (codeAny_mono rc fun r s2 hq => ?_)
  cases r with
  | error e => exact (show False from hq).elim
  | ok fl =>
    cases fl with
    | ret u => exact I1.after hq
    | next => exact False.elim hq
    | brk => exact False.elim hq
    | cont => exact False.elim hq
theorem takesN0 {X : Cx} : L2N.Takes X (fun _ _ _ _ => False) := fun _ _ x => by
  obtain ⟨_, _, _, _, _, _, _, _, _, _, _, _, _, _, _, _, z⟩ := x
  exact z.elim
end
end DD



set_option Elab.async false
set_option linter.all false
set_option maxRecDepth 100000
set_option maxHeartbeats 4000000
namespace DD
open PySem PySem.Spec PyProof.Rows L2

/-! data, the little language, its meaning -/
abbrev D := PyData
abbrev K1 := D → Nat → Prop
abbrev KB := Bool → Nat → Prop
abbrev KL := List D → Nat → Prop
abbrev XK1 := Nat → Nat → Prop
abbrev Sg := List D → Nat → K1 → XK1 → Prop
abbrev Gam := Nat → Sg
/-- the drawn numbers' state -/
def sttD : D := .dict [(.dict [], .none)]
/-- the script: only cut -/
def scrD (l : List D) : D := .dict [(.list l, .none)]

inductive Op | add | sub | mul | fdiv | mod | pow | shl | shr | band | bor | bxor
  deriving DecidableEq
inductive Cm | eq | ne | lt | le | gt | ge | isN | notN | inn | nin
  deriving DecidableEq
inductive Bi | len | int | abs | tuple | list | max2 | min2 | max1 | min1 | sum | all | any | sorted
  deriving DecidableEq
inductive Tg | nm (i : Nat) | tp (is : List Nat)
  deriving DecidableEq
mutual
inductive E where
  | var (i : Nat)
  | pk (i : Nat)
  | cst (d : D)
  | glb (g : Nat)
  | bin (o : Op) (a b : E)
  | neg (a : E)
  | cmp (o : Cm) (a b : E)
  | ch2 (o1 o2 : Cm) (a b c : E)
  | and (a b : E)
  | or (a b : E)
  | not (a : E)
  | ite (c : T) (a b : E)
  | tup (es : Es)
  | lst (es : Es)
  | idx (a b : E)
  | slc (a : E) (lo hi : Ei)
  | rev (a : E)
  | call (f : Nat) (es : Es)
  | bi (b : Bi) (es : Es)
  | lc (tg : Tg) (it : It) (c : Ts) (e : E)
  | told (ws : List Nat) (e : E)
inductive Es where
  | nil
  | cons (e : E) (es : Es)
  | star (e : E) (es : Es)
inductive Ei where
  | no
  | ex (e : E)
inductive It where
  | lst (e : E)
  | tup (e : E)
  | rng1 (a : E)
  | rng2 (a b : E)
  | rng3 (a b c : E)
  | zip (a b : E)
  | enu (a : E)
  | rvi (a : E)
inductive Ch where
  | last (o : Cm) (e : E)
  | link (o : Cm) (e : E) (c : Ch)
inductive T where
  | val (e : E)
  | cmp (o : Cm) (a b : E)
  | ch2 (o1 o2 : Cm) (a b c : E)
  | chn (a : E) (c : Ch)
  | and (a b : T)
  | or (a b : T)
  | not (a : T)
inductive Ts where
  | no
  | ex (t : T)
end

/-- a slot: nothing known, a value, a list of one's own -/
inductive Sl where
  | un
  | v (d : D)
  | own (l : List D)
abbrev Env := List Sl
def getS : List Sl → Nat → Sl
  | [], _ => .un
  | s :: _, 0 => s
  | _ :: l, i + 1 => getS l i
def setS : List Sl → Nat → Sl → List Sl
  | [], _, _ => []
  | _ :: l, 0, s => s :: l
  | t :: l, i + 1, s => t :: setS l i s
def clrS (env : Env) : List Nat → Env
  | [] => env
  | i :: is => setS (clrS env is) i .un

/-- without lists of one's own -/
def deo : List Sl → List Sl
  | [] => []
  | .own _ :: l => .un :: deo l
  | s :: l => s :: deo l

/-! operations on data -/
def okMul (i j : Int) : Prop := CMul i j ∨ CMulW i j
def okDiv (j : Int) : Prop := (j ≠ 0 ∧ j.natAbs < 1073741824) ∨ (0 < j ∧ j.natAbs.log2 < 9000)
def okLen (n : Nat) : Prop := n ≤ 16777216
def wBin : Op → D → D → (D → Prop) → Prop
  | .add, .int i, .int j, Q => Q (.int (i + j))
  | .add, .list a, .list b, Q => okLen (a.length + b.length) ∧ Q (.list (a ++ b))
  | .add, .tuple a, .tuple b, Q => okLen (a.length + b.length) ∧ Q (.tuple (a ++ b))
  | .sub, .int i, .int j, Q => Q (.int (i - j))
  | .mul, .int i, .int j, Q => okMul i j ∧ Q (.int (i * j))
  | .mul, .list a, .int j, Q => (-(2 ^ 40) < j ∧ j < 2 ^ 40 ∧ okLen (a.length * j.toNat)) ∧ Q (.list (List.replicate j.toNat a).flatten)
  | .mul, .tuple a, .int j, Q => (-(2 ^ 40) < j ∧ j ≤ 1000 ∧ a.length ≤ 1000) ∧ Q (.tuple (List.replicate j.toNat a).flatten)
  | .fdiv, .int i, .int j, Q => okDiv j ∧ Q (.int (i.fdiv j))
  | .mod, .int i, .int j, Q => j ≠ 0 ∧ Q (.int (i.fmod j))
  | .pow, .int i, .int j, Q => CPow i j ∧ Q (.int (i ^ j.toNat))
  | .shl, .int i, .int j, Q => CPow i j ∧ Q (.int (i * 2 ^ j.toNat))
  | .shr, .int i, .int j, Q => 0 ≤ j ∧ Q (.int (i / 2 ^ j.toNat))
  | .band, .int i, .int j, Q => Q (.int (Builtin.bitAnd i j))
  | .bor, .int i, .int j, Q => Q (.int (Builtin.bitOr i j))
  | .bxor, .int i, .int j, Q => Q (.int (Builtin.bitXor i j))
  | _, _, _, _ => False
def Shp (d : D) : Prop := SeqAt.shaped d = true
def items : D → Option (List D)
  | .list l => some l
  | .tuple l => some l
  | _ => none
def flatD : D → Bool
  | .none => true
  | .bool _ => true
  | .int _ => true
  | .str _ => true
  | _ => false
def wCmp : Cm → D → D → (Bool → Prop) → Prop
  | .eq, a, b, Q => (Shp a ∧ Shp b) ∧ Q (PyData.eqv a b)
  | .ne, a, b, Q => (Shp a ∧ Shp b) ∧ Q (!PyData.eqv a b)
  | .lt, .int i, .int j, Q => Q (decide (i < j))
  | .le, .int i, .int j, Q => Q (decide (i ≤ j))
  | .gt, .int i, .int j, Q => Q (decide (j < i))
  | .ge, .int i, .int j, Q => Q (decide (j ≤ i))
  | .isN, .none, .none, Q => Q true
  | .isN, .bool _, .none, Q => Q false
  | .isN, .int _, .none, Q => Q false
  | .isN, .str _, .none, Q => Q false
  | .isN, .list _, .none, Q => Q false
  | .isN, .tuple _, .none, Q => Q false
  | .notN, .none, .none, Q => Q false
  | .notN, .bool _, .none, Q => Q true
  | .notN, .int _, .none, Q => Q true
  | .notN, .str _, .none, Q => Q true
  | .notN, .list _, .none, Q => Q true
  | .notN, .tuple _, .none, Q => Q true
  | .inn, a, .list l, Q => (Shp a ∧ Shp (.list l)) ∧ Q (l.any fun z => PyData.eqv z a)
  | .nin, a, .list l, Q => (Shp a ∧ Shp (.list l)) ∧ Q (!l.any fun z => PyData.eqv z a)
  | .inn, a, .tuple l, Q => (flatD a = true ∧ l.all flatD = true) ∧ Q (l.any fun z => PyData.eqv z a)
  | .nin, a, .tuple l, Q => (flatD a = true ∧ l.all flatD = true) ∧ Q (!l.any fun z => PyData.eqv z a)
  | _, _, _, _ => False
def wTru : D → (Bool → Prop) → Prop
  | .none, Q => Q false
  | .bool b, Q => Q b
  | .int i, Q => Q (i != 0)
  | .list l, Q => Q (!l.isEmpty)
  | .tuple l, Q => Q (!l.isEmpty)
  | _, _ => False
def atD (l : List D) (i : Int) : Option D := atI l i
def wIdx : D → D → (D → Prop) → Prop
  | .list l, .int i, Q => ∃ d, atD l i = some d ∧ Q d
  | .tuple l, .int i, Q => ∃ d, atD l i = some d ∧ Q d
  | _, _, _ => False
def cutD (l : List D) (lo hi : Option Int) : List D := (l.drop (HT.sIx l.length 0 lo)).take (HT.sIx l.length l.length hi - HT.sIx l.length 0 lo)
def wSlc (d : D) (lo hi : Option Int) (Q : D → Prop) : Prop := match d with
  | .list l => Q (.list (cutD l lo hi))
  | .tuple l => Q (.tuple (cutD l lo hi))
  | .dict [(.list l, .none)] => Q (.list (cutD l lo hi))
  | _ => False
def wRev : D → (D → Prop) → Prop
  | .list l, Q => Q (.list l.reverse)
  | .tuple l, Q => Q (.tuple l.reverse)
  | _, _ => False
/-- what a star lays out -/
def wSt : D → (List D → Prop) → Prop
  | .list l, Q => l.length ≤ 10000 ∧ Q l
  | .tuple l, Q => l.length ≤ 10000 ∧ Q l
  | _, _ => False
def zipD : List D → List D → List D
  | a :: l, b :: m => .tuple [a, b] :: zipD l m
  | _, _ => []
def enuD : Int → List D → List D
  | _, [] => []
  | i, a :: l => .tuple [.int i, a] :: enuD (i + 1) l
def wZip : D → D → (List D → Prop) → Prop
  | .list l, .list m, Q => okLen l.length ∧ Q (zipD l m)
  | .tuple l, .tuple m, Q => okLen l.length ∧ Q (zipD l m)
  | _, _, _ => False
def wEnu : D → (List D → Prop) → Prop
  | .list l, Q => okLen l.length ∧ Q (enuD 0 l)
  | _, _ => False
def wRvi : D → (List D → Prop) → Prop
  | .list l, Q => okLen l.length ∧ Q l.reverse
  | .tuple l, Q => okLen l.length ∧ Q l.reverse
  | _, _ => False
def intsOf : List D → Option (List Int)
  | [] => some []
  | .int i :: l => (intsOf l).map (i :: ·)
  | _ :: _ => none
def blsOf : List D → Option (List Bool)
  | [] => some []
  | .bool i :: l => (blsOf l).map (i :: ·)
  | _ :: _ => none
def wBi : Bi → List D → (D → Prop) → Prop
  | .len, [.list l], Q => Q (.int l.length)
  | .len, [.tuple l], Q => Q (.int l.length)
  | .int, [.int i], Q => Q (.int i)
  | .int, [.bool b], Q => Q (.int (if b then 1 else 0))
  | .abs, [.int i], Q => Q (.int (if i < 0 then -i else i))
  | .tuple, [.list l], Q => Q (.tuple l)
  | .tuple, [.tuple l], Q => Q (.tuple l)
  | .list, [.list l], Q => Q (.list l)
  | .list, [.tuple l], Q => Q (.list l)
  | .max2, [.int i, .int j], Q => Q (.int (if j > i then j else i))
  | .min2, [.int i, .int j], Q => Q (.int (if j < i then j else i))
  | .max1, [.list l], Q => ∃ ns, intsOf l = some ns ∧ 0 < ns.length ∧ ∀ m, m ∈ ns → (∀ a ∈ ns, a ≤ m) → Q (.int m)
  | .min1, [.list l], Q => ∃ ns, intsOf l = some ns ∧ 0 < ns.length ∧ ∀ m, m ∈ ns → (∀ a ∈ ns, m ≤ a) → Q (.int m)
  | .sum, [.list l], Q => ∃ ns, intsOf l = some ns ∧ Q (.int ns.sum)
  | .all, [.list l], Q => ∃ bs, blsOf l = some bs ∧ Q (.bool (bs.all id))
  | .any, [.list l], Q => ∃ bs, blsOf l = some bs ∧ Q (.bool (bs.any id))
  | .sorted, [.list l], Q => ∃ ns, intsOf l = some ns ∧ ∀ ns' : List Int, ns'.Perm ns → ns'.Pairwise (· ≤ ·) → Q (.list (ns'.map .int))
  | _, _, _ => False
/-- what a target takes -/
def bindT : Tg → D → Env → Option Env
  | .nm i, d, env => some (setS env i (.v d))
  | .tp is, .tuple l, env => if is.length = l.length then some ((is.zip l).foldl (fun e p => setS e p.1 (.v p.2)) env) else none
  | _, _, _ => none
def tgs : Tg → List Nat
  | .nm i => [i]
  | .tp is => is
def wBnd (tg : Tg) (d : D) (env : Env) (Q : Env → Prop) : Prop := ∃ env', bindT tg d env = some env' ∧ Q env'
def okRng (lo hi : Int) : Prop := -(2 ^ 60) ≤ lo ∧ lo < 2 ^ 60 ∧ -(2 ^ 60) ≤ hi ∧ hi < 2 ^ 60 ∧ hi - lo ≤ 16000000
def rngD (lo hi : Int) : List D := (List.range (hi - lo).toNat).map fun i : Nat => PyData.int (lo + (i : Int))
/-- a comprehension's turns -/
def wTurns (t : D → Nat → (Option D → Nat → Prop) → Prop) : List D → List D → Nat → KL → Prop
  | [], acc, n, Q => Q acc n
  | d :: ds, acc, n, Q => t d n fun o n' => wTurns t ds (match o with | some x => acc ++ [x] | none => acc) n' Q
def rngC (lo c : Int) (n : Nat) : List D := (List.range n).map fun i : Nat => PyData.int (lo + (i : Int) * c)
def nmT : Nat → Str
  | 0 => "refused" | 1 => "large" | 2 => "missing" | 3 => "form" | _ => "broken"

section
variable (Γ : Gam) (G : Nat → D)
mutual
def wE : E → Env → Nat → K1 → XK1 → Prop
  | .var i, env, n, Q, _ => ∃ d, getS env i = .v d ∧ Q d n
  | .pk i, env, n, Q, _ => ∃ l, getS env i = .own l ∧ Q (.list l) n
  | .cst d, _, n, Q, _ => Q d n
  | .glb g, _, n, Q, _ => Q (G g) n
  | .bin o a b, env, n, Q, X => wE a env n (fun x n => wE b env n (fun y n => wBin o x y fun z => Q z n) X) X
  | .neg a, env, n, Q, X => wE a env n (fun x n => ∃ i, x = .int i ∧ Q (.int (-i)) n) X
  | .cmp o a b, env, n, Q, X => wE a env n (fun x n => wE b env n (fun y n => wCmp o x y fun z => Q (.bool z) n) X) X
  | .ch2 o1 o2 a b c, env, n, Q, X => wE a env n (fun x n => wE b env n (fun y n => wCmp o1 x y fun z => (z = true → wE c env n (fun u n => wCmp o2 y u fun z => Q (.bool z) n) X) ∧ (z = false → Q (.bool false) n)) X) X
  | .and a b, env, n, Q, X => wE a env n (fun x n => ∃ c, x = .bool c ∧ (c = true → wE b env n Q X) ∧ (c = false → Q (.bool false) n)) X
  | .or a b, env, n, Q, X => wE a env n (fun x n => ∃ c, x = .bool c ∧ (c = true → Q (.bool true) n) ∧ (c = false → wE b env n Q X)) X
  | .not a, env, n, Q, X => wE a env n (fun x n => ∃ c, x = .bool c ∧ Q (.bool (!c)) n) X
  | .ite c a b, env, n, Q, X => wT c env n (fun z n => (z = true → wE a env n Q X) ∧ (z = false → wE b env n Q X)) X
  | .tup es, env, n, Q, X => wEs es env n (fun ds n => Q (.tuple ds) n) X
  | .lst es, env, n, Q, X => wEs es env n (fun ds n => Q (.list ds) n) X
  | .idx a b, env, n, Q, X => wE a env n (fun x n => wE b env n (fun y n => wIdx x y fun z => Q z n) X) X
  | .slc a lo hi, env, n, Q, X => wE a env n (fun x n => wEi lo env n (fun l n => wEi hi env n (fun h n => wSlc x l h fun z => Q z n) X) X) X
  | .rev a, env, n, Q, X => wE a env n (fun x n => wRev x fun z => Q z n) X
  | .call f es, env, n, Q, X => wEs es env n (fun ds n => Γ f ds n Q X) X
  | .bi b es, env, n, Q, X => wEs es env n (fun ds n => wBi b ds fun z => Q z n) X
  | .lc tg it c e, env, n, Q, X => wIt it env n (fun ds n => wTurns (fun d n R => wBnd tg d (clrS env (tgs tg)) fun env' => wTs c env' n (fun z n => (z = true → wE e env' n (fun x n => R (some x) n) fun _ _ => False) ∧ (z = false → R none n)) fun _ _ => False) ds [] n fun acc n => Q (.list acc) n) X
  | .told ws e, env, n, Q, _ => wE e (deo (clrS env ws)) n (fun d n => Q (.tuple [.str "told", d]) n) fun k n => k < 3 ∧ Q (.tuple [.str (nmT k)]) n
def wEs : Es → Env → Nat → KL → XK1 → Prop
  | .nil, _, n, Q, _ => Q [] n
  | .cons e es, env, n, Q, X => wE e env n (fun d n => wEs es env n (fun ds n => Q (d :: ds) n) X) X
  | .star e es, env, n, Q, X => wE e env n (fun d n => wSt d fun l => wEs es env n (fun ds n => Q (l ++ ds) n) X) X
def wEi : Ei → Env → Nat → (Option Int → Nat → Prop) → XK1 → Prop
  | .no, _, n, Q, _ => Q none n
  | .ex e, env, n, Q, X => wE e env n (fun d n => ∃ i, d = .int i ∧ Q (some i) n) X
def wIt : It → Env → Nat → KL → XK1 → Prop
  | .lst e, env, n, Q, X => wE e env n (fun d n => ∃ l, d = .list l ∧ Q l n) X
  | .tup e, env, n, Q, X => wE e env n (fun d n => ∃ l, d = .tuple l ∧ Q l n) X
  | .rng1 a, env, n, Q, X => wE a env n (fun d n => ∃ j, d = .int j ∧ okRng 0 j ∧ Q (rngD 0 j) n) X
  | .rng2 a b, env, n, Q, X => wE a env n (fun d n => wE b env n (fun d' n => ∃ i j, d = .int i ∧ d' = .int j ∧ okRng i j ∧ Q (rngD i j) n) X) X
  | .rng3 a b c, env, n, Q, X => wE a env n (fun d n => wE b env n (fun d' n => wE c env n (fun d'' n => ∃ i j k m, d = .int i ∧ d' = .int j ∧ d'' = .int k ∧ RgC i j k m ∧ m ≤ 16000000 ∧ Q (rngC i k m) n) X) X) X
  | .zip a b, env, n, Q, X => wE a env n (fun d n => wE b env n (fun d' n => wZip d d' fun ds => Q ds n) X) X
  | .enu a, env, n, Q, X => wE a env n (fun d n => wEnu d fun ds => Q ds n) X
  | .rvi a, env, n, Q, X => wE a env n (fun d n => wRvi d fun ds => Q ds n) X
def wCh : Ch → D → Env → Nat → KB → XK1 → Prop
  | .last o e, x, env, n, Q, X => wE e env n (fun y n => wCmp o x y fun z => Q z n) X
  | .link o e c, x, env, n, Q, X => wE e env n (fun y n => wCmp o x y fun z => (z = true → wCh c y env n Q X) ∧ (z = false → Q false n)) X
def wT : T → Env → Nat → KB → XK1 → Prop
  | .val e, env, n, Q, X => wE e env n (fun d n => wTru d fun z => Q z n) X
  | .cmp o a b, env, n, Q, X => wE a env n (fun x n => wE b env n (fun y n => wCmp o x y fun z => Q z n) X) X
  | .ch2 o1 o2 a b c, env, n, Q, X => wE a env n (fun x n => wE b env n (fun y n => wCmp o1 x y fun z => (z = true → wE c env n (fun u n => wCmp o2 y u fun z => Q z n) X) ∧ (z = false → Q false n)) X) X
  | .chn a c, env, n, Q, X => wE a env n (fun x n => wCh c x env n Q X) X
  | .and a b, env, n, Q, X => wT a env n (fun z n => (z = true → wT b env n Q X) ∧ (z = false → Q false n)) X
  | .or a b, env, n, Q, X => wT a env n (fun z n => (z = true → Q true n) ∧ (z = false → wT b env n Q X)) X
  | .not a, env, n, Q, X => wT a env n (fun z n => Q (!z) n) X
def wTs : Ts → Env → Nat → KB → XK1 → Prop
  | .no, _, n, Q, _ => Q true n
  | .ex t, env, n, Q, X => wT t env n Q X
end
end
end DD



set_option Elab.async false
set_option linter.all false
set_option maxRecDepth 100000
set_option maxHeartbeats 4000000
/-! H3: reversed tuples, tuples repeated any number of times, chains of comparisons of any length -/
namespace DD
open PySem PySem.Spec PyProof.Rows L2
/-! t[::-1] -/
section
variable {prog : Program} {w : World} {A : Around} {E : Value → Shared → Prop} {s : Shared}
theorem places_back (n : Nat) : Builtin.Slice.slicePlaces ((n : Int) - 1) (-1) (-1) = n := by
  unfold Builtin.Slice.slicePlaces
  have h1 : ¬ ((-1 : Int) > 0) := by omega
  simp only [h1, if_false]
  have e : (n : Int) - 1 - -1 - 1 = (n : Int) - 1 := by omega
  rw [e, show (- -1 : Int) = 1 from rfl, Int.ediv_one]
  split <;> omega
theorem fmap_ext {α β : Type} {f g : α → Option β} : ∀ {l : List α}, (∀ x ∈ l, f x = g x) → l.filterMap f = l.filterMap g
  | [], _ => rfl
  | a :: l, h => by
    rw [List.filterMap_cons, List.filterMap_cons, h a (List.mem_cons_self ..), fmap_ext fun x hx => h x (List.mem_cons_of_mem _ hx)]
theorem back_pick (xs : Array Value) : ((List.range xs.size).filterMap fun (m : Nat) => xs[(((xs.size : Nat) : Int) - 1 + (m : Int) * (-1)).toNat]?).toArray = xs.toList.reverse.toArray := by
  congr 1
  have e : ∀ m ∈ List.range xs.size, xs[(((xs.size : Nat) : Int) - 1 + (m : Int) * (-1)).toNat]? = xs.toList.reverse[m]? := by
    intro m hm
    have hm := List.mem_range.mp hm
    rw [List.getElem?_reverse (by rw [Array.length_toList]; exact hm), Array.length_toList]
    rw [show (((xs.size : Nat) : Int) - 1 + (m : Int) * (-1)).toNat = xs.size - 1 - m by omega]
    simp
  rw [fmap_ext e]
  have l : xs.size = xs.toList.reverse.length := by simp
  rw [l]
  generalize xs.toList.reverse = ys
  induction ys with
  | nil => rfl
  | cons y ys ih =>
    rw [List.length_cons, List.range_succ_eq_map, List.filterMap_cons]
    show y :: _ = _
    rw [List.filterMap_map]
    exact congrArg _ ih
theorem applied_back {sl : Addr} {vs : Value} {n : Nat} {Q : Int × Int × Nat → Shared → Prop} (hs : s.heap.IsSliceOf sl .none .none vs) (pv : IsPart vs (some (-1))) (h : Q ((n : Int) - 1, -1, n) s) :
    wpAny (model prog w) A (Builtin.Slice.sliceApplied (.ref sl) (pure (n : Int))) Q E s := by
  obtain ⟨os, hos, hcs, hds⟩ := id hs
  unfold Builtin.Slice.sliceApplied Builtin.Slice.sliceFields
  refine wpAny_bind (wpAny_bind (wpAny_field hos hds (x := .none) rfl (wpAny_bind (wpAny_field hos hds (x := .none) rfl (wpAny_bind (wpAny_field hos hds (x := vs) rfl (wpAny_pure ?_)))))))
  refine wpAny_bind (HT.slicePart_ pv ?_)
  show wpAny _ _ (if ((-1 : Int) == 0) = true then _ else _) _ _ s
  rw [if_neg (by decide)]
  refine wpAny_bind (HT.slicePart_ .none (wpAny_bind (HT.slicePart_ .none (wpAny_bind (wpAny_pure ?_)))))
  show wpAny _ _ (pure ((n : Int) - 1, (-1 : Int), Builtin.Slice.slicePlaces ((n : Int) - 1) (-1) (-1))) _ _ s
  rw [places_back]
  exact wpAny_pure h
theorem get_back {t sl : Addr} {items : Array Value} {vs : Value} {Q : Value → Shared → Prop} (ht : IsTup s.heap t items) (hs : s.heap.IsSliceOf sl .none .none vs) (pv : IsPart vs (some (-1)))
    (h : Q (.ref s.heap.objs.size) { s with heap := s.heap.push { cls := .type "tuple", data := .seq items.toList.reverse.toArray } }) (hsz : items.size ≤ sizeLine) :
    wpAny (model prog w) A (getItem (.ref t) (.ref sl)) Q E s := by
  have hk : PySem.sizeOk (.seq items.toList.reverse.toArray) := by
    show items.toList.reverse.toArray.size ≤ sizeLine
    simpa using hsz
  obtain ⟨os, hos, hcs, hds⟩ := id hs
  have hTs : s.TypeIs (.ref sl) "slice" := ⟨os, hos, hcs⟩
  unfold getItem
  try with_reducible refine wpAny_holding ?_
  first | refine wpAny_bind (wpAny_pure ?_) | skip
  refine wpAny_bind (wpAny_sequenceKey ht.typeIs (by decide) ?_)
  refine wpAny_bind (wpAny_callSpecial?_slot (name := Str.ofString "__getitem__") ht.typeIs PyProof.Rows.slot_tuple_getitem
    (wpAny_call_entry PyProof.Rows.slot_tuple_getitem ht.typeIs entry_tuple_getitem ?_ (args_tuple_getitem _ _)))
  show wpAny _ _ (Builtin.Tuple.tupleItemsOf (.ref t) >>= _) _ _ s
  refine wpAny_bind (tupleItemsOf_ ht ?_)
  refine wpAny_bind (wpAny_typeOf hTs ?_)
  rw [if_pos (by decide)]
  refine wpAny_bind (applied_back hs pv ?_)
  have hno : ¬ ((((items.size : Nat) : Int) - 1 == 0 && (-1 : Int) == 1 && items.size == items.size) = true) := by
    intro q
    rw [Bool.and_eq_true, Bool.and_eq_true] at q
    exact absurd (eq_of_beq q.1.2) (by decide)
  show wpAny _ _ (if (((items.size : Nat) : Int) - 1 == 0 && (-1 : Int) == 1 && items.size == items.size) = true then _ else _) _ _ s
  rw [if_neg hno, back_pick]
  first
    | exact wpAny_bind (m := Builtin.Tuple.tupleExact _) (wpAny_newObj_type (wpAny_pure ⟨_, rfl, wpAny_pure h⟩) hk)
    | exact wpAny_bind (m := Builtin.Tuple.tupleExact _) (wpAny_newObj_type (wpAny_bind (wpAny_pure (wpAny_pure ⟨_, rfl, wpAny_pure h⟩))) hk)
    | exact wpAny_bind (wpAny_bind (m := Builtin.Tuple.tupleExact _) (wpAny_newObj_type (wpAny_pure (wpAny_pure ⟨_, rfl, wpAny_pure h⟩)) hk))
    | exact wpAny_bind (wpAny_bind (m := Builtin.Tuple.tupleExact _) (wpAny_newObj_type (wpAny_pure ⟨_, rfl, wpAny_pure h⟩) hk))
end
/-- a list or a tuple, turned round -/
def tRevA (K : PySem.W.Frag) (te : TE) : TE := fun σ H Q => te σ H fun x H1 => ∃ a xs, x = .ref a ∧
  ((SqL K H1 a xs ∧ ∀ p, H1 p = none → Q (.ref p) (upd H1 p (.lst xs.reverse))) ∨ (SqT K H1 a xs ∧ ∀ p, H1 p = none → Q (.ref p) (upd H1 p (.tup xs.reverse))))
theorem pe_revX {X : Cx} {e : Expr} {te : TE} {k : Nat} {p1 p2 p3 pos : Pos} (he : PE X e te) : PE X (.Subscript e (.Slice none none (some (.UnaryOp .USub (.Constant (.int 1) k p1) p2)) p3) pos) (tRevA X.K te) := by
  refine ⟨fun pins s σ H Q I h => ?_⟩
  refine Subscript_ (thn (he.run pins s σ H _ I h) fun v s1 ⟨x, H1, I1, r1, a, xs, ex, q⟩ => ?_)
  subst ex
  cases r1
  have hst : PO X (some (.UnaryOp .USub (.Constant (.int 1) k p1) p2)) (tPart (tUn (rU fun i => .int (-i)) (tC (.int 1)))) := po_some (pe_un un_neg pe_int)
  refine wpAny_Slice (thn (po_none.run pins s1 σ H1 (fun o H2 => o = none ∧ H2 = H1) I1 ⟨rfl, rfl⟩) fun vl s2 ⟨l, H2, I2, pl, el, e2⟩ => ?_)
  subst el e2
  refine thn (po_none.run pins s2 σ H2 (fun o H3 => o = none ∧ H3 = H2) I2 ⟨rfl, rfl⟩) fun vu s3 ⟨u, H3, I3, pu, eu, e3⟩ => ?_
  subst eu e3
  refine thn (hst.run pins s3 σ H3 (fun o H4 => o = some (-1) ∧ H4 = H3) I3 ⟨1, rfl, -1, rfl, rfl, rfl⟩) fun vs s4 ⟨o, H4, I4, ps, eo, e4⟩ => ?_
  subst eo e4
  have I5 : Inv X pins σ H4 { s4 with heap := s4.heap.push { cls := .type "slice", data := .fields #[vl, vu, vs] } } := I4.kept (t' := s4.toks) fun b ob q => Heap.get?_push_of_some _ q
  rcases q with ⟨hx, q⟩ | ⟨hx, q⟩
  · obtain ⟨its, r, ht, hz⟩ := I5.list hx
    have hlen := r.length
    show wpAny (model X.prog X.w) X.A (subscriptTail e (.Slice none none (some (.UnaryOp .USub (.Constant (.int 1) k p1) p2)) p3) (.ref a) (.ref s4.heap.objs.size)) (EP X pins σ Q) X.xe { s4 with heap := s4.heap.push { cls := .type "slice", data := .fields #[vl, vu, vs] } }
    refine tail_any (ops := [.ref a, .ref s4.heap.objs.size]) ht.isList.typeIs (PySem.slot_list_getitem.lookup) ?_ (by with_unfolding_all rfl)
    refine wpAny_getItem_list_slice ht.isList (Heap.IsSliceOf.new _ vl vu vs) pl pu ps (by decide) ?_ (by rw [List.size_toArray]; omega)
    rw [PySem.W.krv_pick]
    refine ⟨.ref _, _, I5.laid (t' := s4.toks) (o := .lst xs.reverse) (fun b ob q => Heap.get?_push_of_some _ q) (Nat.le_refl _) ?_, rfl, q _ (I5.hok.fresh (Nat.le_refl _))⟩
    exact ⟨by rw [List.length_reverse]; exact hz, _, 0, r.reverse, Heap.get?_push_size _ rfl⟩
  · obtain ⟨its, r, ht, hz⟩ := I5.tuple hx
    have hlen := r.length
    have e1 : vl = .none := by cases pl; rfl
    have e2 : vu = .none := by cases pu; rfl
    subst e1 e2
    show wpAny (model X.prog X.w) X.A (subscriptTail e (.Slice none none (some (.UnaryOp .USub (.Constant (.int 1) k p1) p2)) p3) (.ref a) (.ref s4.heap.objs.size)) (EP X pins σ Q) X.xe { s4 with heap := s4.heap.push { cls := .type "slice", data := .fields #[Value.none, Value.none, vs] } }
    refine tail_any (ops := [.ref a, .ref s4.heap.objs.size]) ht.typeIs (PyProof.Rows.slot_tuple_getitem.lookup) ?_ (by with_unfolding_all rfl)
    refine get_back ht (Heap.IsSliceOf.new _ .none .none vs) ps ?_ (by rw [List.size_toArray]; omega)
    refine ⟨.ref _, _, I5.laid (t' := s4.toks) (o := .tup xs.reverse) (fun b ob q => Heap.get?_push_of_some _ q) (Nat.le_refl _) ?_, rfl, q _ (I5.hok.fresh (Nat.le_refl _))⟩
    refine ⟨by rw [List.length_reverse]; exact hz, _, r.reverse, ?_⟩
    have e : its.toArray.toList.reverse.toArray = its.reverse.toArray := by simp
    rw [e]
    exact IsTup.new _ _

/-! (..) * k -/
theorem tmul_same (l : Addr) (items : Array Value) (n : Nat) (dd : Option Addr) (sl : Array (Option Value)) (x : Int) (u : Tok) (c0 : (decide (x < -(2 ^ 63)) || decide (x ≥ 2 ^ 63)) = false) (c1 : (items.isEmpty || x == 1) = true) :
    Meets (Builtin.«tuple.__mul__» ⟨[.ref l, .int x u], []⟩) (fun _ R s => s.heap.get? l = some { cls := .type "tuple", dict := dd, data := .seq items n, slots := sl } ∧ R (.ok (.ret (Value.ref l))) s) :=
  .of_wp fun prog w A R s h => by
    obtain ⟨hp, g, d, tk, os⟩ := s
    obtain ⟨hl, h⟩ := h
    have f1 := AutoSeq1.idx_int
    wp_walk using wpAny_loadPart' hl
    repeat (first
      | (refine wpAny_ite_false (decide_eq_false (by rw [c0]; exact Bool.false_ne_true)) ?_; wp_walk using wpAny_loadPart' hl)
      | (refine wpAny_ite_true (decide_eq_true (by rw [c1])) ?_; wp_walk using wpAny_loadPart' hl))
    exact ⟨_, rfl, h⟩
end DD
namespace DD
open PySem PySem.Spec PyProof.Rows L2
theorem tmul_none (l : Addr) (items : Array Value) (n : Nat) (dd : Option Addr) (sl : Array (Option Value)) (x : Int) (u : Tok) (c0 : (decide (x < -(2 ^ 63)) || decide (x ≥ 2 ^ 63)) = false) (c1 : (items.isEmpty || x == 1) = false) (c2 : (decide (x ≤ 0) || items.isEmpty) = true) :
    Meets (Builtin.«tuple.__mul__» ⟨[.ref l, .int x u], []⟩) (fun _ R s => s.heap.get? l = some { cls := .type "tuple", dict := dd, data := .seq items n, slots := sl } ∧
      R (.ok (.ret (Value.ref s.heap.objs.size))) { s with heap := s.heap.push { cls := Value.type "tuple", data := Data.seq #[] }, toks := s.toks }) :=
  .of_wp fun prog w A R s h => by
    obtain ⟨hp, g, d, tk, os⟩ := s
    obtain ⟨hl, h⟩ := h
    have f1 := AutoSeq1.idx_int
    wp_walk using wpAny_loadPart' hl
    repeat (first
      | (refine wpAny_ite_false (decide_eq_false (by rw [c0]; exact Bool.false_ne_true)) ?_; wp_walk using wpAny_loadPart' hl)
      | (refine wpAny_ite_false (decide_eq_false (by rw [c1]; exact Bool.false_ne_true)) ?_; wp_walk using wpAny_loadPart' hl)
      | (refine wpAny_ite_true (decide_eq_true (by rw [c2])) ?_; wp_walk using wpAny_loadPart' hl))
    exact ⟨_, rfl, h⟩
def rRepX (K : PySem.W.Frag) : R2 := fun x y H Q => ∃ l k xs, x = .ref l ∧ y = .int k ∧ SqT K H l xs ∧ -(2 ^ 40) < k ∧ k ≤ 1000 ∧ xs.length ≤ 1000 ∧
  ((xs = [] ∨ k = 1) → Q (.ref l) H) ∧ (xs ≠ [] → k ≠ 1 → ∀ p, H p = none → Q (.ref p) (upd H p (.tup (List.replicate k.toNat xs).flatten)))
theorem op_repX {X : Cx} : OpR X (binaryOp .Mult) (rRepX X.K) := by
  intro pins s σ H x y v u Q I rx ry ⟨l, k, xs, ex, ey, hT, h1, h2, hz, q0, q1⟩
  by_cases hc : xs = [] ∨ k = 1
  · subst ex ey
    cases rx
    obtain ⟨t, rfl⟩ := ry
    obtain ⟨its, r, ⟨⟨cls, dd, data, sl⟩, ho, hcl, n, hd⟩, hs⟩ := I.tuple hT
    simp only at hcl hd
    subst hcl hd
    have c0 : (decide (k < -(2 ^ 63)) || decide (k ≥ 2 ^ 63)) = false := by
      rw [decide_eq_false (by omega), decide_eq_false (by omega)] <;> rfl
    have c1 : (its.toArray.isEmpty || k == 1) = true := by
      rcases hc with rfl | rfl
      · cases r; rfl
      · simp
    exact wpAny_binaryOp_repeat_ref (T := "tuple") (U := "int") (by decide) ⟨_, ho, rfl⟩ (fun s' => typeIs_int s' k t) noFill_tuple_mul F.fills_int_mul F.slot_int_rmul repeat_tuple F.slot_int_index.lookup
      (call_meets F.slot_int_rmul (typeIs_int s k t) F.entry_int_rmul (F.args_int_rmul_2 _ _) (int_rmul_tuple k t l its.toArray n dd sl)
        ⟨ho, rfl, ⟨_, ho, rfl⟩, call_meets F.slot_tuple_mul ⟨_, ho, rfl⟩ F.entry_tuple_mul (F.args_tuple_mul_2 _ _) (tmul_same l its.toArray n dd sl k t c0 c1) ⟨ho, ⟨.ref l, H, I, rfl, q0 hc⟩⟩⟩)
  · have hn : xs ≠ [] := fun e => hc (.inl e)
    have hk : k ≠ 1 := fun e => hc (.inr e)
    by_cases hp : 2 ≤ k
    · exact op_repT pins s σ H x y v u Q I rx ry ⟨l, k, xs, ex, ey, hT, hn, hp, h2, hz, q1 hn hk⟩
    · subst ex ey
      cases rx
      obtain ⟨t, rfl⟩ := ry
      obtain ⟨its, r, ⟨⟨cls, dd, data, sl⟩, ho, hcl, n, hd⟩, hs⟩ := I.tuple hT
      simp only at hcl hd
      subst hcl hd
      have hn' : its ≠ [] := fun e => hn (by
        subst e; cases r; rfl)
      have hi : its.toArray.isEmpty = false := by
        cases its with
        | nil => exact absurd rfl hn'
        | cons a b => rfl
      have c0 : (decide (k < -(2 ^ 63)) || decide (k ≥ 2 ^ 63)) = false := by
        rw [decide_eq_false (by omega), decide_eq_false (by omega)] <;> rfl
      have c1 : (its.toArray.isEmpty || k == 1) = false := by
        rw [hi, Bool.false_or]
        exact beq_eq_false_iff_ne.mpr hk
      have c2 : (decide (k ≤ 0) || its.toArray.isEmpty) = true := by
        rw [decide_eq_true (by omega)]; rfl
      refine wpAny_binaryOp_repeat_ref (T := "tuple") (U := "int") (by decide) ⟨_, ho, rfl⟩ (fun s' => typeIs_int s' k t) noFill_tuple_mul F.fills_int_mul F.slot_int_rmul repeat_tuple F.slot_int_index.lookup
        (call_meets F.slot_int_rmul (typeIs_int s k t) F.entry_int_rmul (F.args_int_rmul_2 _ _) (int_rmul_tuple k t l its.toArray n dd sl)
          ⟨ho, rfl, ⟨_, ho, rfl⟩, call_meets F.slot_tuple_mul ⟨_, ho, rfl⟩ F.entry_tuple_mul (F.args_tuple_mul_2 _ _) (tmul_none l its.toArray n dd sl k t c0 c1 c2) ⟨ho, ?_⟩⟩)
      have e0 : k.toNat = 0 := by omega
      have q := q1 hn hk _ (I.hok.fresh (Nat.le_refl _))
      rw [e0] at q
      refine ⟨.ref s.heap.objs.size, _, I.laid (t' := s.toks) (o := .tup []) (fun b ob q => Heap.get?_push_of_some _ q) (Nat.le_refl _) ?_, rfl, q⟩
      exact ⟨Nat.zero_le _, [], .nil, IsTup.new s.heap #[]⟩
/-! chains of comparisons -/
structure PCh (X : Cx) (os : List CmpOp) (xs : List Expr) (t : V → TT) : Prop where
  run : ∀ (pos : Pos) (pins : List (Addr × Obj)) (s : Shared) (σ : L2.St) (H : Hp) (y : V) (u : Value) (Q : Bool → Hp → Prop), Inv X pins σ H s → RelV y u → t y σ H Q → wpAny (model X.prog X.w) X.A (testChain pos u os (evalEach xs X.env)) (TP X pins σ Q) X.xe s
def tCl (r : R2) (te : TE) : V → TT := fun y σ H Q => te σ H fun z H1 => r y z H1 fun b H2 => ∃ k, b = .bl k ∧ Q k H2
def tCk (r : R2) (te : TE) (t : V → TT) : V → TT := fun y σ H Q => te σ H fun z H1 => r y z H1 fun b H2 => ∃ k, b = .bl k ∧ if k = true then t z σ H2 Q else Q false H2
section
variable {X : Cx} {op op' : CmpOp} {os : List CmpOp} {e e' : Expr} {xs : List Expr} {r : R2} {te : TE} {t : V → TT}
theorem pch_last (ho : OpR X (compareOp op) r) (he : PE X e te) : PCh X [op] [e] (tCl r te) := by
  refine ⟨fun pos pins s σ H y u Q I ry h => test_last (thn (he.run pins s σ H _ I h) fun v s1 ⟨z, H1, I1, r1, q1⟩ => thn (ho pins s1 σ H1 y z u v _ I1 ry r1 q1) fun d s2 ⟨b, H2, I2, r2, k, eb, q2⟩ => ?_)⟩
  subst eb
  cases r2
  exact wpAny_truthy_bool ⟨H2, I2, q2⟩
theorem pch_link (ho : OpR X (compareOp op) r) (he : PE X e te) (hc : PCh X (op' :: os) (e' :: xs) t) : PCh X (op :: op' :: os) (e :: e' :: xs) (tCk r te t) := by
  refine ⟨fun pos pins s σ H y u Q I ry h => test_link (thn (he.run pins s σ H _ I h) fun v s1 ⟨z, H1, I1, r1, q1⟩ => thn (ho pins s1 σ H1 y z u v _ I1 ry r1 q1) fun d s2 ⟨b, H2, I2, r2, k, eb, q2⟩ => ?_)⟩
  subst eb
  cases r2
  refine wpAny_truthy_bool ?_
  cases k with
  | false => exact ite_ff ⟨H2, I2, q2⟩
  | true => exact ite_tt (hc.run pos pins s2 σ H2 z v Q I2 r1 q2)
theorem pt_chn {a : Expr} {ta : TE} {pos : Pos} (ha : PE X a ta) (hc : PCh X (op :: op' :: os) (e :: e' :: xs) t) (hm : lastMarks (op :: op' :: os) (e :: e' :: xs) = false) :
    PT X (.Compare a (op :: op' :: os) (e :: e' :: xs) pos) (fun σ H Q => ta σ H fun y H1 => t y σ H1 Q) :=
  ⟨fun pins s σ H Q I h => isTrue_chain (thn (ha.run pins s σ H _ I h) fun v s1 ⟨y, H1, I1, r1, q1⟩ => hc.run pos pins s1 σ H1 y v Q I1 r1 q1) hm⟩
end
end DD



set_option Elab.async false
set_option linter.all false
set_option maxRecDepth 100000
set_option maxHeartbeats 4000000
namespace DD
open PySem PySem.Spec PyProof.Rows L2
theorem wBin_mono {o : Op} {a b : D} {Q Q' : D → Prop} (h : ∀ z, Q z → Q' z) (hw : wBin o a b Q) : wBin o a b Q' := by
  unfold wBin at hw ⊢
  split at hw <;> first | exact hw.elim | exact h _ hw | exact ⟨hw.1, h _ hw.2⟩
theorem wCmp_mono {o : Cm} {a b : D} {Q Q' : Bool → Prop} (h : ∀ z, Q z → Q' z) (hw : wCmp o a b Q) : wCmp o a b Q' := by
  unfold wCmp at hw ⊢
  split at hw <;> first | exact hw.elim | exact h _ hw | exact ⟨hw.1, h _ hw.2⟩
theorem wTru_mono {a : D} {Q Q' : Bool → Prop} (h : ∀ z, Q z → Q' z) (hw : wTru a Q) : wTru a Q' := by
  unfold wTru at hw ⊢
  split at hw <;> first | exact hw.elim | exact h _ hw
theorem wIdx_mono {a b : D} {Q Q' : D → Prop} (h : ∀ z, Q z → Q' z) (hw : wIdx a b Q) : wIdx a b Q' := by
  unfold wIdx at hw ⊢
  split at hw <;> first | exact hw.elim | exact hw.imp fun _ q => ⟨q.1, h _ q.2⟩
theorem wSlc_mono {a : D} {l u : Option Int} {Q Q' : D → Prop} (h : ∀ z, Q z → Q' z) (hw : wSlc a l u Q) : wSlc a l u Q' := by
  unfold wSlc at hw ⊢
  split at hw <;> first | exact hw.elim | exact h _ hw
theorem wRev_mono {a : D} {Q Q' : D → Prop} (h : ∀ z, Q z → Q' z) (hw : wRev a Q) : wRev a Q' := by
  unfold wRev at hw ⊢
  split at hw <;> first | exact hw.elim | exact h _ hw
theorem wSt_mono {a : D} {Q Q' : List D → Prop} (h : ∀ z, Q z → Q' z) (hw : wSt a Q) : wSt a Q' := by
  unfold wSt at hw ⊢
  split at hw <;> first | exact hw.elim | exact ⟨hw.1, h _ hw.2⟩
theorem wZip_mono {a b : D} {Q Q' : List D → Prop} (h : ∀ z, Q z → Q' z) (hw : wZip a b Q) : wZip a b Q' := by
  unfold wZip at hw ⊢
  split at hw <;> first | exact hw.elim | exact ⟨hw.1, h _ hw.2⟩
theorem wEnu_mono {a : D} {Q Q' : List D → Prop} (h : ∀ z, Q z → Q' z) (hw : wEnu a Q) : wEnu a Q' := by
  unfold wEnu at hw ⊢
  split at hw <;> first | exact hw.elim | exact ⟨hw.1, h _ hw.2⟩
theorem wRvi_mono {a : D} {Q Q' : List D → Prop} (h : ∀ z, Q z → Q' z) (hw : wRvi a Q) : wRvi a Q' := by
  unfold wRvi at hw ⊢
  split at hw <;> first | exact hw.elim | exact ⟨hw.1, h _ hw.2⟩
theorem wBi_mono {b : Bi} {ds : List D} {Q Q' : D → Prop} (h : ∀ z, Q z → Q' z) (hw : wBi b ds Q) : wBi b ds Q' := by
  unfold wBi at hw ⊢
  split at hw <;> first | exact hw.elim | exact h _ hw | exact hw.imp fun _ q => ⟨q.1, h _ q.2⟩ | exact hw.imp fun _ q => ⟨q.1, q.2.1, fun m a b => h _ (q.2.2 m a b)⟩ | exact hw.imp fun _ q => ⟨q.1, fun m a b => h _ (q.2 m a b)⟩
theorem wBnd_mono {tg : Tg} {d : D} {env : Env} {Q Q' : Env → Prop} (h : ∀ z, Q z → Q' z) (hw : wBnd tg d env Q) : wBnd tg d env Q' := hw.imp fun _ q => ⟨q.1, h _ q.2⟩
theorem wTurns_mono {t t' : D → Nat → (Option D → Nat → Prop) → Prop} (ht : ∀ d n R R', (∀ o n, R o n → R' o n) → t d n R → t' d n R') : ∀ {ds acc : List D} {n : Nat} {Q Q' : KL}, (∀ l n, Q l n → Q' l n) → wTurns t ds acc n Q → wTurns t' ds acc n Q'
  | [], _, _, _, _, h, hw => h _ _ hw
  | d :: ds, acc, n, Q, Q', h, hw => ht d n _ _ (fun o n' q => wTurns_mono ht h q) hw
def MonoG (Γ : Gam) : Prop := ∀ f ds n (Q Q' : K1) (X X' : XK1), (∀ d n, Q d n → Q' d n) → (∀ k n, X k n → X' k n) → Γ f ds n Q X → Γ f ds n Q' X'
section
variable {Γ : Gam} {G : Nat → D} (hΓ : MonoG Γ)
include hΓ
mutual
theorem wE_mono : ∀ (e : E) {env : Env} {n : Nat} {Q Q' : K1} {X X' : XK1}, (∀ d n, Q d n → Q' d n) → (∀ k n, X k n → X' k n) → wE Γ G e env n Q X → wE Γ G e env n Q' X'
  | .var i, _, _, _, _, _, _, h, _, hw => by unfold wE at hw ⊢; exact hw.imp fun _ q => ⟨q.1, h _ _ q.2⟩
  | .pk i, _, _, _, _, _, _, h, _, hw => by unfold wE at hw ⊢; exact hw.imp fun _ q => ⟨q.1, h _ _ q.2⟩
  | .cst d, _, _, _, _, _, _, h, _, hw => by unfold wE at hw ⊢; exact h _ _ hw
  | .glb g, _, _, _, _, _, _, h, _, hw => by unfold wE at hw ⊢; exact h _ _ hw
  | .bin o a b, _, _, _, _, _, _, h, hx, hw => by
    unfold wE at hw ⊢; exact wE_mono a (fun _ _ q => wE_mono b (fun _ _ q => wBin_mono (fun _ q => h _ _ q) q) hx q) hx hw
  | .neg a, _, _, _, _, _, _, h, hx, hw => by unfold wE at hw ⊢; exact wE_mono a (fun _ _ q => q.imp fun _ q => ⟨q.1, h _ _ q.2⟩) hx hw
  | .cmp o a b, _, _, _, _, _, _, h, hx, hw => by
    unfold wE at hw ⊢; exact wE_mono a (fun _ _ q => wE_mono b (fun _ _ q => wCmp_mono (fun _ q => h _ _ q) q) hx q) hx hw
  | .ch2 o1 o2 a b c, _, _, _, _, _, _, h, hx, hw => by
    unfold wE at hw ⊢; exact wE_mono a (fun _ _ q => wE_mono b (fun _ _ q => wCmp_mono (fun _ q => ⟨fun z => wE_mono c (fun _ _ q => wCmp_mono (fun _ q => h _ _ q) q) hx (q.1 z), fun z => h _ _ (q.2 z)⟩) q) hx q) hx hw
  | .and a b, _, _, _, _, _, _, h, hx, hw => by
    unfold wE at hw ⊢; exact wE_mono a (fun _ _ q => q.imp fun _ q => ⟨q.1, fun z => wE_mono b h hx (q.2.1 z), fun z => h _ _ (q.2.2 z)⟩) hx hw
  | .or a b, _, _, _, _, _, _, h, hx, hw => by
    unfold wE at hw ⊢; exact wE_mono a (fun _ _ q => q.imp fun _ q => ⟨q.1, fun z => h _ _ (q.2.1 z), fun z => wE_mono b h hx (q.2.2 z)⟩) hx hw
  | .not a, _, _, _, _, _, _, h, hx, hw => by unfold wE at hw ⊢; exact wE_mono a (fun _ _ q => q.imp fun _ q => ⟨q.1, h _ _ q.2⟩) hx hw
  | .ite c a b, _, _, _, _, _, _, h, hx, hw => by
    unfold wE at hw ⊢; exact wT_mono c (fun _ _ q => ⟨fun z => wE_mono a h hx (q.1 z), fun z => wE_mono b h hx (q.2 z)⟩) hx hw
  | .tup es, _, _, _, _, _, _, h, hx, hw => by unfold wE at hw ⊢; exact wEs_mono es (fun _ _ q => h _ _ q) hx hw
  | .lst es, _, _, _, _, _, _, h, hx, hw => by unfold wE at hw ⊢; exact wEs_mono es (fun _ _ q => h _ _ q) hx hw
  | .idx a b, _, _, _, _, _, _, h, hx, hw => by
    unfold wE at hw ⊢; exact wE_mono a (fun _ _ q => wE_mono b (fun _ _ q => wIdx_mono (fun _ q => h _ _ q) q) hx q) hx hw
  | .slc a lo hi, _, _, _, _, _, _, h, hx, hw => by
    unfold wE at hw ⊢; exact wE_mono a (fun _ _ q => wEi_mono lo (fun _ _ q => wEi_mono hi (fun _ _ q => wSlc_mono (fun _ q => h _ _ q) q) hx q) hx q) hx hw
  | .rev a, _, _, _, _, _, _, h, hx, hw => by unfold wE at hw ⊢; exact wE_mono a (fun _ _ q => wRev_mono (fun _ q => h _ _ q) q) hx hw
  | .call f es, _, _, _, _, _, _, h, hx, hw => by unfold wE at hw ⊢; exact wEs_mono es (fun _ _ q => hΓ _ _ _ _ _ _ _ h hx q) hx hw
  | .bi b es, _, _, _, _, _, _, h, hx, hw => by unfold wE at hw ⊢; exact wEs_mono es (fun _ _ q => wBi_mono (fun _ q => h _ _ q) q) hx hw
  | .lc tg it c e, _, _, _, _, _, _, h, hx, hw => by
    unfold wE at hw ⊢
    exact wIt_mono it (fun _ _ q => wTurns_mono (fun d n R R' hR q => wBnd_mono (fun env' q => wTs_mono c (fun _ _ q => ⟨fun z => wE_mono e (fun _ _ q => hR _ _ q) (fun _ _ z => z) (q.1 z), fun z => hR _ _ (q.2 z)⟩) (fun _ _ z => z) q) q) (fun _ _ q => h _ _ q) q) hx hw
  | .told ws e, _, _, _, _, _, _, h, hx, hw => by unfold wE at hw ⊢; exact wE_mono e (fun _ _ q => h _ _ q) (fun _ _ q => ⟨q.1, h _ _ q.2⟩) hw
theorem wEs_mono : ∀ (es : Es) {env : Env} {n : Nat} {Q Q' : KL} {X X' : XK1}, (∀ d n, Q d n → Q' d n) → (∀ k n, X k n → X' k n) → wEs Γ G es env n Q X → wEs Γ G es env n Q' X'
  | .nil, _, _, _, _, _, _, h, _, hw => by unfold wEs at hw ⊢; exact h _ _ hw
  | .cons e es, _, _, _, _, _, _, h, hx, hw => by unfold wEs at hw ⊢; exact wE_mono e (fun _ _ q => wEs_mono es (fun _ _ q => h _ _ q) hx q) hx hw
  | .star e es, _, _, _, _, _, _, h, hx, hw => by unfold wEs at hw ⊢; exact wE_mono e (fun _ _ q => wSt_mono (fun _ q => wEs_mono es (fun _ _ q => h _ _ q) hx q) q) hx hw
theorem wEi_mono : ∀ (e : Ei) {env : Env} {n : Nat} {Q Q' : Option Int → Nat → Prop} {X X' : XK1}, (∀ d n, Q d n → Q' d n) → (∀ k n, X k n → X' k n) → wEi Γ G e env n Q X → wEi Γ G e env n Q' X'
  | .no, _, _, _, _, _, _, h, _, hw => by unfold wEi at hw ⊢; exact h _ _ hw
  | .ex e, _, _, _, _, _, _, h, hx, hw => by unfold wEi at hw ⊢; exact wE_mono e (fun _ _ q => q.imp fun _ q => ⟨q.1, h _ _ q.2⟩) hx hw
theorem wIt_mono : ∀ (e : It) {env : Env} {n : Nat} {Q Q' : KL} {X X' : XK1}, (∀ d n, Q d n → Q' d n) → (∀ k n, X k n → X' k n) → wIt Γ G e env n Q X → wIt Γ G e env n Q' X'
  | .lst e, _, _, _, _, _, _, h, hx, hw => by unfold wIt at hw ⊢; exact wE_mono e (fun _ _ q => q.imp fun _ q => ⟨q.1, h _ _ q.2⟩) hx hw
  | .tup e, _, _, _, _, _, _, h, hx, hw => by unfold wIt at hw ⊢; exact wE_mono e (fun _ _ q => q.imp fun _ q => ⟨q.1, h _ _ q.2⟩) hx hw
  | .rng1 a, _, _, _, _, _, _, h, hx, hw => by unfold wIt at hw ⊢; exact wE_mono a (fun _ _ q => q.imp fun _ q => ⟨q.1, q.2.1, h _ _ q.2.2⟩) hx hw
  | .rng2 a b, _, _, _, _, _, _, h, hx, hw => by unfold wIt at hw ⊢; exact wE_mono a (fun _ _ q => wE_mono b (fun _ _ q => q.imp fun _ q => q.imp fun _ q => ⟨q.1, q.2.1, q.2.2.1, h _ _ q.2.2.2⟩) hx q) hx hw
  | .rng3 a b c, _, _, _, _, _, _, h, hx, hw => by unfold wIt at hw ⊢; exact wE_mono a (fun _ _ q => wE_mono b (fun _ _ q => wE_mono c (fun _ _ q => q.imp fun _ q => q.imp fun _ q => q.imp fun _ q => q.imp fun _ q => ⟨q.1, q.2.1, q.2.2.1, q.2.2.2.1, q.2.2.2.2.1, h _ _ q.2.2.2.2.2⟩) hx q) hx q) hx hw
  | .zip a b, _, _, _, _, _, _, h, hx, hw => by unfold wIt at hw ⊢; exact wE_mono a (fun _ _ q => wE_mono b (fun _ _ q => wZip_mono (fun _ q => h _ _ q) q) hx q) hx hw
  | .enu a, _, _, _, _, _, _, h, hx, hw => by unfold wIt at hw ⊢; exact wE_mono a (fun _ _ q => wEnu_mono (fun _ q => h _ _ q) q) hx hw
  | .rvi a, _, _, _, _, _, _, h, hx, hw => by unfold wIt at hw ⊢; exact wE_mono a (fun _ _ q => wRvi_mono (fun _ q => h _ _ q) q) hx hw
theorem wCh_mono : ∀ (c : Ch) {x : D} {env : Env} {n : Nat} {Q Q' : KB} {X X' : XK1}, (∀ d n, Q d n → Q' d n) → (∀ k n, X k n → X' k n) → wCh Γ G c x env n Q X → wCh Γ G c x env n Q' X'
  | .last o e, _, _, _, _, _, _, _, h, hx, hw => by unfold wCh at hw ⊢; exact wE_mono e (fun _ _ q => wCmp_mono (fun _ q => h _ _ q) q) hx hw
  | .link o e c, _, _, _, _, _, _, _, h, hx, hw => by unfold wCh at hw ⊢; exact wE_mono e (fun _ _ q => wCmp_mono (fun _ q => ⟨fun z => wCh_mono c h hx (q.1 z), fun z => h _ _ (q.2 z)⟩) q) hx hw
theorem wT_mono : ∀ (e : T) {env : Env} {n : Nat} {Q Q' : KB} {X X' : XK1}, (∀ d n, Q d n → Q' d n) → (∀ k n, X k n → X' k n) → wT Γ G e env n Q X → wT Γ G e env n Q' X'
  | .val e, _, _, _, _, _, _, h, hx, hw => by unfold wT at hw ⊢; exact wE_mono e (fun _ _ q => wTru_mono (fun _ q => h _ _ q) q) hx hw
  | .cmp o a b, _, _, _, _, _, _, h, hx, hw => by
    unfold wT at hw ⊢; exact wE_mono a (fun _ _ q => wE_mono b (fun _ _ q => wCmp_mono (fun _ q => h _ _ q) q) hx q) hx hw
  | .ch2 o1 o2 a b c, _, _, _, _, _, _, h, hx, hw => by
    unfold wT at hw ⊢; exact wE_mono a (fun _ _ q => wE_mono b (fun _ _ q => wCmp_mono (fun _ q => ⟨fun z => wE_mono c (fun _ _ q => wCmp_mono (fun _ q => h _ _ q) q) hx (q.1 z), fun z => h _ _ (q.2 z)⟩) q) hx q) hx hw
  | .chn a c, _, _, _, _, _, _, h, hx, hw => by unfold wT at hw ⊢; exact wE_mono a (fun _ _ q => wCh_mono c h hx q) hx hw
  | .and a b, _, _, _, _, _, _, h, hx, hw => by unfold wT at hw ⊢; exact wT_mono a (fun _ _ q => ⟨fun z => wT_mono b h hx (q.1 z), fun z => h _ _ (q.2 z)⟩) hx hw
  | .or a b, _, _, _, _, _, _, h, hx, hw => by unfold wT at hw ⊢; exact wT_mono a (fun _ _ q => ⟨fun z => h _ _ (q.1 z), fun z => wT_mono b h hx (q.2 z)⟩) hx hw
  | .not a, _, _, _, _, _, _, h, hx, hw => by unfold wT at hw ⊢; exact wT_mono a (fun _ _ q => h _ _ q) hx hw
theorem wTs_mono : ∀ (e : Ts) {env : Env} {n : Nat} {Q Q' : KB} {X X' : XK1}, (∀ d n, Q d n → Q' d n) → (∀ k n, X k n → X' k n) → wTs Γ G e env n Q X → wTs Γ G e env n Q' X'
  | .no, _, _, _, _, _, _, h, _, hw => by unfold wTs at hw ⊢; exact h _ _ hw
  | .ex t, _, _, _, _, _, _, h, hx, hw => by unfold wTs at hw ⊢; exact wT_mono t h hx hw
end
end
end DD



set_option Elab.async false
set_option linter.all false
set_option maxRecDepth 100000
set_option maxHeartbeats 4000000
namespace DD
open PySem PySem.Spec PyProof.Rows L2

/-! what stands for a datum in the frozen part F of the abstract heap -/
mutual
inductive Rp (K : PySem.W.Frag) (sa : Option Addr) (F : Hp) : V → D → Prop
  | non : Rp K sa F .non .none
  | bl (b : Bool) : Rp K sa F (.bl b) (.bool b)
  | int (i : Int) : Rp K sa F (.int i) (.int i)
  | str (x : Str) : Rp K sa F (.str x) (.str x)
  | lst {a : Addr} {xs : List V} {ds : List D} : F a = some (.lst xs) → RpA K sa F xs ds → Rp K sa F (.ref a) (.list ds)
  | tup {a : Addr} {xs : List V} {ds : List D} : SqT K F a xs → RpA K sa F xs ds → Rp K sa F (.ref a) (.tuple ds)
  | stt {a : Addr} : sa = some a → Rp K sa F (.ref a) (.dict [(.dict [], .none)])
  | scr {a : Addr} {xs : List V} {ds : List D} : SqL K F a xs → RpA K sa F xs ds → Rp K sa F (.ref a) (.dict [(.list ds, .none)])
inductive RpA (K : PySem.W.Frag) (sa : Option Addr) (F : Hp) : List V → List D → Prop
  | nil : RpA K sa F [] []
  | cons {v : V} {vs : List V} {d : D} {ds : List D} : Rp K sa F v d → RpA K sa F vs ds → RpA K sa F (v :: vs) (d :: ds)
end
abbrev Le (F H : Hp) : Prop := ∀ a o, F a = some o → H a = some o
theorem Le.refl (F : Hp) : Le F F := fun _ _ h => h
theorem Le.trans {F G H : Hp} (a : Le F G) (b : Le G H) : Le F H := fun x o h => b x o (a x o h)
theorem Le.rd {F H : Hp} (l : Le F H) {a : Addr} {u : HO} (h : Rd F a u) : Rd H a u := by
  rcases h with h | ⟨o, h⟩
  · exact .inl (l _ _ h)
  · exact .inr ⟨o, l _ _ h⟩
theorem Le.sqT {F H : Hp} (l : Le F H) {K : PySem.W.Frag} {a : Addr} {xs : List V} (h : SqT K F a xs) : SqT K H a xs := h.imp (l.rd) id
theorem Le.sqL {F H : Hp} (l : Le F H) {K : PySem.W.Frag} {a : Addr} {xs : List V} (h : SqL K F a xs) : SqL K H a xs := h.imp (l.rd) id
theorem Le.upd {F : Hp} {p : Addr} {o : HO} (h : F p = none) : Le F (upd F p o) := fun a u e => by rw [upd_ne (ne_of_none e h)]; exact e
theorem Le.free {F H : Hp} (l : Le F H) {p : Addr} (h : H p = none) : F p = none := by
  cases q : F p with
  | none => rfl
  | some o => rw [l p o q] at h; cases h
section
variable {K : PySem.W.Frag} {sa : Option Addr} {F F' H : Hp}
mutual
theorem Rp.mono (l : Le F F') : ∀ {v : V} {d : D}, Rp K sa F v d → Rp K sa F' v d
  | _, _, .non => .non
  | _, _, .bl b => .bl b
  | _, _, .int i => .int i
  | _, _, .str x => .str x
  | _, _, .lst h r => .lst (l _ _ h) (RpA.mono l r)
  | _, _, .tup h r => .tup (l.sqT h) (RpA.mono l r)
  | _, _, .stt h => .stt h
  | _, _, .scr h r => .scr (l.sqL h) (RpA.mono l r)
theorem RpA.mono (l : Le F F') : ∀ {v : List V} {d : List D}, RpA K sa F v d → RpA K sa F' v d
  | _, _, .nil => .nil
  | _, _, .cons h r => .cons (Rp.mono l h) (RpA.mono l r)
end
mutual
theorem Rp.dp (l : Le F H) : ∀ {d : D} {v : V}, Rp K sa F v d → d.canLay0 = true → Dp K H v d
  | _, _, .non, _ => .non
  | _, _, .bl b, _ => .bl b
  | _, _, .int i, _ => .int i
  | _, _, .str x, _ => .str x
  | _, _, .lst h r, c => .lst (.inl (.inl (l _ _ h))) (RpA.dp l r (by simpa [PyData.canLay0] using c))
  | _, _, .tup h r, c => .tup (l.sqT h) (RpA.dp l r (by simpa [PyData.canLay0] using c))
  | _, _, .stt _, c => by simp [PyData.canLay0] at c
  | _, _, .scr _ _, c => by simp [PyData.canLay0] at c
theorem RpA.dp (l : Le F H) : ∀ {d : List D} {v : List V}, RpA K sa F v d → PyData.canLayAll0 d = true → DpAll K H v d
  | _, _, .nil, _ => .nil
  | _, _, .cons h r, c => by
    simp only [PyData.canLayAll0, Bool.and_eq_true] at c
    exact .cons (Rp.dp l h c.1) (RpA.dp l r c.2)
end
theorem RpA.len : ∀ {v : List V} {d : List D}, RpA K sa F v d → v.length = d.length
  | _, _, .nil => rfl
  | _, _, .cons _ r => by rw [List.length_cons, List.length_cons, RpA.len r]
theorem RpA.get : ∀ {v : List V} {d : List D} {i : Nat} {x : D}, RpA K sa F v d → d[i]? = some x → ∃ y, v[i]? = some y ∧ Rp K sa F y x
  | _, _, _, _, .nil, e => by simp at e
  | _, _, 0, _, .cons h _, e => by simp at e; subst e; exact ⟨_, rfl, h⟩
  | _, _, i + 1, _, .cons _ r, e => by
    obtain ⟨y, e1, e2⟩ := RpA.get r (i := i) (by simpa using e)
    exact ⟨y, by simpa using e1, e2⟩
theorem RpA.getV : ∀ {v : List V} {d : List D} {i : Nat} {y : V}, RpA K sa F v d → v[i]? = some y → ∃ x, d[i]? = some x ∧ Rp K sa F y x
  | _, _, _, _, .nil, e => by simp at e
  | _, _, 0, _, .cons h _, e => by simp at e; subst e; exact ⟨_, rfl, h⟩
  | _, _, i + 1, _, .cons _ r, e => by
    obtain ⟨y, e1, e2⟩ := RpA.getV r (i := i) (by simpa using e)
    exact ⟨y, by simpa using e1, e2⟩
theorem RpA.append : ∀ {v v' : List V} {d d' : List D}, RpA K sa F v d → RpA K sa F v' d' → RpA K sa F (v ++ v') (d ++ d')
  | _, _, _, _, .nil, s => s
  | _, _, _, _, .cons h r, s => .cons h (RpA.append r s)
theorem RpA.take : ∀ (n : Nat) {v : List V} {d : List D}, RpA K sa F v d → RpA K sa F (v.take n) (d.take n)
  | 0, _, _, _ => .nil
  | _ + 1, _, _, .nil => .nil
  | n + 1, _, _, .cons h r => .cons h (RpA.take n r)
theorem RpA.drop : ∀ (n : Nat) {v : List V} {d : List D}, RpA K sa F v d → RpA K sa F (v.drop n) (d.drop n)
  | 0, _, _, r => r
  | _ + 1, _, _, .nil => .nil
  | n + 1, _, _, .cons _ r => RpA.drop n r
theorem RpA.cut {v : List V} {d : List D} (r : RpA K sa F v d) (lo hi : Option Int) : RpA K sa F (cutV v lo hi) (cutD d lo hi) := by
  unfold cutV cutD
  rw [r.len]
  exact .take _ (.drop _ r)
theorem RpA.set {x : D} {y : V} (h : Rp K sa F y x) : ∀ {v : List V} {d : List D} (i : Nat), RpA K sa F v d → RpA K sa F (v.set i y) (d.set i x)
  | _, _, _, .nil => .nil
  | _, _, 0, .cons _ r => .cons h r
  | _, _, i + 1, .cons q r => .cons q (RpA.set h i r)
theorem RpA.reverse {v : List V} {d : List D} (r : RpA K sa F v d) : RpA K sa F v.reverse d.reverse := by
  induction v generalizing d with
  | nil => cases r; exact .nil
  | cons x v ih =>
    cases r with
    | cons h r => rw [List.reverse_cons, List.reverse_cons]; exact (ih r).append (.cons h .nil)
theorem RpA.rep {v : List V} {d : List D} (r : RpA K sa F v d) : ∀ k : Nat, RpA K sa F (List.replicate k v).flatten (List.replicate k d).flatten
  | 0 => .nil
  | k + 1 => by rw [List.replicate_succ, List.replicate_succ, List.flatten_cons, List.flatten_cons]; exact r.append (RpA.rep r k)
theorem RpA.ints : ∀ {d : List D} {v : List V} {ns : List Int}, RpA K sa F v d → intsOf d = some ns → v = ns.map V.int
  | [], _, ns, .nil, e => by simp [intsOf] at e; subst e; rfl
  | .int i :: d, _, ns, .cons h r, e => by
    simp only [intsOf, Option.map_eq_some_iff] at e
    obtain ⟨ms, e1, rfl⟩ := e
    cases h
    rw [RpA.ints r e1]; rfl
theorem RpA.bls : ∀ {d : List D} {v : List V} {ns : List Bool}, RpA K sa F v d → blsOf d = some ns → v = ns.map V.bl
  | [], _, ns, .nil, e => by simp [blsOf] at e; subst e; rfl
  | .bool i :: d, _, ns, .cons h r, e => by
    simp only [blsOf, Option.map_eq_some_iff] at e
    obtain ⟨ms, e1, rfl⟩ := e
    cases h
    rw [RpA.bls r e1]; rfl
theorem RpA.ofInts : ∀ ns : List Int, RpA K sa F (ns.map V.int) (ns.map PyData.int)
  | [] => .nil
  | i :: ns => .cons (.int i) (RpA.ofInts ns)
end

/-! the law's static things -/
/-- names and numbers, closed -/
structure Sta where
  gn : Nat → Str
  dn : Nat → Str
  ar : Nat → Nat
  L : List Nat
  gl : List Nat
  en : Nat → Str
  ks : List Nat
structure Kit where
  K : PySem.W.Frag
  sa : Option Addr
  T : List (Addr × Str)
  Γ : Gam
  G : Nat → D
  cls : Nat → Value
  lv : Nat
  s : Sta
abbrev Kit.gn (κ : Kit) := κ.s.gn
abbrev Kit.dn (κ : Kit) := κ.s.dn
abbrev Kit.ar (κ : Kit) := κ.s.ar
abbrev Kit.L (κ : Kit) := κ.s.L
abbrev Kit.gl (κ : Kit) := κ.s.gl
abbrev Kit.en (κ : Kit) := κ.s.en
abbrev Kit.ks (κ : Kit) := κ.s.ks
structure Wd (κ : Kit) (H F : Hp) (n : Nat) : Prop where
  le : Le F H
  nt : ∀ a ps, F a ≠ some (.tbl ps)
  tab : LamX.Tabs κ.T H
  st : ∀ a, κ.sa = some a → F a = none ∧ ∃ (na : Addr) (ns : List Int) (c : Int), H a = some (.lst [.ref na, .int c]) ∧ F na = some (.lst (ns.map V.int)) ∧ ns ≠ [] ∧ (∀ x ∈ ns, 0 ≤ x ∧ x < 2 ^ 31) ∧ ns.length < 2 ^ 20 ∧ 0 ≤ c ∧ c ≤ n
structure Fr (sa : Option Addr) (H F H' F' : Hp) : Prop where
  f : Le F F'
  h : ∀ a o, H a = some o → sa ≠ some a → (∀ ps, o ≠ .tbl ps) → H' a = some o
  d : ∀ a, H a ≠ none → H' a ≠ none
  u : ∀ a, H a ≠ none → F a = none → F' a = none
theorem Fr.refl {sa : Option Addr} {H F : Hp} : Fr sa H F H F := ⟨Le.refl _, fun _ _ h _ _ => h, fun _ h => h, fun _ _ h => h⟩
theorem Fr.trans {sa : Option Addr} {H F H1 F1 H2 F2 : Hp} (a : Fr sa H F H1 F1) (b : Fr sa H1 F1 H2 F2) : Fr sa H F H2 F2 :=
  ⟨a.f.trans b.f, fun x o h n t => b.h x o (a.h x o h n t) n t, fun x h => b.d x (a.d x h), fun x h z => b.u x (a.d x h) (a.u x h z)⟩
/-- something new and frozen, at most -/
inductive Nw (H F : Hp) : Hp → Hp → Prop
  | no : Nw H F H F
  | new {p : Addr} {o : HO} : H p = none → (∀ ps, o ≠ .tbl ps) → Nw H F (upd H p o) (upd F p o)
theorem Nw.fr {sa : Option Addr} {H F H' F' : Hp} (l : Le F H) (x : Nw H F H' F') : Fr sa H F H' F' := by
  cases x with
  | no => exact Fr.refl
  | new hp ho =>
    refine ⟨Le.upd (l.free hp), fun a o h _ _ => Le.upd hp a o h, fun a h => ?_, fun a h z => ?_⟩
    · intro q
      cases e : H a with
      | none => exact h e
      | some o => rw [Le.upd hp a o e] at q; cases q
    · rw [upd_ne (show a ≠ _ from fun q => h (by rw [q]; exact hp))]; exact z
theorem tabs_upd {T : List (Addr × Str)} {H : Hp} {p : Addr} {o : HO} (h : LamX.Tabs T H) (hp : H p = none) : LamX.Tabs T (upd H p o) := h.ext (Le.upd hp)
theorem Nw.wd {κ : Kit} {H F H' F' : Hp} {n : Nat} (w : Wd κ H F n) (x : Nw H F H' F') : Wd κ H' F' n := by
  cases x with
  | no => exact w
  | @new p o hp ho =>
    refine ⟨fun a u e => ?_, fun a ps e => ?_, tabs_upd w.tab hp, fun a ha => ?_⟩
    · by_cases q : a = p
      · subst q; rw [upd_same] at e ⊢; exact e
      · rw [upd_ne q] at e ⊢; exact w.le a u e
    · by_cases q : a = p
      · subst q; rw [upd_same] at e; exact ho ps (Option.some.inj e)
      · rw [upd_ne q] at e; exact w.nt a ps e
    · obtain ⟨h1, na, ns, c, h2, h3, h4⟩ := w.st a ha
      have q : a ≠ p := ne_of_none h2 hp
      refine ⟨by rw [upd_ne q]; exact h1, na, ns, c, by rw [upd_ne q]; exact h2, Le.upd (w.le.free hp) _ _ h3, h4⟩

/-! slots -/
def SlOk (κ : Kit) (H0 H F : Hp) (s : Sl) (x : Option (Option V)) : Prop :=
  match s with
  | .un => True
  | .v d => ∃ v, x = some (some v) ∧ Rp κ.K κ.sa F v d
  | .own ds => ∃ a xs, x = some (some (.ref a)) ∧ H a = some (.lst xs) ∧ F a = none ∧ H0 a = none ∧ κ.sa ≠ some a ∧ RpA κ.K κ.sa F xs ds
structure ER (κ : Kit) (H0 F0 : Hp) (env : Env) (σ : L2.St) (H F : Hp) (n : Nat) : Prop where
  len : env.length = σ.length
  wd : Wd κ H F n
  fr : Fr κ.sa H0 F0 H F
  sl : ∀ i, SlOk κ H0 H F (getS env i) σ[i]?
  sep : ∀ i j ds es a, i ≠ j → getS env i = .own ds → getS env j = .own es → σ[i]? = some (some (.ref a)) → σ[j]? ≠ some (some (.ref a))
/-- the heaps went on, no own list was touched -/
theorem ER.step {κ : Kit} {H0 F0 : Hp} {env : Env} {σ : L2.St} {H F H' F' : Hp} {n n' : Nat} (e : ER κ H0 F0 env σ H F n) (fr : Fr κ.sa H F H' F') (wd : Wd κ H' F' n') : ER κ H0 F0 env σ H' F' n' := by
  refine ⟨e.len, wd, e.fr.trans fr, fun i => ?_, e.sep⟩
  have s := e.sl i
  cases q : getS env i with
  | un => trivial
  | v d =>
    rw [q] at s
    obtain ⟨v, h1, h2⟩ := s
    exact ⟨v, h1, h2.mono fr.f⟩
  | own ds =>
    rw [q] at s
    obtain ⟨a, xs, h1, h2, h3, h4, h5, h6⟩ := s
    exact ⟨a, xs, h1, fr.h a _ h2 h5 (fun _ z => nomatch z), fr.u a (by rw [h2]; exact fun z => nomatch z) h3, h4, h5, h6.mono fr.f⟩
theorem ER.nw {κ : Kit} {H0 F0 : Hp} {env : Env} {σ : L2.St} {H F H' F' : Hp} {n : Nat} (e : ER κ H0 F0 env σ H F n) (x : Nw H F H' F') : ER κ H0 F0 env σ H' F' n := e.step (x.fr e.wd.le) (x.wd e.wd)

theorem setS_len : ∀ (l : List Sl) (i : Nat) (s : Sl), (setS l i s).length = l.length
  | [], _, _ => rfl
  | _ :: _, 0, _ => rfl
  | _ :: l, i + 1, s => by show (setS l i s).length + 1 = _; rw [setS_len l i s]; rfl
theorem clrS_len (l : List Sl) : ∀ is : List Nat, (clrS l is).length = l.length
  | [] => rfl
  | i :: is => by show (setS (clrS l is) i .un).length = _; rw [setS_len, clrS_len l is]
theorem getS_setS : ∀ (l : List Sl) (i j : Nat) (s : Sl), getS (setS l i s) j = if i = j ∧ i < l.length then s else getS l j
  | [], i, j, s => by simp [setS, getS]
  | t :: l, 0, 0, s => by simp [setS, getS]
  | t :: l, 0, j + 1, s => by simp [setS, getS]
  | t :: l, i + 1, 0, s => by simp [setS, getS]
  | t :: l, i + 1, j + 1, s => by
    show getS (setS l i s) j = _
    rw [getS_setS l i j s]
    simp only [List.length_cons, Nat.add_lt_add_iff_right, Nat.add_right_cancel_iff, getS]
theorem getS_out : ∀ {l : List Sl} {i : Nat}, l.length ≤ i → getS l i = .un
  | [], _, _ => rfl
  | _ :: l, 0, h => absurd h (by simp)
  | _ :: l, i + 1, h => getS_out (l := l) (by simpa using h)
section
variable {κ : Kit} {H0 F0 : Hp} {env : Env} {σ : L2.St} {H F : Hp} {n : Nat}
theorem ER.set (e : ER κ H0 F0 env σ H F n) (i : Nat) {v : V} {d : D} (r : Rp κ.K κ.sa F v d) : ER κ H0 F0 (setS env i (.v d)) (σ.set i (some v)) H F n := by
  refine ⟨by rw [setS_len, List.length_set]; exact e.len, e.wd, e.fr, fun j => ?_, fun j k ds es a hjk h1 h2 h3 h4 => ?_⟩
  · rw [getS_setS]
    by_cases h : i = j ∧ i < env.length
    · rw [if_pos h]
      obtain ⟨rfl, h⟩ := h
      exact ⟨v, by rw [List.getElem?_set_self (by rw [← e.len]; exact h)], r⟩
    · rw [if_neg h]
      by_cases q : i = j
      · have : getS env j = .un := getS_out (by omega)
        rw [this]; trivial
      · rw [List.getElem?_set_ne q]; exact e.sl j
  · rw [getS_setS] at h1 h2
    split at h1
    · cases h1
    · split at h2
      · cases h2
      · rename_i a1 a2
        by_cases q1 : i = j
        · rw [getS_out (show env.length ≤ j by omega)] at h1; cases h1
        · by_cases q2 : i = k
          · rw [getS_out (show env.length ≤ k by omega)] at h2; cases h2
          · rw [List.getElem?_set_ne q1] at h3
            rw [List.getElem?_set_ne q2] at h4
            exact e.sep j k ds es a hjk h1 h2 h3 h4
theorem ER.un (e : ER κ H0 F0 env σ H F n) (i : Nat) (x : Option V) : ER κ H0 F0 (setS env i .un) (σ.set i x) H F n := by
  refine ⟨by rw [setS_len, List.length_set]; exact e.len, e.wd, e.fr, fun j => ?_, fun j k ds es a hjk h1 h2 h3 h4 => ?_⟩
  · rw [getS_setS]
    by_cases h : i = j ∧ i < env.length
    · rw [if_pos h]; trivial
    · rw [if_neg h]
      by_cases q : i = j
      · have : getS env j = .un := getS_out (by omega)
        rw [this]; trivial
      · rw [List.getElem?_set_ne q]; exact e.sl j
  · rw [getS_setS] at h1 h2
    split at h1
    · cases h1
    · split at h2
      · cases h2
      · rename_i a1 a2
        by_cases q1 : i = j
        · rw [getS_out (show env.length ≤ j by omega)] at h1; cases h1
        · by_cases q2 : i = k
          · rw [getS_out (show env.length ≤ k by omega)] at h2; cases h2
          · rw [List.getElem?_set_ne q1] at h3
            rw [List.getElem?_set_ne q2] at h4
            exact e.sep j k ds es a hjk h1 h2 h3 h4
theorem ER.clr (e : ER κ H0 F0 env σ H F n) : ∀ is : List Nat, ER κ H0 F0 (clrS env is) (wipe σ is) H F n
  | [] => e
  | i :: is => (ER.clr e is).un i none
end
theorem wipe_set {σ : L2.St} {x : Option V} : ∀ {is : List Nat} {i : Nat}, i ∈ is → wipe (σ.set i x) is = wipe σ is
  | j :: is, i, h => by
    show (wipe (σ.set i x) is).set j none = (wipe σ is).set j none
    by_cases q : i ∈ is
    · rw [wipe_set q]
    · have e : i = j := (List.mem_cons.mp h).resolve_right q
      subst e
      have : ∀ (l : List Nat), i ∉ l → wipe (σ.set i x) l = (wipe σ l).set i x := by
        intro l
        induction l with
        | nil => intro _; rfl
        | cons k l ih =>
          intro hk
          simp only [List.mem_cons, not_or] at hk
          show (wipe (σ.set i x) l).set k none = ((wipe σ l).set k none).set i x
          rw [ih hk.2, List.set_comm _ _ hk.1]
      rw [this is q, List.set_set]
theorem wipe_wipe {σ : L2.St} : ∀ {is js : List Nat}, (∀ i ∈ js, i ∈ is) → wipe (wipe σ js) is = wipe σ is
  | _, [], _ => rfl
  | is, j :: js, h => by
    show wipe ((wipe σ js).set j none) is = _
    rw [wipe_set (h j List.mem_cons_self), wipe_wipe fun i hi => h i (List.mem_cons_of_mem _ hi)]
/-- a list of one's own, read -/
def Wk (κ : Kit) (H F : Hp) (v : V) (d : D) : Prop := ∃ a xs ds, v = .ref a ∧ d = .list ds ∧ H a = some (.lst xs) ∧ κ.sa ≠ some a ∧ RpA κ.K κ.sa F xs ds
def Rm (κ : Kit) (w : Bool) (H F : Hp) (v : V) (d : D) : Prop := Rp κ.K κ.sa F v d ∨ (w = true ∧ Wk κ H F v d)
inductive RmA (κ : Kit) (w : Bool) (H F : Hp) : List V → List D → Prop
  | nil : RmA κ w H F [] []
  | cons {v : V} {vs : List V} {d : D} {ds : List D} : Rm κ w H F v d → RmA κ w H F vs ds → RmA κ w H F (v :: vs) (d :: ds)
theorem Rm.to {κ : Kit} {w : Bool} {H F H' F' : Hp} {v : V} {d : D} (r : Rm κ w H F v d) (fr : Fr κ.sa H F H' F') : Rm κ w H' F' v d := by
  rcases r with r | ⟨hw, a, xs, ds, h1, h2, h3, h4, h5⟩
  · exact .inl (r.mono fr.f)
  · exact .inr ⟨hw, a, xs, ds, h1, h2, fr.h a _ h3 h4 (fun _ z => nomatch z), h4, h5.mono fr.f⟩
theorem Rm.t {κ : Kit} {w : Bool} {H F : Hp} {v : V} {d : D} (r : Rm κ w H F v d) : Rm κ true H F v d := r.imp id fun h => ⟨rfl, h.2⟩
theorem Rm.f {κ : Kit} {H F : Hp} {v : V} {d : D} (r : Rm κ false H F v d) : Rp κ.K κ.sa F v d := r.elim id fun h => nomatch h.1
theorem RmA.to {κ : Kit} {w : Bool} {H F H' F' : Hp} {v : List V} {d : List D} (r : RmA κ w H F v d) (fr : Fr κ.sa H F H' F') : RmA κ w H' F' v d := by
  induction r with
  | nil => exact .nil
  | cons h _ ih => exact .cons (h.to fr) ih
theorem RmA.f {κ : Kit} {H F : Hp} {v : List V} {d : List D} (r : RmA κ false H F v d) : RpA κ.K κ.sa F v d := by
  induction r with
  | nil => exact .nil
  | cons h _ ih => exact .cons h.f ih
theorem RmA.t {κ : Kit} {w : Bool} {H F : Hp} {v : List V} {d : List D} (r : RmA κ w H F v d) : RmA κ true H F v d := by
  induction r with
  | nil => exact .nil
  | cons h _ ih => exact .cons h.t ih
section
variable {κ : Kit} {w : Bool} {H F : Hp} {v : V}
theorem Rm.int {i : Int} (r : Rm κ w H F v (.int i)) : v = .int i := by
  rcases r with r | ⟨_, a, xs, ds, _, h, _⟩
  · cases r; rfl
  · cases h
theorem Rm.bl {i : Bool} (r : Rm κ w H F v (.bool i)) : v = .bl i := by
  rcases r with r | ⟨_, a, xs, ds, _, h, _⟩
  · cases r; rfl
  · cases h
theorem Rm.str {i : Str} (r : Rm κ w H F v (.str i)) : v = .str i := by
  rcases r with r | ⟨_, a, xs, ds, _, h, _⟩
  · cases r; rfl
  · cases h
theorem Rm.non (r : Rm κ w H F v .none) : v = .non := by
  rcases r with r | ⟨_, a, xs, ds, _, h, _⟩
  · cases r; rfl
  · cases h
theorem Rm.lst {ds : List D} (r : Rm κ w H F v (.list ds)) (l : Le F H) : ∃ a xs, v = .ref a ∧ H a = some (.lst xs) ∧ RpA κ.K κ.sa F xs ds := by
  rcases r with r | ⟨_, a, xs, es, h1, h2, h3, _, h5⟩
  · cases r with
    | lst h q => exact ⟨_, _, rfl, l _ _ h, q⟩
  · cases h2; exact ⟨a, xs, h1, h3, h5⟩
theorem Rm.tup {ds : List D} (r : Rm κ w H F v (.tuple ds)) : ∃ a xs, v = .ref a ∧ SqT κ.K F a xs ∧ RpA κ.K κ.sa F xs ds := by
  rcases r with r | ⟨_, a, xs, es, h1, h2, h3, _, h5⟩
  · cases r with
    | tup h q => exact ⟨_, _, rfl, h, q⟩
  · cases h2
theorem Rm.scr {ds : List D} (r : Rm κ w H F v (.dict [(.list ds, .none)])) : ∃ a xs, v = .ref a ∧ SqL κ.K F a xs ∧ RpA κ.K κ.sa F xs ds := by
  rcases r with r | ⟨_, a, xs, es, h1, h2, h3, _, h5⟩
  · cases r with
    | scr h q => exact ⟨_, _, rfl, h, q⟩
  · cases h2
theorem Rm.dp {d : D} (r : Rm κ w H F v d) (l : Le F H) (c : d.canLay0 = true) : Dp κ.K H v d := by
  rcases r with r | ⟨_, a, xs, ds, h1, h2, h3, _, h5⟩
  · exact r.dp l c
  · subst h1 h2
    exact .lst (.inl (.inl h3)) (h5.dp l (by simpa [PyData.canLay0] using c))
end
end DD



set_option Elab.async false
set_option linter.all false
set_option maxRecDepth 100000
set_option maxHeartbeats 4000000
namespace DD
open PySem PySem.Spec PyProof.Rows L2
/-! the operators' rules over data -/
abbrev KV (κ : Kit) (H F : Hp) (Q : VK) (z : D) : Prop := ∀ v H' F', Nw H F H' F' → Rp κ.K κ.sa F' v z → Q v H'
def pyOp : Op → Operator
  | .add => .Add | .sub => .Sub | .mul => .Mult | .fdiv => .FloorDiv | .mod => .Mod | .pow => .Pow | .shl => .LShift | .shr => .RShift | .band => .BitAnd | .bor => .BitOr | .bxor => .BitXor
def pyCm : Cm → CmpOp
  | .eq => .Eq | .ne => .NotEq | .lt => .Lt | .le => .LtE | .gt => .Gt | .ge => .GtE | .isN => .Is | .notN => .IsNot | .inn => .In | .nin => .NotIn
theorem KV.here {κ : Kit} {H F : Hp} {Q : VK} {z : D} {v : V} (h : KV κ H F Q z) (r : Rp κ.K κ.sa F v z) : Q v H := h _ _ _ .no r
theorem KV.newL {κ : Kit} {H F : Hp} {Q : VK} {ds : List D} {xs : List V} (l : Le F H) (h : KV κ H F Q (.list ds)) (r : RpA κ.K κ.sa F xs ds) (p : Addr) (hp : H p = none) : Q (.ref p) (upd H p (.lst xs)) :=
  h _ _ _ (.new hp fun _ z => nomatch z) (.lst upd_same (r.mono (Le.upd (l.free hp))))
theorem KV.newT {κ : Kit} {H F : Hp} {Q : VK} {ds : List D} {xs : List V} (l : Le F H) (h : KV κ H F Q (.tuple ds)) (r : RpA κ.K κ.sa F xs ds) (p : Addr) (hp : H p = none) : Q (.ref p) (upd H p (.tup xs)) :=
  h _ _ _ (.new hp fun _ z => nomatch z) (.tup (SqT.of upd_same) (r.mono (Le.upd (l.free hp))))
def rB (κ : Kit) (o : Op) : R2 := fun x y H Q => ∃ F dx dy, Le F H ∧ Rm κ true H F x dx ∧ Rm κ true H F y dy ∧ wBin o dx dy (KV κ H F Q)
def rCm (κ : Kit) (o : Cm) : R2 := fun x y H Q => ∃ F dx dy, Le F H ∧ Rm κ true H F x dx ∧ Rm κ true H F y dy ∧ wCmp o dx dy fun b => Q (.bl b) H
theorem sizeOk {n : Nat} (h : okLen n) : n ≤ sizeLine := Nat.le_trans h (by decide)
section
variable {κ : Kit} {X : Cx} (hK : X.K = κ.K)
theorem op_mulX : OpR X (binaryOp .Mult) (rI okMul fun i j => .int (i * j)) := by
  intro pins s σ H x y v u Q I rx ry ⟨i, j, e1, e2, c, q⟩
  rcases c with c | c
  · exact op_mul pins s σ H x y v u Q I rx ry ⟨i, j, e1, e2, c, q⟩
  · exact op_mulW pins s σ H x y v u Q I rx ry ⟨i, j, e1, e2, c, q⟩
theorem op_fdivX : OpR X (binaryOp .FloorDiv) (rI (fun _ j => okDiv j) fun i j => .int (i.fdiv j)) := by
  intro pins s σ H x y v u Q I rx ry ⟨i, j, e1, e2, c, q⟩
  rcases c with c | c
  · exact op_fdivN pins s σ H x y v u Q I rx ry ⟨i, j, e1, e2, c, q⟩
  · refine op_fdivW pins s σ H x y v u Q I rx ry ⟨i, j, e1, e2, c, ?_⟩
    have q : Q (V.int (i.fdiv j)) H := q
    rw [Int.fdiv_eq_ediv_of_nonneg _ (Int.le_of_lt c.1)] at q
    exact q
include hK
theorem opB (o : Op) : OpR X (binaryOp (pyOp o)) (rB κ o) := by
  intro pins s σ H x y v u Q I rx ry ⟨F, dx, dy, le, hx, hy, hw⟩
  unfold wBin at hw
  split at hw
  · cases hx.int; cases hy.int; exact op_add pins s σ H _ _ v u Q I rx ry ⟨_, _, rfl, rfl, hw.here (.int _)⟩
  · obtain ⟨a, xs, rfl, ha, ra⟩ := hx.lst le
    obtain ⟨b, ys, rfl, hb, rb⟩ := hy.lst le
    exact op_cat pins s σ H _ _ v u Q I rx ry ⟨a, b, xs, ys, rfl, rfl, ha, hb, by rw [ra.len, rb.len]; exact sizeOk hw.1, fun p hp => KV.newL le hw.2 (ra.append rb) p hp⟩
  · obtain ⟨a, xs, rfl, ha, ra⟩ := hx.tup
    obtain ⟨b, ys, rfl, hb, rb⟩ := hy.tup
    rw [← hK] at ha hb
    refine op_catA pins s σ H _ _ v u Q I rx ry ⟨a, b, xs, ys, rfl, rfl, le.sqT ha, le.sqT hb, by rw [ra.len, rb.len]; exact sizeOk hw.1, fun e => ?_, fun _ e => ?_, fun _ _ p hp => KV.newT le hw.2 (ra.append rb) p hp⟩
    · subst e; cases ra; rw [hK] at hb; exact hw.2.here (.tup hb rb)
    · subst e; cases rb; rw [hK] at ha; exact hw.2.here (.tup ha (by rw [List.append_nil]; exact ra))
  · cases hx.int; cases hy.int; exact op_sub pins s σ H _ _ v u Q I rx ry ⟨_, _, rfl, rfl, hw.here (.int _)⟩
  · cases hx.int; cases hy.int; exact op_mulX pins s σ H _ _ v u Q I rx ry ⟨_, _, rfl, rfl, hw.1, hw.2.here (.int _)⟩
  · obtain ⟨a, xs, rfl, ha, ra⟩ := hx.lst le
    cases hy.int
    rename_i aa j
    exact op_rep pins s σ H _ _ v u Q I rx ry ⟨a, _, xs, rfl, rfl, ha, Int.le_trans (by decide) (Int.le_of_lt hw.1.1), Int.lt_trans hw.1.2.1 (by decide), by rw [ra.len]; exact sizeOk hw.1.2.2, fun p hp => KV.newL le hw.2 (ra.rep _) p hp⟩
  · obtain ⟨a, xs, rfl, ha, ra⟩ := hx.tup
    cases hy.int
    rename_i aa j
    refine op_repX pins s σ H _ _ v u Q I rx ry ⟨a, _, xs, rfl, rfl, le.sqT (hK ▸ ha), hw.1.1, hw.1.2.1, by rw [ra.len]; exact hw.1.2.2, fun e => ?_, fun _ _ p hp => KV.newT le hw.2 (ra.rep _) p hp⟩
    have e2 : (List.replicate j.toNat aa).flatten = aa := by
      rcases e with e | e
      · subst e
        cases ra
        exact List.eq_nil_iff_forall_not_mem.mpr fun x hx => by simp at hx
      · subst e
        simp
    have q := hw.2
    rw [e2] at q
    exact q.here (.tup ha ra)
  · cases hx.int; cases hy.int; exact op_fdivX pins s σ H _ _ v u Q I rx ry ⟨_, _, rfl, rfl, hw.1, hw.2.here (.int _)⟩
  · cases hx.int; cases hy.int; exact op_modN pins s σ H _ _ v u Q I rx ry ⟨_, _, rfl, rfl, hw.1, hw.2.here (.int _)⟩
  · cases hx.int; cases hy.int; exact op_pow pins s σ H _ _ v u Q I rx ry ⟨_, _, rfl, rfl, hw.1, hw.2.here (.int _)⟩
  · cases hx.int; cases hy.int; exact op_shl pins s σ H _ _ v u Q I rx ry ⟨_, _, rfl, rfl, hw.1, hw.2.here (.int _)⟩
  · cases hx.int; cases hy.int; exact op_shr pins s σ H _ _ v u Q I rx ry ⟨_, _, rfl, rfl, hw.1, hw.2.here (.int _)⟩
  · cases hx.int; cases hy.int; exact op_and pins s σ H _ _ v u Q I rx ry ⟨_, _, rfl, rfl, hw.here (.int _)⟩
  · cases hx.int; cases hy.int; exact op_or pins s σ H _ _ v u Q I rx ry ⟨_, _, rfl, rfl, hw.here (.int _)⟩
  · cases hx.int; cases hy.int; exact op_xor pins s σ H _ _ v u Q I rx ry ⟨_, _, rfl, rfl, hw.here (.int _)⟩
  · exact hw.elim
omit hK
theorem canLay_of_shp {d : D} (h : Shp d) : d.canLay0 = true := SeqAt.canLay_of_shaped h
theorem flat_rp {K : PySem.W.Frag} {sa : Option Addr} {F : Hp} {v : V} {d : D} (r : Rp K sa F v d) (f : flatD d = true) : flatV v = true := by
  cases r <;> first | rfl | (simp [flatD] at f)
theorem flat_rpA {K : PySem.W.Frag} {sa : Option Addr} {F : Hp} : ∀ {v : List V} {d : List D}, RpA K sa F v d → d.all flatD = true → v.all flatV = true
  | _, _, .nil, _ => rfl
  | _, _, .cons h r, f => by
    rw [List.all_cons, Bool.and_eq_true] at f ⊢
    exact ⟨flat_rp h f.1, flat_rpA r f.2⟩
theorem eqV_eqv {K : PySem.W.Frag} {sa : Option Addr} {F : Hp} {v u : V} {d e : D} (r : Rp K sa F v d) (q : Rp K sa F u e) (f : flatD d = true) (g : flatD e = true) : eqV v u = PyData.eqv d e := by
  cases r <;> (try (simp [flatD] at f; done)) <;> cases q <;> first | (simp [flatD] at g; done) | simp [eqV, PyData.eqv]
theorem inV_any {K : PySem.W.Frag} {sa : Option Addr} {F : Hp} {x : V} {e : D} (q : Rp K sa F x e) (g : flatD e = true) : ∀ {v : List V} {d : List D}, RpA K sa F v d → d.all flatD = true → inV x v = d.any fun z => PyData.eqv z e
  | _, _, .nil, _ => rfl
  | _, _, .cons h r, f => by
    rw [List.all_cons, Bool.and_eq_true] at f
    have ih := inV_any q g r f.2
    unfold inV at ih ⊢
    rw [List.any_cons, List.any_cons, ih, eqV_eqv h q f.1 g]
theorem Rm.flat {w : Bool} {H F : Hp} {v : V} {d : D} (r : Rm κ w H F v d) (f : flatD d = true) : Rp κ.K κ.sa F v d := by
  rcases r with r | ⟨_, a, xs, ds, h1, h2, _⟩
  · exact r
  · subst h2; simp [flatD] at f
include hK
theorem opC (hu : X.A.units + 65 < cLine) (o : Cm) : OpR X (compareOp (pyCm o)) (rCm κ o) := by
  intro pins s σ H x y v u Q I rx ry ⟨F, dx, dy, le, hx, hy, hw⟩
  unfold wCmp at hw
  have hu4 : X.A.units + 64 < cLine := by omega
  split at hw
  · exact op_eqD hu4 pins s σ H _ _ v u Q I rx ry ⟨_, _, hK ▸ hx.dp le (canLay_of_shp hw.1.1), hK ▸ hy.dp le (canLay_of_shp hw.1.2), hw.1.1, hw.1.2, hw.2⟩
  · exact op_neD hu4 pins s σ H _ _ v u Q I rx ry ⟨_, _, hK ▸ hx.dp le (canLay_of_shp hw.1.1), hK ▸ hy.dp le (canLay_of_shp hw.1.2), hw.1.1, hw.1.2, hw.2⟩
  · cases hx.int; cases hy.int; exact op_lt pins s σ H _ _ v u Q I rx ry ⟨_, _, rfl, rfl, hw⟩
  · cases hx.int; cases hy.int; exact op_le pins s σ H _ _ v u Q I rx ry ⟨_, _, rfl, rfl, hw⟩
  · cases hx.int; cases hy.int; exact op_gt pins s σ H _ _ v u Q I rx ry ⟨_, _, rfl, rfl, hw⟩
  · cases hx.int; cases hy.int; exact op_ge pins s σ H _ _ v u Q I rx ry ⟨_, _, rfl, rfl, hw⟩
  · cases hx.non; cases hy.non; exact op_isN pins s σ H _ _ v u Q I rx ry ⟨rfl, hw⟩
  · cases hx.bl; cases hy.non; exact op_isN pins s σ H _ _ v u Q I rx ry ⟨rfl, hw⟩
  · cases hx.int; cases hy.non; exact op_isN pins s σ H _ _ v u Q I rx ry ⟨rfl, hw⟩
  · cases hx.str; cases hy.non; exact op_isN pins s σ H _ _ v u Q I rx ry ⟨rfl, hw⟩
  · obtain ⟨a, xs, rfl, _⟩ := hx.lst le; cases hy.non; exact op_isN pins s σ H _ _ v u Q I rx ry ⟨rfl, hw⟩
  · obtain ⟨a, xs, rfl, _⟩ := hx.tup; cases hy.non; exact op_isN pins s σ H _ _ v u Q I rx ry ⟨rfl, hw⟩
  · cases hx.non; cases hy.non; exact op_notN pins s σ H _ _ v u Q I rx ry ⟨rfl, hw⟩
  · cases hx.bl; cases hy.non; exact op_notN pins s σ H _ _ v u Q I rx ry ⟨rfl, hw⟩
  · cases hx.int; cases hy.non; exact op_notN pins s σ H _ _ v u Q I rx ry ⟨rfl, hw⟩
  · cases hx.str; cases hy.non; exact op_notN pins s σ H _ _ v u Q I rx ry ⟨rfl, hw⟩
  · obtain ⟨a, xs, rfl, _⟩ := hx.lst le; cases hy.non; exact op_notN pins s σ H _ _ v u Q I rx ry ⟨rfl, hw⟩
  · obtain ⟨a, xs, rfl, _⟩ := hx.tup; cases hy.non; exact op_notN pins s σ H _ _ v u Q I rx ry ⟨rfl, hw⟩
  · exact op_inD hu pins s σ H _ _ v u Q I rx ry ⟨_, _, hK ▸ hx.dp le (canLay_of_shp hw.1.1), hK ▸ hy.dp le (canLay_of_shp hw.1.2), hw.1.1, hw.1.2, hw.2⟩
  · exact op_notInD hu pins s σ H _ _ v u Q I rx ry ⟨_, _, hK ▸ hx.dp le (canLay_of_shp hw.1.1), hK ▸ hy.dp le (canLay_of_shp hw.1.2), hw.1.1, hw.1.2, hw.2⟩
  · obtain ⟨b, ys, rfl, hb, rb⟩ := hy.tup
    have hx' := Rm.flat hx hw.1.1
    exact op_in_seq pins s σ H _ _ v u Q I rx ry ⟨b, ys, rfl, .inr (le.sqT (hK ▸ hb)), flat_rp hx' hw.1.1, flat_rpA rb hw.1.2, by rw [inV_any hx' hw.1.1 rb hw.1.2]; exact hw.2⟩
  · obtain ⟨b, ys, rfl, hb, rb⟩ := hy.tup
    have hx' := Rm.flat hx hw.1.1
    exact op_notIn_seq pins s σ H _ _ v u Q I rx ry ⟨b, ys, rfl, .inr (le.sqT (hK ▸ hb)), flat_rp hx' hw.1.1, flat_rpA rb hw.1.2, by rw [inV_any hx' hw.1.1 rb hw.1.2]; exact hw.2⟩
  · exact hw.elim
def rBu (κ : Kit) (b : Bi) : List V → Hp → VK → Prop := fun xs H Q => ∃ F ds, Le F H ∧ RmA κ true H F xs ds ∧ wBi b ds (KV κ H F Q)
def biName : Bi → Str
  | .len => "len" | .int => "int" | .abs => "abs" | .tuple => "tuple" | .list => "list" | .max2 => "max" | .min2 => "min" | .max1 => "max" | .min1 => "min" | .sum => "sum" | .all => "all" | .any => "any" | .sorted => "sorted"
def biVal : Bi → Value
  | .len => .builtin "len" | .int => .type "int" | .abs => .builtin "abs" | .tuple => .type "tuple" | .list => .type "list" | .max2 => .builtin "max" | .min2 => .builtin "min" | .max1 => .builtin "max" | .min1 => .builtin "min" | .sum => .builtin "sum" | .all => .builtin "all" | .any => .builtin "any" | .sorted => .builtin "sorted"
omit hK in
theorem biBoot (b : Bi) : bootBuiltins (biName b) = some (biVal b) := by cases b <;> decide +kernel
omit hK in
theorem RmA.one {w : Bool} {H F : Hp} {xs : List V} {d : D} (r : RmA κ w H F xs [d]) : ∃ x, xs = [x] ∧ Rm κ w H F x d := by
  cases r with
  | cons h r => cases r; exact ⟨_, rfl, h⟩
omit hK in
theorem RmA.two {w : Bool} {H F : Hp} {xs : List V} {d e : D} (r : RmA κ w H F xs [d, e]) : ∃ x y, xs = [x, y] ∧ Rm κ w H F x d ∧ Rm κ w H F y e := by
  cases r with
  | cons h r => cases r with
    | cons h' r => cases r; exact ⟨_, _, rfl, h, h'⟩
theorem opBi (hc : X.calm = true) (b : Bi) : CallR X (biVal b) (rBu κ b) := by
  intro pins s σ H xs us Q I r ⟨F, ds, le, hx, hw⟩
  unfold wBi at hw
  split at hw
  · obtain ⟨x, rfl, h⟩ := hx.one
    obtain ⟨a, ys, rfl, ha, ra⟩ := h.lst le
    exact call_len_seq pins s σ H _ us Q I r ⟨a, ys, rfl, .inl (SqL.of ha), by rw [ra.len]; exact hw.here (.int _)⟩
  · obtain ⟨x, rfl, h⟩ := hx.one
    obtain ⟨a, ys, rfl, ha, ra⟩ := h.tup
    exact call_len_seq pins s σ H _ us Q I r ⟨a, ys, rfl, .inr (le.sqT (hK ▸ ha)), by rw [ra.len]; exact hw.here (.int _)⟩
  · obtain ⟨x, rfl, h⟩ := hx.one
    cases h.int
    exact call_int1 pins s σ H _ us Q I r (.inl ⟨_, rfl, hw.here (.int _)⟩)
  · obtain ⟨x, rfl, h⟩ := hx.one
    cases h.bl
    exact call_int1 pins s σ H _ us Q I r (.inr ⟨_, rfl, hw.here (.int _)⟩)
  · obtain ⟨x, rfl, h⟩ := hx.one
    cases h.int
    exact call_abs pins s σ H _ us Q I r ⟨_, rfl, hw.here (.int _)⟩
  · obtain ⟨x, rfl, h⟩ := hx.one
    obtain ⟨a, ys, rfl, ha, ra⟩ := h.lst le
    exact call_tuple_of pins s σ H _ us Q I r ⟨a, ys, rfl, .inl ⟨SqL.of ha, fun p hp => KV.newT le hw ra p hp⟩⟩
  · obtain ⟨x, rfl, h⟩ := hx.one
    obtain ⟨a, ys, rfl, ha, ra⟩ := h.tup
    exact call_tuple_of pins s σ H _ us Q I r ⟨a, ys, rfl, .inr ⟨le.sqT (hK ▸ ha), hw.here (.tup ha ra)⟩⟩
  · obtain ⟨x, rfl, h⟩ := hx.one
    obtain ⟨a, ys, rfl, ha, ra⟩ := h.lst le
    exact call_list_of pins s σ H _ us Q I r ⟨a, ys, rfl, .inl (SqL.of ha), fun p hp => KV.newL le hw ra p hp⟩
  · obtain ⟨x, rfl, h⟩ := hx.one
    obtain ⟨a, ys, rfl, ha, ra⟩ := h.tup
    exact call_list_of pins s σ H _ us Q I r ⟨a, ys, rfl, .inr (le.sqT (hK ▸ ha)), fun p hp => KV.newL le hw ra p hp⟩
  · obtain ⟨x, y, rfl, h1, h2⟩ := hx.two
    cases h1.int; cases h2.int
    exact call_max2 hc pins s σ H _ us Q I r ⟨_, _, rfl, hw.here (.int _)⟩
  · obtain ⟨x, y, rfl, h1, h2⟩ := hx.two
    cases h1.int; cases h2.int
    exact call_min2 hc pins s σ H _ us Q I r ⟨_, _, rfl, hw.here (.int _)⟩
  · obtain ⟨x, rfl, h⟩ := hx.one
    obtain ⟨a, ys, rfl, ha, ra⟩ := h.lst le
    obtain ⟨ns, e, h0, q⟩ := hw
    have := ra.ints e; subst this
    exact cr_max hc pins s σ H _ us Q I r ⟨a, ns, rfl, SqL.of ha, h0, fun m h1 h2 => (q m h1 h2).here (.int _)⟩
  · obtain ⟨x, rfl, h⟩ := hx.one
    obtain ⟨a, ys, rfl, ha, ra⟩ := h.lst le
    obtain ⟨ns, e, h0, q⟩ := hw
    have := ra.ints e; subst this
    exact cr_min hc pins s σ H _ us Q I r ⟨a, ns, rfl, SqL.of ha, h0, fun m h1 h2 => (q m h1 h2).here (.int _)⟩
  · obtain ⟨x, rfl, h⟩ := hx.one
    obtain ⟨a, ys, rfl, ha, ra⟩ := h.lst le
    obtain ⟨ns, e, q⟩ := hw
    have := ra.ints e; subst this
    exact cr_sum hc pins s σ H _ us Q I r ⟨a, ns, rfl, SqL.of ha, KV.here q (.int _)⟩
  · obtain ⟨x, rfl, h⟩ := hx.one
    obtain ⟨a, ys, rfl, ha, ra⟩ := h.lst le
    obtain ⟨ns, e, q⟩ := hw
    have := ra.bls e; subst this
    exact cr_all hc pins s σ H _ us Q I r ⟨a, ns, rfl, SqL.of ha, KV.here q (.bl _)⟩
  · obtain ⟨x, rfl, h⟩ := hx.one
    obtain ⟨a, ys, rfl, ha, ra⟩ := h.lst le
    obtain ⟨ns, e, q⟩ := hw
    have := ra.bls e; subst this
    exact cr_any hc pins s σ H _ us Q I r ⟨a, ns, rfl, SqL.of ha, KV.here q (.bl _)⟩
  · obtain ⟨x, rfl, h⟩ := hx.one
    obtain ⟨a, ys, rfl, ha, ra⟩ := h.lst le
    obtain ⟨ns, e, q⟩ := hw
    have := ra.ints e; subst this
    exact cr_sortedI pins s σ H _ us Q I r ⟨a, ns, rfl, SqL.of ha, fun ns' p h1 h2 hp => by
      have z := KV.newL le (q ns' h1 h2) (RpA.ofInts ns') p hp
      exact z⟩
  · exact hw.elim
end
end DD



set_option Elab.async false
set_option linter.all false
set_option maxRecDepth 100000
set_option maxHeartbeats 4000000
namespace DD
open PySem PySem.Spec PyProof.Rows L2

/-! the match of the little language with the syntax -/
/-- the slots whose names a lambda's parameters take are among ws -/
def wsB (N ys : List Str) (ws : List Nat) : Bool := (List.range N.length).all fun i => match N[i]? with | some y => !ys.contains y || ws.contains i | none => true
def visB (sc : Scope) (x : Str) : Bool := (match sc.names.lookup x with | some .local => true | some .cell => true | some .free => true | _ => false) && !(x == ("__debug__" : Str)) && !(x == ("__classdict__" : Str))
def locB (sc : Scope) (x : Str) : Bool := (match sc.names.lookup x with | some .local => true | some .cell => true | _ => false)
def glB (sc : Scope) (x : Str) : Bool := (match sc.names.lookup x with | some .globalImplicit => true | _ => false) && !(x == ("__debug__" : Str)) && !(x == ("__name__" : Str))
def nmB (N : List Str) (sc : Scope) (i : Nat) (x : Str) : Bool := decide (N[i]? = some x) && visB sc x
def notStar : Expr → Bool
  | .Starred _ _ => false
  | _ => true
def notSet : Expr → Bool
  | .Set _ _ _ => false
  | _ => true
def notSlice : Expr → Bool
  | .Slice _ _ _ _ => false
  | _ => true
def isTupE : Expr → Bool
  | .Tuple _ _ _ => true
  | _ => false
def esLen : Es → Nat
  | .nil => 0
  | .cons _ es => esLen es + 1
  | .star _ es => esLen es + 10000
def cstB : D → Const → Bool
  | .none, .none => true
  | .bool b, .bool c => b == c
  | .int i, .int j => i == j
  | .str s, .str t => decide (s = t)
  | _, _ => false
def stoB (fb : Str → Bool) (sc : Scope) (x : Str) : Bool := (match sc.names.lookup x with | some .local => true | some .cell => fb x | _ => false)
def mtTg (N : List Str) (fb : Str → Bool) (sc : Scope) : List Nat → List Expr → Bool
  | [], es => match es with
    | [] => true
    | _ => false
  | i :: is, es => match es with
    | .Name x _ :: es => decide (N[i]? = some x) && stoB fb sc x && mtTg N fb sc is es
    | _ => false
def mtT1 (N : List Str) (fb : Str → Bool) (sc : Scope) (tg : Tg) (e : Expr) : Bool := match tg with
  | .nm i => match e with
    | .Name x _ => decide (N[i]? = some x) && stoB fb sc x
    | _ => false
  | .tp is => match e with
    | .Tuple es _ _ => mtTg N fb sc is es
    | _ => false
def fbOf (scope : Scope) : Str → Bool := fun x => scope.names.lookup x == some .cell
def ownOf (N : List Str) (is : List Nat) : List (Str × Nat) := is.map fun i => (N.getD i Str.empty, i)
section
variable (κ : Sta) (N : List Str)
mutual
def mtE (w tl : Bool) (sc : Scope) : E → Expr → Bool
  | .var i, x => match x with
    | .Name n _ => nmB N sc i n
    | _ => false
  | .pk i, x => w && match x with
    | .Name n _ => nmB N sc i n
    | _ => false
  | .cst d, x => match x with
    | .Constant c _ _ => cstB d c
    | _ => false
  | .glb g, x => match x with
    | .Name n _ => κ.gl.contains g && decide (κ.gn g = n) && glB sc n
    | _ => false
  | .bin o a b, x => match x with
    | .BinOp a' o' b' _ => decide (o' = pyOp o) && mtE true tl sc a a' && mtE true tl sc b b'
    | _ => false
  | .neg a, x => match x with
    | .UnaryOp .USub a' _ => mtE true tl sc a a'
    | _ => false
  | .cmp o a b, x => match x with
    | .Compare a' [o'] [b'] _ => decide (o' = pyCm o) && notSet b' && mtE true tl sc a a' && mtE true tl sc b b'
    | _ => false
  | .ch2 o1 o2 a b c, x => match x with
    | .Compare a' [o1', o2'] [b', c'] _ => decide (o1' = pyCm o1) && decide (o2' = pyCm o2) && notSet c' && mtE true tl sc a a' && mtE true tl sc b b' && mtE true tl sc c c'
    | _ => false
  | .and a b, x => match x with
    | .BoolOp .And (a' :: b' :: r) pos => mtE true tl sc a a' && (match r with | [] => mtE w tl sc b b' | _ :: _ => mtE w tl sc b (.BoolOp .And (b' :: r) pos))
    | _ => false
  | .or a b, x => match x with
    | .BoolOp .Or (a' :: b' :: r) pos => mtE true tl sc a a' && (match r with | [] => mtE w tl sc b b' | _ :: _ => mtE w tl sc b (.BoolOp .Or (b' :: r) pos))
    | _ => false
  | .not a, x => match x with
    | .UnaryOp .Not a' _ => mtE true tl sc a a'
    | _ => false
  | .ite c a b, x => match x with
    | .IfExp c' a' b' _ => mtT tl sc c c' && mtE w tl sc a a' && mtE w tl sc b b'
    | _ => false
  | .tup es, x => match x with
    | .Tuple xs _ _ => decide (esLen es ≤ 16000000) && mtEs false tl sc es xs
    | _ => false
  | .lst es, x => match x with
    | .List xs _ => decide (esLen es ≤ 16000000) && mtEs false tl sc es xs
    | _ => false
  | .idx a b, x => match x with
    | .Subscript a' b' _ => notSlice b' && mtE true tl sc a a' && mtE true tl sc b b'
    | _ => false
  | .slc a lo hi, x => match x with
    | .Subscript a' (.Slice l h none _) _ => mtE true tl sc a a' && mtEi tl sc lo l && mtEi tl sc hi h
    | _ => false
  | .rev a, x => match x with
    | .Subscript a' (.Slice none none (some (.UnaryOp .USub (.Constant (.int j) _ _) _)) _) _ => decide (j = 1) && mtE true tl sc a a'
    | _ => false
  | .call f es, x => match x with
    | .Call (.Name n _) (x1 :: xs) [] _ => κ.L.contains f && decide (κ.dn f = n) && decide ((x1 :: xs).length = κ.ar f) && glB sc n && mtEs false tl sc es (x1 :: xs) && (x1 :: xs).all notStar
    | _ => false
  | .bi b es, x => match x with
    | .Call (.Name n _) (x1 :: xs) [] _ => decide (biName b = n) && glB sc n && mtEs true tl sc es (x1 :: xs) && (x1 :: xs).all notStar
    | _ => false
  | .lc tg it c e, x => match x with
    | .ListComp elt [⟨tg', it', ifs, 0⟩] scope _ => blkC N sc scope (ownOf N (tgs tg)) && mtIt tl sc tg' it it' && mtT1 N (fbOf scope) (relS scope sc) tg tg' && notSet it' && mtTs (relS scope sc) c ifs && mtE false false (relS scope sc) e elt
    | _ => false
  | .told ws e, x => tl && match x with
    | .Call (.Name n _) [.Lambda params body scope _] [] _ => decide (n = ("_law_told" : Str)) && glB sc n && (match pdB params with | some ys => laSB ys sc scope && wsB N ys ws | none => false) && mtE false false scope e body
    | _ => false
def mtEs (w tl : Bool) (sc : Scope) : Es → List Expr → Bool
  | .nil, xs => match xs with
    | [] => true
    | _ => false
  | .cons e es, xs => match xs with
    | x :: xs => notStar x && mtE w tl sc e x && mtEs w tl sc es xs
    | _ => false
  | .star e es, xs => match xs with
    | .Starred x _ :: xs => mtE true tl sc e x && mtEs w tl sc es xs
    | _ => false
def mtEi (tl : Bool) (sc : Scope) : Ei → Option Expr → Bool
  | .no, x => match x with
    | none => true
    | _ => false
  | .ex e, x => match x with
    | some x => mtE true tl sc e x
    | _ => false
def mtIt (tl : Bool) (sc : Scope) (tg : Expr) : It → Expr → Bool
  | .lst e, x => mtE false tl sc e x
  | .tup e, x => mtE false tl sc e x
  | .rng1 a, x => match x with
    | .Call (.Name n _) [a'] [] _ => decide (n = ("range" : Str)) && glB sc n && notStar a' && mtE true tl sc a a'
    | _ => false
  | .rng2 a b, x => match x with
    | .Call (.Name n _) [a', b'] [] _ => decide (n = ("range" : Str)) && glB sc n && notStar a' && notStar b' && mtE true tl sc a a' && mtE true tl sc b b'
    | _ => false
  | .rng3 a b c, x => match x with
    | .Call (.Name n _) [a', b', c'] [] _ => decide (n = ("range" : Str)) && glB sc n && notStar a' && notStar b' && notStar c' && mtE true tl sc a a' && mtE true tl sc b b' && mtE true tl sc c c'
    | _ => false
  | .zip a b, x => match x with
    | .Call (.Name n _) [a', b'] [] _ => decide (n = ("zip" : Str)) && glB sc n && isTupE tg && notStar a' && notStar b' && mtE false tl sc a a' && mtE false tl sc b b'
    | _ => false
  | .enu a, x => match x with
    | .Call (.Name n _) [a'] [] _ => decide (n = ("enumerate" : Str)) && glB sc n && isTupE tg && notStar a' && mtE false tl sc a a'
    | _ => false
  | .rvi a, x => match x with
    | .Call (.Name n _) [a'] [] _ => decide (n = ("reversed" : Str)) && glB sc n && notStar a' && mtE false tl sc a a'
    | _ => false
def mtCh (tl : Bool) (sc : Scope) : Ch → List CmpOp → List Expr → Bool
  | .last o e, os, xs => match os, xs with
    | [o'], [x] => decide (o' = pyCm o) && notSet x && mtE true tl sc e x
    | _, _ => false
  | .link o e c, os, xs => match os, xs with
    | o' :: o2 :: os, x :: x2 :: xs => decide (o' = pyCm o) && mtE true tl sc e x && mtCh tl sc c (o2 :: os) (x2 :: xs)
    | _, _ => false
def mtT (tl : Bool) (sc : Scope) : T → Expr → Bool
  | .val e, x => (match x with | .Compare _ _ _ _ => false | .BoolOp _ _ _ => false | .UnaryOp .Not _ _ => false | .IfExp _ _ _ _ => false | .NamedExpr _ _ _ => false | .Constant _ _ _ => false | _ => true) && mtE true tl sc e x
  | .cmp o a b, x => match x with
    | .Compare a' [o'] [b'] _ => decide (o' = pyCm o) && notSet b' && mtE true tl sc a a' && mtE true tl sc b b'
    | _ => false
  | .ch2 o1 o2 a b c, x => match x with
    | .Compare a' [o1', o2'] [b', c'] _ => decide (o1' = pyCm o1) && decide (o2' = pyCm o2) && notSet c' && mtE true tl sc a a' && mtE true tl sc b b' && mtE true tl sc c c'
    | _ => false
  | .chn a c, x => match x with
    | .Compare a' (o1 :: o2 :: os) (x1 :: x2 :: xs) _ => mtE true tl sc a a' && mtCh tl sc c (o1 :: o2 :: os) (x1 :: x2 :: xs)
    | _ => false
  | .and a b, x => match x with
    | .BoolOp .And (a' :: b' :: r) pos => mtT tl sc a a' && (match r with | [] => mtT tl sc b b' | _ :: _ => mtT tl sc b (.BoolOp .And (b' :: r) pos))
    | _ => false
  | .or a b, x => match x with
    | .BoolOp .Or (a' :: b' :: r) pos => mtT tl sc a a' && (match r with | [] => mtT tl sc b b' | _ :: _ => mtT tl sc b (.BoolOp .Or (b' :: r) pos))
    | _ => false
  | .not a, x => match x with
    | .UnaryOp .Not a' _ => mtT tl sc a a'
    | _ => false
def mtTs (sc : Scope) : Ts → List Expr → Bool
  | .no, xs => match xs with
    | [] => true
    | _ => false
  | .ex t, xs => match xs with
    | [x] => mtT false sc t x
    | _ => false
end
end
end DD



set_option Elab.async false
set_option linter.all false
set_option maxRecDepth 100000
set_option maxHeartbeats 4000000
namespace DD
open PySem PySem.Spec PyProof.Rows L2

/-! the readings -/
def lift (κ : Kit) (np : Nat) (sp : Sg) : Sp := fun vs H Q E => vs.length = np ∧ ∃ F n ds Qd Xd, Wd κ H F n ∧ RpA κ.K κ.sa F vs ds ∧ sp ds n Qd Xd ∧
  (∀ d n' v H' F', Qd d n' → Wd κ H' F' n' → Fr κ.sa H F H' F' → Rp κ.K κ.sa F' v d → Q v H') ∧ (∀ k n' H' F', Xd k n' → Wd κ H' F' n' → Fr κ.sa H F H' F' → E (κ.cls k) none H')
/-- a def keeps sp where nothing is being shown -/
structure FnG (P : Program) (w : World) (K : PySem.W.Frag) (mg : Str → Option Value) (base : Heap) (CX : CXT) (k : Nat) (f : Addr) (fd : FuncData) (ps : List Str) (sp : Sp) : Prop where
  len : ∀ vs H Q E, sp vs H Q E → vs.length = ps.length
  run : ∀ (A : Around) (outer : List PySem.Env) (s : Shared) (H : Hp) (args : Args) (us : List Value) (vs : List V) (Q : VK) (E : XK), A.guards = some [] → Room k A → Env0 P w K mg base A outer s H → BindsTo s fd args (ps.zip us) → Vals vs us → sp vs H Q E →
    codeAny (model P w) A (.call (.ref f) args) (CR CX outer P w H s Q E) s
theorem FnG.mono {P : Program} {w : World} {K : PySem.W.Frag} {mg : Str → Option Value} {base : Heap} {CX : CXT} {j k : Nat} {f : Addr} {fd : FuncData} {ps : List Str} {sp : Sp} (F : FnG P w K mg base CX j f fd ps sp) (h : j ≤ k) :
    FnG P w K mg base CX k f fd ps sp := ⟨F.len, fun A outer s H args us vs Q E hg hr => F.run A outer s H args us vs Q E hg (hr.mono h)⟩
theorem FnG.imp {P : Program} {w : World} {K : PySem.W.Frag} {mg : Str → Option Value} {base : Heap} {CX : CXT} {k : Nat} {f : Addr} {fd : FuncData} {ps : List Str} {sp sp' : Sp} (F : FnG P w K mg base CX k f fd ps sp)
    (h : ∀ vs H Q E, sp' vs H Q E → sp vs H Q E) : FnG P w K mg base CX k f fd ps sp' := ⟨fun vs H Q E q => F.len vs H Q E (h vs H Q E q), fun A outer s H args us vs Q E hg hr e0 hb r q => F.run A outer s H args us vs Q E hg hr e0 hb r (h vs H Q E q)⟩
theorem pe_callG {X : Cx} {CX : CXT} {k : Nat} {f : Addr} {fd : FuncData} {ps : List Str} {sp : Sp} {x : Str} {p pos : Pos} {e : Expr} {es : List Expr} {t : TA} {E : XK} (hgd : X.A.guards = some []) (F : FnG X.prog X.w X.K X.mg X.base CX k f fd ps sp) (hr : Room k X.A) (hg : Gl X x) (hm : X.mg x = some (.ref f)) (hk : PySem.W.keepIn X.K (.ref f) = true) (hb : L2.Binds X.K fd ps []) (hx : Passes CX X E)
    (ha : PA X (e :: es) t) (hdb : (x == ("__debug__" : Str)) = false := by decide) (he : starEach (e :: es) X.env = (false, eval e X.env) :: starEach es X.env := by rfl) (hpl : (backTo pos (starEach es X.env)).any (·.1) = false := by rfl) :
    PE X (.Call (.Name x p) (e :: es) [] pos) (tCall sp [] E t) := by
  refine ⟨fun pins s σ H Q I h => ?_⟩
  refine wpAny_Call_Name_kw (ld_glob I hg hm ?_ hdb)
  refine PySem.W.callWith_K (h₀ := X.base) I.ok.mod.kin hk (thn (ha.run pos pins s σ H _ I h) fun us s1 ⟨vs, H1, I1, r, q⟩ => ⟨I1.kIn, ?_⟩) he hpl
  have r2 : Vals (vs ++ []) (us ++ []) := r.append .nil
  have hl : (us ++ []).length = ps.length := by rw [← r2.length]; exact F.len _ _ _ _ q
  refine wpAny_call (codeAny_mono (F.run X.A X.stack s1 H1 ⟨us, []⟩ (us ++ []) (vs ++ []) Q E hgd hr I1.env0 (hb s1 us I1.kIn hl) r2 q) fun r s' hq => ?_)
  cases r with
  | error e => exact hx pins σ H1 s1 e s' I1 hq
  | ok fl =>
    cases fl with
    | ret u => exact I1.after hq
    | next => exact False.elim hq
    | brk => exact False.elim hq
    | cont => exact False.elim hq
structure DefOk (κ : Kit) (P : Program) (w : World) (mg : Str → Option Value) (base : Heap) (f : Nat) : Prop where
  len : ∀ ds n Q X, κ.Γ f ds n Q X → ds.length = κ.ar f
  ex : ∃ (a : Addr) (fd : FuncData) (ps : List Str), mg (κ.dn f) = some (.ref a) ∧ PySem.W.keepIn κ.K (.ref a) = true ∧ L2.Binds κ.K fd ps [] ∧ ps.length = κ.ar f ∧ FnG P w κ.K mg base (L2N.CX P w) κ.lv a fd ps (lift κ (κ.ar f) (κ.Γ f))
def bltNames : List Str := ["len", "int", "abs", "tuple", "list", "max", "min", "sum", "all", "any", "sorted", "range", "zip", "enumerate", "repr", "isinstance", "reversed"]
structure Glob (κ : Kit) (P : Program) (w : World) (mg : Str → Option Value) (base : Heap) : Prop where
  defs : ∀ f ∈ κ.L, DefOk κ P w mg base f
  glb : ∀ g ∈ κ.gl, ∃ u v, mg (κ.gn g) = some u ∧ RelV v u ∧ ∀ F, Rp κ.K κ.sa F v (κ.G g)
  blt : ∀ x ∈ bltNames, mg x = none
  exc : ∀ k ∈ κ.ks, ∃ C : Addr, κ.cls k = .ref C ∧ mg (κ.en k) = some (.ref C) ∧ PySem.W.excIn κ.K C [.type "ValueError", .type "Exception", .type "BaseException", .type "object"] "ValueError.__new__" = true ∧ PySem.W.keepIn κ.K (.ref C) = true ∧
    PySem.W.subIn κ.K (.ref C) (.type "BaseException") = some true ∧ PySem.W.typeIn κ.K (.ref C) = some (.type "type")
structure Cok (κ : Kit) (N : List Str) (sc : Scope) (X : Cx) (EX : XK) : Prop where
  hK : X.K = κ.K
  hN : X.N = N
  nd : N.Nodup
  kind : sc.kind = .function
  sc : X.env.scope = sc
  calm : X.calm = true
  room : Room κ.lv X.A
  gd : X.A.guards = some []
  tk : L2N.Takes X (fun cls d _ H => EX cls d H)
  gl : Glob κ X.prog X.w X.mg X.base
def Exc (κ : Kit) (H0 F0 : Hp) (env : Env) (σ : L2.St) (EX : XK) (Xd : XK1) : Prop := ∀ k n' H' F', Xd k n' → ER κ H0 F0 env σ H' F' n' → EX (κ.cls k) none H'
def RE (κ : Kit) (EX : XK) (w : Bool) (e : E) : TE := fun σ H Q => ∃ H0 F0 env F n Qd Xd, ER κ H0 F0 env σ H F n ∧ wE κ.Γ κ.G e env n Qd Xd ∧
  (∀ d n' v H' F', Qd d n' → ER κ H0 F0 env σ H' F' n' → Fr κ.sa H F H' F' → Rm κ w H' F' v d → Q v H') ∧ Exc κ H0 F0 env σ EX Xd
def RA (κ : Kit) (EX : XK) (w : Bool) (e : Es) : TA := fun σ H Q => ∃ H0 F0 env F n Qd Xd, ER κ H0 F0 env σ H F n ∧ wEs κ.Γ κ.G e env n Qd Xd ∧
  (∀ d n' v H' F', Qd d n' → d.length ≤ esLen e → ER κ H0 F0 env σ H' F' n' → Fr κ.sa H F H' F' → RmA κ w H' F' v d → Q v H') ∧ Exc κ H0 F0 env σ EX Xd
def RT (κ : Kit) (EX : XK) (e : T) : TT := fun σ H Q => ∃ H0 F0 env F n Qd Xd, ER κ H0 F0 env σ H F n ∧ wT κ.Γ κ.G e env n Qd Xd ∧
  (∀ b n' H' F', Qd b n' → ER κ H0 F0 env σ H' F' n' → Fr κ.sa H F H' F' → Q b H') ∧ Exc κ H0 F0 env σ EX Xd
def RTs (κ : Kit) (EX : XK) (e : Ts) : TT := fun σ H Q => ∃ H0 F0 env F n Qd Xd, ER κ H0 F0 env σ H F n ∧ wTs κ.Γ κ.G e env n Qd Xd ∧
  (∀ b n' H' F', Qd b n' → ER κ H0 F0 env σ H' F' n' → Fr κ.sa H F H' F' → Q b H') ∧ Exc κ H0 F0 env σ EX Xd
def RO (κ : Kit) (EX : XK) (e : Ei) : TO := fun σ H Q => ∃ H0 F0 env F n Qd Xd, ER κ H0 F0 env σ H F n ∧ wEi κ.Γ κ.G e env n Qd Xd ∧
  (∀ b n' H' F', Qd b n' → ER κ H0 F0 env σ H' F' n' → Fr κ.sa H F H' F' → Q b H') ∧ Exc κ H0 F0 env σ EX Xd
def Yl (κ : Kit) (J : L2.It) (F : Hp) (ds : List D) : Prop := ds.length ≤ sizeLine ∧ ∀ i H' F', Le F F' → Le F' H' →
  (∀ d, ds[i]? = some d → J.go i H' ∧ ∀ x H'', J.yld i H' x H'' → ∃ F'', Nw H' F' H'' F'' ∧ Rp κ.K κ.sa F'' x d) ∧ (ds.length ≤ i → J.stop i H')
def RI (κ : Kit) (EX : XK) (e : It) : TI := fun σ H R => ∃ H0 F0 env F n Qd Xd, ER κ H0 F0 env σ H F n ∧ wIt κ.Γ κ.G e env n Qd Xd ∧
  (∀ ds n' J H' F', Qd ds n' → ER κ H0 F0 env σ H' F' n' → Fr κ.sa H F H' F' → Yl κ J F' ds → R J H') ∧ Exc κ H0 F0 env σ EX Xd
def Told (κ : Kit) (N : List Str) (sc : Scope) (X : Cx) (EX : XK) : Prop :=
  ∀ (ws : List Nat) (e : E) (params : Arguments) (ys : List Str) (body : Expr) (scope : Scope) (lpos p pos : Pos), pdB params = some ys → laSB ys sc scope = true → wsB N ys ws = true → glB sc "_law_told" = true →
    (∀ (X' : Cx) (EX' : XK), Cok κ N scope X' EX' → PE X' body (RE κ EX' false e)) → PE X (.Call (.Name "_law_told" p) [.Lambda params body scope lpos] [] pos) (RE κ EX false (.told ws e))

/-! consequence -/
theorem PEm {X : Cx} {e : Expr} {t t' : TE} (h : PE X e t) (i : ∀ σ H Q, t' σ H Q → t σ H Q) : PE X e t' := ⟨fun pins s σ H Q I hw => h.run pins s σ H Q I (i _ _ _ hw)⟩
theorem PTm {X : Cx} {e : Expr} {t t' : TT} (h : PT X e t) (i : ∀ σ H Q, t' σ H Q → t σ H Q) : PT X e t' := ⟨fun pins s σ H Q I hw => h.run pins s σ H Q I (i _ _ _ hw)⟩
theorem PWm {X : Cx} {e : Expr} {t t' : TT} (h : PW X e t) (i : ∀ σ H Q, t' σ H Q → t σ H Q) : PW X e t' := ⟨fun wh pins s σ H Q I hw => h.run wh pins s σ H Q I (i _ _ _ hw)⟩
theorem PAm {X : Cx} {e : List Expr} {t t' : TA} (h : PA X e t) (i : ∀ σ H Q, t' σ H Q → t σ H Q) : PA X e t' := ⟨fun pos pins s σ H Q I hw => h.run pos pins s σ H Q I (i _ _ _ hw)⟩
theorem POm {X : Cx} {e : Option Expr} {t t' : TO} (h : PO X e t) (i : ∀ σ H Q, t' σ H Q → t σ H Q) : PO X e t' := ⟨fun pins s σ H Q I hw => h.run pins s σ H Q I (i _ _ _ hw)⟩
theorem PIm {X : Cx} {tg e : Expr} {t t' : TI} (h : PI X tg e t) (i : ∀ σ H Q, t' σ H Q → t σ H Q) : PI X tg e t' := ⟨fun pins s σ H Q I hw => h.run pins s σ H Q I (i _ _ _ hw)⟩
theorem PTsm {X : Cx} {e : List Expr} {t t' : TT} (h : PTs X e t) (i : ∀ σ H Q, t' σ H Q → t σ H Q) : PTs X e t' := ⟨fun pins s σ H Q I hw => h.run pins s σ H Q I (i _ _ _ hw)⟩

/-! small facts of the checks -/
theorem visB_iff {sc : Scope} {x : Str} (h : visB sc x = true) : Vis sc x ∧ (x == ("__debug__" : Str)) = false ∧ (x == ("__classdict__" : Str)) = false := by
  unfold visB at h
  simp only [Bool.and_eq_true, Bool.not_eq_true'] at h
  refine ⟨?_, h.1.2, h.2⟩
  have h1 := h.1.1
  split at h1
  · exact .inl (by assumption)
  · exact .inr (.inl (by assumption))
  · exact .inr (.inr (by assumption))
  · cases h1
theorem locB_iff {sc : Scope} {x : Str} (h : locB sc x = true) : Loc sc x := by
  unfold locB at h
  split at h
  · exact .inl (by assumption)
  · exact .inr (by assumption)
  · cases h
theorem glB_iff {sc : Scope} {x : Str} (h : glB sc x = true) : sc.names.lookup x = some .globalImplicit ∧ (x == ("__debug__" : Str)) = false ∧ x ≠ "__name__" := by
  unfold glB at h
  simp only [Bool.and_eq_true, Bool.not_eq_true', beq_eq_false_iff_ne] at h
  refine ⟨?_, by rw [beq_eq_false_iff_ne]; exact h.1.2, h.2⟩
  have h1 := h.1.1
  split at h1
  · assumption
  · cases h1
theorem star1 {e : Expr} (h : notStar e = true) (es : List Expr) (env : PySem.Env) : starEach (e :: es) env = (false, eval e env) :: starEach es env := by
  cases e <;> first | rfl | (simp [notStar] at h)
theorem starAll {env : PySem.Env} : ∀ es : List Expr, es.all notStar = true → (starEach es env).any (·.1) = false
  | [], _ => rfl
  | e :: es, h => by
    rw [List.all_cons, Bool.and_eq_true] at h
    rw [star1 h.1, List.any_cons, starAll es h.2]; rfl
theorem marks0 {e : Expr} (h : notSet e = true) (op : CmpOp) : behindInMarks op e = false := by
  cases e <;> first | rfl | (simp [notSet] at h)
theorem folded0 {e : Expr} (h : notSet e = true) (env : PySem.Env) : ∀ x, foldedSetIterable e env x = pure x := by
  intro x
  cases e <;> first | rfl | (simp [notSet] at h)
theorem plain0 {e : Expr} (h : notSlice e = true) : PlainIx e := by
  intro o i
  cases e <;> first | rfl | (simp [notSlice] at h)
theorem backStar {pos : Pos} : ∀ {l : List (Bool × Sem Value)}, l.any (·.1) = false → (backTo pos l).any (·.1) = false := by
  intro l h
  unfold backTo
  rw [List.any_map]
  exact h

section
variable {κ : Kit} {N : List Str}
/-- a pair of operands -/
theorem two_ok {EX : XK} {σ : L2.St} {H : Hp} {Q : VK} {a b : E} {H0 F0 : Hp} {env : Env} {F : Hp} {n : Nat} {R : D → D → Nat → Prop} {Xd : XK1} {r : R2} (er : ER κ H0 F0 env σ H F n)
    (hw : wE κ.Γ κ.G a env n (fun x n => wE κ.Γ κ.G b env n (fun y n => R x y n) Xd) Xd) (hx : Exc κ H0 F0 env σ EX Xd)
    (hr : ∀ x y n' vx vy H' F', R x y n' → ER κ H0 F0 env σ H' F' n' → Fr κ.sa H F H' F' → Rm κ true H' F' vx x → Rm κ true H' F' vy y → r vx vy H' Q) :
    tOp r (RE κ EX true a) (RE κ EX true b) σ H Q :=
  ⟨H0, F0, env, F, n, _, Xd, er, hw, fun d1 n1 v1 H1 F1 q1 er1 fr1 rm1 => ⟨H0, F0, env, F1, n1, _, Xd, er1, q1, fun d2 n2 v2 H2 F2 q2 er2 fr2 rm2 => hr d1 d2 n2 v1 v2 H2 F2 q2 er2 (fr1.trans fr2) (rm1.to fr2) rm2, hx⟩, hx⟩
theorem RE.up {EX : XK} {w : Bool} {e : E} {σ : L2.St} {H : Hp} {Q : VK} (h : RE κ EX w e σ H Q) : RE κ EX false e σ H Q := by
  obtain ⟨H0, F0, env, F, n, Qd, Xd, er, hw, hq, hx⟩ := h
  exact ⟨H0, F0, env, F, n, Qd, Xd, er, hw, fun d n' v H' F' q er' fr r => hq d n' v H' F' q er' fr (.inl r.f), hx⟩
theorem room_units {X : Cx} {k : Nat} (h : Room k X.A) : X.A.units + 65 < cLine := by
  have := h.un
  omega
theorem okRng_iff {i j : Int} (h : okRng i j) : (-(2 ^ 62) ≤ i ∧ i < 2 ^ 62 ∧ -(2 ^ 62) ≤ j ∧ j < 2 ^ 62) ∧ j - i ≤ 16000000 := by
  unfold okRng at h
  omega
theorem yl_range {F : Hp} {i j : Int} (h : okRng i j) : Yl κ (Itr i (j - i).toNat) F (rngD i j) := by
  have hl : (rngD i j).length = (j - i).toNat := by unfold rngD; simp
  have h2 := (okRng_iff h).2
  refine ⟨by rw [hl]; exact Nat.le_trans (show (j - i).toNat ≤ 16000000 by omega) (by decide), fun k H' F' lf lh => ⟨fun d e => ?_, fun hk => ?_⟩⟩
  · have hk : k < (j - i).toNat := by
      rw [← hl]
      exact (List.getElem?_eq_some_iff.mp e).1
    refine ⟨hk, fun x H'' y => ?_⟩
    obtain ⟨rfl, rfl⟩ := y
    refine ⟨F', .no, ?_⟩
    unfold rngD at e
    rw [List.getElem?_map, List.getElem?_range hk] at e
    cases e
    exact .int _
  · rw [hl] at hk
    exact hk
end
end DD



set_option Elab.async false
set_option linter.all false
set_option maxRecDepth 100000
set_option maxHeartbeats 4000000
namespace DD
open PySem PySem.Spec PyProof.Rows L2
section
variable {κ : Kit} {N : List Str}
/-! targets -/
def gL : List Nat → TGs
  | [] => gNil
  | i :: is => gCons (gName i) (gL is)
def gT (κ : Kit) : Tg → TG
  | .nm i => gName i
  | .tp is => gTup κ.K is.length (gL is)
theorem stoB_iff {fb : Str → Bool} {sc : Scope} {x : Str} (h : stoB fb sc x = true) : Loc sc x ∧ (fb x = true ∨ sc.names.lookup x = some .local) := by
  unfold stoB at h
  split at h
  · rename_i e; exact ⟨.inl e, .inr e⟩
  · rename_i e; exact ⟨.inr e, .inl h⟩
  · cases h
theorem pg_list {fb : Str → Bool} {sc : Scope} {X : Cx} (hN : X.N = N) (nd : N.Nodup) (hsc : X.env.scope = sc) (hfb : ∀ x, fb x = true → X.fn x = true) :
    ∀ {is : List Nat} {es : List Expr}, mtTg N fb sc is es = true → PGs X es (gL is) ∧ (assignEach es X.env).length = is.length ∧ (assignEach es X.env).findIdx? (·.1) = none
  | [], [], _ => ⟨pgs_nil, rfl, rfl⟩
  | [], _ :: _, h => by simp [mtTg] at h
  | i :: is, es, h => by
    unfold mtTg at h
    split at h
    · rename_i x p es'
      simp only [Bool.and_eq_true, decide_eq_true_eq] at h
      obtain ⟨h1, h2, h3⟩ := pg_list hN nd hsc hfb (is := is) (es := es') h.2
      obtain ⟨l1, l2⟩ := stoB_iff h.1.2
      refine ⟨pgs_cons (pg_name (by rw [hN]; exact nd) (by rw [hN]; exact h.1.1) (by rw [hsc]; exact l1) (by rw [hsc]; exact l2.imp (hfb x) id)) h1, ?_, ?_⟩
      · show ((false, assign (.Name x p) X.env) :: assignEach es' X.env).length = _
        rw [List.length_cons, h2]; rfl
      · show ((false, assign (.Name x p) X.env) :: assignEach es' X.env).findIdx? (·.1) = none
        rw [List.findIdx?_cons, h3]; rfl
    · cases h
theorem pg_tg {fb : Str → Bool} {sc : Scope} {X : Cx} (hK : X.K = κ.K) (hN : X.N = N) (nd : N.Nodup) (hsc : X.env.scope = sc) (hc : X.calm = true) (hfb : ∀ x, fb x = true → X.fn x = true) {tg : Tg} {e : Expr} (h : mtT1 N fb sc tg e = true) : PG X e (gT κ tg) := by
  unfold mtT1 at h
  split at h
  · split at h
    · simp only [Bool.and_eq_true, decide_eq_true_eq] at h
      obtain ⟨l1, l2⟩ := stoB_iff h.2
      exact pg_name (by rw [hN]; exact nd) (by rw [hN]; exact h.1) (by rw [hsc]; exact l1) (by rw [hsc]; exact l2.imp (hfb _) id)
    · cases h
  · split at h
    · obtain ⟨h1, h2, h3⟩ := pg_list hN nd hsc hfb h
      have := pg_tup (pos := by assumption) (k := by assumption) hc h1 h2 h3
      rw [hK] at this
      exact this
    · cases h
theorem gL_ok {H0 F0 : Hp} {H F : Hp} {n : Nat} {Q : L2.St → Hp → Prop} : ∀ {is all : List Nat} {l : List D} {xs : List V} {env : Env} {σ : L2.St}, (∀ i ∈ is, i ∈ all) → is.length = l.length → RpA κ.K κ.sa F xs l → ER κ H0 F0 env σ H F n →
    (∀ σ', ER κ H0 F0 ((is.zip l).foldl (fun e p => setS e p.1 (.v p.2)) env) σ' H F n → wipe σ' all = wipe σ all → Q σ' H) → gL is xs σ H Q
  | [], _, [], _, _, σ, _, _, .nil, er, k => ⟨rfl, k σ er rfl⟩
  | [], _, _ :: _, _, _, _, _, h, _, _, _ => nomatch h
  | _ :: _, _, [], _, _, _, _, h, _, _, _ => nomatch h
  | i :: is, all, d :: l, _, env, σ, hs, h, .cons r rr, er, k => by
    refine ⟨_, _, rfl, ?_⟩
    refine gL_ok (all := all) (fun i hi => hs i (List.mem_cons_of_mem _ hi)) (by simpa using h) rr (er.set i r) fun σ' er' hw => k σ' er' ?_
    rw [hw, wipe_set (hs i List.mem_cons_self)]
theorem gT_ok {H0 F0 : Hp} {H F : Hp} {n : Nat} {Q : L2.St → Hp → Prop} {tg : Tg} {d : D} {v : V} {env env' : Env} {σ : L2.St} (hb : bindT tg d env = some env') (r : Rp κ.K κ.sa F v d) (er : ER κ H0 F0 env σ H F n)
    (k : ∀ σ', ER κ H0 F0 env' σ' H F n → wipe σ' (tgs tg) = wipe σ (tgs tg) → Q σ' H) : gT κ tg v σ H Q := by
  unfold bindT at hb
  split at hb
  · cases hb
    exact k _ (er.set _ r) (wipe_set (List.mem_cons_self ..))
  · split at hb
    · rename_i hl
      cases hb
      cases r with
      | tup h q =>
        exact ⟨_, _, rfl, er.wd.le.sqT h, by rw [q.len]; exact hl.symm, gL_ok (fun _ h => h) hl q er k⟩
    · cases hb
  · cases hb

/-! what is walked -/
theorem yl_list {F : Hp} {a : Addr} {xs : List V} {ds : List D} (h : F a = some (.lst xs)) (r : RpA κ.K κ.sa F xs ds) (hz : xs.length ≤ sizeLine) : Yl κ (Itl κ.K a) F ds := by
  refine ⟨by rw [← r.len]; exact hz, fun i H' F' lf lh => ⟨fun d e => ?_, fun hi => ?_⟩⟩
  · obtain ⟨x, e1, e2⟩ := r.get e
    have hq : SqL κ.K H' a xs := SqL.of (lh _ _ (lf _ _ h))
    refine ⟨⟨xs, x, hq, e1⟩, fun y H'' q => ?_⟩
    obtain ⟨rfl, q⟩ := q
    have := q xs hq
    rw [e1] at this
    cases this
    exact ⟨F', .no, e2.mono lf⟩
  · exact ⟨xs, SqL.of (lh _ _ (lf _ _ h)), by rw [r.len]; exact hi⟩
theorem yl_tup {F : Hp} {a : Addr} {xs : List V} {ds : List D} (h : SqT κ.K F a xs) (r : RpA κ.K κ.sa F xs ds) (hz : xs.length ≤ sizeLine) (one : ∀ (H' F' : Hp), Le F F' → Le F' H' → SqT κ.K H' a xs) : Yl κ (Itt κ.K a) F ds := by
  refine ⟨by rw [← r.len]; exact hz, fun i H' F' lf lh => ⟨fun d e => ?_, fun hi => ?_⟩⟩
  · obtain ⟨x, e1, e2⟩ := r.get e
    have hq : SqT κ.K H' a xs := one H' F' lf lh
    refine ⟨⟨xs, x, hq, e1⟩, fun y H'' q => ?_⟩
    obtain ⟨rfl, q⟩ := q
    have := q xs hq
    rw [e1] at this
    cases this
    exact ⟨F', .no, e2.mono lf⟩
  · exact ⟨xs, one H' F' lf lh, by rw [r.len]; exact hi⟩
theorem pi_lst {X : Cx} {tg x : Expr} {EX : XK} {e : E} (hK : X.K = κ.K) (he : PE X x (RE κ EX false e)) : PI X tg x (RI κ EX (.lst e)) := by
  refine ⟨fun pins s σ H R I ⟨H0, F0, env, F, n, Qd, Xd, er, hw, hq, hx⟩ => ?_⟩
  unfold wIt at hw
  have h1 : RE κ EX false e σ H (fun v H1 => ∃ a F1 n1 xs ds, v = .ref a ∧ F1 a = some (.lst xs) ∧ RpA κ.K κ.sa F1 xs ds ∧ ER κ H0 F0 env σ H1 F1 n1 ∧ Fr κ.sa H F H1 F1 ∧ Qd ds n1) :=
    ⟨H0, F0, env, F, n, _, Xd, er, hw, fun d n1 v H1 F1 ⟨l, e, q⟩ er1 fr1 r1 => by
      subst e
      have r1 := r1.f
      cases r1 with
      | lst h r => exact ⟨_, F1, n1, _, _, rfl, h, r, er1, fr1, q⟩, hx⟩
  refine thn (he.run pins s σ H _ I h1) fun v s1 ⟨x, H1, I1, r1, a, F1, n1, xs, ds, ex, ha, ra, er1, fr1, q⟩ => ?_
  subst ex
  cases r1
  obtain ⟨its, rv, p, hz⟩ := I1.list (SqL.of (er1.wd.le _ _ ha))
  refine wpAny_pyIter_list p.isList ⟨s1.heap.objs.size, [s1.heap.objs.size], _, Itl X.K a, H1, rfl, I1.kept (t' := s1.toks) fun b o e => Heap.get?_push_of_some _ e, turn_list a _, ⟨_, Heap.get?_push_size _ rfl, rfl, rfl⟩, fun b hb => ?_, ?_⟩
  · rw [List.mem_singleton.mp hb]
    exact I1.fpOk (Nat.le_refl _) (I1.hok.fresh (Nat.le_refl _))
  · rw [hK]
    exact hq ds n1 _ H1 F1 q er1 fr1 (yl_list ha ra hz)
theorem pi_tpl {X : Cx} {tg x : Expr} {EX : XK} {e : E} (hK : X.K = κ.K) (he : PE X x (RE κ EX false e)) : PI X tg x (RI κ EX (.tup e)) := by
  refine ⟨fun pins s σ H R I ⟨H0, F0, env, F, n, Qd, Xd, er, hw, hq, hx⟩ => ?_⟩
  unfold wIt at hw
  have h1 : RE κ EX false e σ H (fun v H1 => ∃ a F1 n1 xs ds, v = .ref a ∧ SqT κ.K F1 a xs ∧ RpA κ.K κ.sa F1 xs ds ∧ ER κ H0 F0 env σ H1 F1 n1 ∧ Fr κ.sa H F H1 F1 ∧ Qd ds n1) :=
    ⟨H0, F0, env, F, n, _, Xd, er, hw, fun d n1 v H1 F1 ⟨l, e, q⟩ er1 fr1 r1 => by
      subst e
      have r1 := r1.f
      cases r1 with
      | tup h r => exact ⟨_, F1, n1, _, _, rfl, h, r, er1, fr1, q⟩, hx⟩
  refine thn (he.run pins s σ H _ I h1) fun v s1 ⟨x, H1, I1, r1, a, F1, n1, xs, ds, ex, ha, ra, er1, fr1, q⟩ => ?_
  subst ex
  cases r1
  obtain ⟨its, rv, p, hz⟩ := I1.tuple (hK ▸ er1.wd.le.sqT ha)
  refine wpAny_pyIter_tuple (show s1.heap.IsTuple a its.toArray from p) ⟨s1.heap.objs.size, [s1.heap.objs.size], _, Itt X.K a, H1, rfl, I1.kept (t' := s1.toks) fun b o e => Heap.get?_push_of_some _ e, turn_tuple a _, ⟨_, Heap.get?_push_size _ rfl, rfl, rfl⟩, fun b hb => ?_, ?_⟩
  · rw [List.mem_singleton.mp hb]
    exact I1.fpOk (Nat.le_refl _) (I1.hok.fresh (Nat.le_refl _))
  · rw [hK]
    exact hq ds n1 _ H1 F1 q er1 fr1 (yl_tup ha ra hz fun H' F' lf lh => lh.sqT (lf.sqT ha))
end
end DD



set_option Elab.async false
set_option linter.all false
set_option maxRecDepth 100000
set_option maxHeartbeats 4000000
namespace DD
open PySem PySem.Spec PyProof.Rows L2
section
variable {κ : Kit} {N : List Str}
theorem Fr.newOwn {sa : Option Addr} {H F : Hp} {p : Addr} {o : HO} (hp : H p = none) : Fr sa H F (upd H p o) F :=
  ⟨Le.refl _, fun a u e _ _ => Le.upd hp a u e, fun a h q => by
    match e : H a with
    | none => exact h e
    | some u => (rw [Le.upd hp a u e] at q; cases q), fun _ _ z => z⟩
theorem Fr.own {sa : Option Addr} {H0 F0 H F : Hp} {p : Addr} {o : HO} (fr : Fr sa H0 F0 H F) (hp : H0 p = none) : Fr sa H0 F0 (upd H p o) F :=
  ⟨fr.f, fun a u e n t => by rw [upd_ne (ne_of_none e hp)]; exact fr.h a u e n t, fun a h => by
    by_cases q : a = p
    · subst q; exact absurd hp h
    · rw [upd_ne q]; exact fr.d a h, fr.u⟩
theorem Wd.own {H F : Hp} {n : Nat} {p : Addr} {xs : List V} (w : Wd κ H F n) (hp : F p = none) (hs : κ.sa ≠ some p) (ht : ∀ ps, H p ≠ some (.tbl ps)) (hc : ∀ q, H p ≠ some (LamX.CodeO p q)) : Wd κ (upd H p (.lst xs)) F n := by
  refine ⟨fun a u e => by rw [upd_ne (ne_of_none e hp)]; exact w.le a u e, w.nt, fun q hq => ?_, fun a ha => ?_⟩
  · obtain ⟨ps, h1, h2, h3⟩ := w.tab q hq
    refine ⟨ps, by rw [upd_ne (a := p) (b := q.1) fun e => ht ps (e ▸ h1)]; exact h1, h2, fun pos cv hcv => ?_⟩
    obtain ⟨c, e1, e2⟩ := h3 pos cv hcv
    refine ⟨c, e1, ?_⟩
    rw [upd_ne (a := p) (b := c) fun e => hc q.2 (by rw [← e] at *; exact e2)]
    exact e2
  · obtain ⟨h1, na, ns, c, h2, h3⟩ := w.st a ha
    exact ⟨h1, na, ns, c, by rw [upd_ne (a := p) (b := a) fun e => hs (e ▸ ha)]; exact h2, h3⟩
theorem codeO_ne {c : Addr} {q : Str} {xs : List V} : some (HO.lst xs) ≠ some (LamX.CodeO c q) := fun z => by
  unfold LamX.CodeO at z
  cases z
/-- a list of one's own becomes a datum -/
theorem ER.freeze {H0 F0 : Hp} {env : Env} {σ : L2.St} {H F : Hp} {n : Nat} {p : Addr} {xs : List V} (er : ER κ H0 F0 env σ H F n) (h : H p = some (.lst xs)) (hf : F p = none) (h0 : H0 p = none) (hs : κ.sa ≠ some p)
    (hno : ∀ i ds, getS env i = .own ds → σ[i]? ≠ some (some (.ref p))) : ER κ H0 F0 env σ H (upd F p (.lst xs)) n := by
  have lf : Le F (upd F p (.lst xs)) := Le.upd hf
  refine ⟨er.len, ⟨fun a o e => ?_, fun a ps e => ?_, er.wd.tab, fun a ha => ?_⟩, ⟨er.fr.f.trans lf, er.fr.h, er.fr.d, fun a h1 h2 => ?_⟩, fun i => ?_, er.sep⟩
  · by_cases q : a = p
    · subst q; rw [upd_same] at e; rw [h]; exact e
    · rw [upd_ne q] at e; exact er.wd.le a o e
  · by_cases q : a = p
    · subst q; rw [upd_same] at e; cases e
    · rw [upd_ne q] at e; exact er.wd.nt a ps e
  · obtain ⟨h1, na, ns, c, h2, h3, h4⟩ := er.wd.st a ha
    exact ⟨by rw [upd_ne (a := p) (b := a) fun e => hs (e ▸ ha)]; exact h1, na, ns, c, h2, lf _ _ h3, h4⟩
  · rw [upd_ne (a := p) (b := a) fun e => h1 (e ▸ h0)]; exact er.fr.u a h1 h2
  · have s := er.sl i
    cases q : getS env i with
    | un => trivial
    | v d =>
      rw [q] at s
      obtain ⟨v, h1, h2⟩ := s
      exact ⟨v, h1, h2.mono lf⟩
    | own ds =>
      rw [q] at s
      obtain ⟨a, ys, h1, h2, h3, h4, h5, h6⟩ := s
      refine ⟨a, ys, h1, h2, ?_, h4, h5, h6.mono lf⟩
      rw [upd_ne (a := p) (b := a) fun e => hno i ds q (e ▸ h1)]
      exact h3
/-- no own list stands at a new address -/
theorem ER.noOwn {H0 F0 : Hp} {env : Env} {σ : L2.St} {H F : Hp} {n : Nat} {p : Addr} (er : ER κ H0 F0 env σ H F n) (hp : H p = none) : ∀ i ds, getS env i = .own ds → σ[i]? ≠ some (some (.ref p)) := fun i ds q e => by
  have s := er.sl i
  rw [q] at s
  obtain ⟨a, xs, h1, h2, _⟩ := s
  rw [h1] at e
  cases e
  rw [hp] at h2
  cases h2
theorem tgs_own {is : List Nat} : (ownOf N is).map (·.2) = is := by
  unfold ownOf
  rw [List.map_map]
  exact List.map_id' is

/-- a comprehension: the turns in the heap are the turns over data -/
theorem lc_ok {tg : Tg} {it : It} {c : Ts} {e : E} {EX : XK} {σ : L2.St} {H : Hp} {Q : VK} {H0 F0 : Hp} {env : Env} {F : Hp} {n : Nat} {Qd : K1} {Xd : XK1}
    (er : ER κ H0 F0 env σ H F n) (hw : wE κ.Γ κ.G (.lc tg it c e) env n Qd Xd)
    (hq : ∀ acc n' v H' F', Qd (.list acc) n' → ER κ H0 F0 env σ H' F' n' → Fr κ.sa H F H' F' → (∃ xs, H' v = some (.lst xs) ∧ RpA κ.K κ.sa F' xs acc) → F' v = none → H0 v = none → κ.sa ≠ some v → (∀ i ds, getS env i = .own ds → σ[i]? ≠ some (some (.ref v))) → H v = none → Q (.ref v) H')
    (hx : Exc κ H0 F0 env σ EX Xd) :
    tLc (RI κ EX it) (gT κ tg) (RTs κ (fun _ _ _ => False) c) (RE κ (fun _ _ _ => False) false e) (tgs tg) σ H Q := by
  unfold wE at hw
  refine ⟨H0, F0, env, F, n, _, Xd, er, hw, fun ds n1 J H1 F1 hq1 er1 fr1 yl Dl hD => ?_, hx⟩
  have hD0 : H0 Dl = none := by
    cases q : H0 Dl with
    | none => rfl
    | some o => exact absurd hD (er1.fr.d Dl (by rw [q]; exact fun z => nomatch z))
  have hDH : H Dl = none := by
    cases q : H Dl with
    | none => rfl
    | some o => exact absurd hD (fr1.d Dl (by rw [q]; exact fun z => nomatch z))
  have hDF : F1 Dl = none := er1.wd.le.free hD
  have hsa : κ.sa ≠ some Dl := fun e => by
    obtain ⟨_, _, _, _, h2, _⟩ := er1.wd.st Dl e
    rw [hD] at h2
    cases h2
  refine ⟨fun i m H' => ∃ F' n' xs acc, m = ds.length - i ∧ i ≤ ds.length ∧ Wd κ H' F' n' ∧ Fr κ.sa H1 F1 H' F' ∧ H' Dl = some (.lst xs) ∧ F' Dl = none ∧ RpA κ.K κ.sa F' xs acc ∧ xs.length ≤ i ∧
      wTurns (fun d n R => wBnd tg d (clrS env (tgs tg)) fun env' => wTs κ.Γ κ.G c env' n (fun z n => (z = true → wE κ.Γ κ.G e env' n (fun x n => R (some x) n) fun _ _ => False) ∧ (z = false → R none n)) fun _ _ => False) (ds.drop i) acc n' fun acc n => Qd (.list acc) n,
    ⟨ds.length, F1, n1, [], [], by simp, Nat.zero_le _, ?_, Fr.newOwn hD, upd_same, hDF, .nil, Nat.le_refl _, by simpa using hq1⟩, ?_⟩
  · exact er1.wd.own hDF hsa (by rw [hD]; exact fun _ z => nomatch z) (by rw [hD]; exact fun _ z => nomatch z)
  rintro i m H2 ⟨F2, n2, xs, acc, rfl, hi, wd2, fr2, hl, hf, ra, hle, ht⟩
  have er2 : ER κ H0 F0 env σ H2 F2 n2 := er1.step fr2 wd2
  by_cases hlt : i < ds.length
  · refine .inr ?_
    rw [List.drop_eq_getElem_cons hlt] at ht
    obtain ⟨hgo, hy⟩ := (yl.2 i H2 F2 fr2.f wd2.le).1 ds[i] (List.getElem?_eq_getElem hlt)
    unfold wTurns at ht
    obtain ⟨env', hb, ht⟩ := ht
    refine ⟨hgo, fun H' => ∃ F' n' xs acc, Wd κ H' F' n' ∧ Fr κ.sa H1 F1 H' F' ∧ H' Dl = some (.lst xs) ∧ F' Dl = none ∧ RpA κ.K κ.sa F' xs acc ∧ xs.length ≤ i + 1 ∧
        wTurns (fun d n R => wBnd tg d (clrS env (tgs tg)) fun env' => wTs κ.Γ κ.G c env' n (fun z n => (z = true → wE κ.Γ κ.G e env' n (fun x n => R (some x) n) fun _ _ => False) ∧ (z = false → R none n)) fun _ _ => False) (ds.drop (i + 1)) acc n' fun acc n => Qd (.list acc) n,
      fun H' ⟨F', n', xs, acc, h1, h2, h3, h4, h5, h6, h7⟩ => ⟨ds.length - (i + 1), by omega, F', n', xs, acc, rfl, hlt, h1, h2, h3, h4, h5, h6, h7⟩, fun x H3 hyl => ?_⟩
    obtain ⟨F3, nw, rx⟩ := hy x H3 hyl
    have wd3 : Wd κ H3 F3 n2 := nw.wd wd2
    have fr3 : Fr κ.sa H1 F1 H3 F3 := fr2.trans (nw.fr wd2.le)
    have hl3 : H3 Dl = some (.lst xs) := (nw.fr (sa := κ.sa) wd2.le).h Dl _ hl hsa fun _ z => nomatch z
    have hf3 : F3 Dl = none := (nw.fr (sa := κ.sa) wd2.le).u Dl (by rw [hl]; exact fun z => nomatch z) hf
    have ra3 : RpA κ.K κ.sa F3 xs acc := ra.mono (nw.fr (sa := κ.sa) wd2.le).f
    have er3 : ER κ H0 F0 (clrS env (tgs tg)) (wipe σ (tgs tg)) H3 F3 n2 := (er1.step fr3 wd3).clr (tgs tg)
    refine gT_ok hb rx er3 fun σ' er' hwp => ⟨by rw [hwp, wipe_wipe fun _ h => h], ?_⟩
    refine ⟨H0, F0, env', F3, n2, _, _, er', ht, fun b n4 H4 F4 q4 er4 fr4 => ?_, fun k n' H' F' z _ => z.elim⟩
    cases b with
    | true =>
      refine ⟨H0, F0, env', F4, n4, _, _, er4, q4.1 rfl, fun d n5 y H5 F5 q5 er5 fr5 rm5 => ?_, fun k n' H' F' z _ => z.elim⟩
      have fr35 := fr4.trans fr5
      have hl5 : H5 Dl = some (.lst xs) := fr35.h Dl _ hl3 hsa fun _ z => nomatch z
      have hf5 : F5 Dl = none := fr35.u Dl (by rw [hl3]; exact fun z => nomatch z) hf3
      refine ⟨xs, hl5, Nat.lt_of_le_of_lt hle (Nat.lt_of_lt_of_le hlt yl.1), F5, n5, _, acc ++ [d], er5.wd.own hf5 hsa (by rw [hl5]; exact fun _ z => nomatch z) (by rw [hl5]; exact fun _ => codeO_ne), (fr3.trans fr35).own hD, upd_same, hf5, (ra3.mono fr35.f).append (.cons rm5.f .nil), ?_, q5⟩
      rw [List.length_append]
      exact Nat.add_le_add_right hle 1
    | false =>
      exact ⟨F4, n4, xs, acc, er4.wd, fr3.trans fr4, fr4.h Dl _ hl3 hsa (fun _ z => nomatch z), fr4.u Dl (by rw [hl3]; exact fun z => nomatch z) hf3, ra3.mono fr4.f, Nat.le_succ_of_le hle, q4.2 rfl⟩
  · have e : i = ds.length := by omega
    subst e
    rw [List.drop_length] at ht
    refine .inl ⟨(yl.2 _ H2 F2 fr2.f wd2.le).2 (Nat.le_refl _), ?_⟩
    exact hq acc n2 Dl H2 F2 ht er2 (fr1.trans fr2) ⟨xs, hl, ra⟩ hf hD0 hsa ((er.noOwn hDH)) hDH
end
end DD



set_option Elab.async false
set_option linter.all false
set_option maxRecDepth 100000
set_option maxHeartbeats 4000000
namespace DD
open PySem PySem.Spec PyProof.Rows L2
section
variable {κ : Kit} {N : List Str}
theorem Fr.frz {sa : Option Addr} {H F H' F' : Hp} {p : Addr} {o : HO} (fr : Fr sa H F H' F') (hp : H p = none) (hf : F' p = none) : Fr sa H F H' (upd F' p o) :=
  ⟨fr.f.trans (Le.upd hf), fr.h, fr.d, fun a h1 h2 => by rw [upd_ne (a := p) (b := a) fun e => h1 (e ▸ hp)]; exact fr.u a h1 h2⟩
theorem Cok.blk {sc scope : Scope} {X : Cx} {EX : XK} (c : Cok κ N sc X EX) (hk : scope.kind = .function) (s : Shared) (H : Hp) (C : Addr) (cl : List (Str × Addr)) (fp : List Addr) : Cok κ N (relS scope sc) (X.blk s H scope (compEnvC scope cl C X.env) fp) (fun _ _ _ => False) :=
  ⟨c.hK, c.hN, c.nd, hk, by rw [← c.sc]; rfl, c.calm, c.room, c.gd, takesN0, c.gl⟩
theorem blt_of {X : Cx} {sc : Scope} {EX : XK} (c : Cok κ N sc X EX) {x : Str} (h : x ∈ bltNames) : X.mg x = none := c.gl.blt x h
theorem glX {X : Cx} {sc : Scope} {EX : XK} (c : Cok κ N sc X EX) {x : Str} (h : glB sc x = true) : Gl X x := by
  show X.env.scope.names.lookup x = _
  rw [c.sc]
  exact (glB_iff h).1
theorem biMem (b : Bi) : biName b ∈ bltNames := by cases b <;> decide +kernel
theorem cst_ok {EX : XK} {w : Bool} {X : Cx} {d : D} {c : Const} {k : Nat} {pos : Pos} (h : cstB d c = true) : PE X (.Constant c k pos) (RE κ EX w (.cst d)) := by
  have go : ∀ v, Rp κ.K κ.sa (fun _ => none) v d → PE X (.Constant c k pos) (tC v) → PE X (.Constant c k pos) (RE κ EX w (.cst d)) := fun v r p => PEm p fun σ H Q ⟨H0, F0, env, F, n, Qd, Xd, er, hw, hq, hx⟩ => by
    unfold wE at hw
    exact hq d n v H F hw er Fr.refl (.inl (r.mono fun _ _ e => by cases e))
  unfold cstB at h
  split at h
  · exact go _ .non pe_non
  · simp only [beq_iff_eq] at h; subst h; exact go _ (.bl _) pe_bl
  · simp only [beq_iff_eq] at h; subst h; exact go _ (.int _) pe_int
  · simp only [decide_eq_true_eq] at h; subst h; exact go _ (.str _) pe_str
  · cases h
theorem RpA.atI {K : PySem.W.Frag} {sa : Option Addr} {F : Hp} {v : List V} {d : List D} {i : Int} {x : D} (r : RpA K sa F v d) (h : atD d i = some x) : ∃ y, L2.atI v i = some y ∧ Rp K sa F y x := by
  unfold atD L2.atI at h
  unfold L2.atI
  rw [r.len]
  cases e : ixN d.length i with
  | none => rw [e] at h; cases h
  | some j =>
    rw [e] at h
    exact r.get h
theorem RpA.isE {K : PySem.W.Frag} {sa : Option Addr} {F : Hp} {v : List V} {d : List D} (r : RpA K sa F v d) : v.isEmpty = d.isEmpty := by
  cases r <;> rfl
theorem cut_whole {l : List D} {lo hi : Option Int} (h : HT.sIx l.length 0 lo = 0 ∧ HT.sIx l.length l.length hi = l.length) : cutD l lo hi = l := by
  unfold cutD
  rw [h.1, h.2, List.drop_zero, Nat.sub_zero, List.take_length]
theorem RmA.app {κ : Kit} {w : Bool} {H F : Hp} {xs vs : List V} {l ds : List D} : RpA κ.K κ.sa F xs l → RmA κ w H F vs ds → RmA κ w H F (xs ++ vs) (l ++ ds)
  | .nil, s => s
  | .cons h r, s => .cons (.inl h) (RmA.app r s)
def RC (κ : Kit) (EX : XK) (c : Ch) : V → TT := fun y σ H Q => ∃ H0 F0 env F n Qd Xd dy, ER κ H0 F0 env σ H F n ∧ Rm κ true H F y dy ∧ wCh κ.Γ κ.G c dy env n Qd Xd ∧
  (∀ b n' H' F', Qd b n' → ER κ H0 F0 env σ H' F' n' → Fr κ.sa H F H' F' → Q b H') ∧ Exc κ H0 F0 env σ EX Xd
theorem PChm {X : Cx} {os : List CmpOp} {xs : List Expr} {t t' : V → TT} (h : PCh X os xs t) (i : ∀ y σ H Q, t' y σ H Q → t y σ H Q) : PCh X os xs t' := ⟨fun pos pins s σ H y u Q I r hw => h.run pos pins s σ H y u Q I r (i _ _ _ _ hw)⟩
/-! what is walked, further -/
theorem yl_rangeC {F : Hp} {lo c : Int} {n : Nat} (h : n ≤ 16000000) : Yl κ (Itc lo c n) F (rngC lo c n) := by
  have hl : (rngC lo c n).length = n := by unfold rngC; simp
  refine ⟨by rw [hl]; exact Nat.le_trans h (by decide), fun k H' F' lf lh => ⟨fun d e => ?_, fun hk => by rw [hl] at hk; exact hk⟩⟩
  have hk : k < n := by
    rw [← hl]
    exact (List.getElem?_eq_some_iff.mp e).1
  refine ⟨hk, fun x H'' y => ?_⟩
  obtain ⟨rfl, rfl⟩ := y
  refine ⟨F', .no, ?_⟩
  unfold rngC at e
  rw [List.getElem?_map, List.getElem?_range hk] at e
  cases e
  exact .int _
theorem zipD_len : ∀ l m : List D, (zipD l m).length = min l.length m.length
  | [], _ => by simp [zipD]
  | _ :: _, [] => by simp [zipD]
  | a :: l, b :: m => by
    show (zipD l m).length + 1 = _
    rw [zipD_len l m, List.length_cons, List.length_cons]; omega
theorem zipD_get : ∀ {l m : List D} {i : Nat} {d : D}, (zipD l m)[i]? = some d → ∃ a b, l[i]? = some a ∧ m[i]? = some b ∧ d = .tuple [a, b]
  | [], _, i, d, h => by simp [zipD] at h
  | _ :: _, [], i, d, h => by simp [zipD] at h
  | a :: l, b :: m, 0, d, h => by
    simp [zipD] at h
    exact ⟨a, b, rfl, rfl, h.symm⟩
  | a :: l, b :: m, i + 1, d, h => by
    obtain ⟨x, y, h1, h2, h3⟩ := zipD_get (l := l) (m := m) (i := i) (by simpa [zipD] using h)
    exact ⟨x, y, by simpa using h1, by simpa using h2, h3⟩
theorem enuD_len : ∀ (l : List D) (k : Int), (enuD k l).length = l.length
  | [], _ => rfl
  | a :: l, k => by
    show (enuD (k + 1) l).length + 1 = _
    rw [enuD_len l, List.length_cons]
theorem enuD_get : ∀ {l : List D} {k : Int} {i : Nat} {d : D}, (enuD k l)[i]? = some d → ∃ a, l[i]? = some a ∧ d = .tuple [.int (k + i), a]
  | [], _, i, d, h => by simp [enuD] at h
  | a :: l, k, 0, d, h => by
    simp [enuD] at h
    exact ⟨a, rfl, by rw [← h]; simp⟩
  | a :: l, k, i + 1, d, h => by
    obtain ⟨x, h1, h2⟩ := enuD_get (l := l) (k := k + 1) (i := i) (by simpa [enuD] using h)
    exact ⟨x, by simpa using h1, by rw [h2, show k + 1 + (i : Int) = k + ((i + 1 : Nat) : Int) by omega]⟩
theorem nw_pair {F' H' : Hp} {T : Addr} {x y : V} {a b : D} (lh : Le F' H') (hT : H' T = none) (r1 : Rp κ.K κ.sa F' x a) (r2 : Rp κ.K κ.sa F' y b) : ∃ F'', Nw H' F' (upd H' T (.tup [x, y])) F'' ∧ Rp κ.K κ.sa F'' (.ref T) (.tuple [a, b]) :=
  ⟨upd F' T (.tup [x, y]), Nw.new hT (fun _ z => nomatch z), .tup (SqT.of upd_same) ((RpA.cons r1 (.cons r2 .nil)).mono (Le.upd (lh.free hT)))⟩
theorem yl_zip {F : Hp} {a b : Addr} {xs ys : List V} {ds es : List D} (h : F a = some (.lst xs)) (h2 : F b = some (.lst ys)) (r : RpA κ.K κ.sa F xs ds) (r2 : RpA κ.K κ.sa F ys es) (hz : okLen ds.length) : Yl κ (Itz κ.K a b) F (zipD ds es) := by
  refine ⟨by rw [zipD_len]; exact Nat.le_trans (Nat.min_le_left _ _) (sizeOk hz), fun i H' F' lf lh => ⟨fun d e => ?_, fun hi => ?_⟩⟩
  · obtain ⟨d1, d2, e1, e2, rfl⟩ := zipD_get e
    obtain ⟨x, g1, rx⟩ := r.get e1
    obtain ⟨y, g2, ry⟩ := r2.get e2
    have q1 : SqL κ.K H' a xs := SqL.of (lh _ _ (lf _ _ h))
    have q2 : SqL κ.K H' b ys := SqL.of (lh _ _ (lf _ _ h2))
    refine ⟨⟨xs, ys, x, y, q1, q2, g1, g2⟩, fun v H'' ⟨T, x', y', ev, hT, eH, hx, hy⟩ => ?_⟩
    subst ev eH
    have := hx xs q1; rw [g1] at this; cases this
    have := hy ys q2; rw [g2] at this; cases this
    exact nw_pair lh hT (rx.mono lf) (ry.mono lf)
  · rw [zipD_len] at hi
    refine ⟨xs, ys, SqL.of (lh _ _ (lf _ _ h)), SqL.of (lh _ _ (lf _ _ h2)), ?_⟩
    rw [r.len, r2.len]
    omega
theorem yl_zipT {F : Hp} {a b : Addr} {xs ys : List V} {ds es : List D} (h : SqT κ.K F a xs) (h2 : SqT κ.K F b ys) (r : RpA κ.K κ.sa F xs ds) (r2 : RpA κ.K κ.sa F ys es) (hz : okLen ds.length) : Yl κ (RZ.ItzT κ.K a b) F (zipD ds es) := by
  refine ⟨by rw [zipD_len]; exact Nat.le_trans (Nat.min_le_left _ _) (sizeOk hz), fun i H' F' lf lh => ⟨fun d e => ?_, fun hi => ?_⟩⟩
  · obtain ⟨d1, d2, e1, e2, rfl⟩ := zipD_get e
    obtain ⟨x, g1, rx⟩ := r.get e1
    obtain ⟨y, g2, ry⟩ := r2.get e2
    have q1 : SqT κ.K H' a xs := lh.sqT (lf.sqT h)
    have q2 : SqT κ.K H' b ys := lh.sqT (lf.sqT h2)
    refine ⟨⟨xs, ys, x, y, q1, q2, g1, g2⟩, fun v H'' ⟨T, x', y', ev, hT, eH, hx, hy⟩ => ?_⟩
    subst ev eH
    have := hx xs q1; rw [g1] at this; cases this
    have := hy ys q2; rw [g2] at this; cases this
    exact nw_pair lh hT (rx.mono lf) (ry.mono lf)
  · rw [zipD_len] at hi
    refine ⟨xs, ys, lh.sqT (lf.sqT h), lh.sqT (lf.sqT h2), ?_⟩
    rw [r.len, r2.len]
    omega
theorem yl_enu {F : Hp} {a : Addr} {xs : List V} {ds : List D} (h : F a = some (.lst xs)) (r : RpA κ.K κ.sa F xs ds) (hz : okLen ds.length) : Yl κ (Ite κ.K a) F (enuD 0 ds) := by
  refine ⟨by rw [enuD_len]; exact sizeOk hz, fun i H' F' lf lh => ⟨fun d e => ?_, fun hi => ?_⟩⟩
  · obtain ⟨d1, e1, rfl⟩ := enuD_get e
    obtain ⟨x, g1, rx⟩ := r.get e1
    have q1 : SqL κ.K H' a xs := SqL.of (lh _ _ (lf _ _ h))
    refine ⟨⟨xs, x, q1, g1⟩, fun v H'' ⟨T, x', ev, hT, eH, hx⟩ => ?_⟩
    subst ev eH
    have := hx xs q1; rw [g1] at this; cases this
    rw [Int.zero_add]
    exact nw_pair lh hT (.int _) (rx.mono lf)
  · rw [enuD_len] at hi
    exact ⟨xs, SqL.of (lh _ _ (lf _ _ h)), by rw [r.len]; exact hi⟩
theorem yl_rv {F : Hp} {a : Addr} {xs : List V} {ds : List D} (h : F a = some (.lst xs)) (r : RpA κ.K κ.sa F xs ds) (hz : okLen ds.length) : Yl κ (Itv κ.K a xs.length) F ds.reverse := by
  refine ⟨by rw [List.length_reverse]; exact sizeOk hz, fun i H' F' lf lh => ⟨fun d e => ?_, fun hi => by rw [List.length_reverse] at hi; show xs.length ≤ i; rw [r.len]; exact hi⟩⟩
  have hi : i < ds.length := by
    have := (List.getElem?_eq_some_iff.mp e).1
    rwa [List.length_reverse] at this
  rw [List.getElem?_reverse hi] at e
  obtain ⟨x, g1, rx⟩ := r.get e
  have hl := r.len
  rw [← hl] at g1 hi
  have q1 : SqL κ.K H' a xs := SqL.of (lh _ _ (lf _ _ h))
  refine ⟨⟨hi, xs, x, q1, g1⟩, fun v H'' ⟨eH, hx⟩ => ?_⟩
  subst eH
  have := hx xs q1; rw [g1] at this; cases this
  exact ⟨F', .no, rx.mono lf⟩
theorem yl_rvT {F : Hp} {a : Addr} {xs : List V} {ds : List D} (h : SqT κ.K F a xs) (r : RpA κ.K κ.sa F xs ds) (hz : okLen ds.length) : Yl κ (_root_.RT.ItvT κ.K a xs.length) F ds.reverse := by
  refine ⟨by rw [List.length_reverse]; exact sizeOk hz, fun i H' F' lf lh => ⟨fun d e => ?_, fun hi => by rw [List.length_reverse] at hi; show xs.length ≤ i; rw [r.len]; exact hi⟩⟩
  have hi : i < ds.length := by
    have := (List.getElem?_eq_some_iff.mp e).1
    rwa [List.length_reverse] at this
  rw [List.getElem?_reverse hi] at e
  obtain ⟨x, g1, rx⟩ := r.get e
  have hl := r.len
  rw [← hl] at g1 hi
  have q1 : SqT κ.K H' a xs := lh.sqT (lf.sqT h)
  refine ⟨⟨hi, xs, x, q1, g1⟩, fun v H'' ⟨eH, hx⟩ => ?_⟩
  subst eH
  have := hx xs q1; rw [g1] at this; cases this
  exact ⟨F', .no, rx.mono lf⟩
mutual
theorem sE : ∀ (e : E) {w tl : Bool} {sc : Scope} {x : Expr} {X : Cx} {EX : XK}, Cok κ N sc X EX → (tl = true → Told κ N sc X EX) → mtE κ.s N w tl sc e x = true → PE X x (RE κ EX w e)
  | .var i, w, tl, sc, x, X, EX, c, ht, h => by
    unfold mtE at h
    split at h
    · unfold nmB at h
      simp only [Bool.and_eq_true, decide_eq_true_eq] at h
      obtain ⟨v1, v2, v3⟩ := visB_iff h.2
      refine PEm (pe_var (i := i) (by rw [c.hN]; exact h.1) (by rw [c.sc]; exact v1) v2 v3) fun σ H Q ⟨H0, F0, env, F, n, Qd, Xd, er, hw, hq, hx⟩ => ?_
      unfold wE at hw
      obtain ⟨d, e1, q⟩ := hw
      have s := er.sl i
      rw [e1] at s
      obtain ⟨v, h1, h2⟩ := s
      exact ⟨v, h1, hq d n v H F q er Fr.refl (.inl h2)⟩
    · cases h
  | .pk i, w, tl, sc, x, X, EX, c, ht, h => by
    unfold mtE at h
    rw [Bool.and_eq_true] at h
    obtain ⟨hwt, h⟩ := h
    split at h
    · unfold nmB at h
      simp only [Bool.and_eq_true, decide_eq_true_eq] at h
      obtain ⟨v1, v2, v3⟩ := visB_iff h.2
      refine PEm (pe_var (i := i) (by rw [c.hN]; exact h.1) (by rw [c.sc]; exact v1) v2 v3) fun σ H Q ⟨H0, F0, env, F, n, Qd, Xd, er, hw, hq, hx⟩ => ?_
      unfold wE at hw
      obtain ⟨d, e1, q⟩ := hw
      have s := er.sl i
      rw [e1] at s
      obtain ⟨a, xs, h1, h2, h3, h4, h5, h6⟩ := s
      exact ⟨_, h1, hq _ n _ H F q er Fr.refl (.inr ⟨hwt, a, xs, d, rfl, rfl, h2, h5, h6⟩)⟩
    · cases h
  | .cst d, w, tl, sc, x, X, EX, c, ht, h => by
    unfold mtE at h
    split at h
    · exact cst_ok h
    · cases h
  | .glb g, w, tl, sc, x, X, EX, c, ht, h => by
    unfold mtE at h
    split at h
    · simp only [Bool.and_eq_true, decide_eq_true_eq, List.contains_iff_mem] at h
      obtain ⟨⟨h1, h2⟩, h3⟩ := h
      obtain ⟨u, v, e1, e2, e3⟩ := c.gl.glb g h1
      refine PEm (pe_glob (glX c h3) (by rw [← h2]; exact e1) e2 (glB_iff h3).2.1) fun σ H Q ⟨H0, F0, env, F, n, Qd, Xd, er, hw, hq, hx⟩ => ?_
      unfold wE at hw
      exact hq _ n v H F hw er Fr.refl (.inl (e3 F))
    · cases h
  | .bin o a b, w, tl, sc, x, X, EX, c, ht, h => by
    unfold mtE at h
    split at h
    · simp only [Bool.and_eq_true, decide_eq_true_eq] at h
      obtain ⟨⟨rfl, h2⟩, h3⟩ := h
      refine PEm (pe_op (opB c.hK o) (sE a c ht h2) (sE b c ht h3)) fun σ H Q ⟨H0, F0, env, F, n, Qd, Xd, er, hw, hq, hx⟩ => ?_
      unfold wE at hw
      exact two_ok er hw hx fun x y n' vx vy H' F' q er' fr' rx ry => ⟨F', x, y, er'.wd.le, rx, ry, wBin_mono (fun z qz v H2 F2 nw rp => hq _ _ _ _ _ qz (er'.nw nw) (fr'.trans (nw.fr er'.wd.le)) (.inl rp)) q⟩
    · cases h
  | .neg a, w, tl, sc, x, X, EX, c, ht, h => by
    unfold mtE at h
    split at h
    · refine PEm (pe_un un_neg (sE a c ht h)) fun σ H Q ⟨H0, F0, env, F, n, Qd, Xd, er, hw, hq, hx⟩ => ?_
      unfold wE at hw
      refine ⟨H0, F0, env, F, n, _, Xd, er, hw, fun d n' v H' F' ⟨i, e, q⟩ er' fr' r => ?_, hx⟩
      subst e
      exact ⟨i, r.int, hq _ _ _ _ _ q er' fr' (.inl (.int _))⟩
    · cases h
  | .cmp o a b, w, tl, sc, x, X, EX, c, ht, h => by
    unfold mtE at h
    split at h
    · simp only [Bool.and_eq_true, decide_eq_true_eq] at h
      obtain ⟨⟨⟨rfl, h1⟩, h2⟩, h3⟩ := h
      refine PEm (pe_cmpR (opC c.hK (room_units c.room) o) (sE a c ht h2) (sE b c ht h3) (marks0 h1 _)) fun σ H Q ⟨H0, F0, env, F, n, Qd, Xd, er, hw, hq, hx⟩ => ?_
      unfold wE at hw
      exact two_ok er hw hx fun x y n' vx vy H' F' q er' fr' rx ry => ⟨F', x, y, er'.wd.le, rx, ry, wCmp_mono (fun z qz => hq _ _ _ _ _ qz er' fr' (.inl (.bl _))) q⟩
    · cases h
  | .ch2 o1 o2 a b cc, w, tl, sc, x, X, EX, c, ht, h => by
    unfold mtE at h
    split at h
    · simp only [Bool.and_eq_true, decide_eq_true_eq] at h
      obtain ⟨⟨⟨⟨⟨rfl, rfl⟩, h1⟩, h2⟩, h3⟩, h4⟩ := h
      refine PEm (pe_chain (opC c.hK (room_units c.room) o1) (opC c.hK (room_units c.room) o2) (sE a c ht h2) (sE b c ht h3) (sE cc c ht h4) (marks0 h1 _)) fun σ H Q ⟨H0, F0, env, F, n, Qd, Xd, er, hw, hq, hx⟩ => ?_
      unfold wE at hw
      refine ⟨H0, F0, env, F, n, _, Xd, er, hw, fun d1 n1 v1 H1 F1 q1 er1 fr1 rm1 => ⟨H0, F0, env, F1, n1, _, Xd, er1, q1, fun d2 n2 v2 H2 F2 q2 er2 fr2 rm2 => ⟨F2, d1, d2, er2.wd.le, rm1.to fr2, rm2, wCmp_mono (fun z qz => ⟨z, rfl, ?_⟩) q2⟩, hx⟩, hx⟩
      cases z with
      | true =>
        exact ⟨H0, F0, env, F2, n2, _, Xd, er2, qz.1 rfl, fun d3 n3 v3 H3 F3 q3 er3 fr3 rm3 => ⟨F3, d2, d3, er3.wd.le, rm2.to fr3, rm3, wCmp_mono (fun z qz => hq _ _ _ _ _ qz er3 (fr1.trans (fr2.trans fr3)) (.inl (.bl _))) q3⟩, hx⟩
      | false => exact hq _ _ _ _ _ (qz.2 rfl) er2 (fr1.trans fr2) (.inl (.bl _))
    · cases h
  | .and a b, w, tl, sc, x, X, EX, c, ht, h => by
    unfold mtE at h
    have im : ∀ σ H Q, RE κ EX w (.and a b) σ H Q → tAndV (RE κ EX true a) (RE κ EX w b) σ H Q := fun σ H Q ⟨H0, F0, env, F, n, Qd, Xd, er, hw, hq, hx⟩ => by
      unfold wE at hw
      refine ⟨H0, F0, env, F, n, _, Xd, er, hw, fun d1 n1 v1 H1 F1 ⟨cc, e, q1, q2⟩ er1 fr1 rm1 => ?_, hx⟩
      subst e
      refine ⟨cc, rm1.bl, ?_⟩
      cases cc with
      | true => rw [if_pos rfl]; exact ⟨H0, F0, env, F1, n1, _, Xd, er1, q1 rfl, fun d n v H' F' q er' fr' rm => hq d n v H' F' q er' (fr1.trans fr') rm, hx⟩
      | false => exact hq _ _ _ _ _ (q2 rfl) er1 fr1 (.inl (.bl _))
    split at h
    · rename_i a' b' r pos
      rw [Bool.and_eq_true] at h
      cases r with
      | nil => exact PEm (pe_and (sE a c ht h.1) (pe_one (sE b c ht h.2))) im
      | cons y r => exact PEm (pe_and (sE a c ht h.1) (sE b c ht h.2)) im
    · cases h
  | .or a b, w, tl, sc, x, X, EX, c, ht, h => by
    unfold mtE at h
    have im : ∀ σ H Q, RE κ EX w (.or a b) σ H Q → tOrV (RE κ EX true a) (RE κ EX w b) σ H Q := fun σ H Q ⟨H0, F0, env, F, n, Qd, Xd, er, hw, hq, hx⟩ => by
      unfold wE at hw
      refine ⟨H0, F0, env, F, n, _, Xd, er, hw, fun d1 n1 v1 H1 F1 ⟨cc, e, q1, q2⟩ er1 fr1 rm1 => ?_, hx⟩
      subst e
      refine ⟨cc, rm1.bl, ?_⟩
      cases cc with
      | false => rw [if_neg Bool.false_ne_true]; exact ⟨H0, F0, env, F1, n1, _, Xd, er1, q2 rfl, fun d n v H' F' q er' fr' rm => hq d n v H' F' q er' (fr1.trans fr') rm, hx⟩
      | true => exact hq _ _ _ _ _ (q1 rfl) er1 fr1 (.inl (.bl _))
    split at h
    · rename_i a' b' r pos
      rw [Bool.and_eq_true] at h
      cases r with
      | nil => exact PEm (pe_or (sE a c ht h.1) (pe_one (sE b c ht h.2))) im
      | cons y r => exact PEm (pe_or (sE a c ht h.1) (sE b c ht h.2)) im
    · cases h
  | .not a, w, tl, sc, x, X, EX, c, ht, h => by
    unfold mtE at h
    split at h
    · refine PEm (pe_not (sE a c ht h)) fun σ H Q ⟨H0, F0, env, F, n, Qd, Xd, er, hw, hq, hx⟩ => ?_
      unfold wE at hw
      refine ⟨H0, F0, env, F, n, _, Xd, er, hw, fun d1 n1 v1 H1 F1 ⟨cc, e, q1⟩ er1 fr1 rm1 => ?_, hx⟩
      subst e
      exact ⟨cc, rm1.bl, hq _ _ _ _ _ q1 er1 fr1 (.inl (.bl _))⟩
    · cases h
  | .ite t a b, w, tl, sc, x, X, EX, c, ht, h => by
    unfold mtE at h
    split at h
    · simp only [Bool.and_eq_true] at h
      obtain ⟨⟨h1, h2⟩, h3⟩ := h
      refine PEm (pe_ifExp (sT t c ht h1).2 (sE a c ht h2) (sE b c ht h3)) fun σ H Q ⟨H0, F0, env, F, n, Qd, Xd, er, hw, hq, hx⟩ => ?_
      unfold wE at hw
      refine ⟨H0, F0, env, F, n, _, Xd, er, hw, fun z n1 H1 F1 q er1 fr1 => ?_, hx⟩
      cases z with
      | true => rw [if_pos rfl]; exact ⟨H0, F0, env, F1, n1, _, Xd, er1, q.1 rfl, fun d n v H' F' q er' fr' rm => hq d n v H' F' q er' (fr1.trans fr') rm, hx⟩
      | false => rw [if_neg Bool.false_ne_true]; exact ⟨H0, F0, env, F1, n1, _, Xd, er1, q.2 rfl, fun d n v H' F' q er' fr' rm => hq d n v H' F' q er' (fr1.trans fr') rm, hx⟩
    · cases h
  | .tup es, w, tl, sc, x, X, EX, c, ht, h => by
    unfold mtE at h
    split at h
    · rename_i xs k pos
      simp only [Bool.and_eq_true, decide_eq_true_eq] at h
      refine PEm (pe_tup (sEs es c ht h.2)) fun σ H Q ⟨H0, F0, env, F, n, Qd, Xd, er, hw, hq, hx⟩ => ?_
      unfold wE at hw
      refine ⟨H0, F0, env, F, n, _, Xd, er, hw, fun ds n1 vs H1 F1 q hl er1 fr1 rm1 => ⟨?_, fun p hp => ?_⟩, hx⟩
      · rw [rm1.f.len]
        exact Nat.le_trans hl (Nat.le_trans h.1 (by decide))
      · have nw : Nw H1 F1 (upd H1 p (.tup vs)) (upd F1 p (.tup vs)) := .new hp fun _ z => nomatch z
        exact hq _ _ _ _ _ q (er1.nw nw) (fr1.trans (nw.fr er1.wd.le)) (.inl (.tup (SqT.of upd_same) (rm1.f.mono (Le.upd (er1.wd.le.free hp)))))
    · cases h
  | .lst es, w, tl, sc, x, X, EX, c, ht, h => by
    unfold mtE at h
    split at h
    · rename_i xs pos
      simp only [Bool.and_eq_true, decide_eq_true_eq] at h
      refine PEm (pe_lst (sEs es c ht h.2)) fun σ H Q ⟨H0, F0, env, F, n, Qd, Xd, er, hw, hq, hx⟩ => ?_
      unfold wE at hw
      refine ⟨H0, F0, env, F, n, _, Xd, er, hw, fun ds n1 vs H1 F1 q hl er1 fr1 rm1 => ⟨?_, fun p hp => ?_⟩, hx⟩
      · rw [rm1.f.len]
        exact Nat.le_trans hl (Nat.le_trans h.1 (by decide))
      · have nw : Nw H1 F1 (upd H1 p (.lst vs)) (upd F1 p (.lst vs)) := .new hp fun _ z => nomatch z
        exact hq _ _ _ _ _ q (er1.nw nw) (fr1.trans (nw.fr er1.wd.le)) (.inl (.lst upd_same (rm1.f.mono (Le.upd (er1.wd.le.free hp)))))
    · cases h
  | .idx a b, w, tl, sc, x, X, EX, c, ht, h => by
    unfold mtE at h
    split at h
    · simp only [Bool.and_eq_true] at h
      obtain ⟨⟨h1, h2⟩, h3⟩ := h
      refine PEm (pe_ix ix_seq (sE a c ht h2) (sE b c ht h3) (plain0 h1)) fun σ H Q ⟨H0, F0, env, F, n, Qd, Xd, er, hw, hq, hx⟩ => ?_
      unfold wE at hw
      refine two_ok er hw hx fun x y n' vx vy H' F' q er' fr' rx ry => ?_
      unfold wIdx at q
      split at q
      · obtain ⟨d, e, q⟩ := q
        obtain ⟨p, xs, rfl, h1, h2⟩ := rx.lst er'.wd.le
        have := ry.int; subst this
        obtain ⟨v, e1, e2⟩ := h2.atI e
        exact .inl ⟨p, xs, _, v, rfl, rfl, SqL.of h1, e1, hq _ _ _ _ _ q er' fr' (.inl e2)⟩
      · obtain ⟨d, e, q⟩ := q
        obtain ⟨p, xs, rfl, h1, h2⟩ := rx.tup
        have := ry.int; subst this
        obtain ⟨v, e1, e2⟩ := h2.atI e
        exact .inr (.inl ⟨p, xs, _, v, rfl, rfl, c.hK ▸ er'.wd.le.sqT h1, e1, hq _ _ _ _ _ q er' fr' (.inl e2)⟩)
      · exact q.elim
    · cases h
  | .slc a lo hi, w, tl, sc, x, X, EX, c, ht, h => by
    unfold mtE at h
    split at h
    · simp only [Bool.and_eq_true] at h
      obtain ⟨⟨h1, h2⟩, h3⟩ := h
      refine PEm (pe_slice (SlR.or sl_list sl_tupA) (sE a c ht h1) (sEi lo c ht h2) (sEi hi c ht h3)) fun σ H Q ⟨H0, F0, env, F, n, Qd, Xd, er, hw, hq, hx⟩ => ?_
      unfold wE at hw
      refine ⟨H0, F0, env, F, n, _, Xd, er, hw, fun d1 n1 v1 H1 F1 q1 er1 fr1 rm1 => ⟨H0, F0, env, F1, n1, _, Xd, er1, q1, fun l n2 H2 F2 q2 er2 fr2 => ⟨H0, F0, env, F2, n2, _, Xd, er2, q2, fun u n3 H3 F3 q er3 fr3 => ?_, hx⟩, hx⟩, hx⟩
      have rm := rm1.to (fr2.trans fr3)
      have fr := fr1.trans (fr2.trans fr3)
      unfold wSlc at q
      split at q
      · obtain ⟨p, xs, rfl, h1, h2⟩ := rm.lst er3.wd.le
        refine .inl ⟨p, xs, rfl, SqL.of h1, fun p hp => ?_⟩
        have nw : Nw H3 F3 (upd H3 p (.lst (cutV xs l u))) (upd F3 p (.lst (cutV xs l u))) := .new hp fun _ z => nomatch z
        exact hq _ _ _ _ _ q (er3.nw nw) (fr.trans (nw.fr er3.wd.le)) (.inl (.lst upd_same ((h2.cut l u).mono (Le.upd (er3.wd.le.free hp)))))
      · obtain ⟨p, xs, rfl, h1, h2⟩ := rm.tup
        refine .inr ⟨p, xs, rfl, c.hK ▸ er3.wd.le.sqT h1, fun e => ?_, fun _ p hp => ?_⟩
        · have : cutD _ l u = _ := cut_whole (lo := l) (hi := u) (by rw [← h2.len]; exact e)
          rw [this] at q
          exact hq _ _ _ _ _ q er3 fr (.inl (.tup h1 h2))
        · have nw : Nw H3 F3 (upd H3 p (.tup (cutV xs l u))) (upd F3 p (.tup (cutV xs l u))) := .new hp fun _ z => nomatch z
          exact hq _ _ _ _ _ q (er3.nw nw) (fr.trans (nw.fr er3.wd.le)) (.inl (.tup (SqT.of upd_same) ((h2.cut l u).mono (Le.upd (er3.wd.le.free hp)))))
      · obtain ⟨p, xs, rfl, h1, h2⟩ := rm.scr
        refine .inl ⟨p, xs, rfl, c.hK ▸ er3.wd.le.sqL h1, fun p hp => ?_⟩
        have nw : Nw H3 F3 (upd H3 p (.lst (cutV xs l u))) (upd F3 p (.lst (cutV xs l u))) := .new hp fun _ z => nomatch z
        exact hq _ _ _ _ _ q (er3.nw nw) (fr.trans (nw.fr er3.wd.le)) (.inl (.lst upd_same ((h2.cut l u).mono (Le.upd (er3.wd.le.free hp)))))
      · exact q.elim
    · cases h
  | .rev a, w, tl, sc, x, X, EX, c, ht, h => by
    unfold mtE at h
    split at h
    · simp only [Bool.and_eq_true, decide_eq_true_eq] at h
      obtain ⟨rfl, h1⟩ := h
      refine PEm (pe_revX (sE a c ht h1)) fun σ H Q ⟨H0, F0, env, F, n, Qd, Xd, er, hw, hq, hx⟩ => ?_
      unfold wE at hw
      refine ⟨H0, F0, env, F, n, _, Xd, er, hw, fun d1 n1 v1 H1 F1 q er1 fr1 rm1 => ?_, hx⟩
      unfold wRev at q
      split at q
      · obtain ⟨p, xs, rfl, h1, h2⟩ := rm1.lst er1.wd.le
        refine ⟨p, xs, rfl, .inl ⟨SqL.of h1, fun p hp => ?_⟩⟩
        have nw : Nw H1 F1 (upd H1 p (.lst xs.reverse)) (upd F1 p (.lst xs.reverse)) := .new hp fun _ z => nomatch z
        exact hq _ _ _ _ _ q (er1.nw nw) (fr1.trans (nw.fr er1.wd.le)) (.inl (.lst upd_same (h2.reverse.mono (Le.upd (er1.wd.le.free hp)))))
      · obtain ⟨p, xs, rfl, h1, h2⟩ := rm1.tup
        refine ⟨p, xs, rfl, .inr ⟨c.hK ▸ er1.wd.le.sqT h1, fun p hp => ?_⟩⟩
        have nw : Nw H1 F1 (upd H1 p (.tup xs.reverse)) (upd F1 p (.tup xs.reverse)) := .new hp fun _ z => nomatch z
        exact hq _ _ _ _ _ q (er1.nw nw) (fr1.trans (nw.fr er1.wd.le)) (.inl (.tup (SqT.of upd_same) (h2.reverse.mono (Le.upd (er1.wd.le.free hp)))))
      · exact q.elim
    · cases h
  | .call f es, w, tl, sc, x, X, EX, c, ht, h => by
    unfold mtE at h
    split at h
    · rename_i n p x1 xs pos
      simp only [Bool.and_eq_true, decide_eq_true_eq, List.contains_iff_mem] at h
      obtain ⟨⟨⟨⟨⟨h1, h2⟩, h3⟩, h4⟩, h5⟩, st⟩ := h
      obtain ⟨a, fd, ps, e1, e2, e3, e4, e5⟩ := (c.gl.defs f h1).ex
      rw [List.all_cons, Bool.and_eq_true] at st
      rw [← c.hK] at e2 e3 e5
      refine PEm (pe_callG c.gd e5 c.room (glX c h4) (by rw [← h2]; exact e1) e2 e3 (L2N.passes_call (E := EX) c.tk fun _ _ _ _ z => z) (sEs es c ht h5) (glB_iff h4).2.1 (star1 st.1 _ _) (backStar (starAll xs st.2))) fun σ H Q ⟨H0, F0, env, F, n, Qd, Xd, er, hw, hq, hx⟩ => ?_
      unfold wE at hw
      refine ⟨H0, F0, env, F, n, _, Xd, er, hw, fun ds n1 vs H1 F1 q _ er1 fr1 rm1 => ⟨?_, F1, n1, ds, Qd, Xd, er1.wd, by rw [List.append_nil]; exact rm1.f, q, fun d n' v H' F' q' wd' fr' r => hq d n' v H' F' q' (er1.step fr' wd') (fr1.trans fr') (.inl r), fun k n' H' F' q' wd' fr' => hx k n' H' F' q' (er1.step fr' wd')⟩, hx⟩
      rw [List.append_nil, rm1.f.len]
      exact (c.gl.defs f h1).len _ _ _ _ q
    · cases h
  | .bi b es, w, tl, sc, x, X, EX, c, ht, h => by
    unfold mtE at h
    split at h
    · rename_i n p x1 xs pos
      simp only [Bool.and_eq_true, decide_eq_true_eq] at h
      obtain ⟨⟨⟨h2, h4⟩, h5⟩, st⟩ := h
      rw [List.all_cons, Bool.and_eq_true] at st
      have im : ∀ σ H Q, RE κ EX w (.bi b es) σ H Q → tCB (rBu κ b) (RA κ EX true es) σ H Q := fun σ H Q ⟨H0, F0, env, F, n, Qd, Xd, er, hw, hq, hx⟩ => by
        unfold wE at hw
        exact ⟨H0, F0, env, F, n, _, Xd, er, hw, fun ds n1 vs H1 F1 q _ er1 fr1 rm1 => ⟨F1, ds, er1.wd.le, rm1, wBi_mono (fun z qz v H' F' nw rp => hq _ _ _ _ _ qz (er1.nw nw) (fr1.trans (nw.fr er1.wd.le)) (.inl rp)) q⟩, hx⟩
      have g := glX c h4
      have bm : X.mg n = none := by rw [← h2]; exact blt_of c (biMem b)
      have bb : bootBuiltins n = some (biVal b) := by rw [← h2]; exact biBoot b
      have op := opBi c.hK c.calm b
      have s5 := sEs es c ht h5
      cases b <;> first
        | exact PEm (pe_callB op g bm bb s5 (glB_iff h4).2.2 (glB_iff h4).2.1 (star1 st.1 _ _) (backStar (starAll xs st.2))) im
        | exact PEm (pe_callTy op g bm bb s5 (glB_iff h4).2.2 (glB_iff h4).2.1 (star1 st.1 _ _) (backStar (starAll xs st.2))) im
    · cases h
  | .lc tg it cc e, w, tl, sc, x, X, EX, c, ht, h => by
    unfold mtE at h
    split at h
    · rename_i elt tg' it' ifs scope pos
      simp only [Bool.and_eq_true] at h
      obtain ⟨⟨⟨⟨⟨h1, h2⟩, h3⟩, h4⟩, h5⟩, h6⟩ := h
      have hk := (blkOk_by (own := ownOf N (tgs tg)) h1).kind
      have p := pe_lc (pos := pos) c.calm (by rw [c.hN]; exact c.nd) (sIt it (tg := tg') c ht h2) (blkOk_by (own := ownOf N (tgs tg)) (by rw [c.hN, c.sc]; exact h1))
        (fun s H C cl fp => pg_tg (X := X.blk s H scope (compEnvC scope cl C X.env) fp) (κ := κ) (N := N) (sc := relS scope sc) (fb := fbOf scope) c.hK c.hN c.nd (by rw [← c.sc]; rfl) c.calm (fun x hx => hx) h3)
        (fun s H C cl fp => sTs cc (c.blk hk s H C cl fp) h5) (fun s H C cl fp => sE e (tl := false) (c.blk hk s H C cl fp) (fun z => nomatch z) h6) (folded0 h4 _)
      rw [tgs_own] at p
      refine PEm p fun σ H Q ⟨H0, F0, env, F, n, Qd, Xd, er, hw, hq, hx⟩ => ?_
      exact lc_ok er hw (fun acc n' v H' F' q er' fr' ⟨xs, hl, ra⟩ hf h0 hs hno hv => hq _ n' (.ref v) H' _ q (er'.freeze hl hf h0 hs hno) (fr'.frz hv hf) (.inl (.lst upd_same (ra.mono (Le.upd hf))))) hx
    · cases h
  | .told ws e, w, tl, sc, x, X, EX, c, ht, h => by
    unfold mtE at h
    rw [Bool.and_eq_true] at h
    obtain ⟨h0, h⟩ := h
    split at h
    · simp only [Bool.and_eq_true, decide_eq_true_eq] at h
      obtain ⟨⟨⟨rfl, h2⟩, h3⟩, h4⟩ := h
      split at h3
      case h_2 => cases h3
      rename_i ys hys
      rw [Bool.and_eq_true] at h3
      exact PEm (ht h0 ws e _ ys _ _ _ _ _ hys h3.1 h3.2 h2 fun X' EX' c' => sE e (tl := false) c' (fun z => nomatch z) h4) fun σ H Q h => RE.up h
    · cases h
theorem sEs : ∀ (es : Es) {w tl : Bool} {sc : Scope} {xs : List Expr} {X : Cx} {EX : XK}, Cok κ N sc X EX → (tl = true → Told κ N sc X EX) → mtEs κ.s N w tl sc es xs = true → PA X xs (RA κ EX w es)
  | .nil, w, tl, sc, xs, X, EX, c, ht, h => by
    unfold mtEs at h
    split at h
    · refine PAm pa_nil fun σ H Q ⟨H0, F0, env, F, n, Qd, Xd, er, hw, hq, hx⟩ => ?_
      unfold wEs at hw
      exact hq [] n [] H F hw (Nat.le_refl _) er Fr.refl .nil
    · cases h
  | .cons e es, w, tl, sc, xs, X, EX, c, ht, h => by
    unfold mtEs at h
    split at h
    · simp only [Bool.and_eq_true] at h
      obtain ⟨⟨h1, h2⟩, h3⟩ := h
      refine PAm (pa_cons (sE e c ht h2) (sEs es c ht h3) (star1 h1 _ _)) fun σ H Q ⟨H0, F0, env, F, n, Qd, Xd, er, hw, hq, hx⟩ => ?_
      unfold wEs at hw
      exact ⟨H0, F0, env, F, n, _, Xd, er, hw, fun d1 n1 v1 H1 F1 q1 er1 fr1 rm1 => ⟨H0, F0, env, F1, n1, _, Xd, er1, q1, fun ds n2 vs H2 F2 q2 l2 er2 fr2 rm2 => hq (d1 :: ds) n2 (v1 :: vs) H2 F2 q2 (Nat.succ_le_succ l2) er2 (fr1.trans fr2) (.cons (rm1.to fr2) rm2), hx⟩, hx⟩
    · cases h
  | .star e es, w, tl, sc, xs, X, EX, c, ht, h => by
    unfold mtEs at h
    split at h
    · simp only [Bool.and_eq_true] at h
      obtain ⟨h2, h3⟩ := h
      refine PAm (StX.pa_star (sE e c ht h2) (sEs es c ht h3)) fun σ H Q ⟨H0, F0, env, F, n, Qd, Xd, er, hw, hq, hx⟩ => ?_
      unfold wEs at hw
      refine ⟨H0, F0, env, F, n, _, Xd, er, hw, fun d1 n1 v1 H1 F1 q1 er1 fr1 rm1 => ?_, hx⟩
      unfold wSt at q1
      split at q1
      · rename_i l
        obtain ⟨p, xs, rfl, h1, hr⟩ := rm1.lst er1.wd.le
        exact ⟨p, xs, rfl, .inr (SqL.of h1), H0, F0, env, F1, n1, _, Xd, er1, q1.2, fun ds n2 vs H2 F2 q2 l2 er2 fr2 rm2 => hq (l ++ ds) n2 (xs ++ vs) H2 F2 q2 (by rw [List.length_append]; show _ ≤ esLen es + 10000; have := q1.1; omega) er2 (fr1.trans fr2) (RmA.app (hr.mono fr2.f) rm2), hx⟩
      · rename_i l
        obtain ⟨p, xs, rfl, h1, hr⟩ := rm1.tup
        exact ⟨p, xs, rfl, .inl (c.hK ▸ er1.wd.le.sqT h1), H0, F0, env, F1, n1, _, Xd, er1, q1.2, fun ds n2 vs H2 F2 q2 l2 er2 fr2 rm2 => hq (l ++ ds) n2 (xs ++ vs) H2 F2 q2 (by rw [List.length_append]; show _ ≤ esLen es + 10000; have := q1.1; omega) er2 (fr1.trans fr2) (RmA.app (hr.mono fr2.f) rm2), hx⟩
      · exact q1.elim
    · cases h
theorem sEi : ∀ (e : Ei) {tl : Bool} {sc : Scope} {x : Option Expr} {X : Cx} {EX : XK}, Cok κ N sc X EX → (tl = true → Told κ N sc X EX) → mtEi κ.s N tl sc e x = true → PO X x (RO κ EX e)
  | .no, tl, sc, x, X, EX, c, ht, h => by
    unfold mtEi at h
    split at h
    · refine POm po_none fun σ H Q ⟨H0, F0, env, F, n, Qd, Xd, er, hw, hq, hx⟩ => ?_
      unfold wEi at hw
      exact hq none n H F hw er Fr.refl
    · cases h
  | .ex e, tl, sc, x, X, EX, c, ht, h => by
    unfold mtEi at h
    split at h
    · refine POm (po_some (sE e c ht h)) fun σ H Q ⟨H0, F0, env, F, n, Qd, Xd, er, hw, hq, hx⟩ => ?_
      unfold wEi at hw
      refine ⟨H0, F0, env, F, n, _, Xd, er, hw, fun d n1 v H1 F1 ⟨i, e, q⟩ er1 fr1 rm1 => ?_, hx⟩
      subst e
      exact ⟨i, rm1.int, hq _ n1 H1 F1 q er1 fr1⟩
    · cases h
theorem sIt : ∀ (e : It) {tl : Bool} {sc : Scope} {tg x : Expr} {X : Cx} {EX : XK}, Cok κ N sc X EX → (tl = true → Told κ N sc X EX) → mtIt κ.s N tl sc tg e x = true → PI X tg x (RI κ EX e)
  | .lst e, tl, sc, tg, x, X, EX, c, ht, h => by
    unfold mtIt at h
    exact pi_lst c.hK (sE e c ht h)
  | .tup e, tl, sc, tg, x, X, EX, c, ht, h => by
    unfold mtIt at h
    exact pi_tpl c.hK (sE e c ht h)
  | .rng1 a, tl, sc, tg, x, X, EX, c, ht, h => by
    unfold mtIt at h
    split at h
    · simp only [Bool.and_eq_true, decide_eq_true_eq] at h
      obtain ⟨⟨⟨rfl, h2⟩, h3⟩, h4⟩ := h
      refine PIm (pi_range1 (glX c h2) (blt_of c (by decide +kernel)) (pa_cons (sE a c ht h4) pa_nil (star1 h3 _ _)) (star1 h3 _ _)) fun σ H R ⟨H0, F0, env, F, n, Qd, Xd, er, hw, hq, hx⟩ => ?_
      unfold wIt at hw
      refine ⟨H0, F0, env, F, n, _, Xd, er, hw, fun d n1 v H1 F1 ⟨j, e, hr, q⟩ er1 fr1 rm1 => ?_, hx⟩
      subst e
      have := rm1.int; subst this
      have ok := (okRng_iff hr).1
      refine ⟨j, rfl, ok.2.2.1, ok.2.2.2, ?_⟩
      have y := yl_range (κ := κ) (F := F1) hr
      rw [Int.sub_zero] at y
      exact hq _ n1 _ H1 F1 q er1 fr1 y
    · cases h
  | .rng2 a b, tl, sc, tg, x, X, EX, c, ht, h => by
    unfold mtIt at h
    split at h
    · simp only [Bool.and_eq_true, decide_eq_true_eq] at h
      obtain ⟨⟨⟨⟨⟨rfl, h2⟩, h3⟩, h3'⟩, h4⟩, h5⟩ := h
      have pa := pa_cons (sE a c ht h4) (pa_cons (sE b c ht h5) pa_nil (star1 h3' _ _)) (star1 h3 _ _)
      refine PIm (pi_range2 (glX c h2) (blt_of c (by decide +kernel)) pa (by rw [star1 h3, star1 h3']; rfl) (star1 h3' _ _)) fun σ H R ⟨H0, F0, env, F, n, Qd, Xd, er, hw, hq, hx⟩ => ?_
      unfold wIt at hw
      refine ⟨H0, F0, env, F, n, _, Xd, er, hw, fun d n1 v H1 F1 q1 er1 fr1 rm1 => ⟨H0, F0, env, F1, n1, _, Xd, er1, q1, fun d2 n2 v2 H2 F2 ⟨i, j, e1, e2, hr, q⟩ er2 fr2 rm2 => ?_, hx⟩, hx⟩
      subst e1 e2
      have := rm1.int; subst this
      have := rm2.int; subst this
      have ok := (okRng_iff hr).1
      exact ⟨i, j, rfl, ok, hq _ n2 _ H2 F2 q er2 (fr1.trans fr2) (yl_range hr)⟩
    · cases h
  | .rng3 a b cc, tl, sc, tg, x, X, EX, c, ht, h => by
    unfold mtIt at h
    split at h
    · simp only [Bool.and_eq_true, decide_eq_true_eq] at h
      obtain ⟨⟨⟨⟨⟨⟨⟨rfl, h2⟩, h3⟩, h3'⟩, h3''⟩, h4⟩, h5⟩, h6⟩ := h
      have pa := pa_cons (sE a c ht h4) (pa_cons (sE b c ht h5) (pa_cons (sE cc c ht h6) pa_nil (star1 h3'' _ _)) (star1 h3' _ _)) (star1 h3 _ _)
      refine PIm (pi_range3 (glX c h2) (blt_of c (by decide +kernel)) pa (by rw [star1 h3]) (by rw [star1 h3', star1 h3'']; rfl)) fun σ H R ⟨H0, F0, env, F, n, Qd, Xd, er, hw, hq, hx⟩ => ?_
      unfold wIt at hw
      refine ⟨H0, F0, env, F, n, _, Xd, er, hw, fun d n1 v H1 F1 q1 er1 fr1 rm1 => ⟨H0, F0, env, F1, n1, _, Xd, er1, q1, fun d2 n2 v2 H2 F2 q2 er2 fr2 rm2 => ⟨H0, F0, env, F2, n2, _, Xd, er2, q2, fun d3 n3 v3 H3 F3 ⟨i, j, k, m, e1, e2, e3, hr, hm, q⟩ er3 fr3 rm3 => ?_, hx⟩, hx⟩, hx⟩
      subst e1 e2 e3
      have := rm1.int; subst this
      have := rm2.int; subst this
      have := rm3.int; subst this
      exact ⟨i, j, k, m, rfl, hr, hq _ n3 _ H3 F3 q er3 (fr1.trans (fr2.trans fr3)) (yl_rangeC hm)⟩
    · cases h
  | .zip a b, tl, sc, tg, x, X, EX, c, ht, h => by
    unfold mtIt at h
    split at h
    · simp only [Bool.and_eq_true, decide_eq_true_eq] at h
      obtain ⟨⟨⟨⟨⟨⟨rfl, h2⟩, ht1⟩, h3⟩, h3'⟩, h4⟩, h5⟩ := h
      cases tg <;> (try (simp [isTupE] at ht1; done))
      have pa := pa_cons (sE a (w := false) c ht h4) (pa_cons (sE b (w := false) c ht h5) pa_nil (star1 h3' _ _)) (star1 h3 _ _)
      refine PIm (RZ.pi_zipA (glX c h2) (blt_of c (by decide +kernel)) pa (by rw [star1 h3]) (by rw [star1 h3']; rfl)) fun σ H R ⟨H0, F0, env, F, n, Qd, Xd, er, hw, hq, hx⟩ => ?_
      unfold wIt at hw
      refine ⟨H0, F0, env, F, n, _, Xd, er, hw, fun d n1 v H1 F1 q1 er1 fr1 rm1 => ⟨H0, F0, env, F1, n1, _, Xd, er1, q1, fun d2 n2 v2 H2 F2 q er2 fr2 rm2 => ?_, hx⟩, hx⟩
      have rm1 := (rm1.to fr2).f
      have rm2 := rm2.f
      unfold wZip at q
      split at q
      · cases rm1 with
        | lst g1 r1 => cases rm2 with
          | lst g2 r2 => exact ⟨_, _, _, _, rfl, .inl ⟨SqL.of (er2.wd.le _ _ g1), SqL.of (er2.wd.le _ _ g2), c.hK ▸ hq _ n2 _ H2 F2 q.2 er2 (fr1.trans fr2) (yl_zip g1 g2 r1 r2 q.1)⟩⟩
      · cases rm1 with
        | tup g1 r1 => cases rm2 with
          | tup g2 r2 => exact ⟨_, _, _, _, rfl, .inr ⟨c.hK ▸ er2.wd.le.sqT g1, c.hK ▸ er2.wd.le.sqT g2, c.hK ▸ hq _ n2 _ H2 F2 q.2 er2 (fr1.trans fr2) (yl_zipT g1 g2 r1 r2 q.1)⟩⟩
      · exact q.elim
    · cases h
  | .enu a, tl, sc, tg, x, X, EX, c, ht, h => by
    unfold mtIt at h
    split at h
    · simp only [Bool.and_eq_true, decide_eq_true_eq] at h
      obtain ⟨⟨⟨⟨rfl, h2⟩, ht1⟩, h3⟩, h4⟩ := h
      cases tg <;> (try (simp [isTupE] at ht1; done))
      refine PIm (pi_enum (glX c h2) (blt_of c (by decide +kernel)) (pa_cons (sE a (w := false) c ht h4) pa_nil (star1 h3 _ _)) (star1 h3 _ _)) fun σ H R ⟨H0, F0, env, F, n, Qd, Xd, er, hw, hq, hx⟩ => ?_
      unfold wIt at hw
      refine ⟨H0, F0, env, F, n, _, Xd, er, hw, fun d n1 v H1 F1 q er1 fr1 rm1 => ?_, hx⟩
      have rm1 := rm1.f
      unfold wEnu at q
      split at q
      · cases rm1 with
        | lst g1 r1 => exact ⟨_, _, rfl, SqL.of (er1.wd.le _ _ g1), c.hK ▸ hq _ n1 _ H1 F1 q.2 er1 fr1 (yl_enu g1 r1 q.1)⟩
      · exact q.elim
    · cases h
  | .rvi a, tl, sc, tg, x, X, EX, c, ht, h => by
    unfold mtIt at h
    split at h
    · simp only [Bool.and_eq_true, decide_eq_true_eq] at h
      obtain ⟨⟨⟨rfl, h2⟩, h3⟩, h4⟩ := h
      refine PIm (_root_.RT.pi_revA (glX c h2) (blt_of c (by decide +kernel)) (sE a (w := false) c ht h4) (star1 h3 _ _)) fun σ H R ⟨H0, F0, env, F, n, Qd, Xd, er, hw, hq, hx⟩ => ?_
      unfold wIt at hw
      refine ⟨H0, F0, env, F, n, _, Xd, er, hw, fun d n1 v H1 F1 q er1 fr1 rm1 => ?_, hx⟩
      have rm1 := rm1.f
      unfold wRvi at q
      split at q
      · cases rm1 with
        | lst g1 r1 => exact ⟨_, _, rfl, .inl ⟨SqL.of (er1.wd.le _ _ g1), c.hK ▸ hq _ n1 _ H1 F1 q.2 er1 fr1 (yl_rv g1 r1 q.1)⟩⟩
      · cases rm1 with
        | tup g1 r1 => exact ⟨_, _, rfl, .inr ⟨c.hK ▸ er1.wd.le.sqT g1, c.hK ▸ hq _ n1 _ H1 F1 q.2 er1 fr1 (yl_rvT g1 r1 q.1)⟩⟩
      · exact q.elim
    · cases h
theorem sCh : ∀ (e : Ch) {tl : Bool} {sc : Scope} {os : List CmpOp} {xs : List Expr} {X : Cx} {EX : XK}, Cok κ N sc X EX → (tl = true → Told κ N sc X EX) → mtCh κ.s N tl sc e os xs = true → PCh X os xs (RC κ EX e) ∧ lastMarks os xs = false
  | .last o e, tl, sc, os, xs, X, EX, c, ht, h => by
    unfold mtCh at h
    split at h
    · simp only [Bool.and_eq_true, decide_eq_true_eq] at h
      obtain ⟨⟨rfl, h1⟩, h2⟩ := h
      refine ⟨PChm (pch_last (opC c.hK (room_units c.room) o) (sE e c ht h2)) fun y σ H Q ⟨H0, F0, env, F, n, Qd, Xd, dy, er, ry, hw, hq, hx⟩ => ?_, ?_⟩
      · unfold wCh at hw
        exact ⟨H0, F0, env, F, n, _, Xd, er, hw, fun d2 n2 v2 H2 F2 q2 er2 fr2 rm2 => ⟨F2, dy, d2, er2.wd.le, ry.to fr2, rm2, wCmp_mono (fun z qz => ⟨z, rfl, hq _ _ _ _ qz er2 fr2⟩) q2⟩, hx⟩
      · show behindInMarks _ _ = false
        exact marks0 h1 _
    · cases h
  | .link o e cc, tl, sc, os, xs, X, EX, c, ht, h => by
    unfold mtCh at h
    split at h
    · simp only [Bool.and_eq_true, decide_eq_true_eq] at h
      obtain ⟨⟨rfl, h2⟩, h3⟩ := h
      obtain ⟨p, lm⟩ := sCh cc c ht h3
      refine ⟨PChm (pch_link (opC c.hK (room_units c.room) o) (sE e c ht h2) p) fun y σ H Q ⟨H0, F0, env, F, n, Qd, Xd, dy, er, ry, hw, hq, hx⟩ => ?_, lm⟩
      unfold wCh at hw
      refine ⟨H0, F0, env, F, n, _, Xd, er, hw, fun d2 n2 v2 H2 F2 q2 er2 fr2 rm2 => ⟨F2, dy, d2, er2.wd.le, ry.to fr2, rm2, wCmp_mono (fun z qz => ⟨z, rfl, ?_⟩) q2⟩, hx⟩
      cases z with
      | true => exact ⟨H0, F0, env, F2, n2, _, Xd, d2, er2, rm2, qz.1 rfl, fun b n' H' F' q er' fr' => hq b n' H' F' q er' (fr2.trans fr'), hx⟩
      | false => exact hq _ _ _ _ (qz.2 rfl) er2 fr2
    · cases h
theorem sT : ∀ (e : T) {tl : Bool} {sc : Scope} {x : Expr} {X : Cx} {EX : XK}, Cok κ N sc X EX → (tl = true → Told κ N sc X EX) → mtT κ.s N tl sc e x = true → (∀ op vs pos, x = .BoolOp op vs pos → PW X x (RT κ EX e)) ∧ PT X x (RT κ EX e)
  | .val e, tl, sc, x, X, EX, c, ht, h => by
    unfold mtT at h
    rw [Bool.and_eq_true] at h
    obtain ⟨h1, h2⟩ := h
    have p := sE e c ht h2
    refine ⟨fun op vs pos e => by subst e; simp at h1, PTm (pt_truth p ?_) fun σ H Q ⟨H0, F0, env, F, n, Qd, Xd, er, hw, hq, hx⟩ => ?_⟩
    · intro wh
      cases x <;> first
        | rfl
        | (simp at h1; done)
        | (rename_i o _ _; cases o <;> first | rfl | (simp at h1; done))
    · unfold wT at hw
      refine ⟨H0, F0, env, F, n, _, Xd, er, hw, fun d n1 v H1 F1 q er1 fr1 rm1 => ?_, hx⟩
      unfold wTru at q
      split at q
      · exact ⟨_, by rw [rm1.non]; rfl, hq _ n1 H1 F1 q er1 fr1⟩
      · exact ⟨_, by rw [rm1.bl]; rfl, hq _ n1 H1 F1 q er1 fr1⟩
      · exact ⟨_, by rw [rm1.int]; rfl, hq _ n1 H1 F1 q er1 fr1⟩
      · obtain ⟨p, xs, rfl, h1, h2⟩ := rm1.lst er1.wd.le
        exact ⟨_, .inl ⟨xs, SqL.of h1, by rw [h2.isE]⟩, hq _ n1 H1 F1 q er1 fr1⟩
      · obtain ⟨p, xs, rfl, h1, h2⟩ := rm1.tup
        exact ⟨_, .inr (.inl ⟨xs, c.hK ▸ er1.wd.le.sqT h1, by rw [h2.isE]⟩), hq _ n1 H1 F1 q er1 fr1⟩
      · exact q.elim
  | .cmp o a b, tl, sc, x, X, EX, c, ht, h => by
    unfold mtT at h
    split at h
    · simp only [Bool.and_eq_true, decide_eq_true_eq] at h
      obtain ⟨⟨⟨rfl, h1⟩, h2⟩, h3⟩ := h
      refine ⟨(by intro _ _ _ e; cases e), PTm (pt_cmpR (opC c.hK (room_units c.room) o) (sE a c ht h2) (sE b c ht h3) (marks0 h1 _)) fun σ H Q ⟨H0, F0, env, F, n, Qd, Xd, er, hw, hq, hx⟩ => ?_⟩
      unfold wT at hw
      exact two_ok er hw hx fun x y n' vx vy H' F' q er' fr' rx ry => ⟨F', x, y, er'.wd.le, rx, ry, wCmp_mono (fun z qz => ⟨z, rfl, hq _ _ _ _ qz er' fr'⟩) q⟩
    · cases h
  | .ch2 o1 o2 a b cc, tl, sc, x, X, EX, c, ht, h => by
    unfold mtT at h
    split at h
    · simp only [Bool.and_eq_true, decide_eq_true_eq] at h
      obtain ⟨⟨⟨⟨⟨rfl, rfl⟩, h1⟩, h2⟩, h3⟩, h4⟩ := h
      refine ⟨(by intro _ _ _ e; cases e), PTm (pt_chain (opC c.hK (room_units c.room) o1) (opC c.hK (room_units c.room) o2) (sE a c ht h2) (sE b c ht h3) (sE cc c ht h4) (marks0 h1 _)) fun σ H Q ⟨H0, F0, env, F, n, Qd, Xd, er, hw, hq, hx⟩ => ?_⟩
      unfold wT at hw
      refine ⟨H0, F0, env, F, n, _, Xd, er, hw, fun d1 n1 v1 H1 F1 q1 er1 fr1 rm1 => ⟨H0, F0, env, F1, n1, _, Xd, er1, q1, fun d2 n2 v2 H2 F2 q2 er2 fr2 rm2 => ⟨F2, d1, d2, er2.wd.le, rm1.to fr2, rm2, wCmp_mono (fun z qz => ⟨z, rfl, ?_⟩) q2⟩, hx⟩, hx⟩
      cases z with
      | true =>
        exact ⟨H0, F0, env, F2, n2, _, Xd, er2, qz.1 rfl, fun d3 n3 v3 H3 F3 q3 er3 fr3 rm3 => ⟨F3, d2, d3, er3.wd.le, rm2.to fr3, rm3, wCmp_mono (fun z qz => ⟨z, rfl, hq _ _ _ _ qz er3 (fr1.trans (fr2.trans fr3))⟩) q3⟩, hx⟩
      | false => exact ⟨false, rfl, hq _ _ _ _ (qz.2 rfl) er2 (fr1.trans fr2)⟩
    · cases h
  | .chn a cc, tl, sc, x, X, EX, c, ht, h => by
    unfold mtT at h
    split at h
    · simp only [Bool.and_eq_true] at h
      obtain ⟨p, lm⟩ := sCh cc c ht h.2
      refine ⟨(by intro _ _ _ e; cases e), PTm (pt_chn (sE a c ht h.1) p lm) fun σ H Q ⟨H0, F0, env, F, n, Qd, Xd, er, hw, hq, hx⟩ => ?_⟩
      unfold wT at hw
      exact ⟨H0, F0, env, F, n, _, Xd, er, hw, fun d1 n1 v1 H1 F1 q1 er1 fr1 rm1 => ⟨H0, F0, env, F1, n1, _, Xd, d1, er1, rm1, q1, fun b n' H' F' q er' fr' => hq b n' H' F' q er' (fr1.trans fr'), hx⟩, hx⟩
    · cases h
  | .and a b, tl, sc, x, X, EX, c, ht, h => by
    unfold mtT at h
    have im : ∀ σ H Q, RT κ EX (.and a b) σ H Q → tAnd (RT κ EX a) (RT κ EX b) σ H Q := fun σ H Q ⟨H0, F0, env, F, n, Qd, Xd, er, hw, hq, hx⟩ => by
      unfold wT at hw
      refine ⟨H0, F0, env, F, n, _, Xd, er, hw, fun z n1 H1 F1 q er1 fr1 => ?_, hx⟩
      cases z with
      | true => rw [if_pos rfl]; exact ⟨H0, F0, env, F1, n1, _, Xd, er1, q.1 rfl, fun z n2 H2 F2 q er2 fr2 => hq _ _ _ _ q er2 (fr1.trans fr2), hx⟩
      | false => exact hq _ _ _ _ (q.2 rfl) er1 fr1
    split at h
    · rename_i a' b' r pos
      rw [Bool.and_eq_true] at h
      have pw : PW X (.BoolOp .And (a' :: b' :: r) pos) (RT κ EX (.and a b)) := by
        cases r with
        | nil => exact PWm (pw_and (sT a c ht h.1).2 (pw_and1 (sT b c ht h.2).2)) im
        | cons y r => exact PWm (pw_and (sT a c ht h.1).2 ((sT b c ht h.2).1 _ _ _ rfl)) im
      exact ⟨fun _ _ _ _ => pw, pw.pt⟩
    · cases h
  | .or a b, tl, sc, x, X, EX, c, ht, h => by
    unfold mtT at h
    have im : ∀ σ H Q, RT κ EX (.or a b) σ H Q → tOr (RT κ EX a) (RT κ EX b) σ H Q := fun σ H Q ⟨H0, F0, env, F, n, Qd, Xd, er, hw, hq, hx⟩ => by
      unfold wT at hw
      refine ⟨H0, F0, env, F, n, _, Xd, er, hw, fun z n1 H1 F1 q er1 fr1 => ?_, hx⟩
      cases z with
      | false => rw [if_neg Bool.false_ne_true]; exact ⟨H0, F0, env, F1, n1, _, Xd, er1, q.2 rfl, fun z n2 H2 F2 q er2 fr2 => hq _ _ _ _ q er2 (fr1.trans fr2), hx⟩
      | true => exact hq _ _ _ _ (q.1 rfl) er1 fr1
    split at h
    · rename_i a' b' r pos
      rw [Bool.and_eq_true] at h
      have pw : PW X (.BoolOp .Or (a' :: b' :: r) pos) (RT κ EX (.or a b)) := by
        cases r with
        | nil => exact PWm (pw_or (sT a c ht h.1).2 (pw_or1 (sT b c ht h.2).2)) im
        | cons y r => exact PWm (pw_or (sT a c ht h.1).2 ((sT b c ht h.2).1 _ _ _ rfl)) im
      exact ⟨fun _ _ _ _ => pw, pw.pt⟩
    · cases h
  | .not a, tl, sc, x, X, EX, c, ht, h => by
    unfold mtT at h
    split at h
    · refine ⟨(by intro _ _ _ e; cases e), PTm (pt_not (sT a c ht h).2) fun σ H Q ⟨H0, F0, env, F, n, Qd, Xd, er, hw, hq, hx⟩ => ?_⟩
      unfold wT at hw
      exact ⟨H0, F0, env, F, n, _, Xd, er, hw, fun z n1 H1 F1 q er1 fr1 => hq _ _ _ _ q er1 fr1, hx⟩
    · cases h
theorem sTs : ∀ (e : Ts) {sc : Scope} {xs : List Expr} {X : Cx} {EX : XK}, Cok κ N sc X EX → mtTs κ.s N sc e xs = true → PTs X xs (RTs κ EX e)
  | .no, sc, xs, X, EX, c, h => by
    unfold mtTs at h
    split at h
    · refine PTsm pts_nil fun σ H Q ⟨H0, F0, env, F, n, Qd, Xd, er, hw, hq, hx⟩ => ?_
      unfold wTs at hw
      exact hq true n H F hw er Fr.refl
    · cases h
  | .ex t, sc, xs, X, EX, c, h => by
    unfold mtTs at h
    split at h
    · refine PTsm (pts_one (sT t (tl := false) c (fun z => nomatch z) h).2) fun σ H Q ⟨H0, F0, env, F, n, Qd, Xd, er, hw, hq, hx⟩ => ?_
      unfold wTs at hw
      exact ⟨H0, F0, env, F, n, _, Xd, er, hw, hq, hx⟩
    · cases h
end
end
end DD



set_option Elab.async false
set_option linter.all false
set_option maxRecDepth 100000
set_option maxHeartbeats 4000000
namespace DD
open PySem PySem.Spec PyProof.Rows L2

/-! statements -/
mutual
inductive S where
  | asg (i : Nat) (e : E)
  | asgO (i : Nat) (e : E)
  | asgT (is : List Nat) (e : E)
  | par (i j : Nat) (a b : E)
  | par3 (i j k : Nat) (a b c : E)
  | parO (i j : Nat) (a b : E)
  | parQ (i j : Nat) (a b : E)
  | par3O (i j k : Nat) (a b c : E)
  | setO (i : Nat) (ix e : E)
  | app (i : Nat) (e : E)
  | ext (i : Nat) (e : E)
  | ret (e : E)
  | retO (i : Nat)
  | retN
  | ite (c : T) (a b : Ss)
  | for_ (tg : Tg) (it : It) (body : Ss) (dead : List Nat)
  | while_ (c : T) (body : Ss) (dead : List Nat)
  | expr (e : E)
  | raise (k : Nat)
  | pass
  | brk
  | cont
inductive Ss where
  | nil
  | cons (s : S) (ss : Ss)
  | fz (i : Nat) (ss : Ss)
end
structure Kn where
  nx : Env → Nat → Prop
  rt : K1
  bk : Env → Nat → Prop
  ct : Env → Nat → Prop
  xd : XK1
def wFor (body : Env → Nat → Kn → Prop) (tg : Tg) (dead : List Nat) : List D → Env → Nat → Kn → Prop
  | [], env, n, K => K.nx (clrS env dead) n
  | d :: ds, env, n, K => wBnd tg d (clrS env dead) fun env' => body env' n { K with nx := fun e n => wFor body tg dead ds e n K, ct := fun e n => wFor body tg dead ds e n K, bk := fun e n => K.nx (clrS e dead) n }
section
variable (Γ : Gam) (G : Nat → D)
mutual
def wS : S → Env → Nat → Kn → Prop
  | .asg i e, env, n, K => wE Γ G e env n (fun d n => K.nx (setS env i (.v d)) n) K.xd
  | .asgO i e, env, n, K => wE Γ G e env n (fun d n => ∃ l, d = .list l ∧ K.nx (setS env i (.own l)) n) K.xd
  | .asgT is e, env, n, K => wE Γ G e env n (fun d n => wBnd (.tp is) d env fun env' => K.nx env' n) K.xd
  | .par i j a b, env, n, K => wE Γ G a env n (fun x n => wE Γ G b env n (fun y n => K.nx (setS (setS env i (.v x)) j (.v y)) n) K.xd) K.xd
  | .par3 i j k a b c, env, n, K => wE Γ G a env n (fun x n => wE Γ G b env n (fun y n => wE Γ G c env n (fun z n => K.nx (setS (setS (setS env i (.v x)) j (.v y)) k (.v z)) n) K.xd) K.xd) K.xd
  | .parO i j a b, env, n, K => wE Γ G a env n (fun x n => ∃ l, x = .list l ∧ wE Γ G b env n (fun y n => K.nx (setS (setS env i (.own l)) j (.v y)) n) K.xd) K.xd
  | .parQ i j a b, env, n, K => wE Γ G a env n (fun x n => wE Γ G b env n (fun y n => ∃ l, y = .list l ∧ K.nx (setS (setS env j (.own l)) i (.v x)) n) K.xd) K.xd
  | .par3O i j k a b c, env, n, K => wE Γ G a env n (fun x n => ∃ l, x = .list l ∧ wE Γ G b env n (fun y n => wE Γ G c env n (fun z n => K.nx (setS (setS (setS env i (.own l)) j (.v y)) k (.v z)) n) K.xd) K.xd) K.xd
  | .setO i ix e, env, n, K => ∃ l, getS env i = .own l ∧ wE Γ G e env n (fun d n => wE Γ G ix env n (fun k n => ∃ j m, k = .int j ∧ ixN l.length j = some m ∧ K.nx (setS env i (.own (l.set m d))) n) K.xd) K.xd
  | .app i e, env, n, K => ∃ l, getS env i = .own l ∧ wE Γ G e env n (fun d n => l.length < 16777216 ∧ K.nx (setS env i (.own (l ++ [d]))) n) K.xd
  | .ext i e, env, n, K => ∃ l, getS env i = .own l ∧ wE Γ G e env n (fun d n => ∃ m, d = .list m ∧ okLen (l.length + m.length) ∧ K.nx (setS env i (.own (l ++ m))) n) K.xd
  | .ret e, env, n, K => wE Γ G e env n (fun d n => K.rt d n) K.xd
  | .retO i, env, n, K => ∃ l, getS env i = .own l ∧ K.rt (.list l) n
  | .retN, _, n, K => K.rt .none n
  | .ite c a b, env, n, K => wT Γ G c env n (fun z n => (z = true → wSs a env n K) ∧ (z = false → wSs b env n K)) K.xd
  | .for_ tg it body dead, env, n, K => wIt Γ G it env n (fun ds n => wFor (fun env n K => wSs body env n K) tg dead ds env n K) K.xd
  | .while_ c body dead, env, n, K => ∃ W : Nat → Env → Nat → Prop, (∃ m, W m (clrS env dead) n) ∧ ∀ m env n, W m env n → wT Γ G c env n (fun z n => (z = true → wSs body env n { K with nx := fun e n => ∃ m', m' < m ∧ W m' (clrS e dead) n, ct := fun e n => ∃ m', m' < m ∧ W m' (clrS e dead) n, bk := fun e n => K.nx (clrS e dead) n }) ∧ (z = false → K.nx env n)) K.xd
  | .expr e, env, n, K => wE Γ G e env n (fun _ n => K.nx env n) K.xd
  | .raise k, _, n, K => K.xd k n
  | .pass, env, n, K => K.nx env n
  | .brk, env, n, K => K.bk env n
  | .cont, env, n, K => K.ct env n
def wSs : Ss → Env → Nat → Kn → Prop
  | .nil, env, n, K => K.nx env n
  | .cons s ss, env, n, K => wS s env n { K with nx := fun env n => wSs ss env n K }
  | .fz i ss, env, n, K => ∃ l, getS env i = .own l ∧ wSs ss (setS env i (.v (.list l))) n K
end
end

/-! the match -/
def frB : E → Bool
  | .lst _ => true
  | .lc _ _ _ _ => true
  | .bi .list _ => true
  | .bin .add _ _ => true
  | .bin .mul _ _ => true
  | _ => false
/-- the stores are swapped (plain names, not all constants) -/
def swpP (sc : Scope) (ts vs : List Expr) : Option (Option (List Str)) :=
  if !(ts.length == 2 || ts.length == 3) || vs.length != ts.length then some none
  else if vs.any (fun | .Starred .. => true | _ => false) then some none
  else
    let line := (ts.head?.map (·.pos.line)).getD 0
    let names := ts.filterMap fun
      | .Name id pos => if sc.names.lookup id == some .local && pos.line == line then some id else none
      | _ => none
    if names.length != ts.length || names.eraseDups.length != names.length then some none
    else if vs.all (foldedForSure 8) then some none
    else if vs.all (constantsAlone 8) then none
    else some (some names)
def isTup : Expr → Bool
  | .Tuple _ _ _ => true
  | _ => false
def noSwB (sc : Scope) (ts : List Expr) (v : Expr) : Bool := match v with
  | .Tuple vs _ _ => decide (swpP sc ts vs = some none)
  | _ => true
def lcSw (sc : Scope) (y : Str) (py : Pos) (scope : Scope) (p : Pos) : Bool :=
  (match sc.names.lookup y with | some .local => true | _ => false) && py.line == p.line && !(scope.names.any fun (n, k) => n == y && (k == .local || k == .cell))
/-- a comprehension given to a name: swapped, or plainly not so -/
def asgB (sc : Scope) (y : Str) (py : Pos) : Expr → Bool
  | .SetComp _ _ _ _ => false
  | .DictComp _ _ _ _ _ => false
  | _ => true
section
variable (κ : Sta) (N : List Str)
mutual
def mtS (tl : Bool) (sc : Scope) : S → Stmt → Bool
  | .asg i e, x => match x with
    | .Assign [.Name y py] v pos => decide (N[i]? = some y) && locB sc y && asgB sc y py v && mtE κ N false tl sc e v
    | _ => false
  | .asgO i e, x => match x with
    | .Assign [.Name y py] v pos => decide (N[i]? = some y) && locB sc y && asgB sc y py v && frB e && mtE κ N false tl sc e v
    | _ => false
  | .asgT is e, x => match x with
    | .Assign [.Tuple ts _ _] v _ => mtTg N (fun _ => true) sc is ts && noSwB sc ts v && mtE κ N false tl sc e v && (match v with | .ListComp _ _ _ _ => false | .SetComp _ _ _ _ => false | .DictComp _ _ _ _ _ => false | _ => true)
    | _ => false
  | .par i j a b, x => match x with
    | .Assign [.Tuple [.Name x1 p1, .Name x2 p2] _ _] (.Tuple [a', b'] _ _) _ => decide (N[i]? = some x1) && decide (N[j]? = some x2) && decide (i ≠ j) && decide (swpP sc [.Name x1 p1, .Name x2 p2] [a', b'] = some (some [x1, x2])) && decide (sc.names.lookup x1 = some .local) && decide (sc.names.lookup x2 = some .local)
        && notStar a' && notStar b' && mtE κ N false tl sc a a' && mtE κ N false tl sc b b'
    | _ => false
  | .par3 i j k a b c, x => match x with
    | .Assign [.Tuple [.Name x1 p1, .Name x2 p2, .Name x3 p3] _ _] (.Tuple [a', b', c'] _ _) _ => decide (N[i]? = some x1) && decide (N[j]? = some x2) && decide (N[k]? = some x3) && decide (i ≠ j) && decide (i ≠ k) && decide (j ≠ k) && decide (swpP sc [.Name x1 p1, .Name x2 p2, .Name x3 p3] [a', b', c'] = some (some [x1, x2, x3])) && decide (sc.names.lookup x1 = some .local) && decide (sc.names.lookup x2 = some .local) && decide (sc.names.lookup x3 = some .local)
        && notStar a' && notStar b' && notStar c' && mtE κ N false tl sc a a' && mtE κ N false tl sc b b' && mtE κ N false tl sc c c'
    | _ => false
  | .parO i j a b, x => match x with
    | .Assign [.Tuple [.Name x1 p1, .Name x2 p2] _ _] (.Tuple [a', b'] _ _) _ => decide (N[i]? = some x1) && decide (N[j]? = some x2) && decide (i ≠ j) && decide (swpP sc [.Name x1 p1, .Name x2 p2] [a', b'] = some (some [x1, x2])) && decide (sc.names.lookup x1 = some .local) && decide (sc.names.lookup x2 = some .local)
        && notStar a' && notStar b' && mtE κ N false tl sc a a' && mtE κ N false tl sc b b' && frB a
    | _ => false
  | .parQ i j a b, x => match x with
    | .Assign [.Tuple [.Name x1 p1, .Name x2 p2] _ _] (.Tuple [a', b'] _ _) _ => decide (N[i]? = some x1) && decide (N[j]? = some x2) && decide (i ≠ j) && decide (swpP sc [.Name x1 p1, .Name x2 p2] [a', b'] = some (some [x1, x2])) && decide (sc.names.lookup x1 = some .local) && decide (sc.names.lookup x2 = some .local)
        && notStar a' && notStar b' && mtE κ N false tl sc a a' && mtE κ N false tl sc b b' && frB b
    | _ => false
  | .par3O i j k a b c, x => match x with
    | .Assign [.Tuple [.Name x1 p1, .Name x2 p2, .Name x3 p3] _ _] (.Tuple [a', b', c'] _ _) _ => decide (N[i]? = some x1) && decide (N[j]? = some x2) && decide (N[k]? = some x3) && decide (i ≠ j) && decide (i ≠ k) && decide (j ≠ k) && decide (swpP sc [.Name x1 p1, .Name x2 p2, .Name x3 p3] [a', b', c'] = some (some [x1, x2, x3])) && decide (sc.names.lookup x1 = some .local) && decide (sc.names.lookup x2 = some .local) && decide (sc.names.lookup x3 = some .local)
        && notStar a' && notStar b' && notStar c' && mtE κ N false tl sc a a' && mtE κ N false tl sc b b' && mtE κ N false tl sc c c' && frB a
    | _ => false
  | .setO i ix e, x => match x with
    | .Assign [.Subscript (.Name y _) ix' _] v _ => nmB N sc i y && notSlice ix' && mtE κ N true tl sc ix ix' && mtE κ N false tl sc e v && (match v with | .ListComp _ _ _ _ => false | .SetComp _ _ _ _ => false | .DictComp _ _ _ _ _ => false | _ => true)
    | _ => false
  | .app i e, x => match x with
    | .Expr (.Call (.Attribute (.Name y _) m p1) [v] [] p2) _ => nmB N sc i y && decide (m = ("append" : Str)) && (p1.endLine == p2.line) && notStar v && mtE κ N false tl sc e v
    | _ => false
  | .ext i e, x => match x with
    | .Expr (.Call (.Attribute (.Name y _) m p1) [v] [] p2) _ => nmB N sc i y && decide (m = ("extend" : Str)) && (p1.endLine == p2.line) && notStar v && mtE κ N false tl sc e v
    | _ => false
  | .ret e, x => match x with
    | .Return (some v) _ => mtE κ N false tl sc e v
    | _ => false
  | .retO i, x => match x with
    | .Return (some (.Name y _)) _ => nmB N sc i y
    | _ => false
  | .retN, x => match x with
    | .Return none _ => true
    | _ => false
  | .ite c a b, x => match x with
    | .If c' a' b' _ => mtT κ N tl sc c c' && mtSs tl sc a a' && mtSs tl sc b b'
    | _ => false
  | .for_ tg it body dead, x => match x with
    | .For tg' it' body' [] _ => mtIt κ N tl sc tg' it it' && mtT1 N (fun _ => true) sc tg tg' && notSet it' && mtSs tl sc body body'
    | _ => false
  | .while_ c body dead, x => match x with
    | .While c' body' [] _ => mtT κ N tl sc c c' && mtSs tl sc body body'
    | _ => false
  | .expr e, x => match x with
    | .Expr v _ => (match v with | .Call _ _ _ _ => true | _ => false) && mtE κ N false tl sc e v
    | _ => false
  | .raise k, x => match x with
    | .Raise (some (.Call (.Name n _) [.Constant (.str _) _ _] [] _)) none _ => κ.ks.contains k && decide (κ.en k = n) && glB sc n
    | _ => false
  | .pass, x => match x with
    | .Pass _ => true
    | _ => false
  | .brk, x => match x with
    | .Break _ => true
    | _ => false
  | .cont, x => match x with
    | .Continue _ => true
    | _ => false
def mtSs (tl : Bool) (sc : Scope) : Ss → List Stmt → Bool
  | .nil, xs => match xs with
    | [] => true
    | _ => false
  | .cons s ss, xs => match xs with
    | x :: xs => mtS tl sc s x && mtSs tl sc ss xs
    | _ => false
  | .fz i ss, xs => mtSs tl sc ss xs
end
end
end DD



set_option Elab.async false
set_option linter.all false
set_option maxRecDepth 100000
set_option maxHeartbeats 4000000
namespace DD
open PySem PySem.Spec PyProof.Rows L2
section
variable {κ : Kit} {N : List Str}
/-! own lists -/
structure Fsh (κ : Kit) (H0 : Hp) (env : Env) (σ : L2.St) (H F : Hp) (p : Addr) (l : List D) : Prop where
  at_ : ∃ xs, H p = some (.lst xs) ∧ RpA κ.K κ.sa F xs l
  nf : F p = none
  n0 : H0 p = none
  ns : κ.sa ≠ some p
  no : ∀ i ds, getS env i = .own ds → σ[i]? ≠ some (some (.ref p))
theorem ER.saNe {H0 F0 : Hp} {env : Env} {σ : L2.St} {H F : Hp} {n : Nat} {p : Addr} (er : ER κ H0 F0 env σ H F n) (hp : H p = none) : κ.sa ≠ some p := fun e => by
  obtain ⟨_, _, _, _, h2, _⟩ := er.wd.st p e
  rw [hp] at h2
  cases h2
theorem ER.newL {H0 F0 : Hp} {env : Env} {σ : L2.St} {H F : Hp} {n : Nat} {p : Addr} {xs : List V} {l : List D} (er : ER κ H0 F0 env σ H F n) (hp : H p = none) (r : RpA κ.K κ.sa F xs l) :
    ER κ H0 F0 env σ (upd H p (.lst xs)) F n ∧ Fsh κ H0 env σ (upd H p (.lst xs)) F p l := by
  have hs := er.saNe hp
  refine ⟨er.step (Fr.newOwn hp) (er.wd.own (er.wd.le.free hp) hs (by rw [hp]; exact fun _ z => nomatch z) (by rw [hp]; exact fun _ z => nomatch z)), ⟨xs, upd_same, r⟩, er.wd.le.free hp, ?_, hs, er.noOwn hp⟩
  cases q : H0 p with
  | none => rfl
  | some o => exact absurd hp (er.fr.d p (by rw [q]; exact fun z => nomatch z))
theorem ER.setOwn {H0 F0 : Hp} {env : Env} {σ : L2.St} {H F : Hp} {n : Nat} {p : Addr} {l : List D} (er : ER κ H0 F0 env σ H F n) (i : Nat) (f : Fsh κ H0 env σ H F p l) : ER κ H0 F0 (setS env i (.own l)) (σ.set i (some (.ref p))) H F n := by
  obtain ⟨⟨xs, h1, h2⟩, h3, h4, h5, h6⟩ := f
  refine ⟨by rw [setS_len, List.length_set]; exact er.len, er.wd, er.fr, fun j => ?_, fun j k ds es a hjk g1 g2 g3 g4 => ?_⟩
  · rw [getS_setS]
    by_cases h : i = j ∧ i < env.length
    · rw [if_pos h]
      obtain ⟨rfl, h⟩ := h
      exact ⟨p, xs, by rw [List.getElem?_set_self (by rw [← er.len]; exact h)], h1, h3, h4, h5, h2⟩
    · rw [if_neg h]
      by_cases q : i = j
      · have : getS env j = .un := getS_out (by omega)
        rw [this]; trivial
      · rw [List.getElem?_set_ne q]; exact er.sl j
  · rw [getS_setS] at g1 g2
    by_cases q1 : i = j ∧ i < env.length
    · obtain ⟨rfl, q1⟩ := q1
      rw [List.getElem?_set_self (by rw [← er.len]; exact q1)] at g3
      cases g3
      by_cases q2 : i = k ∧ i < env.length
      · exact hjk q2.1
      · rw [if_neg q2] at g2
        rw [List.getElem?_set_ne hjk] at g4
        exact h6 k es g2 g4
    · rw [if_neg q1] at g1
      have q1' : i ≠ j := fun e => by
        rw [getS_out (show env.length ≤ j by omega)] at g1; cases g1
      rw [List.getElem?_set_ne q1'] at g3
      by_cases q2 : i = k ∧ i < env.length
      · obtain ⟨rfl, q2⟩ := q2
        rw [List.getElem?_set_self (by rw [← er.len]; exact q2)] at g4
        cases g4
        exact h6 j ds g1 g3
      · rw [if_neg q2] at g2
        have q2' : i ≠ k := fun e => by
          rw [getS_out (show env.length ≤ k by omega)] at g2; cases g2
        rw [List.getElem?_set_ne q2'] at g4
        exact er.sep j k ds es a hjk g1 g2 g3 g4
/-- an own list is written -/
theorem ER.mut {H0 F0 : Hp} {env : Env} {σ : L2.St} {H F : Hp} {n i : Nat} {a : Addr} {l l' : List D} {xs ys : List V} (er : ER κ H0 F0 env σ H F n) (hg : getS env i = .own l) (hσ : σ[i]? = some (some (.ref a))) (ha : H a = some (.lst xs)) (hF : F a = none) (h0 : H0 a = none)
    (hs : κ.sa ≠ some a) (r : RpA κ.K κ.sa F ys l') : ER κ H0 F0 (setS env i (.own l')) σ (upd H a (.lst ys)) F n := by
  have hi : i < env.length := by
    refine Nat.lt_of_not_le fun h => ?_
    rw [getS_out h] at hg; cases hg
  refine ⟨by rw [setS_len]; exact er.len, er.wd.own hF hs (by rw [ha]; exact fun _ z => nomatch z) (by rw [ha]; exact fun _ => codeO_ne), er.fr.own h0, fun j => ?_, fun j k ds es b hjk g1 g2 g3 g4 => ?_⟩
  · rw [getS_setS]
    by_cases h : i = j ∧ i < env.length
    · rw [if_pos h]
      obtain ⟨rfl, h⟩ := h
      exact ⟨a, ys, hσ, upd_same, hF, h0, hs, r⟩
    · rw [if_neg h]
      have s := er.sl j
      cases q : getS env j with
      | un => trivial
      | v d => rw [q] at s; exact s
      | own ds =>
        rw [q] at s
        obtain ⟨b, zs, h1, h2, h3, h4, h5, h6⟩ := s
        have hij : i ≠ j := fun e => h ⟨e, hi⟩
        have hab : b ≠ a := fun e => er.sep i j l ds a hij hg q hσ (by rw [h1, e])
        exact ⟨b, zs, h1, by rw [upd_ne hab]; exact h2, h3, h4, h5, h6⟩
  · rw [getS_setS] at g1 g2
    by_cases q1 : i = j ∧ i < env.length
    · rw [if_neg fun q2 => hjk (q1.1.symm.trans q2.1)] at g2
      obtain ⟨rfl, q1⟩ := q1
      exact er.sep i k l es b hjk hg g2 g3 g4
    · rw [if_neg q1] at g1
      by_cases q2 : i = k ∧ i < env.length
      · obtain ⟨rfl, q2⟩ := q2
        exact er.sep j i ds l b hjk g1 hg g3 g4
      · rw [if_neg q2] at g2
        exact er.sep j k ds es b hjk g1 g2 g3 g4
theorem Fr.freeze {sa : Option Addr} {H0 F0 H F : Hp} {p : Addr} {o : HO} (fr : Fr sa H0 F0 H F) (hF : F p = none) (h0 : H0 p = none) : Fr sa H0 F0 H (upd F p o) :=
  ⟨fr.f.trans (Le.upd hF), fr.h, fr.d, fun a h1 h2 => by rw [upd_ne (a := p) (b := a) fun e => h1 (e ▸ h0)]; exact fr.u a h1 h2⟩
theorem Wd.freeze {H F : Hp} {n : Nat} {p : Addr} {xs : List V} (w : Wd κ H F n) (h : H p = some (.lst xs)) (hf : F p = none) (hs : κ.sa ≠ some p) : Wd κ H (upd F p (.lst xs)) n := by
  refine ⟨fun a o e => ?_, fun a ps e => ?_, w.tab, fun a ha => ?_⟩
  · by_cases q : a = p
    · subst q; rw [upd_same] at e; rw [h]; exact e
    · rw [upd_ne q] at e; exact w.le a o e
  · by_cases q : a = p
    · subst q; rw [upd_same] at e; cases e
    · rw [upd_ne q] at e; exact w.nt a ps e
  · obtain ⟨h1, na, ns, c, h2, h3, h4⟩ := w.st a ha
    exact ⟨by rw [upd_ne (a := p) (b := a) fun e => hs (e ▸ ha)]; exact h1, na, ns, c, h2, Le.upd hf _ _ h3, h4⟩
/-- an own list becomes a datum of its slot -/
theorem ER.fz {H0 F0 : Hp} {env : Env} {σ : L2.St} {H F : Hp} {n i : Nat} {l : List D} (er : ER κ H0 F0 env σ H F n) (hg : getS env i = .own l) : ∃ F', ER κ H0 F0 (setS env i (.v (.list l))) σ H F' n ∧ Le F F' := by
  have s := er.sl i
  rw [hg] at s
  obtain ⟨a, xs, h1, h2, h3, h4, h5, h6⟩ := s
  have hi : i < env.length := by
    refine Nat.lt_of_not_le fun h => ?_
    rw [getS_out h] at hg; cases hg
  have lf : Le F (upd F a (.lst xs)) := Le.upd h3
  refine ⟨upd F a (.lst xs), ⟨by rw [setS_len]; exact er.len, er.wd.freeze h2 h3 h5, er.fr.freeze h3 h4, fun j => ?_, fun j k ds es b hjk g1 g2 g3 g4 => ?_⟩, lf⟩
  · rw [getS_setS]
    by_cases h : i = j ∧ i < env.length
    · rw [if_pos h]
      obtain ⟨rfl, h⟩ := h
      exact ⟨.ref a, h1, .lst upd_same (h6.mono lf)⟩
    · rw [if_neg h]
      have s := er.sl j
      cases q : getS env j with
      | un => trivial
      | v d => rw [q] at s; obtain ⟨v, e1, e2⟩ := s; exact ⟨v, e1, e2.mono lf⟩
      | own ds =>
        rw [q] at s
        obtain ⟨b, zs, g1, g2, g3, g4, g5, g6⟩ := s
        have hij : i ≠ j := fun e => h ⟨e, hi⟩
        have hab : b ≠ a := fun e => er.sep i j l ds a hij hg q h1 (by rw [g1, e])
        exact ⟨b, zs, g1, g2, by rw [upd_ne hab]; exact g3, g4, g5, g6.mono lf⟩
  · rw [getS_setS] at g1 g2
    by_cases q1 : i = j ∧ i < env.length
    · rw [if_pos q1] at g1; cases g1
    · rw [if_neg q1] at g1
      by_cases q2 : i = k ∧ i < env.length
      · rw [if_pos q2] at g2; cases g2
      · rw [if_neg q2] at g2
        exact er.sep j k ds es b hjk g1 g2 g3 g4
theorem ER.unE {H0 F0 : Hp} {env : Env} {σ : L2.St} {H F : Hp} {n : Nat} (e : ER κ H0 F0 env σ H F n) (i : Nat) : ER κ H0 F0 (setS env i .un) σ H F n := by
  refine ⟨by rw [setS_len]; exact e.len, e.wd, e.fr, fun j => ?_, fun j k ds es a hjk h1 h2 h3 h4 => ?_⟩
  · rw [getS_setS]
    by_cases h : i = j ∧ i < env.length
    · rw [if_pos h]; trivial
    · rw [if_neg h]; exact e.sl j
  · rw [getS_setS] at h1 h2
    split at h1
    · cases h1
    · split at h2
      · cases h2
      · exact e.sep j k ds es a hjk h1 h2 h3 h4
theorem ER.clrE {H0 F0 : Hp} {env : Env} {σ : L2.St} {H F : Hp} {n : Nat} (e : ER κ H0 F0 env σ H F n) : ∀ is : List Nat, ER κ H0 F0 (clrS env is) σ H F n
  | [] => e
  | i :: is => (ER.clrE e is).unE i

/-! fresh lists -/
def RF (κ : Kit) (EX : XK) (e : E) : TE := fun σ H Q => ∃ H0 F0 env F n Qd Xd, ER κ H0 F0 env σ H F n ∧ wE κ.Γ κ.G e env n Qd Xd ∧ (∀ d n', Qd d n' → ∃ l, d = .list l) ∧
  (∀ l n' p H' F', Qd (.list l) n' → ER κ H0 F0 env σ H' F' n' → Fr κ.sa H F H' F' → Fsh κ H0 env σ H' F' p l → Q (.ref p) H') ∧ Exc κ H0 F0 env σ EX Xd
theorem wBin_lst {o : Op} {a b : D} {Q : D → Prop} (hl : ∀ d, Q d → ∃ l, d = .list l) (h : wBin o a b Q) (ho : o = .add ∨ o = .mul) :
    (o = .add ∧ ∃ x y, a = .list x ∧ b = .list y ∧ okLen (x.length + y.length) ∧ Q (.list (x ++ y))) ∨
    (o = .mul ∧ ∃ x j, a = .list x ∧ b = .int j ∧ (-(2 ^ 40) < j ∧ j < 2 ^ 40 ∧ okLen (x.length * j.toNat)) ∧ Q (.list (List.replicate j.toNat x).flatten)) := by
  unfold wBin at h
  split at h <;> (try (rcases ho with ho | ho <;> cases ho; done))
  · obtain ⟨_, e⟩ := hl _ h; cases e
  · exact .inl ⟨rfl, _, _, rfl, rfl, h.1, h.2⟩
  · obtain ⟨_, e⟩ := hl _ h.2; cases e
  · obtain ⟨_, e⟩ := hl _ h.2; cases e
  · exact .inr ⟨rfl, _, _, rfl, rfl, h.1, h.2⟩
  · obtain ⟨_, e⟩ := hl _ h.2; cases e
  · exact h.elim
theorem wBi_lst {ds : List D} {Q : D → Prop} (h : wBi .list ds Q) : ∃ l, (ds = [.list l] ∨ ds = [.tuple l]) ∧ Q (.list l) := by
  rcases ds with _ | ⟨a, _ | ⟨b, t⟩⟩
  · simp [wBi] at h
  · cases a <;> first | (simp [wBi] at h; done) | exact ⟨_, .inl rfl, h⟩ | exact ⟨_, .inr rfl, h⟩
  · simp [wBi] at h
theorem sF : ∀ (e : E) {tl : Bool} {sc : Scope} {x : Expr} {X : Cx} {EX : XK}, Cok κ N sc X EX → (tl = true → Told κ N sc X EX) → frB e = true → mtE κ.s N false tl sc e x = true → PE X x (RF κ EX e) := by
  intro e tl sc x X EX c ht hf h
  unfold frB at hf
  split at hf
  · rename_i es
    unfold mtE at h
    split at h
    · simp only [Bool.and_eq_true, decide_eq_true_eq] at h
      refine PEm (pe_lst (sEs es c ht h.2)) fun σ H Q ⟨H0, F0, env, F, n, Qd, Xd, er, hw, hl, hq, hx⟩ => ?_
      unfold wE at hw
      refine ⟨H0, F0, env, F, n, _, Xd, er, hw, fun ds n1 vs H1 F1 q ll er1 fr1 rm1 => ⟨?_, fun p hp => ?_⟩, hx⟩
      · rw [rm1.f.len]
        exact Nat.le_trans ll (Nat.le_trans h.1 (by decide))
      · obtain ⟨er2, fs⟩ := er1.newL hp rm1.f
        exact hq _ _ p _ F1 q er2 (fr1.trans (Fr.newOwn hp)) fs
    · cases h
  · rename_i tg it cc e
    unfold mtE at h
    split at h
    · rename_i elt tg' it' ifs scope pos
      simp only [Bool.and_eq_true] at h
      obtain ⟨⟨⟨⟨⟨h1, h2⟩, h3⟩, h4⟩, h5⟩, h6⟩ := h
      have hk := (blkOk_by (own := ownOf N (tgs tg)) h1).kind
      have p := pe_lc (pos := pos) c.calm (by rw [c.hN]; exact c.nd) (sIt it (tg := tg') c ht h2) (blkOk_by (own := ownOf N (tgs tg)) (by rw [c.hN, c.sc]; exact h1))
        (fun s H C cl fp => pg_tg (X := X.blk s H scope (compEnvC scope cl C X.env) fp) (κ := κ) (N := N) (sc := relS scope sc) (fb := fbOf scope) c.hK c.hN c.nd (by rw [← c.sc]; rfl) c.calm (fun x hx => hx) h3)
        (fun s H C cl fp => sTs cc (c.blk hk s H C cl fp) h5) (fun s H C cl fp => sE e (tl := false) (c.blk hk s H C cl fp) (fun z => nomatch z) h6) (folded0 h4 _)
      rw [tgs_own] at p
      refine PEm p fun σ H Q ⟨H0, F0, env, F, n, Qd, Xd, er, hw, hl, hq, hx⟩ => ?_
      exact lc_ok er hw (fun acc n' v H' F' q er' fr' ⟨xs, hl, ra⟩ hf h0 hs hno hv => hq _ n' v H' F' q er' fr' ⟨⟨xs, hl, ra⟩, hf, h0, hs, hno⟩) hx
    · cases h
  · rename_i es
    unfold mtE at h
    split at h
    · rename_i n p x1 xs pos
      simp only [Bool.and_eq_true, decide_eq_true_eq] at h
      obtain ⟨⟨⟨h2, h4⟩, h5⟩, st⟩ := h
      rw [List.all_cons, Bool.and_eq_true] at st
      have bm : X.mg n = none := by rw [← h2]; exact blt_of c (biMem .list)
      have bb : bootBuiltins n = some (.type "list") := by rw [← h2]; exact biBoot .list
      refine PEm (pe_callTy call_list_of (glX c h4) bm bb (sEs es c ht h5) (glB_iff h4).2.2 (glB_iff h4).2.1 (star1 st.1 _ _) (backStar (starAll xs st.2))) fun σ H Q ⟨H0, F0, env, F, n, Qd, Xd, er, hw, hl, hq, hx⟩ => ?_
      unfold wE at hw
      refine ⟨H0, F0, env, F, n, _, Xd, er, hw, fun ds n1 vs H1 F1 q _ er1 fr1 rm1 => ?_, hx⟩
      rcases wBi_lst q with ⟨l, rfl | rfl, q⟩
      · obtain ⟨x, rfl, h⟩ := rm1.one
        obtain ⟨a, ys, rfl, ha, ra⟩ := h.lst er1.wd.le
        refine ⟨a, ys, rfl, .inl (SqL.of ha), fun p hp => ?_⟩
        obtain ⟨er2, fs⟩ := er1.newL hp ra
        exact hq _ _ p _ F1 q er2 (fr1.trans (Fr.newOwn hp)) fs
      · obtain ⟨x, rfl, h⟩ := rm1.one
        obtain ⟨a, ys, rfl, ha, ra⟩ := h.tup
        refine ⟨a, ys, rfl, .inr (er1.wd.le.sqT (c.hK ▸ ha)), fun p hp => ?_⟩
        obtain ⟨er2, fs⟩ := er1.newL hp ra
        exact hq _ _ p _ F1 q er2 (fr1.trans (Fr.newOwn hp)) fs
    · cases h
  · rename_i a b
    unfold mtE at h
    split at h
    · simp only [Bool.and_eq_true, decide_eq_true_eq] at h
      obtain ⟨⟨rfl, h2⟩, h3⟩ := h
      refine PEm (pe_op op_cat (sE a c ht h2) (sE b c ht h3)) fun σ H Q ⟨H0, F0, env, F, n, Qd, Xd, er, hw, hl, hq, hx⟩ => ?_
      unfold wE at hw
      refine two_ok er hw hx fun x y n' vx vy H' F' q er' fr' rx ry => ?_
      rcases wBin_lst (fun d => hl d n') q (.inl rfl) with ⟨_, u, v, rfl, rfl, ok, q⟩ | ⟨e, _⟩
      · obtain ⟨p1, xs, rfl, g1, r1⟩ := rx.lst er'.wd.le
        obtain ⟨p2, ys, rfl, g2, r2⟩ := ry.lst er'.wd.le
        refine ⟨p1, p2, xs, ys, rfl, rfl, g1, g2, by rw [r1.len, r2.len]; exact sizeOk ok, fun p hp => ?_⟩
        obtain ⟨er2, fs⟩ := er'.newL hp (r1.append r2)
        exact hq _ _ p _ F' q er2 (fr'.trans (Fr.newOwn hp)) fs
      · cases e
    · cases h
  · rename_i a b
    unfold mtE at h
    split at h
    · simp only [Bool.and_eq_true, decide_eq_true_eq] at h
      obtain ⟨⟨rfl, h2⟩, h3⟩ := h
      refine PEm (pe_op op_rep (sE a c ht h2) (sE b c ht h3)) fun σ H Q ⟨H0, F0, env, F, n, Qd, Xd, er, hw, hl, hq, hx⟩ => ?_
      unfold wE at hw
      refine two_ok er hw hx fun x y n' vx vy H' F' q er' fr' rx ry => ?_
      rcases wBin_lst (fun d => hl d n') q (.inr rfl) with ⟨e, _⟩ | ⟨_, u, j, rfl, rfl, ok, q⟩
      · cases e
      · obtain ⟨p1, xs, rfl, g1, r1⟩ := rx.lst er'.wd.le
        have := ry.int; subst this
        refine ⟨p1, j, xs, rfl, rfl, g1, Int.le_trans (by decide) (Int.le_of_lt ok.1), Int.lt_trans ok.2.1 (by decide), by rw [r1.len]; exact sizeOk ok.2.2, fun p hp => ?_⟩
        obtain ⟨er2, fs⟩ := er'.newL hp (r1.rep _)
        exact hq _ _ p _ F' q er2 (fr'.trans (Fr.newOwn hp)) fs
    · cases h
  · cases hf
end
end DD



set_option Elab.async false
set_option linter.all false
set_option maxRecDepth 100000
set_option maxHeartbeats 4000000
namespace DD
open PySem PySem.Spec PyProof.Rows L2
theorem blockK {env : PySem.Env} (hk : env.scope.kind = .function) : env.blockKind = .function := by
  unfold PySem.Env.blockKind
  rw [hk]; rfl
theorem swaps_lc {env : PySem.Env} (hk : env.scope.kind = .function) {elt : Expr} {gs : List Comprehension} {scope : Scope} {p py : Pos} {y : Str} {line : Nat} : swapsWith (.ListComp elt gs scope p) (some (.Name y py)) line env = pure (lcSw env.scope y py scope p) := by
  unfold swapsWith lcSw
  simp only [blockK hk, PySem.Env.kindOf, Expr.pos]
  congr 1
  cases env.scope.names.lookup y with
  | none => rfl
  | some k => cases k <;> rfl
theorem swp_eq {env : PySem.Env} (hk : env.scope.kind = .function) {ts vs : List Expr} {k k2 : Nat} {p p2 : Pos} {r : Option (List Str)} (h : swpP env.scope ts vs = some r) : swappedStores [.Tuple ts k p] (.Tuple vs k2 p2) env = pure r := by
  have e : (env.blockKind != ScopeKind.function) = false := by rw [blockK hk]; decide
  unfold swpP at h
  show (if (!(ts.length == 2 || ts.length == 3) || vs.length != ts.length || env.blockKind != .function) = true then _ else _) = _
  rw [e, Bool.or_false]
  split at h
  · rename_i h1
    rw [if_pos h1]
    cases h; rfl
  · rename_i h1
    rw [if_neg h1]
    split at h
    · rename_i h2
      refine Eq.trans (if_pos h2) ?_
      cases h; rfl
    · rename_i h2
      refine Eq.trans (if_neg h2) ?_
      simp only [] at h
      split at h
      · rename_i h3
        refine Eq.trans (if_pos h3) ?_
        cases h; rfl
      · rename_i h3
        refine Eq.trans (if_neg h3) ?_
        split at h
        · rename_i h4
          refine Eq.trans (if_pos h4) ?_
          cases h; rfl
        · rename_i h4
          refine Eq.trans (if_neg h4) ?_
          split at h
          · cases h
          · rename_i h5
            refine Eq.trans (if_neg h5) ?_
            cases h; rfl

section
variable {κ : Kit} {N : List Str}
structure KOk (κ : Kit) (EX : XK) (H0 F0 F : Hp) (K : Kn) (De : Ends) : Prop where
  nx : ∀ env' n' σ' H' F', K.nx env' n' → ER κ H0 F0 env' σ' H' F' n' → Le F F' → De.nx σ' H'
  rt : ∀ d n' v H' F', K.rt d n' → Wd κ H' F' n' → Fr κ.sa H0 F0 H' F' → Rp κ.K κ.sa F' v d → De.rt v H'
  bk : ∀ env' n' σ' H' F', K.bk env' n' → ER κ H0 F0 env' σ' H' F' n' → Le F F' → De.bk σ' H'
  ct : ∀ env' n' σ' H' F', K.ct env' n' → ER κ H0 F0 env' σ' H' F' n' → Le F F' → De.ct σ' H'
  xd : ∀ k n' H' F', K.xd k n' → Wd κ H' F' n' → Fr κ.sa H0 F0 H' F' → EX (κ.cls k) none H'
theorem KOk.exc {EX : XK} {H0 F0 F : Hp} {K : Kn} {De : Ends} (o : KOk κ EX H0 F0 F K De) {env : Env} {σ : L2.St} : Exc κ H0 F0 env σ EX K.xd := fun k n' H' F' q er => o.xd k n' H' F' q er.wd er.fr
theorem KOk.le {EX : XK} {H0 F0 F F1 : Hp} {K : Kn} {De : Ends} (o : KOk κ EX H0 F0 F K De) (l : Le F F1) : KOk κ EX H0 F0 F1 K De :=
  ⟨fun e n σ H' F' q er l' => o.nx e n σ H' F' q er (l.trans l'), o.rt, fun e n σ H' F' q er l' => o.bk e n σ H' F' q er (l.trans l'), fun e n σ H' F' q er l' => o.ct e n σ H' F' q er (l.trans l'), o.xd⟩
def RS (κ : Kit) (EX : XK) (ss : Ss) : TS := fun De σ H => ∃ H0 F0 env F n K, ER κ H0 F0 env σ H F n ∧ wSs κ.Γ κ.G ss env n K ∧ KOk κ EX H0 F0 F K De
def R1 (κ : Kit) (EX : XK) (s : S) : TS := fun De σ H => ∃ H0 F0 env F n K, ER κ H0 F0 env σ H F n ∧ wS κ.Γ κ.G s env n K ∧ KOk κ EX H0 F0 F K De
theorem PSm {X : Cx} {e : Stmt} {t t' : TS} (h : PS X e t) (i : ∀ D σ H, t' D σ H → t D σ H) : PS X e t' := ⟨fun pins s σ H D I hw => h.run pins s σ H D I (i _ _ _ hw)⟩
theorem PSsm {X : Cx} {e : List Stmt} {t t' : TS} (h : PSs X e t) (i : ∀ D σ H, t' D σ H → t D σ H) : PSs X e t' := ⟨fun pins s σ H D I hw => h.run pins s σ H D I (i _ _ _ hw)⟩
/-- the contexts of defs' bodies: what a loop asks besides -/
structure Dok (κ : Kit) (N : List Str) (sc : Scope) (X : Cx) (EX : XK) : Prop extends Cok κ N sc X EX where
  fn : ∀ x, X.fn x = true
  own : PassesOwn (model X.prog X.w) X.A X.env X.xe

theorem comp_no {x : Expr} {y : Option Expr} {l : Nat} {env : PySem.Env} (h : (match x with | .ListComp _ _ _ _ => false | .SetComp _ _ _ _ => false | .DictComp _ _ _ _ _ => false | _ => true) = true) : swapsWith x y l env = pure false := by
  cases x <;> first | rfl | (simp at h)
theorem sw_of {x : Expr} {sc : Scope} {y : Str} {py : Pos} {l : Nat} {env : PySem.Env} (hk : env.scope.kind = .function) (h : asgB sc y py x = true) :
    swapsWith x (some (.Name y py)) l env = pure false ∨ ∃ elt gs scope p, x = .ListComp elt gs scope p ∧ lcSw env.scope y py scope p = true := by
  cases x <;> first | exact .inl rfl | (simp [asgB] at h; done) | skip
  rename_i elt gs scope p
  cases e : lcSw env.scope y py scope p with
  | true => exact .inr ⟨elt, gs, scope, p, rfl, e⟩
  | false => exact .inl (by rw [swaps_lc hk, e])
/-- a comprehension given to a name by the swapped way -/
theorem lc_set {tl : Bool} {sc : Scope} {X : Cx} {EX : XK} (c : Cok κ N sc X EX) (ht : tl = true → Told κ N sc X EX) {i : Nat} {y : Str} {py pos : Pos} {elt : Expr} {gs : List Comprehension} {scope : Scope} {p : Pos} {e : E}
    (hi : N[i]? = some y) (h : mtE κ.s N false tl sc e (.ListComp elt gs scope p) = true) (hs : lcSw sc y py scope p = true) :
    ∃ tg it cc e', e = .lc tg it cc e' ∧ PS X (.Assign [.Name y py] (.ListComp elt gs scope p) pos) (tAsg (tLc (RI κ EX it) (gT κ tg) (RTs κ (fun _ _ _ => False) cc) (RE κ (fun _ _ _ => False) false e') (tgs tg)) (gName i)) := by
  have hsw : swapsWith (.ListComp elt gs scope p) (some (.Name y py)) pos.line X.env = pure true := by rw [swaps_lc (by rw [c.sc]; exact c.kind), c.sc, hs]
  have hl : sc.names.lookup y = some .local := by
    unfold lcSw at hs
    simp only [Bool.and_eq_true] at hs
    have h1 := hs.1.1
    split at h1
    · assumption
    · cases h1
  cases e <;> (try (simp [mtE] at h; done))
  rename_i tg it cc e'
  refine ⟨tg, it, cc, e', rfl, ?_⟩
  unfold mtE at h
  split at h
  · rename_i tg' it' ifs _ _ heq
    cases heq
    simp only [Bool.and_eq_true] at h
    obtain ⟨⟨⟨⟨⟨h1, h2⟩, h3⟩, h4⟩, h5⟩, h6⟩ := h
    have hk := (blkOk_by (own := ownOf N (tgs tg)) h1).kind
    have q := ps_setLc (i := i) (y := y) (py := py) (spos := pos) (pos := p) c.calm (by rw [c.hN]; exact c.nd) (by rw [c.hN]; exact hi) (by rw [c.sc]; exact hl) hsw (sIt it (tg := tg') c ht h2) (blkOk_by (own := ownOf N (tgs tg)) (by rw [c.hN, c.sc]; exact h1))
      (fun s H C cl fp => pg_tg (X := X.blk s H scope (compEnvC scope cl C X.env) fp) (κ := κ) (N := N) (sc := relS scope sc) (fb := fbOf scope) c.hK c.hN c.nd (by rw [← c.sc]; rfl) c.calm (fun x hx => hx) h3)
      (fun s H C cl fp => sTs cc (c.blk hk s H C cl fp) h5) (fun s H C cl fp => sE e' (tl := false) (c.blk hk s H C cl fp) (fun z => nomatch z) h6) (folded0 h4 _)
    rw [tgs_own] at q
    exact q
  · cases h
theorem Fsh.to {H0 : Hp} {env : Env} {σ : L2.St} {H F H' F' : Hp} {p : Addr} {l : List D} (f : Fsh κ H0 env σ H F p l) (fr : Fr κ.sa H F H' F') : Fsh κ H0 env σ H' F' p l := by
  obtain ⟨⟨xs, h1, h2⟩, h3, h4, h5, h6⟩ := f
  exact ⟨⟨xs, fr.h p _ h1 h5 (fun _ z => nomatch z), h2.mono fr.f⟩, fr.u p (by rw [h1]; exact fun z => nomatch z) h3, h4, h5, h6⟩
theorem RE.ret {EX : XK} {w : Bool} {e : E} {σ : L2.St} {H : Hp} {H0 F0 F : Hp} {env : Env} {n : Nat} {K : Kn} {De : Ends} {Qd : K1} {Q : VK} (er : ER κ H0 F0 env σ H F n) (hw : wE κ.Γ κ.G e env n Qd K.xd) (o : KOk κ EX H0 F0 F K De)
    (hq : ∀ d n' v H' F', Qd d n' → ER κ H0 F0 env σ H' F' n' → Le F F' → Rm κ w H' F' v d → Q v H') : RE κ EX w e σ H Q :=
  ⟨H0, F0, env, F, n, Qd, K.xd, er, hw, fun d n' v H' F' q er' fr r => hq d n' v H' F' q er' fr.f r, o.exc⟩
theorem ER.slot {H0 F0 : Hp} {env : Env} {σ : L2.St} {H F : Hp} {n i : Nat} {l : List D} (er : ER κ H0 F0 env σ H F n) (hg : getS env i = .own l) : ∃ a xs, σ[i]? = some (some (.ref a)) ∧ H a = some (.lst xs) ∧ F a = none ∧ H0 a = none ∧ κ.sa ≠ some a ∧ RpA κ.K κ.sa F xs l := by
  have s := er.sl i
  rw [hg] at s
  exact s
mutual
theorem sS : ∀ (s : S) {tl : Bool} {sc : Scope} {x : Stmt} {X : Cx} {EX : XK}, Dok κ N sc X EX → (tl = true → Told κ N sc X EX) → mtS κ.s N tl sc s x = true → PS X x (R1 κ EX s)
  | .asg i e, tl, sc, x, X, EX, c, ht, h => by
    unfold mtS at h
    split at h
    · rename_i y py v pos
      simp only [Bool.and_eq_true, decide_eq_true_eq] at h
      obtain ⟨⟨⟨h1, h2⟩, h3⟩, h4⟩ := h
      rcases sw_of (l := pos.line) (env := X.env) (by rw [c.sc]; exact c.kind) h3 with hs | ⟨elt, gs, scope, p, rfl, hs⟩
      · refine PSm (ps_set (i := i) (by rw [c.hN]; exact c.nd) (by rw [c.hN]; exact h1) (by rw [c.sc]; exact locB_iff h2) (sE e c.toCok ht h4) hs (.inl (c.fn y))) fun De σ H ⟨H0, F0, env, F, n, K, er, hw, o⟩ => ?_
        unfold wS at hw
        exact RE.ret er hw o fun d n' v H' F' q er' l r => o.nx _ _ _ _ _ q (er'.set i r.f) l
      · rw [c.sc] at hs
        obtain ⟨tg, it, cc, e', rfl, q⟩ := lc_set (pos := pos) c.toCok ht h1 h4 hs
        refine PSm q fun De σ H ⟨H0, F0, env, F, n, K, er, hw, o⟩ => ?_
        unfold wS at hw
        exact lc_ok er hw (fun acc n' v H' F' q er' fr' ⟨xs, hl, ra⟩ hf h0 hs hno hv => o.nx _ _ _ _ _ q ((er'.freeze hl hf h0 hs hno).set i (v := .ref v) (.lst upd_same (ra.mono (Le.upd hf)))) (fr'.f.trans (Le.upd hf))) o.exc
    · cases h
  | .asgO i e, tl, sc, x, X, EX, c, ht, h => by
    unfold mtS at h
    split at h
    · rename_i y py v pos
      simp only [Bool.and_eq_true, decide_eq_true_eq] at h
      obtain ⟨⟨⟨⟨h1, h2⟩, h3⟩, h5⟩, h4⟩ := h
      rcases sw_of (l := pos.line) (env := X.env) (by rw [c.sc]; exact c.kind) h3 with hs | ⟨elt, gs, scope, p, rfl, hs⟩
      · refine PSm (ps_set (i := i) (by rw [c.hN]; exact c.nd) (by rw [c.hN]; exact h1) (by rw [c.sc]; exact locB_iff h2) (sF e c.toCok ht h5 h4) hs (.inl (c.fn y))) fun De σ H ⟨H0, F0, env, F, n, K, er, hw, o⟩ => ?_
        unfold wS at hw
        refine ⟨H0, F0, env, F, n, _, K.xd, er, hw, fun d n' q => q.imp fun _ z => z.1, fun l n' p H' F' ⟨l', e, q⟩ er' fr' fs => ?_, o.exc⟩
        cases e
        exact o.nx _ _ _ _ _ q (er'.setOwn i fs) fr'.f
      · rw [c.sc] at hs
        obtain ⟨tg, it, cc, e', rfl, q⟩ := lc_set (pos := pos) c.toCok ht h1 h4 hs
        refine PSm q fun De σ H ⟨H0, F0, env, F, n, K, er, hw, o⟩ => ?_
        unfold wS at hw
        refine lc_ok er hw (fun acc n' v H' F' ⟨l', e, q⟩ er' fr' hx hf h0 hs hno hv => ?_) o.exc
        cases e
        exact o.nx _ _ _ _ _ q (er'.setOwn i ⟨hx, hf, h0, hs, hno⟩) fr'.f
    · cases h
  | .asgT is e, tl, sc, x, X, EX, c, ht, h => by
    unfold mtS at h
    split at h
    · rename_i ts k p v pos
      simp only [Bool.and_eq_true] at h
      obtain ⟨⟨⟨h1, h2⟩, h3⟩, h4⟩ := h
      have hsk : X.env.scope.kind = .function := by rw [c.sc]; exact c.kind
      obtain ⟨g1, g2, g3⟩ := pg_list c.hN c.nd c.sc (fun x _ => c.fn x) h1
      have pg := pg_tup (pos := p) (k := k) c.calm g1 g2 g3
      have hsw : swappedStores [.Tuple ts k p] v X.env = pure none := by
        unfold noSwB at h2
        split at h2
        · exact swp_eq hsk (by rw [c.sc]; simpa using h2)
        · rename_i hn
          cases v <;> first | rfl | (exact absurd rfl (hn _ _ _))
      refine PSm (ps_asg (sE e c.toCok ht h3) pg (by unfold swapsWithSole; exact comp_no h4) hsw rfl) fun De σ H ⟨H0, F0, env, F, n, K, er, hw, o⟩ => ?_
      unfold wS at hw
      refine RE.ret er hw o fun d n' v H' F' ⟨env', hb, q⟩ er' l r => ?_
      have := gT_ok (κ := κ) (tg := .tp is) (Q := fun σ' H' => De.nx σ' H') hb r.f er' fun σ' er2 _ => o.nx _ _ _ _ _ q er2 l
      rw [c.hK]
      exact this
    · cases h
  | .par i j a b, tl, sc, x, X, EX, c, ht, h => by
    unfold mtS at h
    split at h
    · rename_i x1 p1 x2 p2 k p a' b' k2 pp pos
      simp only [Bool.and_eq_true, decide_eq_true_eq] at h
      obtain ⟨⟨⟨⟨⟨⟨⟨⟨⟨h1, h2⟩, h3⟩, h4⟩, h5⟩, h6⟩, h7⟩, h8⟩, h9⟩, h10⟩ := h
      have hsk : X.env.scope.kind = .function := by rw [c.sc]; exact c.kind
      refine PSm (ps_par (i := i) (j := j) c.calm (by rw [c.hN]; exact c.nd) (by rw [c.hN]; exact h1) (by rw [c.hN]; exact h2) h3 (by rw [c.sc]; exact h5) (by rw [c.sc]; exact h6)
        (pa_cons (sE a c.toCok ht h9) (pa_cons (sE b c.toCok ht h10) pa_nil (star1 h8 _ _)) (star1 h7 _ _)) (swp_eq hsk (by rw [c.sc]; exact h4))) fun De σ H ⟨H0, F0, env, F, n, K, er, hw, o⟩ => ?_
      unfold wS at hw
      refine ⟨H0, F0, env, F, n, _, K.xd, er, hw, fun d1 n1 v1 H1 F1 q1 er1 fr1 rm1 => ⟨H0, F0, env, F1, n1, _, K.xd, er1, q1, fun d2 n2 v2 H2 F2 q2 er2 fr2 rm2 => ⟨v1, v2, rfl, ?_⟩, o.exc⟩, o.exc⟩
      exact o.nx _ _ _ _ _ q2 ((er2.set i (rm1.to fr2).f).set j rm2.f) (fr1.f.trans fr2.f)
    · cases h
  | .par3 i j l a b cc, tl, sc, x, X, EX, c, ht, h => by
    unfold mtS at h
    split at h
    · rename_i x1 p1 x2 p2 x3 p3 k p a' b' c' k2 pp pos
      simp only [Bool.and_eq_true, decide_eq_true_eq] at h
      obtain ⟨⟨⟨⟨⟨⟨⟨⟨⟨⟨⟨⟨⟨⟨⟨h1, h2⟩, h3⟩, h4⟩, h5⟩, h6⟩, h7⟩, h8⟩, h9⟩, h10⟩, h11⟩, h12⟩, h13⟩, h14⟩, h15⟩, h16⟩ := h
      have hsk : X.env.scope.kind = .function := by rw [c.sc]; exact c.kind
      refine PSm (ps_par3 (i := i) (j := j) (l := l) c.calm (by rw [c.hN]; exact c.nd) (by rw [c.hN]; exact h1) (by rw [c.hN]; exact h2) (by rw [c.hN]; exact h3) h4 h5 h6 (by rw [c.sc]; exact h8) (by rw [c.sc]; exact h9) (by rw [c.sc]; exact h10)
        (pa_cons (sE a c.toCok ht h14) (pa_cons (sE b c.toCok ht h15) (pa_cons (sE cc c.toCok ht h16) pa_nil (star1 h13 _ _)) (star1 h12 _ _)) (star1 h11 _ _)) (swp_eq hsk (by rw [c.sc]; exact h7))) fun De σ H ⟨H0, F0, env, F, n, K, er, hw, o⟩ => ?_
      unfold wS at hw
      refine ⟨H0, F0, env, F, n, _, K.xd, er, hw, fun d1 n1 v1 H1 F1 q1 er1 fr1 rm1 => ⟨H0, F0, env, F1, n1, _, K.xd, er1, q1, fun d2 n2 v2 H2 F2 q2 er2 fr2 rm2 => ⟨H0, F0, env, F2, n2, _, K.xd, er2, q2, fun d3 n3 v3 H3 F3 q3 er3 fr3 rm3 => ⟨v1, v2, v3, rfl, ?_⟩, o.exc⟩, o.exc⟩, o.exc⟩
      exact o.nx _ _ _ _ _ q3 (((er3.set i (rm1.to (fr2.trans fr3)).f).set j (rm2.to fr3).f).set l rm3.f) (fr1.f.trans (fr2.f.trans fr3.f))
    · cases h
  | .parO i j a b, tl, sc, x, X, EX, c, ht, h => by
    unfold mtS at h
    split at h
    · rename_i x1 p1 x2 p2 k p a' b' k2 pp pos
      simp only [Bool.and_eq_true, decide_eq_true_eq] at h
      obtain ⟨⟨⟨⟨⟨⟨⟨⟨⟨⟨h1, h2⟩, h3⟩, h4⟩, h5⟩, h6⟩, h7⟩, h8⟩, h9⟩, h10⟩, hfr⟩ := h
      have hsk : X.env.scope.kind = .function := by rw [c.sc]; exact c.kind
      refine PSm (ps_par (i := i) (j := j) c.calm (by rw [c.hN]; exact c.nd) (by rw [c.hN]; exact h1) (by rw [c.hN]; exact h2) h3 (by rw [c.sc]; exact h5) (by rw [c.sc]; exact h6)
        (pa_cons (sF a c.toCok ht hfr h9) (pa_cons (sE b c.toCok ht h10) pa_nil (star1 h8 _ _)) (star1 h7 _ _)) (swp_eq hsk (by rw [c.sc]; exact h4))) fun De σ H ⟨H0, F0, env, F, n, K, er, hw, o⟩ => ?_
      unfold wS at hw
      refine ⟨H0, F0, env, F, n, _, K.xd, er, hw, fun d n' q => q.imp fun _ z => z.1, fun l n1 p1 H1 F1 ⟨l', e, q1⟩ er1 fr1 fs => ⟨H0, F0, env, F1, n1, _, K.xd, er1, q1, fun d2 n2 v2 H2 F2 q2 er2 fr2 rm2 => ⟨.ref p1, v2, rfl, ?_⟩, o.exc⟩, o.exc⟩
      cases e
      exact o.nx _ _ _ _ _ q2 ((er2.setOwn i (fs.to fr2)).set j rm2.f) (fr1.f.trans fr2.f)
    · cases h
  | .parQ i j a b, tl, sc, x, X, EX, c, ht, h => by
    unfold mtS at h
    split at h
    · rename_i x1 p1 x2 p2 k p a' b' k2 pp pos
      simp only [Bool.and_eq_true, decide_eq_true_eq] at h
      obtain ⟨⟨⟨⟨⟨⟨⟨⟨⟨⟨h1, h2⟩, h3⟩, h4⟩, h5⟩, h6⟩, h7⟩, h8⟩, h9⟩, h10⟩, hfr⟩ := h
      have hsk : X.env.scope.kind = .function := by rw [c.sc]; exact c.kind
      refine PSm (ps_par (i := i) (j := j) c.calm (by rw [c.hN]; exact c.nd) (by rw [c.hN]; exact h1) (by rw [c.hN]; exact h2) h3 (by rw [c.sc]; exact h5) (by rw [c.sc]; exact h6)
        (pa_cons (sE a c.toCok ht h9) (pa_cons (sF b c.toCok ht hfr h10) pa_nil (star1 h8 _ _)) (star1 h7 _ _)) (swp_eq hsk (by rw [c.sc]; exact h4))) fun De σ H ⟨H0, F0, env, F, n, K, er, hw, o⟩ => ?_
      unfold wS at hw
      refine ⟨H0, F0, env, F, n, _, K.xd, er, hw, fun d1 n1 v1 H1 F1 q1 er1 fr1 rm1 => ⟨H0, F0, env, F1, n1, _, K.xd, er1, q1, fun d n' q => q.imp fun _ z => z.1, fun l n2 p2 H2 F2 ⟨l', e, q2⟩ er2 fr2 fs => ⟨v1, .ref p2, rfl, ?_⟩, o.exc⟩, o.exc⟩
      cases e
      rw [List.set_comm _ _ h3]
      exact o.nx _ _ _ _ _ q2 ((er2.setOwn j fs).set i (rm1.to fr2).f) (fr1.f.trans fr2.f)
    · cases h
  | .par3O i j l a b cc, tl, sc, x, X, EX, c, ht, h => by
    unfold mtS at h
    split at h
    · rename_i x1 p1 x2 p2 x3 p3 k p a' b' c' k2 pp pos
      simp only [Bool.and_eq_true, decide_eq_true_eq] at h
      obtain ⟨⟨⟨⟨⟨⟨⟨⟨⟨⟨⟨⟨⟨⟨⟨⟨h1, h2⟩, h3⟩, h4⟩, h5⟩, h6⟩, h7⟩, h8⟩, h9⟩, h10⟩, h11⟩, h12⟩, h13⟩, h14⟩, h15⟩, h16⟩, hfr⟩ := h
      have hsk : X.env.scope.kind = .function := by rw [c.sc]; exact c.kind
      refine PSm (ps_par3 (i := i) (j := j) (l := l) c.calm (by rw [c.hN]; exact c.nd) (by rw [c.hN]; exact h1) (by rw [c.hN]; exact h2) (by rw [c.hN]; exact h3) h4 h5 h6 (by rw [c.sc]; exact h8) (by rw [c.sc]; exact h9) (by rw [c.sc]; exact h10)
        (pa_cons (sF a c.toCok ht hfr h14) (pa_cons (sE b c.toCok ht h15) (pa_cons (sE cc c.toCok ht h16) pa_nil (star1 h13 _ _)) (star1 h12 _ _)) (star1 h11 _ _)) (swp_eq hsk (by rw [c.sc]; exact h7))) fun De σ H ⟨H0, F0, env, F, n, K, er, hw, o⟩ => ?_
      unfold wS at hw
      refine ⟨H0, F0, env, F, n, _, K.xd, er, hw, fun d n' q => q.imp fun _ z => z.1, fun l1 n1 p1 H1 F1 ⟨l', e, q1⟩ er1 fr1 fs => ⟨H0, F0, env, F1, n1, _, K.xd, er1, q1, fun d2 n2 v2 H2 F2 q2 er2 fr2 rm2 => ⟨H0, F0, env, F2, n2, _, K.xd, er2, q2, fun d3 n3 v3 H3 F3 q3 er3 fr3 rm3 => ⟨.ref p1, v2, v3, rfl, ?_⟩, o.exc⟩, o.exc⟩, o.exc⟩
      cases e
      exact o.nx _ _ _ _ _ q3 (((er3.setOwn i (fs.to (fr2.trans fr3))).set j (rm2.to fr3).f).set l rm3.f) (fr1.f.trans (fr2.f.trans fr3.f))
    · cases h
  | .setO i ix e, tl, sc, x, X, EX, c, ht, h => by
    unfold mtS at h
    split at h
    · rename_i y py ix' p v pos
      simp only [Bool.and_eq_true] at h
      obtain ⟨⟨⟨⟨h1, h2⟩, h3⟩, h4⟩, h5⟩ := h
      unfold nmB at h1
      simp only [Bool.and_eq_true, decide_eq_true_eq] at h1
      obtain ⟨v1, v2, v3⟩ := visB_iff h1.2
      have pv := pe_var (X := X) (i := i) (pos := py) (by rw [c.hN]; exact h1.1) (by rw [c.sc]; exact v1) v2 v3
      refine PSm (ps_asg (sE e c.toCok ht h4) (pg_sub pv (sE ix c.toCok ht h3) set_list (by intro v; cases ix' <;> first | rfl | (simp [notSlice] at h2))) (by unfold swapsWithSole; exact comp_no h5) (by cases v <;> rfl) rfl) fun De σ H ⟨H0, F0, env, F, n, K, er, hw, o⟩ => ?_
      unfold wS at hw
      obtain ⟨l, hg, hw⟩ := hw
      refine ⟨H0, F0, env, F, n, _, K.xd, er, hw, fun d1 n1 w1 H1 F1 q1 er1 fr1 rm1 => ?_, o.exc⟩
      obtain ⟨a, xs, s1, _⟩ := er1.slot hg
      refine ⟨.ref a, s1, H0, F0, env, F1, n1, _, K.xd, er1, q1, fun d2 n2 w2 H2 F2 ⟨j, m, e1, e2, q⟩ er2 fr2 rm2 => ?_, o.exc⟩
      subst e1
      have := rm2.int; subst this
      obtain ⟨a', ys, t1, t2, t3, t4, t5, t6⟩ := er2.slot hg
      rw [s1] at t1
      cases t1
      refine ⟨a, ys, j, m, rfl, rfl, t2, by rw [t6.len]; exact e2, ?_⟩
      exact o.nx _ _ _ _ _ q (er2.mut hg s1 t2 t3 t4 t5 (t6.set (rm1.to fr2).f m)) (fr1.f.trans fr2.f)
    · cases h
  | .app i e, tl, sc, x, X, EX, c, ht, h => by
    unfold mtS at h
    split at h
    · rename_i y py m p1 v p2 pos
      simp only [Bool.and_eq_true, decide_eq_true_eq] at h
      obtain ⟨⟨⟨⟨h1, rfl⟩, h3⟩, h4⟩, h5⟩ := h
      unfold nmB at h1
      simp only [Bool.and_eq_true, decide_eq_true_eq] at h1
      obtain ⟨v1, v2, v3⟩ := visB_iff h1.2
      have pv := pe_var (X := X) (i := i) (pos := py) (by rw [c.hN]; exact h1.1) (by rw [c.sc]; exact v1) v2 v3
      refine PSm (ps_expr (pe_bm PySem.F.plainAttrs_list PySem.F.slot_list_append PySem.F.type_list_append mt_append pv (pa_cons (sE e c.toCok ht h5) pa_nil (star1 h4 _ _)) rfl (by rw [star1 h4]; rfl) h3 (star1 h4 _ _) rfl) rfl) fun De σ H ⟨H0, F0, env, F, n, K, er, hw, o⟩ => ?_
      unfold wS at hw
      obtain ⟨l, hg, hw⟩ := hw
      obtain ⟨a, xs, s1, s2, _⟩ := er.slot hg
      refine ⟨.ref a, s1, .inl ⟨rfl, xs, SqL.of s2⟩, H0, F0, env, F, n, _, K.xd, er, hw, fun d2 n2 w2 H2 F2 ⟨hl, q⟩ er2 fr2 rm2 => ?_, o.exc⟩
      obtain ⟨a', ys, t1, t2, t3, t4, t5, t6⟩ := er2.slot hg
      rw [s1] at t1
      cases t1
      refine ⟨a, ys, w2, rfl, rfl, t2, by rw [t6.len]; exact hl, ?_⟩
      exact o.nx _ _ _ _ _ q (er2.mut hg s1 t2 t3 t4 t5 (t6.append (.cons rm2.f .nil))) fr2.f
    · cases h
  | .ext i e, tl, sc, x, X, EX, c, ht, h => by
    unfold mtS at h
    split at h
    · rename_i y py m p1 v p2 pos
      simp only [Bool.and_eq_true, decide_eq_true_eq] at h
      obtain ⟨⟨⟨⟨h1, rfl⟩, h3⟩, h4⟩, h5⟩ := h
      unfold nmB at h1
      simp only [Bool.and_eq_true, decide_eq_true_eq] at h1
      obtain ⟨v1, v2, v3⟩ := visB_iff h1.2
      have pv := pe_var (X := X) (i := i) (pos := py) (by rw [c.hN]; exact h1.1) (by rw [c.sc]; exact v1) v2 v3
      refine PSm (ps_expr (pe_bm PySem.F.plainAttrs_list PySem.F.slot_list_extend PySem.F.type_list_extend mt_extend pv (pa_cons (sE e c.toCok ht h5) pa_nil (star1 h4 _ _)) rfl (by rw [star1 h4]; rfl) h3 (star1 h4 _ _) rfl) rfl) fun De σ H ⟨H0, F0, env, F, n, K, er, hw, o⟩ => ?_
      unfold wS at hw
      obtain ⟨l, hg, hw⟩ := hw
      obtain ⟨a, xs, s1, s2, _⟩ := er.slot hg
      refine ⟨.ref a, s1, .inl ⟨rfl, xs, SqL.of s2⟩, H0, F0, env, F, n, _, K.xd, er, hw, fun d2 n2 w2 H2 F2 ⟨m, e1, hl, q⟩ er2 fr2 rm2 => ?_, o.exc⟩
      subst e1
      obtain ⟨a', ys, t1, t2, t3, t4, t5, t6⟩ := er2.slot hg
      rw [s1] at t1
      cases t1
      obtain ⟨b, zs, rfl, g1, g2⟩ := rm2.lst er2.wd.le
      refine ⟨a, b, ys, zs, rfl, rfl, t2, g1, by rw [t6.len, g2.len]; exact sizeOk hl, ?_⟩
      exact o.nx _ _ _ _ _ q (er2.mut hg s1 t2 t3 t4 t5 (t6.append g2)) fr2.f
    · cases h
  | .ret e, tl, sc, x, X, EX, c, ht, h => by
    unfold mtS at h
    split at h
    · refine PSm (ps_ret (sE e c.toCok ht h)) fun De σ H ⟨H0, F0, env, F, n, K, er, hw, o⟩ => ?_
      unfold wS at hw
      exact RE.ret er hw o fun d n' v H' F' q er' l r => o.rt _ _ _ _ _ q er'.wd er'.fr r.f
    · cases h
  | .retO i, tl, sc, x, X, EX, c, ht, h => by
    unfold mtS at h
    split at h
    · rename_i y py pos
      unfold nmB at h
      simp only [Bool.and_eq_true, decide_eq_true_eq] at h
      obtain ⟨v1, v2, v3⟩ := visB_iff h.2
      refine PSm (ps_ret (pe_var (X := X) (i := i) (pos := py) (by rw [c.hN]; exact h.1) (by rw [c.sc]; exact v1) v2 v3)) fun De σ H ⟨H0, F0, env, F, n, K, er, hw, o⟩ => ?_
      unfold wS at hw
      obtain ⟨l, hg, q⟩ := hw
      obtain ⟨a, ys, t1, t2, t3, t4, t5, t6⟩ := er.slot hg
      exact ⟨.ref a, t1, o.rt _ _ _ _ _ q (er.wd.freeze t2 t3 t5) (er.fr.freeze t3 t4) (.lst upd_same (t6.mono (Le.upd t3)))⟩
    · cases h
  | .retN, tl, sc, x, X, EX, c, ht, h => by
    unfold mtS at h
    split at h
    · refine PSm ps_retN fun De σ H ⟨H0, F0, env, F, n, K, er, hw, o⟩ => ?_
      unfold wS at hw
      exact o.rt _ _ _ _ _ hw er.wd er.fr .non
    · cases h
  | .ite t a b, tl, sc, x, X, EX, c, ht, h => by
    unfold mtS at h
    split at h
    · simp only [Bool.and_eq_true] at h
      obtain ⟨⟨h1, h2⟩, h3⟩ := h
      refine PSm (ps_if (sT t c.toCok ht h1).2 (sSs a c ht h2) (sSs b c ht h3)) fun De σ H ⟨H0, F0, env, F, n, K, er, hw, o⟩ => ?_
      unfold wS at hw
      refine ⟨H0, F0, env, F, n, _, K.xd, er, hw, fun z n1 H1 F1 q er1 fr1 => ?_, o.exc⟩
      cases z with
      | true => rw [if_pos rfl]; exact ⟨H0, F0, env, F1, n1, K, er1, q.1 rfl, o.le fr1.f⟩
      | false => rw [if_neg Bool.false_ne_true]; exact ⟨H0, F0, env, F1, n1, K, er1, q.2 rfl, o.le fr1.f⟩
    · cases h
  | .for_ tg it body dead, tl, sc, x, X, EX, c, ht, h => by
    unfold mtS at h
    split at h
    · rename_i tg' it' body' pos
      simp only [Bool.and_eq_true] at h
      obtain ⟨⟨⟨h1, h2⟩, h3⟩, h4⟩ := h
      refine PSm (ps_for c.own c.calm (sIt it (tg := tg') c.toCok ht h1) (pg_tg c.hK c.hN c.nd c.sc c.calm (fun x _ => c.fn x) h2) (sSs body c ht h4) (folded0 h3 _)) fun De σ H ⟨H0, F0, env, F, n, K, er, hw, o⟩ => ?_
      unfold wS at hw
      refine ⟨H0, F0, env, F, n, _, K.xd, er, hw, fun ds n1 J H1 F1 q er1 fr1 yl => ?_, o.exc⟩
      refine ⟨fun i m σ' H' => ∃ env' F' n', m = ds.length - i ∧ i ≤ ds.length ∧ ER κ H0 F0 env' σ' H' F' n' ∧ Le F1 F' ∧ wFor (fun env n K => wSs κ.Γ κ.G body env n K) tg dead (ds.drop i) env' n' K,
        ⟨ds.length, env, F1, n1, by simp, Nat.zero_le _, er1, Le.refl _, q⟩, ?_⟩
      rintro i m σ2 H2 ⟨env2, F2, n2, rfl, hi, er2, l2, hf⟩
      by_cases hlt : i < ds.length
      · refine .inr ?_
        rw [List.drop_eq_getElem_cons hlt] at hf
        obtain ⟨hgo, hy⟩ := (yl.2 i H2 F2 l2 er2.wd.le).1 ds[i] (List.getElem?_eq_getElem hlt)
        unfold wFor at hf
        obtain ⟨env3, hb, hf⟩ := hf
        refine ⟨hgo, fun σ' H' => ∃ env' F' n', ER κ H0 F0 env' σ' H' F' n' ∧ Le F1 F' ∧ wFor (fun env n K => wSs κ.Γ κ.G body env n K) tg dead (ds.drop (i + 1)) env' n' K,
          fun σ' H' ⟨env', F', n', h1, h2, h3⟩ => ⟨ds.length - (i + 1), by omega, env', F', n', rfl, hlt, h1, h2, h3⟩, fun x H3 hyl => ?_⟩
        obtain ⟨F3, nw, rx⟩ := hy x H3 hyl
        have l3 : Le F1 F3 := l2.trans (nw.fr (sa := κ.sa) er2.wd.le).f
        refine gT_ok hb rx ((er2.clrE dead).nw nw) fun σ' er' _ => ?_
        exact ⟨H0, F0, env3, F3, n2, _, er', hf, ⟨fun e n σ H F q er l => ⟨e, F, n, er, l3.trans l, q⟩, o.rt, fun e n σ H F q er l => o.nx _ _ _ _ _ q (er.clrE dead) (fr1.f.trans (l3.trans l)), fun e n σ H F q er l => ⟨e, F, n, er, l3.trans l, q⟩, o.xd⟩⟩
      · have e : i = ds.length := by omega
        subst e
        rw [List.drop_length] at hf
        exact .inl ⟨(yl.2 _ H2 F2 l2 er2.wd.le).2 (Nat.le_refl _), o.nx _ _ _ _ _ hf (er2.clrE dead) (fr1.f.trans l2)⟩
    · cases h
  | .while_ t body dead, tl, sc, x, X, EX, c, ht, h => by
    unfold mtS at h
    split at h
    · simp only [Bool.and_eq_true] at h
      obtain ⟨h1, h2⟩ := h
      refine PSm (ps_while c.own (sT t c.toCok ht h1).2 (sSs body c ht h2)) fun De σ H ⟨H0, F0, env, F, n, K, er, hw, o⟩ => ?_
      unfold wS at hw
      obtain ⟨W, ⟨m0, w0⟩, turn⟩ := hw
      refine ⟨fun m σ' H' => ∃ env' F' n', ER κ H0 F0 env' σ' H' F' n' ∧ Le F F' ∧ W m env' n', ⟨m0, clrS env dead, F, n, er.clrE dead, Le.refl _, w0⟩, ?_⟩
      rintro m σ1 H1 ⟨env1, F1, n1, er1, l1, w1⟩
      refine ⟨H0, F0, env1, F1, n1, _, K.xd, er1, turn m env1 n1 w1, fun z n2 H2 F2 q er2 fr2 => ?_, (o.le l1).exc⟩
      cases z with
      | true =>
        rw [if_pos rfl]
        refine ⟨fun σ' H' => ∃ m', m' < m ∧ ∃ env' F' n', ER κ H0 F0 env' σ' H' F' n' ∧ Le F F' ∧ W m' env' n', fun σ' H' z => z, H0, F0, env1, F2, n2, _, er2, q.1 rfl, ?_⟩
        exact ⟨fun e n σ H F' ⟨m', hm, w⟩ er l => ⟨m', hm, _, F', n, er.clrE dead, l1.trans (fr2.f.trans l), w⟩, o.rt, fun e n σ H F' q er l => o.nx _ _ _ _ _ q (er.clrE dead) (l1.trans (fr2.f.trans l)), fun e n σ H F' ⟨m', hm, w⟩ er l => ⟨m', hm, _, F', n, er.clrE dead, l1.trans (fr2.f.trans l), w⟩, o.xd⟩
      | false => rw [if_neg Bool.false_ne_true]; exact o.nx _ _ _ _ _ (q.2 rfl) er2 (l1.trans fr2.f)
    · cases h
  | .expr e, tl, sc, x, X, EX, c, ht, h => by
    unfold mtS at h
    split at h
    · rename_i v pos
      rw [Bool.and_eq_true] at h
      refine PSm (ps_expr (sE e c.toCok ht h.2) (by cases v <;> first | rfl | (simp at h))) fun De σ H ⟨H0, F0, env, F, n, K, er, hw, o⟩ => ?_
      unfold wS at hw
      exact RE.ret er hw o fun d n' v H' F' q er' l r => o.nx _ _ _ _ _ q er' l
    · cases h
  | .raise k, tl, sc, x, X, EX, c, ht, h => by
    unfold mtS at h
    split at h
    · simp only [Bool.and_eq_true, decide_eq_true_eq, List.contains_iff_mem] at h
      obtain ⟨⟨h1, rfl⟩, h3⟩ := h
      obtain ⟨C, e1, e2, e3, e4, e5, e6⟩ := c.gl.exc k h1
      refine PSm (L2N.ps_raise c.calm c.tk (L2N.pmk_own PySem.F.excBase_ValueError (by rw [c.hK]; exact e3) e2 (by rw [c.hK]; exact e4) (raises_own (by rw [c.hK]; exact e5) (by rw [c.hK]; exact e6)) (glX c.toCok h3) (glB_iff h3).2.1)) fun De σ H ⟨H0, F0, env, F, n, K, er, hw, o⟩ => ?_
      unfold wS at hw
      have := o.xd k n H F hw er.wd er.fr
      rw [e1] at this
      exact this
    · cases h
  | .pass, tl, sc, x, X, EX, c, ht, h => by
    unfold mtS at h
    split at h
    · refine PSm ps_pass fun De σ H ⟨H0, F0, env, F, n, K, er, hw, o⟩ => ?_
      unfold wS at hw
      exact o.nx _ _ _ _ _ hw er (Le.refl _)
    · cases h
  | .brk, tl, sc, x, X, EX, c, ht, h => by
    unfold mtS at h
    split at h
    · refine PSm ps_break fun De σ H ⟨H0, F0, env, F, n, K, er, hw, o⟩ => ?_
      unfold wS at hw
      exact o.bk _ _ _ _ _ hw er (Le.refl _)
    · cases h
  | .cont, tl, sc, x, X, EX, c, ht, h => by
    unfold mtS at h
    split at h
    · refine PSm ps_continue fun De σ H ⟨H0, F0, env, F, n, K, er, hw, o⟩ => ?_
      unfold wS at hw
      exact o.ct _ _ _ _ _ hw er (Le.refl _)
    · cases h
theorem sSs : ∀ (ss : Ss) {tl : Bool} {sc : Scope} {xs : List Stmt} {X : Cx} {EX : XK}, Dok κ N sc X EX → (tl = true → Told κ N sc X EX) → mtSs κ.s N tl sc ss xs = true → PSs X xs (RS κ EX ss)
  | .nil, tl, sc, xs, X, EX, c, ht, h => by
    unfold mtSs at h
    split at h
    · refine PSsm pss_nil fun De σ H ⟨H0, F0, env, F, n, K, er, hw, o⟩ => ?_
      unfold wSs at hw
      exact o.nx _ _ _ _ _ hw er (Le.refl _)
    · cases h
  | .cons s ss, tl, sc, xs, X, EX, c, ht, h => by
    unfold mtSs at h
    split at h
    · rw [Bool.and_eq_true] at h
      refine PSsm (pss_cons (sS s c ht h.1) (sSs ss c ht h.2)) fun De σ H ⟨H0, F0, env, F, n, K, er, hw, o⟩ => ?_
      unfold wSs at hw
      exact ⟨H0, F0, env, F, n, _, er, hw, ⟨fun e n σ H F' q er l => ⟨H0, F0, e, F', n, K, er, q, o.le l⟩, o.rt, o.bk, o.ct, o.xd⟩⟩
    · cases h
  | .fz i ss, tl, sc, xs, X, EX, c, ht, h => by
    unfold mtSs at h
    refine PSsm (sSs ss c ht h) fun De σ H ⟨H0, F0, env, F, n, K, er, hw, o⟩ => ?_
    unfold wSs at hw
    obtain ⟨l, hg, hw⟩ := hw
    obtain ⟨F', er', lf⟩ := er.fz hg
    exact ⟨H0, F0, _, F', n, K, er', hw, o.le lf⟩
end
end
end DD



set_option Elab.async false
set_option linter.all false
set_option maxRecDepth 100000
set_option maxHeartbeats 4000000
namespace DD
open PySem PySem.Spec PyProof.Rows L2 L2H
section
variable {X : Cx}
/-- a block's context where an exception is handled: its object stays pinned -/
abbrev blkP (X : Cx) (s : Shared) (H : Hp) (scope : Scope) (cenv : PySem.Env) (fp : List Addr) (p : Addr × Obj) : Cx := { X.blk s H scope cenv fp with pn := [p] }
theorem inv_pin {pins : List (Addr × Obj)} {σ : L2.St} {H : Hp} {s s' : Shared} {H' : Hp} {scope : Scope} {cenv : PySem.Env} {fp : List Addr} {p : Addr × Obj} (I : Inv (X.blk s H scope cenv fp) pins σ H' s')
    (h : s'.heap.get? p.1 = some p.2 ∧ H' p.1 = none ∧ p.1 ≠ cenv.locals ∧ p.1 ∉ frs X.stack ∧ ∀ v, p.2.data ≠ .cell v) : Inv (blkP X s H scope cenv fp p) pins σ H' s' := by
  refine ⟨⟨I.ok.mod, I.ok.kind, I.ok.glob, I.ok.blt, I.ok.above, I.ok.inj, I.ok.has, I.ok.cab, I.ok.hd, I.ok.frames, I.ok.stk, I.ok.exf, I.ok.bs, I.ok.bsz, I.ok.noex, I.ok.exfs, I.ok.funs, I.ok.frf⟩, I.os, I.bare, I.base, I.loc, I.cell, I.free, I.freeC, fun q hq => ?_, I.hok, I.len⟩
  have hq : q ∈ [p] ++ pins := hq
  rcases List.mem_append.mp hq with z | z
  · rw [List.mem_singleton.mp z]; exact h
  · exact I.pin q (List.mem_append_right _ z)
theorem inv_unpin {pins : List (Addr × Obj)} {σ : L2.St} {H : Hp} {s s' : Shared} {H' : Hp} {scope : Scope} {cenv : PySem.Env} {fp : List Addr} {p : Addr × Obj} (I : Inv (blkP X s H scope cenv fp p) pins σ H' s') : Inv (X.blk s H scope cenv fp) pins σ H' s' := by
  refine ⟨⟨I.ok.mod, I.ok.kind, I.ok.glob, I.ok.blt, I.ok.above, I.ok.inj, I.ok.has, I.ok.cab, I.ok.hd, I.ok.frames, I.ok.stk, I.ok.exf, I.ok.bs, I.ok.bsz, I.ok.noex, I.ok.exfs, I.ok.funs, I.ok.frf⟩, I.os, I.bare, I.base, I.loc, I.cell, I.free, I.freeC, fun q hq => ?_, I.hok, I.len⟩
  have hq : q ∈ [] ++ pins := hq
  exact I.pin q (List.mem_append_right _ hq)
/-- a comprehension given to a name where an exception is handled -/
theorem ps_setHot {i : Nat} {y : Str} {py : Pos} {elt tg iter : Expr} {ifs : List Expr} {scope : Scope} {own : List (Str × Nat)} {pos spos : Pos} {wi : TI} {g : TG} {tt : TT} {te : TE} {q : Addr × Obj}
    (hq : Hot1 X.A q) (hqp : q ∈ X.pn) (hN : X.N.Nodup) (hy : X.N[i]? = some y) (hyl : X.env.scope.names.lookup y = some .local)
    (hsw : swapsWith (.ListComp elt [⟨tg, iter, ifs, 0⟩] scope pos) (some (.Name y py)) spos.line X.env = pure true) (hi : PIH X tg iter wi) (ok : BlkOk X.N X.env.scope scope own)
    (hg : ∀ (s : Shared) (H : Hp) (C : Addr) (cl : List (Str × Addr)) (fp : List Addr), PG (blkP X s H scope (compEnvC scope cl C X.env) fp q) tg g)
    (ht : ∀ (s : Shared) (H : Hp) (C : Addr) (cl : List (Str × Addr)) (fp : List Addr), PTs (blkP X s H scope (compEnvC scope cl C X.env) fp q) ifs tt)
    (he : ∀ (s : Shared) (H : Hp) (C : Addr) (cl : List (Str × Addr)) (fp : List Addr), PE (blkP X s H scope (compEnvC scope cl C X.env) fp q) elt te) (hs : ∀ x, foldedSetIterable iter X.env x = pure x) :
    PS X (.Assign [.Name y py] (.ListComp elt [⟨tg, iter, ifs, 0⟩] scope pos) spos) (tAsg (tLc wi g tt te (own.map (·.2))) (gName i)) := by
  refine ⟨fun pins s σ H De I h => ?_⟩
  rw [exec_Assign_Name_used _ _ _ _ hsw]
  refine wpAny_bind (wpAny_standAt (wpAny_bind ?_))
  have h : tLc wi g tt te (own.map (·.2)) σ H (fun x H1 => gName i x σ H1 De.nx) := h
  have caps : ∀ z ∈ scope.names, z.2 = .free → ∃ c, X.env.cells.lookup z.1 = some c := fun z hz e => (ok.free z hz e).elim (fun k => I.ok.has _ (.inl k)) fun k => I.ok.has _ (.inr k)
  refine wpAny_bind (thn (wpAny_comprehension_free (Q := fun _ s' => SP X pins De .next s') (use := some (assign (.Name y py) X.env)) rfl hs (closure_ok caps) ok.kind (fun z hz e => by rw [ok.uniq z hz, e])
    (thn (hi.run pins s σ H _ I h) fun xv s1 hx => thn hx fun itv s2 h2 => ?_)) fun _ s' hq => wpAny_pure (wpAny_pure hq))
  obtain ⟨it, fp, tn, J, H2, e, I2, T, st2, f2, k⟩ := h2
  subst e
  refine wpAny_newObj_type (newEnv_comp ?_) (by show 0 ≤ sizeLine; decide)
  have hDn : H2 s2.heap.objs.size = none := I2.hok.fresh (Nat.le_refl _)
  generalize hD : s2.heap.objs.size = D at hDn
  obtain ⟨W, ⟨m0, w0⟩, turn⟩ := k D hDn
  generalize hs3 : ({ s2 with heap := s2.heap.push { cls := .type "list", data := .seq ([] : List Value).toArray } } : Shared) = s3
  have h3 : s3.heap = s2.heap.push { cls := .type "list", data := .seq ([] : List Value).toArray } := by rw [← hs3]
  have I3 : Inv X pins σ (upd H2 D (.lst [])) s3 := by
    rw [← hs3]
    refine I2.laid (t' := s2.toks) (fun b o e => Heap.get?_push_of_some _ e) (Nat.le_of_eq hD) ⟨Nat.zero_le _, [], 0, .nil, ?_⟩
    rw [← hD]
    exact Heap.get?_push_size _ rfl
  have small : ∀ b ∈ fp, b < s2.heap.objs.size := fun b hb => let ⟨o, e, _⟩ := T.obj _ _ st2 b hb; Heap.lt_size e
  have f3 : ∀ b ∈ fp, FpOk X pins (upd H2 D (.lst [])) b ∧ b < s3.heap.objs.size := fun b hb => by
    have hlt := small b hb
    refine ⟨⟨?_, (f2 b hb).2⟩, by rw [h3, Heap.size_push]; exact Nat.lt_succ_of_lt hlt⟩
    rw [upd_ne (by rw [← hD]; exact Nat.ne_of_lt hlt)]
    exact (f2 b hb).1
  have st3 : tn 0 s3.heap := T.keep _ _ _ st2 fun b _ o e => by rw [h3]; exact Heap.get?_push_of_some _ e
  generalize hH3 : upd H2 D (.lst []) = H3 at I3 w0 f3
  have pinX := I3.pin q (List.mem_append_left _ hqp)
  have I4 := block_start I3 ok hN f3
  generalize hcl : cellsFrom (s3.heap.objs.size + 1) scope.names (cloFrom X.env.cells scope.names []) = cl at I4
  show codeAny _ _ (.compStart (.ListComp elt [⟨tg, iter, ifs, 0⟩] scope pos) 0 (.ref it) (.ref D) (compEnvC scope cl s3.heap.objs.size X.env)) (compPost (model X.prog X.w) X.A X.xe (some (assign (.Name y py) X.env)) _ (.ref D) s3.heap.objs.size) { s3 with heap := pushCells (s3.heap.push { cls := .type "dict", data := .dict #[] }) scope.names }
  have pg := hg s3 H3 s3.heap.objs.size cl fp
  have pt := ht s3 H3 s3.heap.objs.size cl fp
  have pe := he s3 H3 s3.heap.objs.size cl fp
  have pinLt : q.1 < s3.heap.objs.size := Heap.lt_size pinX.1
  have I4 : Inv (blkP X s3 H3 scope (compEnvC scope cl s3.heap.objs.size X.env) fp q) [] (wipe σ (own.map (·.2))) H3 { s3 with heap := pushCells (s3.heap.push { cls := .type "dict", data := .dict #[] }) scope.names } :=
    inv_pin I4 ⟨pushCells_keeps _ _ _ _ (Heap.get?_push_of_some _ pinX.1), pinX.2.1, Nat.ne_of_lt pinLt, fun z => (List.mem_cons.mp (I3.stkSub _ z)).elim pinX.2.2.1 pinX.2.2.2.1, pinX.2.2.2.2⟩
  generalize hce : compEnvC scope cl s3.heap.objs.size X.env = ce at I4 pg pt pe ⊢
  have cL : ce.locals = s3.heap.objs.size := by rw [← hce]; rfl
  have hot : HotC (blkP X s3 H3 scope ce fp q) := ⟨q, hq, List.mem_singleton.mpr rfl⟩
  generalize hs4 : ({ s3 with heap := pushCells (s3.heap.push { cls := .type "dict", data := .dict #[] }) scope.names } : Shared) = s4 at I4 ⊢
  have st4 : tn 0 s4.heap := T.keep _ _ _ st3 fun b _ o e => by rw [← hs4]; exact pushCells_keeps _ _ _ _ (Heap.get?_push_of_some _ e)
  have nfp : ∀ b ∈ fp, H3 b = none := fun b hb => (f3 b hb).1.1
  have nq : ∀ b ∈ fp, q.1 ≠ b := fun b hb => (f3 b hb).1.2.2.2.2.2 q (List.mem_append_left _ hqp)
  have stat : ∀ {σ' : L2.St} {H' : Hp} {s' : Shared}, Inv (blkP X s3 H3 scope ce fp q) [] σ' H' s' → (∀ b ∈ fp, H' b = none) → ∀ b ∈ fp, FpOk (blkP X s3 H3 scope ce fp q) [] H' b := fun {σ' H' s'} I' hn b hb =>
    ⟨hn b hb, (I'.ok.exf b hb).1, I'.ok.exfs b hb, .inl hb, fun x c e => (I'.ok.exf b hb).2 x c e, fun p hp => by
      have hp : p ∈ [q] ++ [] := hp
      rw [List.append_nil, List.mem_singleton] at hp
      rw [hp]; exact nq b hb⟩
  have loop : codeAny (model X.prog X.w) X.A (.compLoop (.ListComp elt [⟨tg, iter, ifs, 0⟩] scope pos) 0 (.ref it) (.ref D) ce) (compPost (model X.prog X.w) X.A X.xe (some (assign (.Name y py) X.env)) (fun _ s' => SP X pins De .next s') (.ref D) s3.heap.objs.size) s4 := by
    refine compLoop_any (fun n s' => ∃ i H', Inv (blkP X s3 H3 scope ce fp q) [] (wipe σ (own.map (·.2))) H' s' ∧ tn i s'.heap ∧ (∀ b ∈ fp, H' b = none) ∧ W i n H') ?_ m0 ⟨0, H3, I4, st4, nfp, w0⟩
    rintro n s5 ⟨j, H5, I5, st5, n5, w5⟩
    rcases turn j n H5 w5 with ⟨stop, qq⟩ | ⟨go, Nx, hNx, step⟩
    · refine thnF (T.done (blkP X s3 H3 scope ce fp q) rfl rfl rfl hot j [] s5 _ H5 (fun _ _ => False) I5 (stat I5 n5) st5 stop) fun r s6 ⟨hr, I6⟩ => ?_
      subst hr
      have I7 : Inv X pins σ H5 s6 := I3.call' (ch := fp) I6.os I6.base I6.hok I6.bare fun b hb => ⟨(f3 b hb).1.2.2.2.1, (f3 b hb).1.2.1, (f3 b hb).1.2.2.2.2.1, (f3 b hb).1.2.2.2.2.2⟩
      have nC : H5 s3.heap.objs.size = none := by
        have z : H5 ce.locals = none := I6.free
        rw [cL] at z
        exact z
      obtain ⟨m, hn, _⟩ := I6.loc
      have hn : s6.heap.Ns ce.locals m := hn
      rw [cL] at hn
      obtain ⟨g0, g1, g2, g3, g4, g5⟩ := I3.fpOk (Nat.le_refl _) nC
      show wpAny _ _ (assign (.Name y py) X.env (.ref D)) _ _ _
      refine wpAny_assign_Name (store_ok2 (v := V.ref D) I7 hN hy (.inl hyl) rfl (fun s7 I8 ⟨a, sb, ha⟩ => ?_) (.inr hyl))
      have away : s3.heap.objs.size ≠ a := ha.elim (fun z => by rw [z]; exact g1) fun z e => g4 y a z e.symm
      exact ⟨m, hn.sameBut sb away, fun h9 sb9 => ⟨_, H5, I8.turned (t' := s7.toks) (fun b o hb e => (sb9.2 b hb).trans e) g0 g1 g3 g4 g5, qq⟩⟩
    · refine thnF (T.item (blkP X s3 H3 scope ce fp q) rfl rfl rfl hot j [] s5 _ H5 (fun _ _ => False) I5 (stat I5 n5) st5 go) fun r s6 ⟨u, hr, h6⟩ => ?_
      subst hr
      refine thnF h6 fun _ s7 ⟨x, H7, I7, r7, y7, st7, n7⟩ => ?_
      have I7' := I7.pinned (stat I7 n7) (T.obj _ _ st7)
      refine thnF (pg.run _ s7 _ H7 x u _ I7' r7 (step x H7 y7)) fun _ s8 ⟨σ8, H8, I8, hw8, q8⟩ => ?_
      refine thnF (pt.run _ s8 σ8 H8 _ I8 q8) fun b s9 ⟨H9, I9, q9⟩ => ?_
      have fin : ∀ {s' : Shared} {H' : Hp}, Inv (blkP X s3 H3 scope ce fp q) ([] ++ pinsAt fp s7.heap) σ8 H' s' → Nx H' → ∃ m, m < n ∧ ∃ i H', Inv (blkP X s3 H3 scope ce fp q) [] (wipe σ (own.map (·.2))) H' s' ∧ tn i s'.heap ∧ (∀ b ∈ fp, H' b = none) ∧ W i m H' := fun {s' H'} I' nx => by
        obtain ⟨m', hm, w'⟩ := hNx H' nx
        have held : ∀ b ∈ fp, ∀ o, s7.heap.get? b = some o → s'.heap.get? b = some o ∧ H' b = none := fun b hb o e =>
          let z := I'.pin (b, o) (List.mem_append_right _ (List.mem_append_right _ (mem_pinsAt hb e)))
          ⟨z.1, z.2.1⟩
        refine ⟨m', hm, j + 1, H', (I'.unpinned (pins := [])).weak (by rw [← hw8, wipe_length]) (fun k v e => ?_), T.keep _ _ _ st7 fun b hb o e => (held b hb o e).1, fun b hb => ?_, w'⟩
        · rw [← hw8] at e
          exact (wipe_some e).1
        · obtain ⟨o, e, _⟩ := T.obj _ _ st7 b hb
          exact (held b hb o e).2
      cases b with
      | false =>
        simp only [Bool.false_eq_true, if_false] at q9 ⊢
        exact fin I9 q9
      | true =>
        simp only [if_true] at q9 ⊢
        refine thnF (pe.run _ s9 σ8 H9 _ I9 q9) fun z s10 ⟨yv, H10, I10, r10, acc, hD10, hz10, nx⟩ => ?_
        exact app_ok (X := blkP X s3 H3 scope ce fp q) I10 hD10 hz10 r10 fun s11 I11 => fin I11 nx
  exact codeAny_compStart_list loop (T.self X.A 0 _ _ _ st4 loop)
end
end DD



set_option Elab.async false
set_option linter.all false
set_option maxRecDepth 100000
set_option maxHeartbeats 4000000
namespace DD
open PySem PySem.Spec PyProof.Rows L2 L2H
def nmL : List V := [.str "refused", .str "large", .str "missing", .str "form", .str "broken"]
/-- the reading of the suite of `_law_told` -/
abbrev rdTold (K : PySem.W.Frag) (Dk a : Addr) (C : Nat → Addr) : TS :=
  tSeq (tAsg (tLst (tCons (tCB (rIsE K Dk a) (tCons (tVar 1) (tCons (tC (V.ref (C 0))) tNil))) (tCons (tCB (rIsE K Dk a) (tCons (tVar 1) (tCons (tC (V.ref (C 1))) tNil)))
    (tCons (tCB (rIsE K Dk a) (tCons (tVar 1) (tCons (tC (V.ref (C 2))) tNil))) (tCons (tCB (rIsE K Dk a) (tCons (tVar 1) (tCons (tC (V.ref (C 3))) tNil))) (tCons (tCB (rIsE K Dk a) (tCons (tVar 1) (tCons (tC (V.ref (C 4))) tNil))) tNil)))))) (gName 2))
  (tSeq (tAsg (tLc (iRng1 (tCons (tC (V.int 5)) tNil)) (gName 4) (tB (tOp (rIxL K) (tVar 2) (tVar 4)))
      (tOp (rIxL K) (tLst (tCons (tC (V.str "refused")) (tCons (tC (V.str "large")) (tCons (tC (V.str "missing")) (tCons (tC (V.str "form")) (tCons (tC (V.str "broken")) tNil)))))) (tVar 4)) [4]) (gName 3))
    (tRet (tTup (tCons (tOp (rIxL K) (tLst (tCons (tC (V.str "odd")) (tCons (tOp (rIxL K) (tOp rCat (tVar 3) (tLst (tCons (tC (V.str "")) tNil))) (tC (V.int 0))) tNil)))
      (tCB (fun xs H Q => (∃ i, xs = [V.int i] ∧ Q (V.int i) H) ∨ ∃ k, xs = [V.bl k] ∧ Q (V.int (if k = true then 1 else 0)) H)
        (tCons (tOp rEq (tCB (fun xs H Q => ∃ p ys, xs = [V.ref p] ∧ (SqL K H p ys ∨ SqT K H p ys) ∧ Q (V.int ys.length) H) (tCons (tVar 3) tNil)) (tC (V.int 1))) tNil))) tNil))))
theorem lt_line {n : Nat} (h : n ≤ 1000) : n < sizeLine := by rw [sizeLine_eq]; omega
theorem le_line {n : Nat} (h : n ≤ 1000) : n ≤ sizeLine := Nat.le_of_lt (lt_line h)
theorem relRef {p : Addr} : ∀ u, RelV (.ref p) u → u = .ref p := fun u h => h
theorem rdTold_ok {K : PySem.W.Frag} {Dk a : Addr} {C : Nat → Addr} {k : Nat} {D : Ends} {σ' : L2.St} {H : Hp} (hk : k < 3) (his : ∀ j < 5, PySem.W.kitOne K (.ref Dk) (.ref (C j)) = some (decide (k = j))) (hl : σ'.length = 5)
    (hr : ∀ p H'', Le H H'' → H p = none → H'' p = some (.tup [.str (nmT k)]) → D.rt (.ref p) H'') : rdTold K Dk a C D (σ'.set 1 (some (.ref a))) H := by
  match σ', hl with
  | [x0, x1, x2, x3, x4], _ =>
  have one : ∀ (j : Nat) (σ : L2.St) (H : Hp) (Q : VK), j < 5 → σ[1]? = some (some (.ref a)) → Q (.bl (decide (k = j))) H → tCB (rIsE K Dk a) (tCons (tVar 1) (tCons (tC (V.ref (C j))) tNil)) σ H Q := fun j σ H Q hj h q =>
    ⟨_, h, .ref (C j), .ref (C j), _, rfl, relRef, his j hj, q⟩
  refine one 0 _ _ _ (by omega) rfl (one 1 _ _ _ (by omega) rfl (one 2 _ _ _ (by omega) rfl (one 3 _ _ _ (by omega) rfl (one 4 _ _ _ (by omega) rfl ⟨le_line (by simp), fun p1 h1 => ?_⟩))))
  have l1 : Le H (upd H p1 (.lst [.bl (decide (k = 0)), .bl (decide (k = 1)), .bl (decide (k = 2)), .bl (decide (k = 3)), .bl (decide (k = 4))])) := Le.upd h1
  have e1 : upd H p1 (.lst [.bl (decide (k = 0)), .bl (decide (k = 1)), .bl (decide (k = 2)), .bl (decide (k = 3)), .bl (decide (k = 4))]) p1 = _ := upd_same
  generalize upd H p1 (.lst [.bl (decide (k = 0)), .bl (decide (k = 1)), .bl (decide (k = 2)), .bl (decide (k = 3)), .bl (decide (k = 4))]) = H1 at l1 e1
  show tSeq _ _ D [x0, some (.ref a), some (.ref p1), x3, x4] H1
  refine ⟨5, rfl, by decide, by decide, fun D1 hD1 => ⟨fun i m H2 => m + i = 5 ∧ Le H1 H2 ∧ H2 D1 = some (.lst (if k < i then [.str (nmT k)] else [])), ⟨5, rfl, Le.upd hD1, upd_same⟩, fun i m H2 hW => ?_⟩⟩
  obtain ⟨hm, l2, e2⟩ := hW
  by_cases hi : i < 5
  · refine .inr ⟨hi, fun H' => ∃ m', m' < m ∧ (m' + (i + 1) = 5 ∧ Le H1 H' ∧ H' D1 = some (.lst (if k < i + 1 then [.str (nmT k)] else []))), fun H' h => h, fun x H' hy => ?_⟩
    obtain ⟨rfl, rfl⟩ := hy
    show _ ∧ _
    refine ⟨rfl, .ref p1, rfl, .int (0 + i), rfl, p1, _, 0 + i, .bl (decide (k = i)), rfl, rfl, .inl (.inl (l2 _ _ e1)), ?_, _, rfl, ?_⟩
    · match i, hi with
      | 0, _ => rfl
      | 1, _ => rfl
      | 2, _ => rfl
      | 3, _ => rfl
      | 4, _ => rfl
    · by_cases hki : k = i
      · rw [decide_eq_true hki]; show (if true = true then _ else _); rw [if_pos (show true = true from rfl)]
        refine ⟨le_line (by simp), fun p2 h2 => ⟨.int (0 + i), rfl, p2, _, 0 + i, .str (nmT i), rfl, rfl, .inl (.inl upd_same), ?_, [], ?_, lt_line (by simp), m - 1, by omega, by omega, ?_, ?_⟩⟩
        · match i, hi with
          | 0, _ => rfl
          | 1, _ => rfl
          | 2, _ => rfl
          | 3, _ => rfl
          | 4, _ => rfl
        · rw [upd_ne (ne_of_none e2 h2), e2, if_neg (by omega)]
        · refine fun b o e => ?_
          rw [upd_ne (ne_of_none e hD1), upd_ne (ne_of_none (l2 _ _ e) h2)]
          exact l2 _ _ e
        · rw [upd_same, if_pos (by omega), hki]; rfl
      · rw [decide_eq_false hki]; show (if false = true then _ else _); rw [if_neg (show ¬false = true from fun z => nomatch z)]
        refine ⟨m - 1, by omega, by omega, l2, ?_⟩
        rw [e2]
        by_cases q : k < i
        · rw [if_pos q, if_pos (by omega)]
        · rw [if_neg q, if_neg (by omega)]
  · refine .inl ⟨Nat.not_lt.mp hi, ?_⟩
    have i5 : i = 5 := by omega
    subst i5
    rw [if_pos (by omega)] at e2
    refine ⟨.ref D1, rfl, le_line (by simp), fun p3 h3 => ⟨D1, p3, [.str (nmT k)], [.str ""], rfl, rfl, by rw [upd_ne (ne_of_none e2 h3)]; exact e2, upd_same, le_line (by simp), fun p4 h4 => ?_⟩⟩
    generalize hH4 : upd (upd H2 p3 (.lst [.str ""])) p4 (.lst ([.str (nmT k)] ++ [.str ""])) = H4
    have l4 : Le H2 H4 := by rw [← hH4]; exact (Le.upd h3).trans (Le.upd h4)
    have e4 : H4 p4 = some (.lst ([.str (nmT k)] ++ [.str ""])) := by rw [← hH4]; exact upd_same
    refine ⟨p4, _, 0, .str (nmT k), rfl, rfl, .inl (.inl e4), rfl, le_line (by simp), fun p5 h5 => ?_⟩
    generalize hH5 : upd H4 p5 (.lst [.str "odd", .str (nmT k)]) = H5
    have l5 : Le H4 H5 := by rw [← hH5]; exact Le.upd h5
    have e5 : H5 p5 = some (.lst [.str "odd", .str (nmT k)]) := by rw [← hH5]; exact upd_same
    refine ⟨.ref D1, rfl, D1, [.str (nmT k)], rfl, .inl (.inl (.inl (l5 _ _ (l4 _ _ e2)))), rfl, ?_⟩
    refine .inr ⟨_, rfl, p5, _, 1, .str (nmT k), rfl, rfl, .inl (.inl e5), rfl, le_line (by simp), fun p6 h6 => ?_⟩
    have l6 : Le H H5 := l1.trans (l2.trans (l4.trans l5))
    exact hr p6 _ (l6.trans (Le.upd h6)) (l6.free h6) upd_same
end DD



set_option Elab.async false
set_option linter.all false
set_option maxRecDepth 100000
set_option maxHeartbeats 4000000
namespace DD
open PySem PySem.Spec PyProof.Rows L2
/-! a def of the text keeps its spec -/
def startE (m : Nat) (ds : List D) : Env := ds.map .v ++ List.replicate (m - ds.length) .un
theorem getS_app : ∀ (l r : List Sl) (i : Nat), getS (l ++ r) i = if i < l.length then getS l i else getS r (i - l.length)
  | [], r, i => by simp
  | s :: l, r, 0 => by simp [getS]
  | s :: l, r, i + 1 => by
    show getS (l ++ r) i = _
    rw [getS_app l r i]
    simp only [List.length_cons, Nat.add_lt_add_iff_right, getS, Nat.reduceSubDiff]
theorem getS_v : ∀ (ds : List D) (i : Nat) (d : D), getS (ds.map Sl.v) i = .v d → ds[i]? = some d
  | [], i, d, h => by simp [getS] at h
  | x :: ds, 0, d, h => by simp [getS] at h; simp [h]
  | x :: ds, i + 1, d, h => by simpa using getS_v ds i d h
theorem getS_vs : ∀ (ds : List D) (i : Nat), getS (ds.map Sl.v) i = .un ∨ ∃ d, getS (ds.map Sl.v) i = .v d
  | [], _ => .inl rfl
  | x :: ds, 0 => .inr ⟨x, rfl⟩
  | x :: ds, i + 1 => getS_vs ds i
theorem getS_uns : ∀ (m i : Nat), getS (List.replicate m Sl.un) i = .un
  | 0, _ => rfl
  | m + 1, 0 => rfl
  | m + 1, i + 1 => getS_uns m i
theorem startE_get (m : Nat) (ds : List D) (i : Nat) : getS (startE m ds) i = .un ∨ ∃ d, ds[i]? = some d ∧ getS (startE m ds) i = .v d := by
  unfold startE
  rw [getS_app]
  split
  · rcases getS_vs ds i with h | ⟨d, h⟩
    · exact .inl h
    · exact .inr ⟨d, getS_v ds i d h, h⟩
  · exact .inl (getS_uns _ _)
theorem ER.start {κ : Kit} {H F : Hp} {n : Nat} {N : List Str} {vs : List V} {ds : List D} (w : Wd κ H F n) (r : RpA κ.K κ.sa F vs ds) : ER κ H F (startE N.length ds) (L2.start N vs) H F n := by
  refine ⟨by simp [startE, L2.start, r.len], w, Fr.refl, fun i => ?_, fun i j es es' a _ h _ _ => ?_⟩
  · rcases startE_get N.length ds i with h | ⟨d, e, h⟩
    · rw [h]; trivial
    · rw [h]
      obtain ⟨v, e1, e2⟩ := r.get e
      refine ⟨v, ?_, e2⟩
      have hi : i < vs.length := (List.getElem?_eq_some_iff.mp e1).1
      unfold L2.start
      rw [List.getElem?_append_left (by simpa using hi), List.getElem?_map, e1]; rfl
  · rcases startE_get N.length ds i with q | ⟨d, _, q⟩ <;> rw [q] at h <;> cases h
/-- what a loop and a raise ask of a def's context -/
theorem fnG_of {κ : Kit} {P : Program} {w : World} {mg : Str → Option Value} {base : Heap} {x qual : Str} {st : Stmt} {f : Addr} {fd : FuncData} {N ps : List Str} {k : Nat} {sp : Sp} (F : L2.Fun κ.K x qual st f fd) (S : FnScope N ps (defScope st)) (len : ∀ vs H Q E, sp vs H Q E → vs.length = ps.length)
    (hbody : ∀ (cdv : Value) (A : Around) (outer : List PySem.Env) (s : Shared) (H : Hp) (vs : List V) (Q : VK) (E : XK), (∃ (oc : Value) (od : Option Addr) (kV doc pm : Value) (an : Option Addr) (ct : Value) (osl : Array (Option Value)), κ.K.lookup f = some ⟨oc, od, .func (PySem.W.fnOf x qual (defArgs st) (defBody st) (defScope st) .none kV doc pm an cdv ct), osl⟩) →
      A.guards = some [] → Room k (A.deeper (envOfC qual (defScope st) s.heap.objs.size f cdv)) → sp vs H Q E →
      ∃ t, PSs (cxOf (L2N.CX P w) P w κ.K mg base N qual (defScope st) f cdv A outer s H E) (defBody st) t ∧ t { nx := fun _ H' => Q .non H', rt := Q } (L2.start N vs) H) : FnG P w κ.K mg base (L2N.CX P w) (k + 1) f fd ps sp := by
  obtain ⟨oc, od, kV, doc, pm, an, cdv, ct, osl, rfl, lk, hcd⟩ := F.ex
  exact ⟨len, fun A outer s H args us vs Q E hg hr e0 hb r hsp => LamX.run_ofS lk hcd S hr e0 hb r (len _ _ _ _ hsp) fun hr' => hbody cdv A outer s H vs Q E ⟨_, _, _, _, _, _, _, _, lk⟩ hg hr' hsp⟩
/-- the context of a def's body -/
theorem dok_cx {κ : Kit} {P : Program} {w : World} {mg : Str → Option Value} {base : Heap} {N : List Str} {qual : Str} {sc : Scope} {f : Addr} {cdv : Value} {A : Around} {outer : List PySem.Env} {s : Shared} {H : Hp} {E : XK} (nd : N.Nodup) (hk : sc.kind = .function) (hg : A.guards = some [])
    (hr : Room κ.lv (A.deeper (envOfC qual sc s.heap.objs.size f cdv))) (gl : Glob κ P w mg base) : Dok κ N sc (cxOf (L2N.CX P w) P w κ.K mg base N qual sc f cdv A outer s H E) E where
  hK := rfl
  hN := rfl
  nd := nd
  kind := hk
  sc := rfl
  calm := rfl
  room := hr
  gd := hg
  tk := L2N.takes_of rfl rfl rfl rfl
  gl := gl
  fn := fun _ => rfl
  own := PassesOwn.leaving
abbrev endK (Q : K1) (X : XK1) : Kn := ⟨fun _ n => Q .none n, Q, fun _ _ => False, fun _ _ => False, X⟩
theorem KOk.ends {κ : Kit} {H F : Hp} {Qd : K1} {Xd : XK1} {Q : VK} {E : XK} (hq : ∀ d n' v H' F', Qd d n' → Wd κ H' F' n' → Fr κ.sa H F H' F' → Rp κ.K κ.sa F' v d → Q v H') (hx : ∀ k n' H' F', Xd k n' → Wd κ H' F' n' → Fr κ.sa H F H' F' → E (κ.cls k) none H') :
    KOk κ E H F F (endK Qd Xd) { nx := fun _ H' => Q .non H', rt := Q } :=
  ⟨fun env' n' σ' H' F' q er _ => hq _ n' .non H' F' q er.wd er.fr .non, hq, fun _ _ _ _ _ q => q.elim, fun _ _ _ _ _ q => q.elim, hx⟩
/-- THE RULE: a def whose body is matched, its lambdas' facts at hand -/
theorem def_ok {κ : Kit} {P : Program} {w : World} {mg : Str → Option Value} {base : Heap} {x qual : Str} {st : Stmt} {f : Addr} {fd : FuncData} {N ps : List Str} {ss : Ss} {sp : Sg} {np : Nat} {tl : Bool} (F : L2.Fun κ.K x qual st f fd) (S : FnScope N ps (defScope st)) (hn : ps.length = np)
    (gl : Glob κ P w mg base) (hm : mtSs κ.s N tl (defScope st) ss (defBody st) = true)
    (ht : tl = true → ∀ (cdv : Value) (A : Around) (outer : List PySem.Env) (s : Shared) (H : Hp) (E : XK), (∃ (oc : Value) (od : Option Addr) (kV doc pm : Value) (an : Option Addr) (ct : Value) (osl : Array (Option Value)), κ.K.lookup f = some ⟨oc, od, .func (PySem.W.fnOf x qual (defArgs st) (defBody st) (defScope st) .none kV doc pm an cdv ct), osl⟩) →
      A.guards = some [] → Room κ.lv (A.deeper (envOfC qual (defScope st) s.heap.objs.size f cdv)) → Told κ N (defScope st) (cxOf (L2N.CX P w) P w κ.K mg base N qual (defScope st) f cdv A outer s H E) E)
    (sem : ∀ ds n Qd Xd, sp ds n Qd Xd → wSs κ.Γ κ.G ss (startE N.length ds) n (endK Qd Xd)) : FnG P w κ.K mg base (L2N.CX P w) (κ.lv + 1) f fd ps (lift κ np sp) := by
  refine fnG_of F S (fun vs H Q E h => h.1.trans hn.symm) fun cdv A outer s H vs Q E lk hg hr ⟨hl, F0, n, ds, Qd, Xd, wd, ra, hsp, hq, hx⟩ => ?_
  exact ⟨_, sSs ss (dok_cx S.nd S.kind hg hr gl) (fun z => ht z cdv A outer s H E lk hg hr) hm, H, F0, _, F0, n, _, ER.start wd ra, sem ds n Qd Xd hsp, KOk.ends hq hx⟩
/-! repr -/
theorem call_reprD {X : Cx} (hg : X.A.guards = some []) (hu : X.A.units + 64 < cLine) : CallR X (.builtin "repr") (fun xs H Q => ∃ a d, xs = [.ref a] ∧ Dp X.K H (.ref a) d ∧ d.showable = true ∧ d.hasDict = false ∧ d.depth ≤ 60 ∧ d.shown.length ≤ sizeLine ∧ Q (.str d.shown) H) := by
  intro pins s σ H xs us Q I r h
  obtain ⟨a, d, rfl, dp, h1, h2, h3, h4, q⟩ := h
  obtain ⟨u, rfl, rx⟩ := vals1 r
  obtain rfl : u = Value.ref a := rx
  obtain ⟨as, hr⟩ := Dp.reads I d (.ref a) (.ref a) dp rfl
  exact repr_of_reads' hr h1 (fun z => by rw [h2] at z; cases z) hg (by omega) (fun _ _ e => e) (fun h' u tk k => ⟨.str d.shown, H, I.kept k, ⟨_, rfl⟩, q⟩) h4
end DD



set_option Elab.async false
set_option linter.all false
set_option maxRecDepth 100000
set_option maxHeartbeats 4000000
namespace DD
open PySem PySem.Spec PyProof.Rows L2
structure KLe (K K' : Kn) : Prop where
  nx : ∀ e n, K.nx e n → K'.nx e n
  rt : ∀ d n, K.rt d n → K'.rt d n
  bk : ∀ e n, K.bk e n → K'.bk e n
  ct : ∀ e n, K.ct e n → K'.ct e n
  xd : ∀ k n, K.xd k n → K'.xd k n
theorem KLe.refl (K : Kn) : KLe K K := ⟨fun _ _ h => h, fun _ _ h => h, fun _ _ h => h, fun _ _ h => h, fun _ _ h => h⟩
theorem wFor_mono {b b' : Env → Nat → Kn → Prop} {tg : Tg} {dead : List Nat} (hb : ∀ e n K K', KLe K K' → b e n K → b' e n K') : ∀ (ds : List D) {e : Env} {n : Nat} {K K' : Kn}, KLe K K' → wFor b tg dead ds e n K → wFor b' tg dead ds e n K'
  | [], _, _, _, _, l, h => l.nx _ _ h
  | d :: ds, _, _, _, _, l, h => by
    obtain ⟨e', h1, h2⟩ := h
    refine ⟨e', h1, hb _ _ _ _ ?_ h2⟩
    exact ⟨fun e n q => wFor_mono hb ds l q, l.rt, fun e n q => l.nx _ _ q, fun e n q => wFor_mono hb ds l q, l.xd⟩
section
variable {Γ : Gam} {G : Nat → D} (hΓ : MonoG Γ)
include hΓ
mutual
theorem wS_mono : ∀ (s : S) {e : Env} {n : Nat} {K K' : Kn}, KLe K K' → wS Γ G s e n K → wS Γ G s e n K'
  | .asg i a, _, _, _, _, l, h => by unfold wS at h ⊢; exact wE_mono hΓ a (fun _ _ q => l.nx _ _ q) l.xd h
  | .asgO i a, _, _, _, _, l, h => by unfold wS at h ⊢; exact wE_mono hΓ a (fun _ _ ⟨m, e, q⟩ => ⟨m, e, l.nx _ _ q⟩) l.xd h
  | .asgT is a, _, _, _, _, l, h => by unfold wS at h ⊢; exact wE_mono hΓ a (fun _ _ ⟨e', h1, h2⟩ => ⟨e', h1, l.nx _ _ h2⟩) l.xd h
  | .par i j a b, _, _, _, _, l, h => by unfold wS at h ⊢; exact wE_mono hΓ a (fun _ _ q => wE_mono hΓ b (fun _ _ q => l.nx _ _ q) l.xd q) l.xd h
  | .par3 i j k a b c, _, _, _, _, l, h => by unfold wS at h ⊢; exact wE_mono hΓ a (fun _ _ q => wE_mono hΓ b (fun _ _ q => wE_mono hΓ c (fun _ _ q => l.nx _ _ q) l.xd q) l.xd q) l.xd h
  | .parO i j a b, _, _, _, _, l, h => by unfold wS at h ⊢; exact wE_mono hΓ a (fun _ _ ⟨m, e, q⟩ => ⟨m, e, wE_mono hΓ b (fun _ _ q => l.nx _ _ q) l.xd q⟩) l.xd h
  | .parQ i j a b, _, _, _, _, l, h => by unfold wS at h ⊢; exact wE_mono hΓ a (fun _ _ q => wE_mono hΓ b (fun _ _ ⟨m, e, q⟩ => ⟨m, e, l.nx _ _ q⟩) l.xd q) l.xd h
  | .par3O i j k a b c, _, _, _, _, l, h => by unfold wS at h ⊢; exact wE_mono hΓ a (fun _ _ ⟨m, e, q⟩ => ⟨m, e, wE_mono hΓ b (fun _ _ q => wE_mono hΓ c (fun _ _ q => l.nx _ _ q) l.xd q) l.xd q⟩) l.xd h
  | .setO i ix a, _, _, _, _, l, h => by
    unfold wS at h ⊢
    obtain ⟨m, h1, h2⟩ := h
    exact ⟨m, h1, wE_mono hΓ a (fun _ _ q => wE_mono hΓ ix (fun _ _ ⟨j, m, e1, e2, q⟩ => ⟨j, m, e1, e2, l.nx _ _ q⟩) l.xd q) l.xd h2⟩
  | .app i a, _, _, _, _, l, h => by
    unfold wS at h ⊢
    obtain ⟨m, h1, h2⟩ := h
    exact ⟨m, h1, wE_mono hΓ a (fun _ _ q => ⟨q.1, l.nx _ _ q.2⟩) l.xd h2⟩
  | .ext i a, _, _, _, _, l, h => by
    unfold wS at h ⊢
    obtain ⟨m, h1, h2⟩ := h
    exact ⟨m, h1, wE_mono hΓ a (fun _ _ ⟨m, e1, e2, q⟩ => ⟨m, e1, e2, l.nx _ _ q⟩) l.xd h2⟩
  | .ret a, _, _, _, _, l, h => by unfold wS at h ⊢; exact wE_mono hΓ a (fun _ _ q => l.rt _ _ q) l.xd h
  | .retO i, _, _, _, _, l, h => by
    unfold wS at h ⊢
    obtain ⟨m, h1, h2⟩ := h
    exact ⟨m, h1, l.rt _ _ h2⟩
  | .retN, _, _, _, _, l, h => by unfold wS at h ⊢; exact l.rt _ _ h
  | .ite c a b, _, _, _, _, l, h => by unfold wS at h ⊢; exact wT_mono hΓ c (fun _ _ q => ⟨fun z => wSs_mono a l (q.1 z), fun z => wSs_mono b l (q.2 z)⟩) l.xd h
  | .for_ tg it body dead, _, _, _, _, l, h => by unfold wS at h ⊢; refine wIt_mono hΓ it (fun ds _ q => ?_) l.xd h; exact wFor_mono (b := fun env n K => wSs Γ G body env n K) (b' := fun env n K => wSs Γ G body env n K) (fun _ _ _ _ l q => wSs_mono body l q) ds l q
  | .while_ c body dead, _, _, _, _, l, h => by
    unfold wS at h ⊢
    obtain ⟨W, h1, h2⟩ := h
    refine ⟨W, h1, fun m e n w => wT_mono hΓ c (fun _ _ q => ⟨fun z => ?_, fun z => l.nx _ _ (q.2 z)⟩) l.xd (h2 m e n w)⟩
    refine wSs_mono body ?_ (q.1 z)
    exact ⟨fun _ _ q => q, l.rt, fun _ _ q => l.nx _ _ q, fun _ _ q => q, l.xd⟩
  | .expr a, _, _, _, _, l, h => by unfold wS at h ⊢; exact wE_mono hΓ a (fun _ _ q => l.nx _ _ q) l.xd h
  | .raise k, _, _, _, _, l, h => by unfold wS at h ⊢; exact l.xd _ _ h
  | .pass, _, _, _, _, l, h => by unfold wS at h ⊢; exact l.nx _ _ h
  | .brk, _, _, _, _, l, h => by unfold wS at h ⊢; exact l.bk _ _ h
  | .cont, _, _, _, _, l, h => by unfold wS at h ⊢; exact l.ct _ _ h
theorem wSs_mono : ∀ (ss : Ss) {e : Env} {n : Nat} {K K' : Kn}, KLe K K' → wSs Γ G ss e n K → wSs Γ G ss e n K'
  | .nil, _, _, _, _, l, h => by unfold wSs at h ⊢; exact l.nx _ _ h
  | .cons s ss, _, _, _, _, l, h => by unfold wSs at h ⊢; refine wS_mono s ?_ h; exact ⟨fun _ _ q => wSs_mono ss l q, l.rt, l.bk, l.ct, l.xd⟩
  | .fz i ss, _, _, _, _, l, h => by
    unfold wSs at h ⊢
    obtain ⟨m, h1, h2⟩ := h
    exact ⟨m, h1, wSs_mono ss l h2⟩
end
end
/-- a for loop by an invariant: I of what is still to come -/
theorem wFor_inv {b : Env → Nat → Kn → Prop} {tg : Tg} {dead : List Nat} {K : Kn} (I : List D → Env → Nat → Prop) (hb : ∀ e n K K', KLe K K' → b e n K → b e n K')
    (hn : ∀ e n, I [] e n → K.nx (clrS e dead) n)
    (hs : ∀ d ds e n, I (d :: ds) e n → wBnd tg d (clrS e dead) fun e' => b e' n { K with nx := fun e n => I ds e n, ct := fun e n => I ds e n, bk := fun e n => K.nx (clrS e dead) n }) :
    ∀ (ds : List D) (e : Env) (n : Nat), I ds e n → wFor b tg dead ds e n K
  | [], e, n, h => hn e n h
  | d :: ds, e, n, h => by
    obtain ⟨e', h1, h2⟩ := hs d ds e n h
    refine ⟨e', h1, hb _ _ _ _ ?_ h2⟩
    exact ⟨fun e n q => wFor_inv I hb hn hs ds e n q, fun _ _ q => q, fun _ _ q => q, fun e n q => wFor_inv I hb hn hs ds e n q, fun _ _ q => q⟩
end DD



set_option Elab.async false
set_option linter.all false
set_option maxRecDepth 100000
set_option maxHeartbeats 4000000
namespace DD
open PySem PySem.Spec PyProof.Rows L2
/-! the promises, one def after another -/
def Kit.at (κ : Kit) (lv : Nat) (L : List Nat) : Kit := { κ with lv := lv, s := { κ.s with L := L } }
theorem Wd.at {κ : Kit} {l l' : Nat} {L L' : List Nat} {H F : Hp} {n : Nat} (w : Wd (κ.at l L) H F n) : Wd (κ.at l' L') H F n := ⟨w.le, w.nt, w.tab, w.st⟩
theorem lift_at {κ : Kit} {l l' : Nat} {L L' : List Nat} {np : Nat} {sp : Sg} {vs : List V} {H : Hp} {Q : VK} {E : XK} (h : lift (κ.at l L) np sp vs H Q E) : lift (κ.at l' L') np sp vs H Q E := by
  obtain ⟨hl, F, n, ds, Qd, Xd, wd, ra, hs, hq, hx⟩ := h
  exact ⟨hl, F, n, ds, Qd, Xd, wd.at, ra, hs, fun d n' v H' F' q wd' fr r => hq d n' v H' F' q wd'.at fr r, fun k n' H' F' q wd' fr => hx k n' H' F' q wd'.at fr⟩
section
variable {κ : Kit} {P : Program} {w : World} {mg : Str → Option Value} {base : Heap} {l l' : Nat} {L L' : List Nat}
theorem DefOk.at {f : Nat} (d : DefOk (κ.at l L) P w mg base f) (h : l ≤ l') : DefOk (κ.at l' L') P w mg base f := by
  obtain ⟨a, fd, ps, e1, e2, e3, e4, e5⟩ := d.ex
  exact ⟨d.len, a, fd, ps, e1, e2, e3, e4, (e5.mono h).imp fun vs H Q E q => lift_at q⟩
/-- without any promise -/
structure Glob0 (κ : Kit) (P : Program) (w : World) (mg : Str → Option Value) (base : Heap) : Prop where
  glb : ∀ g ∈ κ.gl, ∃ u v, mg (κ.gn g) = some u ∧ RelV v u ∧ ∀ F, Rp κ.K κ.sa F v (κ.G g)
  blt : ∀ x ∈ bltNames, mg x = none
  exc : ∀ k ∈ κ.ks, ∃ C : Addr, κ.cls k = .ref C ∧ mg (κ.en k) = some (.ref C) ∧ PySem.W.excIn κ.K C [.type "ValueError", .type "Exception", .type "BaseException", .type "object"] "ValueError.__new__" = true ∧ PySem.W.keepIn κ.K (.ref C) = true ∧
    PySem.W.subIn κ.K (.ref C) (.type "BaseException") = some true ∧ PySem.W.typeIn κ.K (.ref C) = some (.type "type")
theorem Glob0.start (g : Glob0 κ P w mg base) : Glob (κ.at 0 []) P w mg base := ⟨fun f h => absurd (show f ∈ ([] : List Nat) from h) (by simp), g.glb, g.blt, g.exc⟩
/-- a promise more -/
theorem Glob.addF {f : Nat} {a : Addr} {fd : FuncData} {ps : List Str} (g : Glob (κ.at l L) P w mg base) (hm : mg (κ.dn f) = some (.ref a)) (kp : PySem.W.keepIn κ.K (.ref a) = true) (hb : L2.Binds κ.K fd ps []) (hn : ps.length = κ.ar f)
    (hl : ∀ ds n Q X, κ.Γ f ds n Q X → ds.length = κ.ar f) (F : FnG P w κ.K mg base (L2N.CX P w) (l + 1) a fd ps (lift (κ.at l L) (κ.ar f) (κ.Γ f))) : Glob (κ.at (l + 1) (f :: L)) P w mg base := by
  refine ⟨fun i hi => ?_, g.glb, g.blt, g.exc⟩
  rcases List.mem_cons.mp (show i ∈ f :: L from hi) with e | e
  · subst e
    exact ⟨hl, a, fd, ps, hm, kp, hb, hn, F.imp fun vs H Q E q => lift_at q⟩
  · exact (g.defs i e).at (Nat.le_succ _)
/-- what is known of a def of the text -/
structure DefIn (κ : Kit) (mg : Str → Option Value) (x : Str) (st : Stmt) (ps : List Str) (a : Addr) (fd : FuncData) : Prop where
  fn : L2.Fun κ.K x x st a fd
  mg : mg x = some (.ref a)
  bd : L2.Binds κ.K fd ps []
theorem Glob.add {f : Nat} {a : Addr} {fd : FuncData} {ps N : List Str} {st : Stmt} {ss : Ss} (g : Glob (κ.at l L) P w mg base) (d : DefIn κ mg (κ.dn f) st ps a fd) (hn : ps.length = κ.ar f) (hl : ∀ ds n Q X, κ.Γ f ds n Q X → ds.length = κ.ar f)
    (S : FnScope N ps (defScope st)) (hm : mtSs (κ.at l L).s N false (defScope st) ss (defBody st) = true) (sem : ∀ ds n Qd Xd, κ.Γ f ds n Qd Xd → wSs κ.Γ κ.G ss (startE N.length ds) n (endK Qd Xd)) : Glob (κ.at (l + 1) (f :: L)) P w mg base :=
  g.addF d.mg d.fn.kp d.bd hn hl (def_ok (κ := κ.at l L) d.fn S hn g hm (fun z => nomatch z) sem)
end
end DD



set_option Elab.async false
set_option linter.all false
set_option maxRecDepth 100000
set_option maxHeartbeats 4000000
namespace DD
open PySem PySem.Spec PyProof.Rows L2
open LamX (TabB)
/-! the end: the law's promise where nothing is being shown -/
/-- the abstract heap at the law's call: the tables, and the script (if it is new) -/
structure Ent (K : PySem.W.Frag) (P : Program) (w : World) (cs : List (Addr × Addr)) (h : Heap) (a : Addr) (ns : List Int) (H : Hp) : Prop where
  tb : ∀ p ∈ cs, H p.2 = some (.tbl #[])
  only : ∀ b, H b = none ∨ b ∈ cs.map (·.2) ∨ ∃ o xs, H b = some (.frz o (.lst xs))
  sq : SqL K H a (ns.map V.int)
  ok : HOk P w H h
  at_ : ∀ b, H b ≠ none → b = a ∨ b ∈ cs.map (·.2)
  new : H a ≠ none → K.lookup a = none
section
variable {P : Program} {w : World} {K : PySem.W.Frag} {cs : List (Addr × Addr)} {h : Heap} {a : Addr} {vs : List Value} {ns : List Int}
theorem ent_some (hT : ∀ p ∈ cs, h.get? p.2 = some { cls := .none, data := .fields #[] }) (ha : h.get? a = some { cls := .type "list", data := .seq vs.toArray }) (hi : IntsAre vs ns) (hl : ns.length ≤ sizeLine) (KX : K.In h) : ∃ H, Ent K P w cs h a ns H := by
  have rv := vals_ints hi
  have lenV := hi.length
  have isT : ∀ b : Addr, b ∈ cs.map (·.2) → h.get? b = some { cls := .none, data := .fields #[] } := fun b hb => by
    obtain ⟨p, hp, rfl⟩ := List.mem_map.mp hb
    exact hT p hp
  have aT : a ∉ cs.map (·.2) := fun z => by
    have q := isT a z
    rw [ha] at q
    have z' : Data.seq vs.toArray _ = Data.fields #[] := congrArg Obj.data (Option.some.inj q)
    cases z'
  let T : Hp := fun b => if b ∈ cs.map (·.2) then some (.tbl #[]) else none
  have T1 : ∀ {b}, b ∈ cs.map (·.2) → T b = some (.tbl #[]) := fun h => if_pos h
  have T0 : ∀ {b}, b ∉ cs.map (·.2) → T b = none := fun h => if_neg h
  have okT : HOk P w T h := fun b u z => by
    by_cases hb : b ∈ cs.map (·.2)
    · rw [T1 hb] at z; cases z; exact isT b hb
    · rw [T0 hb] at z; cases z
  cases hk : K.lookup a with
  | some o =>
    have e := KX a o hk
    rw [ha] at e
    cases e
    refine ⟨T, fun p hp => T1 (List.mem_map.mpr ⟨p, hp, rfl⟩), fun b => ?_, .inr ⟨_, vs.toArray, _, hk, rfl, rfl, rfl, by rw [List.size_toArray, lenV]; exact hl, by simpa using rv⟩, okT, fun b z => ?_, fun z => absurd (T0 aT) z⟩
    · by_cases hb : b ∈ cs.map (·.2)
      · exact .inr (.inl hb)
      · exact .inl (T0 hb)
    · by_cases hb : b ∈ cs.map (·.2)
      · exact .inr hb
      · exact absurd (T0 hb) z
  | none =>
    have Ta : T a = none := T0 aT
    refine ⟨upd T a (.frz { cls := .type "list", data := .seq vs.toArray } (.lst (ns.map V.int))), fun p hp => ?_, fun b => ?_, .inl (.inr ⟨_, upd_same⟩), fun b u z => ?_, fun b z => ?_, fun _ => hk⟩
    · have := T1 (List.mem_map.mpr ⟨p, hp, rfl⟩)
      rw [upd_ne (ne_of_none this Ta)]; exact this
    · by_cases hb : b = a
      · subst hb; exact .inr (.inr ⟨_, _, upd_same⟩)
      · rw [upd_ne hb]
        by_cases hb2 : b ∈ cs.map (·.2)
        · exact .inr (.inl hb2)
        · exact .inl (T0 hb2)
    · by_cases hb : b = a
      · subst hb
        rw [upd_same] at z
        cases z
        exact ⟨ha, by rw [List.length_map]; exact hl, vs, _, rv, ha⟩
      · rw [upd_ne hb] at z
        by_cases hb2 : b ∈ cs.map (·.2)
        · rw [T1 hb2] at z; cases z; exact isT b hb2
        · rw [T0 hb2] at z; cases z
    · by_cases hb : b = a
      · exact .inl hb
      · rw [upd_ne hb] at z
        by_cases hb2 : b ∈ cs.map (·.2)
        · exact .inr hb2
        · exact absurd (T0 hb2) z
theorem law_callG {mg mb : Str → Option Value} {k : Nat} {fa : Addr} {fd : FuncData} {x : Str} {sp : Sp} {s₁ : Shared}
    (KX : K.In s₁.heap) (hns : s₁.heap.Ns mainGlobals mg) (hb : s₁.heap.Ns builtinsNs mb) (hbb : ∀ x : Str, x ≠ "__name__" → mb x = bootBuiltins x) (hlim : s₁.heap.NoLimit) (hg : s₁.gens = #[])
    (hT : ∀ p ∈ cs, s₁.heap.get? p.2 = some { cls := .none, data := .fields #[] }) (nT : ∀ p ∈ cs, K.lookup p.2 = none) (C : ∀ p ∈ cs, PySem.W.CodeHd s₁.heap p.1 p.2)
    (hbm : ∃ (bm : Addr) (ob : Obj), mg "__builtins__" = some (.ref bm) ∧ bm ≠ builtinsNs ∧ s₁.heap.get? bm = some ob ∧ ob.cls = .type "module" ∧ ob.dict = some builtinsNs ∧ ob.data = .plain)
    (ha : s₁.heap.get? a = some { cls := .type "list", data := .seq vs.toArray }) (hi : IntsAre vs ns) (hl : ns.length ≤ sizeLine) (hr : Room k callerA)
    (F : ∀ base : Heap, K.In base → base.Ns mainGlobals mg → (∀ p ∈ cs, TabB base mg p.1 p.2) → FnG P w K mg base (L2N.CX P w) k fa fd [x] sp) (hbind : ∀ (s : Shared) (u : Value), BindsTo s fd ⟨[u], []⟩ [(x, u)])
    (hsp : ∀ H : Hp, (∀ p ∈ cs, H p.2 = some (.tbl #[])) → (∀ b ps, H b = some (.tbl ps) → b ∈ cs.map (·.2)) → SqL K H a (ns.map V.int) → sp [.ref a] H (fun v _ => v = .bl true) fun _ _ _ => False) :
    codeAny (model P w) callerA (.call (.ref fa) ⟨[.ref a], []⟩) (fun r s' => r = .ok (.ret (.bool true)) ∧ OldK s₁.heap s'.heap ∧ s'.os = s₁.os ∧ AllBare s'.gens) s₁ := by
  obtain ⟨H, E⟩ := ent_some (P := P) (w := w) hT ha hi hl KX
  have isT : ∀ b : Addr, b ∈ cs.map (·.2) → s₁.heap.get? b = some { cls := .none, data := .fields #[] } := fun b hb => by
    obtain ⟨p, hp, rfl⟩ := List.mem_map.mp hb
    exact hT p hp
  -- what is no list and no table is not tracked
  have noD : ∀ {b : Addr} {o : Obj}, s₁.heap.get? b = some o → (∀ vs n, o.data ≠ .seq vs n) → o.data ≠ .fields #[] → H b = none := fun {b o} e h1 h2 => Classical.byContradiction fun q => by
    rcases E.at_ b q with rfl | e'
    · rw [ha] at e; cases e; exact h1 _ _ rfl
    · rw [isT b e'] at e; cases e; exact h2 rfl
  have nsK : ∀ {b : Addr} {m : Str → Option Value}, s₁.heap.Ns b m → (hidT s₁.heap H).Ns b m := fun {b m} ⟨o, es, ep, e, d, r⟩ => ⟨o, es, ep, hidT_get e (noD e (fun _ _ z => by rw [d] at z; cases z) (fun z => by rw [d] at z; cases z)), d, r⟩
  have hKb : K.In (hidT s₁.heap H) := fun b o e => hidT_get (KX b o e) (Classical.byContradiction fun q => by
    rcases E.at_ b q with rfl | e'
    · rw [E.new q] at e; cases e
    · obtain ⟨p, hp, rfl⟩ := List.mem_map.mp e'
      rw [nT p hp] at e; cases e)
  have hM : L2.Mod K mg (hidT s₁.heap H) := ⟨hKb, nsK hns, ⟨mb, nsK hb, hbb⟩, hlim.imp fun _ q => ⟨nsK q.1, q.2⟩⟩
  have TB : ∀ p ∈ cs, TabB (hidT s₁.heap H) mg p.1 p.2 := fun p hp => by
    have hTp := hT p hp
    refine ⟨?_, ?_, fun z => ?_⟩
    · obtain ⟨o, us, file, tf, flags, tg, inF, text, tt, e1, r1, r2, r3, rest⟩ := C p hp
      exact ⟨o, us, file, tf, flags, tg, inF, text, tt, hidT_get e1 (noD e1 (fun _ _ z => by rw [r2] at z; cases z) (fun z => by rw [r2] at z; cases z; simp at r3)), r1, r2, r3, rest⟩
    · obtain ⟨bm, ob, b1, b2, b3, b4, b5, b6⟩ := hbm
      have nG : bm ≠ mainGlobals := fun q => by
        obtain ⟨o, es, ep, e, hd, _⟩ := hns
        rw [q, e] at b3; cases b3
        rw [hd] at b6; cases b6
      have nP : bm ≠ p.2 := fun q => by
        rw [q, hTp] at b3; cases b3; cases b6
      exact ⟨bm, ob, b1, b2, nG, nP, hidT_get b3 (noD b3 (fun _ _ z => by rw [b6] at z; cases z) (fun z => by rw [b6] at z; cases z)), b4, b5, b6⟩
    · obtain ⟨o, es, ep, e, hd, _⟩ := hns
      rw [z, hTp] at e; cases e; cases hd
  have e0 : Env0 P w K mg (hidT s₁.heap H) callerA [] s₁ H := ⟨rfl, hM, fun b o e => of_hidT e, Nat.le_of_eq (hidT_size _ _), trivial, fun b hb => absurd (show b ∈ ([] : List Addr) from hb) (by simp), E.ok, .of_eq hg⟩
  have tbl : ∀ b ps, H b = some (.tbl ps) → b ∈ cs.map (·.2) := fun b ps hb => by
    rcases E.only b with z | z | ⟨o, xs, z⟩
    · rw [z] at hb; cases hb
    · exact z
    · rw [z] at hb; cases hb
  refine codeAny_mono ((F _ hKb (nsK hns) TB).run callerA [] s₁ H ⟨[.ref a], []⟩ [.ref a] [.ref a] _ _ rfl hr e0 (hbind s₁ (.ref a)) (.cons rfl .nil) (hsp H E.tb tbl E.sq)) fun r s' hq => ?_
  cases r with
  | error e =>
    obtain ⟨_, _, _, _, _, _, _, _, _, _, _, _, z⟩ := hq
    exact z.elim
  | ok fl =>
    cases fl with
    | next => exact False.elim hq
    | brk => exact False.elim hq
    | cont => exact False.elim hq
    | ret u =>
      obtain ⟨v, H', os, bare, un, hok', r', q⟩ := hq
      obtain rfl : v = .bl true := q
      obtain rfl : u = Value.bool true := r'
      have rest : ∀ b o, b ∉ cs.map (·.2) → s₁.heap.get? b = some o → s'.heap.get? b = some o := fun b o nb e => by
        rcases E.only b with z | z | ⟨ob, xs, z⟩
        · exact un.keep b o e z (by intro y; exact absurd (show b ∈ ([] : List Addr) from y) (by simp)) (by simp)
        · exact absurd z nb
        · obtain ⟨e1, _⟩ := E.ok b _ z
          obtain ⟨e2, _⟩ := hok' b _ (un.frzs b ob _ z)
          rw [e] at e1; cases e1; exact e2
      have grown : ∀ b ∈ cs.map (·.2), ∃ more : Array Value, s'.heap.get? b = some { cls := .none, data := .fields more } := fun b hb => by
        obtain ⟨p, hp, rfl⟩ := List.mem_map.mp hb
        obtain ⟨more, z⟩ := un.tbls p.2 #[] (E.tb p hp)
        exact ⟨_, hok' p.2 _ z⟩
      refine ⟨rfl, ⟨fun b o e => ?_, fun b o e => ?_⟩, os, bare⟩
      · by_cases hb : b ∈ cs.map (·.2)
        · obtain ⟨more, hm⟩ := grown b hb
          have e' := isT b hb
          obtain ⟨p, hp, rfl⟩ := List.mem_map.mp hb
          rw [e'] at e; cases e
          exact .inr (.inl ⟨((C p hp).tab e').isCodeTable, rfl, #[], more, rfl, by rw [Array.empty_append]; exact hm⟩)
        · exact .inl (rest b o hb e)
      · by_cases hb : b ∈ cs.map (·.2)
        · obtain ⟨more, hm⟩ := grown b hb
          exact ⟨_, hm⟩
        · exact ⟨o, rest b o hb e⟩
end
/-- what is known of the law's promise at the head's heap h -/
def LawAtG (l : PySem.W.OpenLaw) (w : World) (K : PySem.W.Frag) (k n : Nat) (x : Str) (mg : Str → Option Value) (fa : Addr) (h : Heap) : Prop :=
  ∃ (fd : FuncData) (cs : List (Addr × Addr)) (sp : Sp), (∀ p ∈ cs, h.get? p.2 = some { cls := .none, data := .fields #[] }) ∧ (∀ p ∈ cs, K.lookup p.2 = none) ∧ (∀ p ∈ cs, PySem.W.CodeHd h p.1 p.2) ∧ (∀ (s : Shared) (u : Value), BindsTo s fd ⟨[u], []⟩ [(x, u)]) ∧
    (∀ (H : Hp) (a : Addr) (ns : List Int), ns.length ≤ n → (∀ z ∈ ns, Builtin.Int.intBits z ≤ 1048576) → (∀ p ∈ cs, H p.2 = some (.tbl #[])) → (∀ b ps, H b = some (.tbl ps) → b ∈ cs.map (·.2)) → SqL K H a (ns.map V.int) → sp [.ref a] H (fun v _ => v = .bl true) fun _ _ _ => False) ∧
    ∀ base : Heap, K.In base → base.Ns mainGlobals mg → (∀ p ∈ cs, TabB base mg p.1 p.2) → FnG l.prog w K mg base (L2N.CX l.prog w) k fa fd [x] sp
theorem walkG {l : PySem.W.OpenLaw} {n k : Nat} {q : Program} {loose : List Str} {XP : (Str → Option Value) → Heap → Prop} {YP : World → Heap → Prop} {d : DefRec} {K : Params → PySem.W.Frag} {x : Str}
    (hn : l.most = some n) (hn2 : n ≤ sizeLine) (hdf : d.params.defaults = []) (hr : Room k callerA) (hY : ∀ (w : World) (h : Heap), YP w h → (K w.params).In h)
    (F : ∀ (w : World) (mg : Str → Option Value) (fa : Addr) (h : Heap), (∀ x d, valOf q x = some d → ∃ v, mg x = some v ∧ ∀ h' : Heap, Reads h' v d []) → XP mg h → YP w h → (K w.params).In h → h.Ns mainGlobals mg → mg d.name = some (.ref fa) → LawAtG l w (K w.params) k n x mg fa h) :
    PySem.W.WalkO q loose XP YP l.row.toRowW d [] (fun f vs => PySem.call f vs) := by
  refine Att.attach_callB hn hdf fun w s₀ s₁ mg mb fa o pm cd doc a vs ns G Y ho hd hcd hmg hobj hints hlen hbits hg => ?_
  have KX := hY w _ Y
  obtain ⟨fd, cs, sp, hT, nT, C, hb, hsp, hF⟩ := F w mg fa _ G.T.const G.X Y KX G.T.g hmg
  exact law_callG KX G.T.g G.T.b G.T.builtins G.T.nolimit hg hT nT C G.T.bmain hobj hints (Nat.le_trans hlen hn2) hr hF hb fun H hH hO hS => hsp H a ns hlen hbits hH hO hS
end DD



set_option Elab.async false
set_option linter.all false
set_option maxRecDepth 100000
set_option maxHeartbeats 4000000
namespace DD
open PySem PySem.Spec PyProof.Rows L2
/-! the meaning, arm by arm (for simp) -/
section
variable {Q : D → Prop} {R : Bool → Prop} {i j : Int} {a b : D} {l m : List D} {x y : Bool} {s t : Str}
theorem wb_add : wBin .add (.int i) (.int j) Q = Q (.int (i + j)) := rfl
theorem wb_sub : wBin .sub (.int i) (.int j) Q = Q (.int (i - j)) := rfl
theorem wb_mul : wBin .mul (.int i) (.int j) Q = (okMul i j ∧ Q (.int (i * j))) := rfl
theorem wb_fdiv : wBin .fdiv (.int i) (.int j) Q = (okDiv j ∧ Q (.int (i.fdiv j))) := rfl
theorem wb_mod : wBin .mod (.int i) (.int j) Q = (j ≠ 0 ∧ Q (.int (i.fmod j))) := rfl
theorem wb_pow : wBin .pow (.int i) (.int j) Q = (CPow i j ∧ Q (.int (i ^ j.toNat))) := rfl
theorem wb_shl : wBin .shl (.int i) (.int j) Q = (CPow i j ∧ Q (.int (i * 2 ^ j.toNat))) := rfl
theorem wb_shr : wBin .shr (.int i) (.int j) Q = (0 ≤ j ∧ Q (.int (i / 2 ^ j.toNat))) := rfl
theorem wb_addL : wBin .add (.list l) (.list m) Q = (okLen (l.length + m.length) ∧ Q (.list (l ++ m))) := rfl
theorem wb_addT : wBin .add (.tuple l) (.tuple m) Q = (okLen (l.length + m.length) ∧ Q (.tuple (l ++ m))) := rfl
theorem wb_mulL : wBin .mul (.list l) (.int j) Q = ((-(2 ^ 40) < j ∧ j < 2 ^ 40 ∧ okLen (l.length * j.toNat)) ∧ Q (.list (List.replicate j.toNat l).flatten)) := rfl
theorem wc_lt : wCmp .lt (.int i) (.int j) R = R (decide (i < j)) := rfl
theorem wc_le : wCmp .le (.int i) (.int j) R = R (decide (i ≤ j)) := rfl
theorem wc_gt : wCmp .gt (.int i) (.int j) R = R (decide (j < i)) := rfl
theorem wc_ge : wCmp .ge (.int i) (.int j) R = R (decide (j ≤ i)) := rfl
theorem wc_eq : wCmp .eq a b R = ((Shp a ∧ Shp b) ∧ R (PyData.eqv a b)) := by cases a <;> cases b <;> rfl
theorem wc_ne : wCmp .ne a b R = ((Shp a ∧ Shp b) ∧ R (!PyData.eqv a b)) := by cases a <;> cases b <;> rfl
theorem wc_isN0 : wCmp .isN .none .none R = R true := rfl
theorem wc_isN1 : wCmp .isN (.int i) .none R = R false := rfl
theorem wc_isN2 : wCmp .isN (.bool x) .none R = R false := rfl
theorem wc_isN3 : wCmp .isN (.str s) .none R = R false := rfl
theorem wc_isN4 : wCmp .isN (.list l) .none R = R false := rfl
theorem wc_isN5 : wCmp .isN (.tuple l) .none R = R false := rfl
theorem wc_notN0 : wCmp .notN .none .none R = R false := rfl
theorem wc_notN1 : wCmp .notN (.int i) .none R = R true := rfl
theorem wc_notN2 : wCmp .notN (.bool x) .none R = R true := rfl
theorem wc_notN3 : wCmp .notN (.str s) .none R = R true := rfl
theorem wc_notN4 : wCmp .notN (.list l) .none R = R true := rfl
theorem wc_notN5 : wCmp .notN (.tuple l) .none R = R true := rfl
theorem wt_n : wTru .none R = R false := rfl
theorem wt_b : wTru (.bool x) R = R x := rfl
theorem wt_i : wTru (.int i) R = R (i != 0) := rfl
theorem wt_l : wTru (.list l) R = R (!l.isEmpty) := rfl
theorem wt_t : wTru (.tuple l) R = R (!l.isEmpty) := rfl
theorem wi_l : wIdx (.list l) (.int i) Q = ∃ d, atD l i = some d ∧ Q d := rfl
theorem wi_t : wIdx (.tuple l) (.int i) Q = ∃ d, atD l i = some d ∧ Q d := rfl
theorem wu_len : wBi .len [.list l] Q = Q (.int l.length) := rfl
theorem wu_lenT : wBi .len [.tuple l] Q = Q (.int l.length) := rfl
theorem wu_int : wBi .int [.int i] Q = Q (.int i) := rfl
theorem wu_intb : wBi .int [.bool x] Q = Q (.int (if x then 1 else 0)) := rfl
theorem wu_abs : wBi .abs [.int i] Q = Q (.int (if i < 0 then -i else i)) := rfl
theorem wu_tup : wBi .tuple [.list l] Q = Q (.tuple l) := rfl
theorem wu_tupT : wBi .tuple [.tuple l] Q = Q (.tuple l) := rfl
theorem wu_lst : wBi .list [.list l] Q = Q (.list l) := rfl
theorem wu_lstT : wBi .list [.tuple l] Q = Q (.list l) := rfl
theorem wu_max2 : wBi .max2 [.int i, .int j] Q = Q (.int (if j > i then j else i)) := rfl
theorem wu_min2 : wBi .min2 [.int i, .int j] Q = Q (.int (if j < i then j else i)) := rfl
theorem wu_max1 : wBi .max1 [.list l] Q = ∃ ns, intsOf l = some ns ∧ 0 < ns.length ∧ ∀ m, m ∈ ns → (∀ a ∈ ns, a ≤ m) → Q (.int m) := rfl
theorem wu_min1 : wBi .min1 [.list l] Q = ∃ ns, intsOf l = some ns ∧ 0 < ns.length ∧ ∀ m, m ∈ ns → (∀ a ∈ ns, m ≤ a) → Q (.int m) := rfl
theorem wu_sum : wBi .sum [.list l] Q = ∃ ns, intsOf l = some ns ∧ Q (.int ns.sum) := rfl
theorem wu_all : wBi .all [.list l] Q = ∃ bs, blsOf l = some bs ∧ Q (.bool (bs.all id)) := rfl
theorem wu_any : wBi .any [.list l] Q = ∃ bs, blsOf l = some bs ∧ Q (.bool (bs.any id)) := rfl
theorem wu_sorted : wBi .sorted [.list l] Q = ∃ ns, intsOf l = some ns ∧ ∀ ns' : List Int, ns'.Perm ns → ns'.Pairwise (· ≤ ·) → Q (.list (ns'.map .int)) := rfl
theorem ws_l {lo hi : Option Int} : wSlc (.list l) lo hi Q = Q (.list (cutD l lo hi)) := rfl
theorem ws_t {lo hi : Option Int} : wSlc (.tuple l) lo hi Q = Q (.tuple (cutD l lo hi)) := rfl
theorem ws_s {lo hi : Option Int} : wSlc (scrD l) lo hi Q = Q (.list (cutD l lo hi)) := rfl
theorem wr_l : wRev (.list l) Q = Q (.list l.reverse) := rfl
theorem wr_t : wRev (.tuple l) Q = Q (.tuple l.reverse) := rfl
theorem wb_mulT : wBin .mul (.tuple l) (.int j) Q = ((-(2 ^ 40) < j ∧ j ≤ 1000 ∧ l.length ≤ 1000) ∧ Q (.tuple (List.replicate j.toNat l).flatten)) := rfl
theorem wst_l {P : List D → Prop} : wSt (.list l) P = (l.length ≤ 10000 ∧ P l) := rfl
theorem wst_t {P : List D → Prop} : wSt (.tuple l) P = (l.length ≤ 10000 ∧ P l) := rfl
theorem wz_l {P : List D → Prop} : wZip (.list l) (.list m) P = (okLen l.length ∧ P (zipD l m)) := rfl
theorem wz_t {P : List D → Prop} : wZip (.tuple l) (.tuple m) P = (okLen l.length ∧ P (zipD l m)) := rfl
theorem wn_l {P : List D → Prop} : wEnu (.list l) P = (okLen l.length ∧ P (enuD 0 l)) := rfl
theorem wv_l {P : List D → Prop} : wRvi (.list l) P = (okLen l.length ∧ P l.reverse) := rfl
theorem wv_t {P : List D → Prop} : wRvi (.tuple l) P = (okLen l.length ∧ P l.reverse) := rfl
theorem wc_inl : wCmp .inn a (.list l) R = ((Shp a ∧ Shp (.list l)) ∧ R (l.any fun z => PyData.eqv z a)) := by cases a <;> rfl
theorem wc_ninl : wCmp .nin a (.list l) R = ((Shp a ∧ Shp (.list l)) ∧ R (!l.any fun z => PyData.eqv z a)) := by cases a <;> rfl
theorem wc_int : wCmp .inn a (.tuple l) R = ((flatD a = true ∧ l.all flatD = true) ∧ R (l.any fun z => PyData.eqv z a)) := by cases a <;> rfl
theorem wc_nint : wCmp .nin a (.tuple l) R = ((flatD a = true ∧ l.all flatD = true) ∧ R (!l.any fun z => PyData.eqv z a)) := by cases a <;> rfl
theorem ev_ii : PyData.eqv (.int i) (.int j) = decide (i = j) := rfl
theorem ev_bb : PyData.eqv (.bool x) (.bool y) = decide (x = y) := by cases x <;> cases y <;> rfl
theorem ev_ss : PyData.eqv (.str s) (.str t) = decide (s = t) := rfl
theorem ev_nn : PyData.eqv .none .none = true := rfl
theorem ev_ni : PyData.eqv .none (.int i) = false := rfl
theorem ev_in : PyData.eqv (.int i) .none = false := rfl
theorem ev_is : PyData.eqv (.int i) (.str s) = false := rfl
theorem ev_si : PyData.eqv (.str s) (.int i) = false := rfl
theorem ev_tt : PyData.eqv (.tuple l) (.tuple m) = PyData.eqvAll l m := rfl
theorem ev_ll : PyData.eqv (.list l) (.list m) = PyData.eqvAll l m := rfl
theorem ea_nn : PyData.eqvAll [] [] = true := rfl
theorem ea_cc : PyData.eqvAll (a :: l) (b :: m) = (PyData.eqv a b && PyData.eqvAll l m) := rfl
theorem ea_nc : PyData.eqvAll [] (b :: m) = false := rfl
theorem ea_cn : PyData.eqvAll (a :: l) [] = false := rfl
theorem sh_n : Shp .none = True := by unfold Shp; simp [SeqAt.shaped, PyData.canLay0, PyData.depth]
theorem sh_b : Shp (.bool x) = True := by unfold Shp; simp [SeqAt.shaped, PyData.canLay0, PyData.depth]
theorem sh_i : Shp (.int i) = True := by unfold Shp; simp [SeqAt.shaped, PyData.canLay0, PyData.depth]
theorem sh_s : Shp (.str s) = (PyData.strOk s = true) := by unfold Shp; simp [SeqAt.shaped, PyData.canLay0, PyData.depth]
end
theorem atD_nat {l : List D} {k : Nat} {d : D} (h : l[k]? = some d) : atD l (k : Int) = some d := by
  have hk : k < l.length := (List.getElem?_eq_some_iff.mp h).1
  unfold atD atI ixN
  rw [if_pos (by omega), if_pos (by omega)]
  exact h
theorem at0 {d : D} {l : List D} : atD (d :: l) 0 = some d := atD_nat (k := 0) rfl
theorem at1 {a d : D} {l : List D} : atD (a :: d :: l) 1 = some d := atD_nat (k := 1) rfl
theorem at2 {a b d : D} {l : List D} : atD (a :: b :: d :: l) 2 = some d := atD_nat (k := 2) rfl
theorem at3 {a b c d : D} {l : List D} : atD (a :: b :: c :: d :: l) 3 = some d := atD_nat (k := 3) rfl
theorem so_told : PyData.strOk "told" = true := by decide +kernel
theorem so_refused : PyData.strOk "refused" = true := by decide +kernel
theorem so_missing : PyData.strOk "missing" = true := by decide +kernel
theorem so_large : PyData.strOk "large" = true := by decide +kernel
def deo1 : Sl → Sl
  | .own _ => .un
  | s => s
theorem deo_c {s : Sl} {l : List Sl} : deo (s :: l) = deo1 s :: deo l := by cases s <;> rfl
theorem deo_n : deo [] = [] := rfl
theorem deo1_v {d : D} : deo1 (.v d) = .v d := rfl
theorem deo1_u : deo1 .un = .un := rfl
theorem deo1_o {l : List D} : deo1 (.own l) = .un := rfl
theorem imp_tt {p : Prop} : (true = true → p) = p := by simp
theorem imp_ff {p : Prop} : (false = false → p) = p := by simp
theorem imp_tf {p : Prop} : (true = false → p) = True := by simp
theorem imp_ft {p : Prop} : (false = true → p) = True := by simp
end DD
/-! one simp over the meaning -/



set_option Elab.async false
set_option linter.all false
set_option maxRecDepth 100000
set_option maxHeartbeats 4000000
namespace DD
open PySem PySem.Spec PyProof.Rows L2
def topS (i : Nat) : Stmt := PySem.Challenge.pw_nearestkind_k56_whole_sums_without_waiti.main.body.getD i (.Pass ⟨0, 0, 0, 0⟩)
def iSame : Nat := 20
def iStream : Nat := 21
def iNext : Nat := 22
def iTold : Nat := 23
end DD



set_option Elab.async false
set_option linter.all false
set_option maxRecDepth 100000
set_option maxHeartbeats 4000000
namespace DD
open PySem PySem.Spec PyProof.Rows L2 L2H
abbrev sTold : Stmt := topS iTold
abbrev nTold : List Str := ["call", "e", "kinds", "names", "k"]
/-- what `_law_told` asks of the errors' classes -/
structure ErrOk (κ : Kit) (mg : Str → Option Value) : Prop where
  num : ∃ C : Addr, mg "NumberError" = some (.ref C) ∧ ∀ k < 3, PySem.W.exmOne κ.K (κ.cls k) (.ref C) = some true
  cls : ∀ k < 3, ∃ D : Addr, κ.cls k = .ref D ∧ ExcC κ.K D
  is : ∃ C : Nat → Addr, mg "NotAllowed" = some (.ref (C 0)) ∧ mg "TooLarge" = some (.ref (C 1)) ∧ mg "Missing" = some (.ref (C 2)) ∧ mg "BadForm" = some (.ref (C 3)) ∧ mg "Broken" = some (.ref (C 4)) ∧
    ∀ k < 3, ∀ j < 5, PySem.W.kitOne κ.K (κ.cls k) (.ref (C j)) = some (decide (k = j))
def TTt (κ : Kit) : (XK → Hp → VK → Prop) → Hp → VK → Prop := fun tl H Q =>
  tl (fun cls d H' => d = none ∧ ∃ k, k < 3 ∧ cls = κ.cls k ∧ ∀ p H'', Le H' H'' → H' p = none → H'' p = some (.tup [.str (nmT k)]) → Q (.ref p) H'') H
    (fun v H1 => ([V.str "told", v] : List V).length ≤ sizeLine ∧ ∀ p, H1 p = none → Q (.ref p) (upd H1 p (.tup [.str "told", v])))
theorem ndTold : nTold.Nodup := by decide +kernel
theorem boolL {H : Hp} : True := trivial
theorem told_gives {κ : Kit} {X : Cx} (hK : X.K = κ.K) (eo : ErrOk κ X.mg) (hb : ∀ x ∈ bltNames, X.mg x = none) {g : Addr} {cdg : Value} {q : Str} :
    Gives X nTold "_law_told" (defScope sTold) g cdg (defBody sTold) "call" q (TTt κ) := by
  intro f c' s0 H0 Q tl act hc h
  obtain ⟨CS, hCS, hex⟩ := eo.num
  obtain ⟨C, m0, m1, m2, m3, m4, his⟩ := eo.is
  refine ⟨_, pss_one (L2N.ps_try_as (X := (cxOf C8.CX0 X.prog X.w X.K X.mg X.base nTold "_law_told" (defScope sTold) g cdg X.A X.stack s0 H0 C8.E0).nox) (i := 1) (c := .ref CS)
    (tb := fun W D σ H => ∃ Ech : XK, (∀ cls d σ' H', Ech cls d H' → W cls d σ' H') ∧ σ[0]? = some (some (.ref f)) ∧ H c' = some (LamX.CodeO c' q) ∧ tl Ech H (fun v H1 => ([V.str "told", v] : List V).length ≤ sizeLine ∧ ∀ p, H1 p = none → D.rt (.ref p) (upd H1 p (.tup [.str "told", v]))))
    (ts := fun a cls d D σ H => d = none ∧ (∃ σ' : L2.St, σ = σ'.set 1 (some (.ref a))) ∧ ∃ k, k < 3 ∧ cls = κ.cls k ∧ ∀ p H'', Le H H'' → H p = none → H'' p = some (.tup [.str (nmT k)]) → D.rt (.ref p) H'')
    rfl rfl ndTold rfl rfl ⟨rfl, rfl, .inl hCS⟩ takesN0 (fun W pn xe tk _ => ?_) (fun a oe cls d pn hz hf => ?_)), ?_⟩
  · refine ⟨fun pins s' σ H D I h' => ?_⟩
    obtain ⟨Ech, hW, h1, h2, h3⟩ := h'
    exact (pss_one (ps_ret (pe_tup (pa_cons pe_str (pa_cons (act W pn xe Ech _ _ tk hW) pa_nil))))).run pins s' σ H D I ⟨h1, h2, h3⟩
  · refine ⟨fun pins s' σ H D I h' => ?_⟩
    obtain ⟨rfl, ⟨σ', rfl⟩, k, hk, rfl, hr⟩ := h'
    have hl : (σ'.set 1 (some (V.ref a))).length = 5 := I.len
    rw [List.length_set] at hl
    obtain ⟨Dk, hD, ec⟩ := eo.cls k hk
    have hz' : Zc (.ref Dk) none oe := by rw [← hD]; exact hz.zc
    have cI := call_isE (X := (cxOf C8.CX0 X.prog X.w X.K X.mg X.base nTold "_law_told" (defScope sTold) g cdg X.A X.stack s0 H0 C8.E0).nox) (a := a) (pn := pn) (by rw [← hK] at ec; exact ec) hz' hf
    have mI : X.mg "isinstance" = none := hb _ (by decide +kernel)
    have mR : X.mg "range" = none := hb _ (by decide +kernel)
    have mL : X.mg "len" = none := hb _ (by decide +kernel)
    have mN : X.mg "int" = none := hb _ (by decide +kernel)
    have isE : ∀ (n : Str) (j : Nat), True := fun _ _ => trivial
    refine (pss_cons (ps_set (i := 2) ndTold rfl (.inr rfl) (pe_lst
      (pa_cons (pe_callB cI (by rfl) mI (by decide +kernel) (pa_cons (pv 1) (pa_cons (pe_glob (by rfl) m0 (v := .ref (C 0)) rfl) pa_nil)))
      (pa_cons (pe_callB cI (by rfl) mI (by decide +kernel) (pa_cons (pv 1) (pa_cons (pe_glob (by rfl) m1 (v := .ref (C 1)) rfl) pa_nil)))
      (pa_cons (pe_callB cI (by rfl) mI (by decide +kernel) (pa_cons (pv 1) (pa_cons (pe_glob (by rfl) m2 (v := .ref (C 2)) rfl) pa_nil)))
      (pa_cons (pe_callB cI (by rfl) mI (by decide +kernel) (pa_cons (pv 1) (pa_cons (pe_glob (by rfl) m3 (v := .ref (C 3)) rfl) pa_nil)))
      (pa_cons (pe_callB cI (by rfl) mI (by decide +kernel) (pa_cons (pv 1) (pa_cons (pe_glob (by rfl) m4 (v := .ref (C 4)) rfl) pa_nil))) pa_nil)))))))
      (pss_cons (ps_setHot (i := 3) (q := (a, oe)) (own := [("k", 4)]) ⟨rfl, ?_⟩ (List.mem_cons_self ..) ndTold rfl rfl (sw_true rfl rfl rfl (by decide +kernel)) (pi_range1H (by rfl) mR (pa_cons pe_int pa_nil)) (blkOk_by (N := nTold) (sc := defScope sTold) (by decide +kernel))
        (fun _ _ _ _ _ => pg_name (i := 4) ndTold rfl (Or.inl rfl)) (fun _ _ _ _ _ => pts_one (pt_val (pe_ix (show IxR _ (rIxL X.K) from ix_list) (pv 2) (pv 4) (fun _ _ => rfl)))) (fun _ _ _ _ _ => pe_ix (show IxR _ (rIxL X.K) from ix_list) (pe_lst (pa_cons pe_str (pa_cons pe_str (pa_cons pe_str (pa_cons pe_str (pa_cons pe_str pa_nil)))))) (pv 4) (fun _ _ => rfl)) (by intro _; rfl))
      (pss_one (ps_ret (pe_tup (pa_cons (pe_ix ix_list (pe_lst (pa_cons pe_str (pa_cons (pe_ix ix_list (pe_op op_cat (pv 3) (pe_lst (pa_cons pe_str pa_nil))) pe_int (fun _ _ => rfl)) pa_nil)))
        (pe_callTy call_int1 (by rfl) mN (by decide +kernel) (pa_cons (pe_cmpR op_eq (pe_callB call_len_seq (by rfl) mL (by decide +kernel) (pa_cons (pv 3) pa_nil)) pe_int (nomark _)) pa_nil)) (fun _ _ => rfl)) pa_nil)))))).run pins s' _ H D I ?_
    · obtain ⟨vs, e⟩ := hf; exact ⟨vs, e, hz.2.2 vs e⟩
    · exact rdTold_ok (K := X.K) hk (fun j hj => by rw [hK, ← hD]; exact his k hk j hj) hl hr
  · refine ⟨_, fun cls d σ' H' he => ?_, rfl, hc, h⟩
    obtain ⟨rfl, k, hk, rfl, hq⟩ := he
    exact ⟨true, by show PySem.W.exmOne X.K _ _ = _; rw [hK]; exact hex k hk, fun _ a ha => ⟨rfl, ⟨σ', rfl⟩, k, hk, rfl, hq⟩, fun z => nomatch z⟩
end DD



set_option Elab.async false
set_option linter.all false
set_option maxRecDepth 100000
set_option maxHeartbeats 4000000
namespace DD
open PySem PySem.Spec PyProof.Rows L2
theorem deo_len : ∀ l : List Sl, (deo l).length = l.length
  | [] => rfl
  | .own _ :: l => congrArg Nat.succ (deo_len l)
  | .un :: l => congrArg Nat.succ (deo_len l)
  | .v _ :: l => congrArg Nat.succ (deo_len l)
theorem getS_deo : ∀ (l : List Sl) (i : Nat), getS (deo l) i = match getS l i with | .own _ => .un | s => s
  | [], i => by simp [deo, getS]
  | .own _ :: l, 0 => rfl
  | .un :: l, 0 => rfl
  | .v _ :: l, 0 => rfl
  | .own _ :: l, i + 1 => getS_deo l i
  | .un :: l, i + 1 => getS_deo l i
  | .v _ :: l, i + 1 => getS_deo l i
theorem getS_clr : ∀ (is : List Nat) (l : List Sl) (i : Nat), i ∈ is → getS (clrS l is) i = .un
  | j :: is, l, i, h => by
    show getS (setS (clrS l is) j .un) i = .un
    rw [getS_setS]
    by_cases q : j = i ∧ j < (clrS l is).length
    · rw [if_pos q]
    · rw [if_neg q]
      by_cases e : j = i
      · exact getS_out (by omega)
      · exact getS_clr is l i ((List.mem_cons.mp h).resolve_left fun z => e z.symm)
section
variable {κ : Kit} {H0 F0 H F : Hp} {env : Env} {σ : L2.St} {n : Nat}
/-- the slots as a lambda finds them -/
theorem ER.lam {N ys : List Str} {ws : List Nat} (e : ER κ H0 F0 env σ H F n) (hw : wsB N ys ws = true) : ER κ H F (deo (clrS env ws)) (wipeN N ys σ) H F n := by
  have e1 := e.clrE ws
  refine ⟨by rw [deo_len, wipeN_len]; exact e1.len, e.wd, Fr.refl, fun i => ?_, fun i j ds es a hij h1 h2 _ => ?_⟩
  · rw [getS_deo]
    have s := e1.sl i
    cases q : getS (clrS env ws) i with
    | un => trivial
    | own ds => trivial
    | v d =>
      rw [q] at s
      obtain ⟨v, h1, h2⟩ := s
      refine ⟨v, wipeN_put h1 fun y hy hm => ?_, h2⟩
      have h3 := List.all_eq_true.mp hw i (List.mem_range.mpr (List.getElem?_eq_some_iff.mp hy).1)
      simp only [hy, Bool.or_eq_true, Bool.not_eq_true', List.contains_iff_mem] at h3
      rcases h3 with h3 | h3
      · have : ys.contains y = true := List.contains_iff_mem.mpr hm
        rw [this] at h3; cases h3
      · rw [getS_clr ws env i h3] at q; cases q
  · rw [getS_deo] at h1
    cases q : getS (clrS env ws) i <;> rw [q] at h1 <;> cases h1
end
/-- what a law's program says of `_law_told` and of the tables of code objects -/
structure ToldIn (κ : Kit) (X : Cx) : Prop where
  err : ErrOk κ X.mg
  ex : ∃ (g : Addr) (pg : Arguments) (dV kV doc pm cdv ct oc : Value) (an od : Option Addr) (osl : Array (Option Value)), X.mg "_law_told" = some (.ref g) ∧ PySem.W.keepIn X.K (.ref g) = true ∧
    X.K.lookup g = some ⟨oc, od, .func (PySem.W.fnOf "_law_told" "_law_told" pg (defBody sTold) (defScope sTold) dV kV doc pm an cdv ct), osl⟩ ∧ PySem.W.codeIn X.K cdv "_law_told" = true ∧
    L2.Binds X.K (PySem.W.fnOf "_law_told" "_law_told" pg (defBody sTold) (defScope sTold) dV kV doc pm an cdv ct) ["call"] []
  tab : ∃ c P : Addr, LamX.TabB X.base X.mg c P ∧ X.env.code = .ref c ∧ (P, X.env.qual ++ "<lambda>") ∈ κ.T ∧ ∀ p ∈ κ.T, p.1 = P → p.2 = X.env.qual ++ "<lambda>"
  room : Room (κ.lv + 2) X.A
theorem fsTold : FnScope nTold ["call"] (defScope sTold) := C8.fnScope_by (by decide +kernel)
theorem told_rule {κ : Kit} {N : List Str} {sc : Scope} {X : Cx} {EX : XK} (c : Cok κ N sc X EX) (t : ToldIn κ X) : Told κ N sc X EX := by
  intro ws e params ys body scope lpos p pos hpd hla hws hgl hbody
  obtain ⟨g, pg, dV, kV, doc, pm, cdv, ct, oc, an, od, osl, m, kp, lk, hcd, hb⟩ := t.ex
  obtain ⟨cc, P, TB, hcode, hmT, hu⟩ := t.tab
  have L := laS_by hla
  rw [← c.sc] at L
  refine PEm (la_call (k := κ.lv) (T := κ.T) (TT := TTt κ) (t := fun E => RE κ E false e) (Ng := nTold) (glX c hgl) m kp lk hcd hb fsTold rfl (.inl rfl)
    (told_gives c.hK t.err c.gl.blt) TB hcode hmT hu t.room (pd_by hpd) L fun A outer s H E f c' hg hr => hbody _ E ⟨c.hK, c.hN, c.nd, L.kind, rfl, rfl, hr, hg.trans c.gd, L2N.takes_of rfl rfl rfl rfl, c.gl⟩) fun σ H Q ⟨H0, F0, env, F, n, Qd, Xd, er, hw, hq, hx⟩ => ?_
  unfold wE at hw
  refine ⟨er.wd.tab, fun H1 eN nN T1 => ?_⟩
  have fr1 : Fr κ.sa H F H1 F := ⟨Le.refl _, fun a o h _ n => eN a o h n, nN, fun _ _ h => h⟩
  have wd1 : Wd κ H1 F n := ⟨fun a o h => eN a o (er.wd.le a o h) fun ps z => er.wd.nt a ps (by rw [h, z]), er.wd.nt, T1, fun a ha => by
    obtain ⟨h1, na, ns, c, h2, h3, h4⟩ := er.wd.st a ha
    exact ⟨h1, na, ns, c, eN a _ h2 (fun ps z => nomatch z), h3, h4⟩⟩
  have er1 := er.step fr1 wd1
  refine ⟨H1, F, deo (clrS env ws), F, n, _, _, er1.lam (by rw [c.hN]; exact hws), hw, fun d n' v H' F' q er' fr' r => ⟨le_line (by simp), fun p hp => ?_⟩, fun k n' H' F' q er' => ⟨rfl, k, q.1, rfl, fun p H'' l hp ht => ?_⟩⟩
  · have nw : Nw H' F' (upd H' p (.tup [.str "told", v])) (upd F' p (.tup [.str "told", v])) := .new hp (fun _ z => nomatch z)
    have er2 := (er1.step fr' er'.wd).nw nw
    exact hq _ n' (.ref p) _ _ q er2 ((fr1.trans fr').trans (nw.fr er'.wd.le)) (.inl (.tup (.inl (.inl upd_same)) (.cons (.str _) (.cons (r.f.mono (Le.upd (er'.wd.le.free hp))) .nil))))
  · have fr2 : Fr κ.sa H' F' H'' (upd F' p (.tup [.str (nmT k)])) := ⟨Le.upd (er'.wd.le.free hp), fun a o h _ _ => l a o h, fun a h z => (by
        cases e : H' a with
        | none => exact h e
        | some o => rw [l a o e] at z; cases z), fun a h z => by rw [upd_ne (show a ≠ p from fun q => h (by rw [q]; exact hp))]; exact z⟩
    have wd2 : Wd κ H'' (upd F' p (.tup [.str (nmT k)])) n' := by
      refine ⟨fun a o h => ?_, fun a ps h => ?_, er'.wd.tab.ext l, fun a ha => ?_⟩
      · by_cases q : a = p
        · subst q; rw [upd_same] at h; cases h; exact ht
        · rw [upd_ne q] at h; exact l a o (er'.wd.le a o h)
      · by_cases q : a = p
        · subst q; rw [upd_same] at h; cases h
        · rw [upd_ne q] at h; exact er'.wd.nt a ps h
      · obtain ⟨h1, na, ns, c, h2, h3, h4⟩ := er'.wd.st a ha
        have q : a ≠ p := ne_of_none h2 hp
        exact ⟨by rw [upd_ne q]; exact h1, na, ns, c, l _ _ h2, Le.upd (er'.wd.le.free hp) _ _ h3, h4⟩
    exact hq _ n' (.ref p) _ _ q.2 ((er1.step er'.fr er'.wd).step fr2 wd2) ((fr1.trans er'.fr).trans fr2) (.inl (.tup (.inl (.inl upd_same)) (.cons (.str _) .nil)))
end DD



set_option Elab.async false
set_option linter.all false
set_option maxRecDepth 100000
set_option maxHeartbeats 4000000
namespace DD
open PySem PySem.Spec PyProof.Rows L2
abbrev sSame : Stmt := topS iSame
abbrev nSame : List Str := ["told", "due"]
theorem fsSame : FnScope nSame ["told", "due"] (defScope sSame) := C8.fnScope_by (by decide +kernel)
structure Sho (x : D) : Prop where
  sh : PyData.showable x = true
  nd : PyData.hasDict x = false
  dp : PyData.depth x ≤ 50
  sz : (PyData.shown (.list [x])).length ≤ 16777216
  lay : PyData.canLay0 x = true
def spSame : Sg := fun ds n Q _ => ∃ x, ds = [x, x] ∧ Sho x ∧ Q (.bool true) n
theorem same_ok {κ : Kit} {P : Program} {w : World} {mg : Str → Option Value} {base : Heap} {f : Addr} {fd : FuncData} (F : L2.Fun κ.K "_law_same" "_law_same" sSame f fd) (hb : ∀ x ∈ bltNames, mg x = none) :
    FnG P w κ.K mg base (L2N.CX P w) 1 f fd ["told", "due"] (lift κ 2 spSame) := by
  refine fnG_of F fsSame (fun vs H Q E h => h.1) fun cdv A outer s H vs Q E lk hg hr ⟨hl, F0, n, ds, Qd, Xd, wd, ra, ⟨x, e, sh, hsp⟩, hq, hx⟩ => ?_
  subst e
  have mR : mg "repr" = none := hb _ (by decide +kernel)
  have cr := call_reprD (X := cxOf (L2N.CX P w) P w κ.K mg base nSame "_law_same" (defScope sSame) f cdv A outer s H E) hg hr.units
  refine ⟨_, pss_one (ps_ret (pe_cmpR op_eq (pe_callB cr (by rfl) mR (by decide +kernel) (pa_cons (pe_lst (pa_cons (pe_var (i := 0) (x := "told") rfl (.inl rfl) (by decide) (by decide)) pa_nil)) pa_nil))
    (pe_callB cr (by rfl) mR (by decide +kernel) (pa_cons (pe_lst (pa_cons (pe_var (i := 1) (x := "due") rfl (.inl rfl) (by decide) (by decide)) pa_nil)) pa_nil)) (nomark _))), ?_⟩
  match vs, ra with
  | [v1, v2], .cons r1 (.cons r2 .nil) =>
      have c1 : ∀ {H1 : Hp} {v : V} {p : Addr}, Le F0 H1 → Rp κ.K κ.sa F0 v x → H1 p = none → Dp κ.K (upd H1 p (.lst [v])) (.ref p) (.list [x]) := fun l r hp =>
        .lst (.inl (.inl upd_same)) (.cons (Rp.dp (l.trans (Le.upd hp)) r sh.lay) .nil)
      have s1 : PyData.showable (.list [x]) = true := by simp [PyData.showable, PyData.showableAll, sh.sh]
      have s2 : PyData.hasDict (.list [x]) = false := by simp [PyData.hasDict, PyData.hasDictAll, sh.nd]
      have s3 : PyData.depth (.list [x]) ≤ 60 := by
        have := sh.dp
        simp [PyData.depth, PyData.depthAll]
        omega
      have s4 : (PyData.shown (.list [x])).length ≤ sizeLine := Nat.le_trans sh.sz (by rw [sizeLine_eq]; decide)
      refine ⟨v1, rfl, le_line (by simp), fun p hp => ⟨p, _, rfl, c1 wd.le r1 hp, s1, s2, s3, s4, v2, rfl, le_line (by simp), fun p2 hp2 => ⟨p2, _, rfl, c1 (wd.le.trans (Le.upd hp)) r2 hp2, s1, s2, s3, s4, rfl, ?_⟩⟩⟩
      have nw1 : Nw H F0 _ _ := .new (o := .lst [v1]) hp (fun _ z => nomatch z)
      have nw2 : Nw (upd H p (.lst [v1])) (upd F0 p (.lst [v1])) _ _ := .new (o := .lst [v2]) hp2 (fun _ z => nomatch z)
      have w1 := nw1.wd wd
      refine hq _ n _ _ _ hsp (nw2.wd w1) ((nw1.fr wd.le).trans (nw2.fr w1.le)) ?_
      rw [decide_eq_true rfl]
      exact .bl true
end DD



set_option Elab.async false
set_option linter.all false
set_option maxRecDepth 100000
set_option maxHeartbeats 4000000
namespace DD
open PySem PySem.Spec PyProof.Rows L2
abbrev sNext : Stmt := topS iNext
abbrev nNext : List Str := ["state", "many", "turn"]
theorem fsNext : FnScope nNext ["state", "many"] (defScope sNext) := C8.fnScope_by (by decide +kernel)
def spNext : Sg := fun ds n Q _ => ∃ m : Int, ds = [sttD, .int m] ∧ 0 < m ∧ n < 2 ^ 60 ∧ ∀ r : Int, 0 ≤ r → r < m → Q (.int r) (n + 1)
theorem next_ok {κ : Kit} {P : Program} {w : World} {mg : Str → Option Value} {base : Heap} {f : Addr} {fd : FuncData} (F : L2.Fun κ.K "_law_next" "_law_next" sNext f fd) (hb : ∀ x ∈ bltNames, mg x = none) :
    FnG P w κ.K mg base (L2N.CX P w) 1 f fd ["state", "many"] (lift κ 2 spNext) := by
  refine fnG_of F fsNext (fun vs H Q E h => h.1) fun cdv A outer s H vs Q E lk hg hr ⟨hl, F0, n, ds, Qd, Xd, wd, ra, ⟨m, e, hm, hn, hsp⟩, hq, hx⟩ => ?_
  subst e
  have mL : mg "len" = none := hb _ (by decide +kernel)
  have mI : mg "int" = none := hb _ (by decide +kernel)
  have p0 : ∀ {pos}, PE (cxOf (L2N.CX P w) P w κ.K mg base nNext "_law_next" (defScope sNext) f cdv A outer s H E) (.Name "state" pos) (tVar 0) := pe_var rfl (.inl rfl) (by decide) (by decide)
  have p1 : ∀ {pos}, PE (cxOf (L2N.CX P w) P w κ.K mg base nNext "_law_next" (defScope sNext) f cdv A outer s H E) (.Name "many" pos) (tVar 1) := pe_var rfl (.inl rfl) (by decide) (by decide)
  have p2 : ∀ {pos}, PE (cxOf (L2N.CX P w) P w κ.K mg base nNext "_law_next" (defScope sNext) f cdv A outer s H E) (.Name "turn" pos) (tVar 2) := pe_var rfl (.inl rfl) (by decide) (by decide)
  refine ⟨_, pss_cons (ps_asg (pe_op op_add (pe_ix ix_list p0 pe_int (fun _ _ => rfl)) pe_int) (pg_sub p0 pe_int set_list (by intro v; rfl)) (by rfl) (by rfl) rfl)
    (pss_cons (ps_set (i := 2) fsNext.nd rfl (.inl rfl) (pe_op op_fdiv (pe_ix ix_list p0 pe_int (fun _ _ => rfl)) (pe_callB call_len_seq (by rfl) mL (by decide +kernel) (pa_cons (pe_ix ix_list p0 pe_int (fun _ _ => rfl)) pa_nil))))
    (pss_one (ps_ret (pe_op op_mod (pe_callTy call_int1 (by rfl) mI (by decide +kernel) (pa_cons
      (pe_op op_add (pe_op op_add (pe_ix ix_list (pe_ix ix_list p0 pe_int (fun _ _ => rfl)) (pe_op op_mod (pe_ix ix_list p0 pe_int (fun _ _ => rfl)) (pe_callB call_len_seq (by rfl) mL (by decide +kernel) (pa_cons (pe_ix ix_list p0 pe_int (fun _ _ => rfl)) pa_nil))) (fun _ _ => rfl))
        (pe_op op_mul p2 pe_int)) (pe_op op_mul (pe_op op_mul (pe_ix ix_list p0 pe_int (fun _ _ => rfl)) p2) pe_int)) pa_nil)) p1)))), ?_⟩
  match vs, ra with
  | [_, _], .cons (.stt (a := a) hsa) (.cons (.int _) .nil) =>
  obtain ⟨hf, na, ns, c, h1, h2, h3, h4, h5, h6, h7⟩ := wd.st a hsa
  have hL : 0 < ns.length := List.length_pos_iff.mpr h3
  have hna : na ≠ a := fun z => by rw [z, hf] at h2; cases h2
  generalize hH1 : upd H a (.lst [.ref na, .int (c + 1)]) = H1
  have e1 : H1 a = some (.lst [.ref na, .int (c + 1)]) := by rw [← hH1]; exact upd_same
  have e2 : H1 na = some (.lst (ns.map V.int)) := by rw [← hH1, upd_ne hna]; exact wd.le _ _ h2
  have q1 : SqL κ.K H1 a [.ref na, .int (c + 1)] := .inl (.inl e1)
  have q2 : SqL κ.K H1 na (ns.map V.int) := .inl (.inl e2)
  have hc1 : 0 ≤ c + 1 := by omega
  have hLi : (0 : Int) < ns.length := by omega
  have hix0 : 0 ≤ (c + 1) % (ns.length : Int) := Int.emod_nonneg _ (by omega)
  have hix1 : (c + 1) % (ns.length : Int) < ns.length := Int.emod_lt_of_pos _ hLi
  obtain ⟨x, hx0, hx1⟩ : ∃ x, atI (ns.map V.int) ((c + 1) % (ns.length : Int)) = some (V.int x) ∧ x ∈ ns := by
    have hk : ((c + 1) % (ns.length : Int)).toNat < ns.length := by omega
    refine ⟨ns[((c + 1) % (ns.length : Int)).toNat], ?_, List.getElem_mem hk⟩
    unfold atI ixN
    rw [if_pos hix0, List.length_map, if_pos hix1]
    show (ns.map V.int)[((c + 1) % (ns.length : Int)).toNat]? = _
    rw [List.getElem?_map, List.getElem?_eq_getElem hk]; rfl
  have hlen : (((ns.map V.int).length : Nat) : Int) = ns.length := by rw [List.length_map]
  have hlt : (ns.length : Int) < 1073741824 := by omega
  have w1 : Wd κ H1 F0 (n + 1) := by
    refine ⟨fun b o h => ?_, wd.nt, fun p hp => ?_, fun b hb => ?_⟩
    · rw [← hH1, upd_ne (show b ≠ a from fun z => by rw [z, hf] at h; cases h)]; exact wd.le b o h
    · obtain ⟨ps, a1, a2, a3⟩ := wd.tab p hp
      have keep : ∀ b o, H b = some o → (∀ xs, o ≠ .lst xs) → H1 b = some o := fun b o h n => by
        rw [← hH1, upd_ne (show b ≠ a from fun z => by rw [z, h1] at h; cases h; exact n _ rfl)]; exact h
      refine ⟨ps, keep _ _ a1 (fun _ z => nomatch z), a2, fun pos cv hc => ?_⟩
      obtain ⟨c0, e1, e2⟩ := a3 pos cv hc
      exact ⟨c0, e1, keep _ _ e2 (fun xs z => codeO_ne (congrArg some z.symm))⟩
    · rw [hsa] at hb; cases hb
      exact ⟨hf, na, ns, c + 1, e1, h2, h3, h4, h5, by omega, by omega⟩
  have fr1 : Fr κ.sa H F0 H1 F0 := by
    refine ⟨Le.refl _, fun b o h nb _ => ?_, fun b h => ?_, fun _ _ h => h⟩
    · rw [← hH1, upd_ne (show b ≠ a from fun z => nb (by rw [z]; exact hsa))]; exact h
    · rw [← hH1]
      by_cases z : b = a
      · rw [z, upd_same]; exact fun z => nomatch z
      · rw [upd_ne z]; exact h
  have fin : ∀ r : Int, 0 ≤ r → r < m → Q (.int r) H1 := fun r r0 r1 => hq _ (n + 1) _ _ _ (hsp r r0 r1) w1 fr1 (.int r)
  refine ⟨.ref a, rfl, a, [.ref na, .int c], 1, .int c, rfl, rfl, .inl (.inl h1), rfl, c, 1, rfl, rfl, .ref a, rfl, a, [.ref na, .int c], 1, 1, rfl, rfl, h1, rfl, ?_⟩
  show tSeq _ _ _ _ (upd H a (.lst [.ref na, .int (c + 1)]))
  rw [hH1]
  refine ⟨.ref a, rfl, a, _, 1, .int (c + 1), rfl, rfl, q1, rfl, .ref a, rfl, a, _, 0, .ref na, rfl, rfl, q1, rfl, na, _, rfl, .inl q2, c + 1, ((ns.map V.int).length : Nat), rfl, rfl, ⟨by rw [hlen]; exact hLi, by rw [hlen]; exact hlt⟩, ?_⟩
  refine ⟨.ref a, rfl, a, _, 0, .ref na, rfl, rfl, q1, rfl, .ref a, rfl, a, _, 1, .int (c + 1), rfl, rfl, q1, rfl, .ref a, rfl, a, _, 0, .ref na, rfl, rfl, q1, rfl, na, _, rfl, .inl q2, c + 1, ((ns.map V.int).length : Nat), rfl, rfl, (by rw [hlen]; exact hLi), na, _, _, .int x, rfl, rfl, q2, (by rw [hlen]; exact hx0), ?_⟩
  refine ⟨_, rfl, _, 389, rfl, rfl, .inr (by decide), x, _, rfl, rfl, .ref a, rfl, a, _, 1, .int (c + 1), rfl, rfl, q1, rfl, _, rfl, c + 1, _, rfl, rfl, .inl (by omega), _, 17, rfl, rfl, .inr (by decide), _, _, rfl, rfl, .inl ⟨_, rfl, .int m, rfl, _, m, rfl, rfl, hm, ?_⟩⟩
  exact fin _ (Int.emod_nonneg _ (by omega)) (Int.emod_lt_of_pos _ hm)
end DD



set_option Elab.async false
set_option linter.all false
set_option maxRecDepth 100000
set_option maxHeartbeats 4000000
namespace DD
open PySem PySem.Spec PyProof.Rows L2
/-! what the head holds -/
structure DefK (K : PySem.W.Frag) (x : Str) (st : Stmt) : Prop where
  ex : ∃ (f : Addr) (oc : Value) (od : Option Addr) (kV doc pm : Value) (an : Option Addr) (cd ct : Value) (sl : Array (Option Value)), PySem.W.nsIn K mainGlobals x = some (some (.ref f)) ∧
    K.lookup f = some ⟨oc, od, .func (PySem.W.fnOf x x (defArgs st) (defBody st) (defScope st) .none kV doc pm an cd ct), sl⟩ ∧ PySem.W.codeIn K cd x = true ∧ PySem.W.keepIn K (.ref f) = true
theorem DefK.mk' {K : PySem.W.Frag} {x : Str} {st : Stmt} {f : Addr} {oc : Value} {od : Option Addr} {kV doc pm : Value} {an : Option Addr} {cd ct : Value} {sl : Array (Option Value)} (a : PySem.W.nsIn K mainGlobals x = some (some (.ref f)))
    (l : K.lookup f = some ⟨oc, od, .func (PySem.W.fnOf x x (defArgs st) (defBody st) (defScope st) .none kV doc pm an cd ct), sl⟩) (c : PySem.W.codeIn K cd x = true) (k : PySem.W.keepIn K (.ref f) = true) : DefK K x st := ⟨⟨_, _, _, _, _, _, _, _, _, _, a, l, c, k⟩⟩
/-- the law's own def, its code object and the table -/
structure LawK (K : PySem.W.Frag) (h : Heap) (x : Str) (st : Stmt) : Prop where
  ex : ∃ (f c P : Addr) (oc : Value) (od : Option Addr) (kV doc pm : Value) (an : Option Addr) (ct : Value) (sl : Array (Option Value)), h.get? P = some { cls := .none, data := .fields #[] } ∧ PySem.W.nsIn K mainGlobals x = some (some (.ref f)) ∧
    K.lookup f = some ⟨oc, od, .func (PySem.W.fnOf x x (defArgs st) (defBody st) (defScope st) .none kV doc pm an (.ref c) ct), sl⟩ ∧ PySem.W.codeIn K (.ref c) x = true ∧ PySem.W.keepIn K (.ref f) = true ∧ PySem.W.codeHdIn K c P = true ∧ K.lookup P = none
theorem LawK.mk' {K : PySem.W.Frag} {h : Heap} {x : Str} {st : Stmt} {f cc P : Addr} {oc : Value} {od : Option Addr} {kV doc pm : Value} {an : Option Addr} {ct : Value} {sl : Array (Option Value)} (t : h.get? P = some { cls := .none, data := .fields #[] }) (a : PySem.W.nsIn K mainGlobals x = some (some (.ref f)))
    (l : K.lookup f = some ⟨oc, od, .func (PySem.W.fnOf x x (defArgs st) (defBody st) (defScope st) .none kV doc pm an (.ref cc) ct), sl⟩) (c : PySem.W.codeIn K (.ref cc) x = true) (k : PySem.W.keepIn K (.ref f) = true) (hd : PySem.W.codeHdIn K cc P = true) (n : K.lookup P = none) : LawK K h x st := ⟨⟨_, _, _, _, _, _, _, _, _, _, _, t, a, l, c, k, hd, n⟩⟩
def cF (C0 C1 C2 C3 C4 : Addr) : Nat → Addr
  | 0 => C0 | 1 => C1 | 2 => C2 | 3 => C3 | _ => C4
structure ExcK1 (K : PySem.W.Frag) (N : Addr) (C : Nat → Addr) (k : Nat) : Prop where
  e1 : PySem.W.excIn K (C k) [.type "ValueError", .type "Exception", .type "BaseException", .type "object"] "ValueError.__new__" = true
  e2 : PySem.W.keepIn K (.ref (C k)) = true
  e3 : PySem.W.subIn K (.ref (C k)) (.type "BaseException") = some true
  e4 : PySem.W.typeIn K (.ref (C k)) = some (.type "type")
  e5 : PySem.W.exmOne K (.ref (C k)) (.ref N) = some true
  hg : PySem.W.findIn K (.ref (C k)) "__getattribute__" = some (some (.builtin "BaseException.__getattribute__"))
  hk : PySem.W.findIn K (.ref (C k)) "__getattr__" = some none
  hd : PySem.W.hasDictIn K (C k) = true
  ha : PySem.W.findIn K (.ref (C k)) "__class__" = some (some (.builtin "object.__class__"))
  hn : PySem.W.specialIn K (.builtin "object.__class__") "__get__" = some (some (.builtin "getset_descriptor.__get__"))
  ht : PySem.W.takesIn K (.builtin "object.__class__") = some true
  hm : PySem.W.mroIn K (C k) (.type "object") = some true
  i0 : PySem.W.kitOne K (.ref (C k)) (.ref (C 0)) = some (decide (k = 0))
  i1 : PySem.W.kitOne K (.ref (C k)) (.ref (C 1)) = some (decide (k = 1))
  i2 : PySem.W.kitOne K (.ref (C k)) (.ref (C 2)) = some (decide (k = 2))
  i3 : PySem.W.kitOne K (.ref (C k)) (.ref (C 3)) = some (decide (k = 3))
  i4 : PySem.W.kitOne K (.ref (C k)) (.ref (C 4)) = some (decide (k = 4))
structure ExcK (K : PySem.W.Frag) (N : Addr) (C : Nat → Addr) : Prop where
  nN : PySem.W.nsIn K mainGlobals "NumberError" = some (some (.ref N))
  n0 : PySem.W.nsIn K mainGlobals "NotAllowed" = some (some (.ref (C 0)))
  n1 : PySem.W.nsIn K mainGlobals "TooLarge" = some (some (.ref (C 1)))
  n2 : PySem.W.nsIn K mainGlobals "Missing" = some (some (.ref (C 2)))
  n3 : PySem.W.nsIn K mainGlobals "BadForm" = some (some (.ref (C 3)))
  n4 : PySem.W.nsIn K mainGlobals "Broken" = some (some (.ref (C 4)))
  x0 : ExcK1 K N C 0
  x1 : ExcK1 K N C 1
  x2 : ExcK1 K N C 2
structure ExcKS (K : PySem.W.Frag) : Prop where
  ex : ∃ N C, ExcK K N C
theorem ExcKS.mk' {K : PySem.W.Frag} {N C0 C1 C2 C3 C4 : Addr} (nN : PySem.W.nsIn K mainGlobals "NumberError" = some (some (.ref N))) (n0 : PySem.W.nsIn K mainGlobals "NotAllowed" = some (some (.ref C0)))
    (n1 : PySem.W.nsIn K mainGlobals "TooLarge" = some (some (.ref C1))) (n2 : PySem.W.nsIn K mainGlobals "Missing" = some (some (.ref C2))) (n3 : PySem.W.nsIn K mainGlobals "BadForm" = some (some (.ref C3))) (n4 : PySem.W.nsIn K mainGlobals "Broken" = some (some (.ref C4)))
    (x0 : ExcK1 K N (cF C0 C1 C2 C3 C4) 0) (x1 : ExcK1 K N (cF C0 C1 C2 C3 C4) 1) (x2 : ExcK1 K N (cF C0 C1 C2 C3 C4) 2) : ExcKS K := ⟨⟨_, _, nN, n0, n1, n2, n3, n4, x0, x1, x2⟩⟩
/-- a builtin's name is not the program's -/
structure BltK (K : PySem.W.Frag) : Prop where
  b0 : PySem.W.nsIn K mainGlobals "len" = some none
  b1 : PySem.W.nsIn K mainGlobals "int" = some none
  b2 : PySem.W.nsIn K mainGlobals "abs" = some none
  b3 : PySem.W.nsIn K mainGlobals "tuple" = some none
  b4 : PySem.W.nsIn K mainGlobals "list" = some none
  b5 : PySem.W.nsIn K mainGlobals "max" = some none
  b6 : PySem.W.nsIn K mainGlobals "min" = some none
  b7 : PySem.W.nsIn K mainGlobals "sum" = some none
  b8 : PySem.W.nsIn K mainGlobals "all" = some none
  b9 : PySem.W.nsIn K mainGlobals "any" = some none
  b10 : PySem.W.nsIn K mainGlobals "sorted" = some none
  b11 : PySem.W.nsIn K mainGlobals "range" = some none
  b12 : PySem.W.nsIn K mainGlobals "zip" = some none
  b13 : PySem.W.nsIn K mainGlobals "enumerate" = some none
  b14 : PySem.W.nsIn K mainGlobals "repr" = some none
  b15 : PySem.W.nsIn K mainGlobals "isinstance" = some none
  b16 : PySem.W.nsIn K mainGlobals "reversed" = some none
section
variable {K : PySem.W.Frag} {h : Heap} {mg : Str → Option Value}
theorem DefK.inn {κ : Kit} {x : Str} {st : Stmt} (d : DefK κ.K x st) (X : κ.K.In h) (G : h.Ns mainGlobals mg) {ps : List Str} (hb : ∀ (kV doc pm : Value) (an : Option Addr) (cdv ct : Value) (us : List Value), us.length = ps.length → bindArgs (PySem.W.fnOf x x (defArgs st) (defBody st) (defScope st) .none kV doc pm an cdv ct) ⟨us, []⟩ = pure (ps.zip us)) :
    ∃ a fd, DefIn κ mg x st ps a fd := by
  obtain ⟨f, oc, od, kV, doc, pm, an, cd, ct, sl, e1, e2, e3, e4⟩ := d.ex
  have F := fun_mk (st := st) e2 e3 e4
  exact ⟨_, _, F, PySem.W.mg_of X G e1, F.binds hb⟩
theorem BltK.none (b : BltK K) (X : K.In h) (G : h.Ns mainGlobals mg) : ∀ x ∈ bltNames, mg x = none := by
  intro x hx
  unfold bltNames at hx
  simp only [List.mem_cons, List.not_mem_nil, or_false] at hx
  rcases hx with rfl | rfl | rfl | rfl | rfl | rfl | rfl | rfl | rfl | rfl | rfl | rfl | rfl | rfl | rfl | rfl | rfl
  · exact PySem.W.mg_none_of X G b.b0
  · exact PySem.W.mg_none_of X G b.b1
  · exact PySem.W.mg_none_of X G b.b2
  · exact PySem.W.mg_none_of X G b.b3
  · exact PySem.W.mg_none_of X G b.b4
  · exact PySem.W.mg_none_of X G b.b5
  · exact PySem.W.mg_none_of X G b.b6
  · exact PySem.W.mg_none_of X G b.b7
  · exact PySem.W.mg_none_of X G b.b8
  · exact PySem.W.mg_none_of X G b.b9
  · exact PySem.W.mg_none_of X G b.b10
  · exact PySem.W.mg_none_of X G b.b11
  · exact PySem.W.mg_none_of X G b.b12
  · exact PySem.W.mg_none_of X G b.b13
  · exact PySem.W.mg_none_of X G b.b14
  · exact PySem.W.mg_none_of X G b.b15
  · exact PySem.W.mg_none_of X G b.b16
def enF : Nat → Str
  | 0 => "NotAllowed" | 1 => "TooLarge" | _ => "Missing"
theorem ExcK1.excC {N : Addr} {C : Nat → Addr} {k : Nat} (e : ExcK1 K N C k) : ExcC K (C k) := ⟨e.hg, e.hk, e.e3, e.hd, e.ha, e.hn, e.ht, e.hm⟩
theorem ExcK1.kit {N : Addr} {C : Nat → Addr} {k : Nat} (e : ExcK1 K N C k) : ∀ j < 5, PySem.W.kitOne K (.ref (C k)) (.ref (C j)) = some (decide (k = j))
  | 0, _ => e.i0
  | 1, _ => e.i1
  | 2, _ => e.i2
  | 3, _ => e.i3
  | 4, _ => e.i4
  | _ + 5, h => absurd h (by omega)
theorem ExcK.at {N : Addr} {C : Nat → Addr} (e : ExcK K N C) : ∀ k < 3, ExcK1 K N C k
  | 0, _ => e.x0
  | 1, _ => e.x1
  | 2, _ => e.x2
  | _ + 3, h => absurd h (by omega)
theorem ExcK.err {κ : Kit} {N : Addr} {C : Nat → Addr} (e : ExcK κ.K N C) (hc : ∀ k, κ.cls k = .ref (C k)) (X : κ.K.In h) (G : h.Ns mainGlobals mg) : ErrOk κ mg where
  num := ⟨N, PySem.W.mg_of X G e.nN, fun k hk => by rw [hc]; exact (e.at k hk).e5⟩
  cls := fun k hk => ⟨C k, hc k, (e.at k hk).excC⟩
  is := ⟨C, PySem.W.mg_of X G e.n0, PySem.W.mg_of X G e.n1, PySem.W.mg_of X G e.n2, PySem.W.mg_of X G e.n3, PySem.W.mg_of X G e.n4, fun k hk j hj => by rw [hc]; exact (e.at k hk).kit j hj⟩
theorem ExcK.glob {κ : Kit} {N : Addr} {C : Nat → Addr} (e : ExcK κ.K N C) (hc : ∀ k, κ.cls k = .ref (C k)) (hn : κ.en = enF) (hk : ∀ k ∈ κ.ks, k < 3) (X : κ.K.In h) (G : h.Ns mainGlobals mg) : ∀ k ∈ κ.ks, ∃ C : Addr, κ.cls k = .ref C ∧ mg (κ.en k) = some (.ref C) ∧ PySem.W.excIn κ.K C [.type "ValueError", .type "Exception", .type "BaseException", .type "object"] "ValueError.__new__" = true ∧ PySem.W.keepIn κ.K (.ref C) = true ∧
    PySem.W.subIn κ.K (.ref C) (.type "BaseException") = some true ∧ PySem.W.typeIn κ.K (.ref C) = some (.type "type") := by
  intro k hm
  have hk3 := hk k hm
  have x := e.at k hk3
  refine ⟨C k, hc k, ?_, x.e1, x.e2, x.e3, x.e4⟩
  rw [hn]
  match k, hk3 with
  | 0, _ => exact PySem.W.mg_of X G e.n0
  | 1, _ => exact PySem.W.mg_of X G e.n1
  | 2, _ => exact PySem.W.mg_of X G e.n2
end
end DD



set_option Elab.async false
set_option linter.all false
set_option maxRecDepth 100000
set_option maxHeartbeats 4000000
namespace DD
open PySem PySem.Spec PyProof.Rows L2
/-! how long a shown datum is, at most -/
mutual
def szD : D → Nat
  | .none => 4
  | .bool _ => 5
  | .int _ => 1921
  | .str x => (reprText x).length
  | .list xs => szAll xs + 4
  | .tuple xs => szAll xs + 4
  | .dict _ => 0
def szAll : List D → Nat
  | [] => 0
  | x :: xs => szD x + 2 + szAll xs
end
theorem sapp (a b : Str) : (a ++ b).length = a.length + b.length := by
  first
    | exact Str.length_append a b
    | simp
theorem textFrom_le : ∀ (ts : List Str) (k : Nat) (acc : Str), (textFrom k acc ts).length ≤ acc.length + piled ts
  | [], k, acc => Nat.le_add_right _ _
  | t :: r, k, acc => by
    have h := textFrom_le r (k + 1) (acc ++ (if k > 0 then ", " else "" : String) ++ t)
    rw [piled_cons]
    rw [sapp, sapp] at h
    have e : ((if k > 0 then ", " else "" : String) : Str).length ≤ 2 := by split <;> decide
    show (textFrom (k + 1) _ r).length ≤ _
    omega
theorem listText_le (ts : List Str) : (listText ts).length ≤ piled ts + 4 := by
  unfold listText
  rw [sapp]
  have h := textFrom_le ts 0 "["
  have e1 : ((("[" : String) : Str)).length = 1 := by decide
  have e2 : ((("]" : String) : Str)).length = 1 := by decide
  omega
theorem tupleText_le (ts : List Str) : (tupleText ts).length ≤ piled ts + 4 := by
  unfold tupleText
  rw [sapp, sapp]
  have e1 : ((("(" : String) : Str)).length = 1 := by decide
  have e2 : ((if ts.length == 1 then ",)" else ")" : String) : Str).length ≤ 2 := by split <;> decide
  have e3 : (Str.join ", " ts).length ≤ piled ts := by
    cases ts with
    | nil => decide
    | cons a r =>
      have := join_length_add (a :: r) (by simp)
      omega
  omega
mutual
theorem shown_le : ∀ d : D, d.showable = true → d.hasDict = false → d.shown.length ≤ szD d
  | .none, _, _ => by show _ ≤ 4; decide
  | .bool b, _, _ => by cases b <;> (show _ ≤ 5; decide)
  | .int i, h, _ => int_text_len_1921 (of_decide_eq_true h)
  | .str x, _, _ => Nat.le_refl _
  | .list xs, h, h2 => Nat.le_trans (listText_le _) (Nat.add_le_add_right (shownAll_le xs h h2) 4)
  | .tuple xs, h, h2 => Nat.le_trans (tupleText_le _) (Nat.add_le_add_right (shownAll_le xs h h2) 4)
  | .dict _, _, h2 => by cases h2
theorem shownAll_le : ∀ ds : List D, PyData.showableAll ds = true → PyData.hasDictAll ds = false → piled (PyData.shownAll ds) ≤ szAll ds
  | [], _, _ => Nat.le_refl _
  | x :: xs, h, h2 => by
    simp only [PyData.showableAll, Bool.and_eq_true] at h
    simp only [PyData.hasDictAll, Bool.or_eq_false_iff] at h2
    have h1 := shown_le x h.1 h2.1
    have h3 := shownAll_le xs h.2 h2.2
    show piled (PyData.shown x :: PyData.shownAll xs) ≤ _
    rw [piled_cons]
    show _ ≤ szD x + 2 + szAll xs
    omega
end
theorem sho_mk {x : D} (a : PyData.showable x = true) (b : PyData.hasDict x = false) (c : PyData.depth x ≤ 50) (d : szD x ≤ 16000000) (e : PyData.canLay0 x = true) : Sho x := by
  refine ⟨a, b, c, Nat.le_trans (shown_le (.list [x]) (by simp [PyData.showable, PyData.showableAll, a]) (by simp [PyData.hasDict, PyData.hasDictAll, b])) ?_, e⟩
  show szD x + 2 + 0 + 4 ≤ _
  omega
theorem rt_told : (reprText "told").length = 6 := by decide +kernel
theorem rt_missing : (reprText "missing").length = 9 := by decide +kernel
theorem rt_refused : (reprText "refused").length = 9 := by decide +kernel
theorem rt_large : (reprText "large").length = 7 := by decide +kernel
end DD



set_option Elab.async false
set_option linter.all false
set_option maxRecDepth 100000
set_option maxHeartbeats 4000000
namespace DD
open PySem PySem.Spec PyProof.Rows L2
/-! what the laws' parts have in common -/
def NumsOk (ns : List Int) : Prop := ns ≠ [] ∧ (∀ x ∈ ns, 0 ≤ x ∧ x < 2 ^ 31) ∧ ns.length < 2 ^ 20
def optD : Option Int → D
  | none => .none
  | some w => .int w
theorem okMul_l {i j : Int} (h0 : -(2 ^ 64) < i) (h1 : i < 2 ^ 64) : okMul i j := .inl (.inl ⟨h0, h1⟩)
theorem okMul_r {i j : Int} (h0 : -(2 ^ 64) < j) (h1 : j < 2 ^ 64) : okMul i j := .inl (.inr ⟨h0, h1⟩)
theorem log2_small {j : Int} (h0 : 0 < j) (h : j < 2 ^ 100) : j.natAbs.log2 < 9000 := by
  have h1 : j.natAbs < 2 ^ 100 := by omega
  exact Nat.lt_trans ((Nat.log2_lt (by omega)).mpr h1) (by decide)
/-- a comprehension whose turns draw nothing and are told by a function -/
theorem wTurns_run {t : D → Nat → (Option D → Nat → Prop) → Prop} {Q : KL} {n : Nat} (g : D → Option D) : ∀ (ds acc : List D), (∀ d ∈ ds, ∀ R : Option D → Nat → Prop, R (g d) n → t d n R) → Q (acc ++ ds.filterMap g) n → wTurns t ds acc n Q
  | [], acc, _, q => by simpa [wTurns] using q
  | d :: ds, acc, h, q => by
    refine h d (List.mem_cons_self ..) _ ?_
    refine wTurns_run g ds _ (fun d' hd => h d' (List.mem_cons_of_mem _ hd)) ?_
    cases e : g d with
    | none => simpa [List.filterMap_cons, e] using q
    | some x => simpa [List.filterMap_cons, e] using q
theorem rngD_mem {lo hi : Int} {d : D} (h : d ∈ rngD lo hi) : ∃ r : Int, d = .int r ∧ lo ≤ r ∧ r < hi := by
  unfold rngD at h
  obtain ⟨i, hi, rfl⟩ := List.mem_map.mp h
  have := List.mem_range.mp hi
  exact ⟨_, rfl, by omega, by omega⟩
theorem mem_rngD {lo hi r : Int} (h0 : lo ≤ r) (h1 : r < hi) : PyData.int r ∈ rngD lo hi := by
  unfold rngD
  refine List.mem_map.mpr ⟨(r - lo).toNat, List.mem_range.mpr (by omega), ?_⟩
  congr 1; omega
theorem intsOf_map : ∀ l : List Int, intsOf (l.map PyData.int) = some l
  | [] => rfl
  | i :: l => by simp [intsOf, intsOf_map l]
theorem rngD_len (lo hi : Int) : (rngD lo hi).length = (hi - lo).toNat := by simp [rngD]
/-- the loop's next number -/
theorem rngD_drop {lo hi : Int} {j : Nat} {z : D} {ds : List D} (hr : z :: ds = (rngD lo hi).drop j) : z = .int (lo + j) ∧ ds = (rngD lo hi).drop (j + 1) ∧ lo + j < hi := by
  have e1 : (rngD lo hi)[j]? = some z := by
    have := congrArg (·[0]?) hr
    simpa using this.symm
  have e2 : ds = (rngD lo hi).drop (j + 1) := by
    have := congrArg List.tail hr
    simpa [List.tail_drop] using this
  have hj : j < (rngD lo hi).length := (List.getElem?_eq_some_iff.mp e1).1
  rw [rngD_len] at hj
  refine ⟨?_, e2, by omega⟩
  unfold rngD at e1
  rw [List.getElem?_map, List.getElem?_range hj] at e1
  cases e1; rfl
theorem rngD_end {lo hi : Int} {j : Nat} (hr : [] = (rngD lo hi).drop j) : hi ≤ lo + j := by
  have := congrArg List.length hr
  rw [List.length_drop, rngD_len] at this
  simp at this
  omega
theorem spN {m : Int} {n : Nat} {Q : K1} {X : XK1} (h0 : 0 < m) (hn : n < 2 ^ 60) (h : ∀ r : Int, 0 ≤ r → r < m → Q (.int r) (n + 1)) : spNext [sttD, .int m] n Q X := ⟨m, rfl, h0, hn, h⟩
theorem wIdx_pick {l : List D} {r : Int} {Q : D → Prop} (h0 : 0 ≤ r) (h1 : r < l.length) (h : ∀ d ∈ l, Q d) : wIdx (.list l) (.int r) Q := by
  have hk : r.toNat < l.length := by omega
  refine ⟨l[r.toNat], ?_, h _ (List.getElem_mem hk)⟩
  have := atD_nat (l := l) (List.getElem?_eq_getElem hk)
  rw [show ((r.toNat : Nat) : Int) = r by omega] at this
  exact this
theorem fmod_lt (a b : Int) (h : 0 < b) : 0 ≤ a.fmod b ∧ a.fmod b < b := ⟨Int.fmod_nonneg_of_pos a h, Int.fmod_lt_of_pos a h⟩
theorem mapInt_len (ns : List Int) : (ns.map PyData.int).length = ns.length := List.length_map ..
theorem snoc {ns : List Int} {y : Int} (h : ∀ x ∈ ns, 0 ≤ x ∧ x < 2 ^ 31) (h0 : 0 ≤ y) (h1 : y < 2 ^ 31) : ∀ x ∈ ns ++ [y], 0 ≤ x ∧ x < 2 ^ 31 := fun x hx => by
  rcases List.mem_append.mp hx with q | q
  · exact h x q
  · rw [List.mem_singleton.mp q]; exact ⟨h0, h1⟩
theorem cut63 (is : List Int) : ∃ js : List Int, cutD (is.map PyData.int) none (some 63) = js.map PyData.int ∧ js.length ≤ is.length := by
  unfold cutD
  refine ⟨(is.drop (HT.sIx (is.map PyData.int).length 0 none)).take (HT.sIx (is.map PyData.int).length (is.map PyData.int).length (some 63) - HT.sIx (is.map PyData.int).length 0 none), ?_, ?_⟩
  · rw [List.map_take, List.map_drop]
  · rw [List.length_take, List.length_drop]; omega
theorem log_ok {i : Int} (h0 : -(2 ^ 100) < i) (h1 : i < 2 ^ 100) : i.natAbs.log2 < 1920 := by
  by_cases z : i = 0
  · subst z; decide
  · exact Nat.lt_trans ((Nat.log2_lt (by omega)).mpr (show i.natAbs < 2 ^ 100 by omega)) (by decide)
theorem nm0 : nmT 0 = "refused" := rfl
theorem nm1 : nmT 1 = "large" := rfl
theorem nm2 : nmT 2 = "missing" := rfl
theorem refused {Q : K1} {n : Nat} (h : Q (.tuple [.str "refused"]) n) : 0 < 3 ∧ Q (.tuple [.str (nmT 0)]) n := ⟨by decide, h⟩
/-! comprehensions over whole numbers -/
def rngI (lo hi : Int) : List Int := (List.range (hi - lo).toNat).map fun i : Nat => lo + (i : Int)
theorem rngD_eq (lo hi : Int) : rngD lo hi = (rngI lo hi).map PyData.int := by
  unfold rngD rngI
  rw [List.map_map]; rfl
theorem mem_rngI {lo hi i : Int} : i ∈ rngI lo hi ↔ lo ≤ i ∧ i < hi := by
  unfold rngI
  rw [List.mem_map]
  constructor
  · rintro ⟨k, hk, rfl⟩
    have := List.mem_range.mp hk
    omega
  · intro ⟨h1, h2⟩
    exact ⟨(i - lo).toNat, List.mem_range.mpr (by omega), by omega⟩
theorem len_rngI (lo hi : Int) : (rngI lo hi).length = (hi - lo).toNat := by simp [rngI]
theorem wTurns_mem {α : Type} {t : D → Nat → (Option D → Nat → Prop) → Prop} {Q : KL} {n : Nat} (u : α → D) (f : α → Option D) : ∀ (is : List α) {acc : List D}, (∀ i ∈ is, ∀ R : Option D → Nat → Prop, R (f i) n → t (u i) n R) → Q (acc ++ is.filterMap f) n → wTurns t (is.map u) acc n Q
  | [], acc, _, q => by simpa [wTurns] using q
  | i :: is, acc, h, q => by
    refine h i (List.mem_cons_self ..) _ ?_
    refine wTurns_mem u f is (fun d' hd => h d' (List.mem_cons_of_mem _ hd)) ?_
    cases e : f i with
    | none => simpa [List.filterMap_cons, e] using q
    | some x => simpa [List.filterMap_cons, e] using q
theorem wTurns_rng {t : D → Nat → (Option D → Nat → Prop) → Prop} {Q : KL} {n : Nat} {lo hi : Int} {acc : List D} (f : Int → Option D) (h : ∀ i, lo ≤ i → i < hi → ∀ R : Option D → Nat → Prop, R (f i) n → t (.int i) n R) (q : Q (acc ++ (rngI lo hi).filterMap f) n) : wTurns t (rngD lo hi) acc n Q := by
  rw [rngD_eq]
  exact wTurns_mem _ f _ (fun i hi => h i (mem_rngI.mp hi).1 (mem_rngI.mp hi).2) q
/-- turns that draw: an invariant of what is made and drawn -/
theorem wTurns_inv {t : D → Nat → (Option D → Nat → Prop) → Prop} {Q : KL} (I : List D → List D → Nat → Prop) (h : ∀ d ds acc n (R : Option D → Nat → Prop), I (d :: ds) acc n → (∀ o n', I ds (match o with | some x => acc ++ [x] | none => acc) n' → R o n') → t d n R) (q : ∀ acc n, I [] acc n → Q acc n) :
    ∀ (ds acc : List D) (n : Nat), I ds acc n → wTurns t ds acc n Q
  | [], acc, n, i => q acc n i
  | d :: ds, acc, n, i => h d ds acc n _ i fun o n' j => wTurns_inv I h q ds _ n' j
theorem fm_some {α β : Type} (f : α → β) (l : List α) : l.filterMap (fun i => some (f i)) = l.map f := by
  rw [← List.filterMap_eq_map]; rfl
theorem fm_if {α β : Type} (p : α → Bool) (f : α → β) : ∀ l : List α, l.filterMap (fun i => if p i = true then some (f i) else none) = (l.filter p).map f
  | [] => rfl
  | a :: l => by
    rw [List.filterMap_cons, List.filter_cons]
    cases e : p a <;> simp [fm_if p f l]
theorem blsOf_map {α : Type} (p : α → Bool) : ∀ l : List α, blsOf (l.map fun i => PyData.bool (p i)) = some (l.map p)
  | [] => rfl
  | a :: l => by
    show (blsOf (l.map fun i => PyData.bool (p i))).map (p a :: ·) = _
    rw [blsOf_map p l]; rfl
theorem wAll {α : Type} {Q : D → Prop} (p : α → Bool) (l : List α) (h : Q (.bool (l.all p))) : wBi .all [.list (l.map fun i => PyData.bool (p i))] Q := ⟨_, blsOf_map p l, by rw [List.all_map]; exact h⟩
theorem wAny {α : Type} {Q : D → Prop} (p : α → Bool) (l : List α) (h : Q (.bool (l.any p))) : wBi .any [.list (l.map fun i => PyData.bool (p i))] Q := ⟨_, blsOf_map p l, by rw [List.any_map]; exact h⟩
theorem all_id {α : Type} (p : α → Bool) (l : List α) : (l.map p).all id = l.all p := by rw [List.all_map]; rfl
theorem any_id {α : Type} (p : α → Bool) (l : List α) : (l.map p).any id = l.any p := by rw [List.any_map]; rfl
theorem intsOf_fm {α : Type} (f : α → Int) (l : List α) : intsOf (l.map fun i => PyData.int (f i)) = some (l.map f) := by
  have := intsOf_map (l.map f)
  rwa [List.map_map] at this
/-! data of bounded depth and shown length -/
structure Nc (k s : Nat) (d : D) : Prop where
  sh : PyData.showable d = true
  nd : PyData.hasDict d = false
  dp : PyData.depth d ≤ k
  sz : szD d ≤ s
  ly : PyData.canLay0 d = true
structure NcA (k s : Nat) (m : Nat) (l : List D) : Prop where
  sh : PyData.showableAll l = true
  nd : PyData.hasDictAll l = false
  dp : PyData.depthAll l ≤ k
  sz : szAll l ≤ m * (s + 2)
  ly : PyData.canLayAll0 l = true
theorem Nc.mono {k s k' s' : Nat} {d : D} (h : Nc k s d) (hk : k ≤ k') (hs : s ≤ s') : Nc k' s' d := ⟨h.sh, h.nd, Nat.le_trans h.dp hk, Nat.le_trans h.sz hs, h.ly⟩
theorem Nc.int {i : Int} (h : i.natAbs.log2 < 1920) : Nc 1 1921 (.int i) := ⟨decide_eq_true h, rfl, by simp [PyData.depth], Nat.le_refl _, rfl⟩
theorem Nc.bool (b : Bool) : Nc 1 1921 (.bool b) := ⟨rfl, rfl, by simp [PyData.depth], by simp [szD], rfl⟩
theorem Nc.none : Nc 1 1921 .none := ⟨rfl, rfl, by simp [PyData.depth], by simp [szD], rfl⟩
theorem Nc.str {x : Str} (h : PyData.strOk x = true) (h2 : (reprText x).length ≤ 1921) : Nc 1 1921 (.str x) := ⟨rfl, rfl, by simp [PyData.depth], h2, h⟩
theorem Nc.told : Nc 1 1921 (.str "told") := .str so_told (by rw [rt_told]; decide)
theorem Nc.refused : Nc 1 1921 (.str "refused") := .str so_refused (by rw [rt_refused]; decide)
theorem Nc.missing : Nc 1 1921 (.str "missing") := .str so_missing (by rw [rt_missing]; decide)
theorem Nc.large : Nc 1 1921 (.str "large") := .str so_large (by rw [rt_large]; decide)
theorem NcA.nil {k s : Nat} : NcA k s 0 [] := ⟨rfl, rfl, by simp [PyData.depthAll], by simp [szAll], rfl⟩
theorem NcA.cons {k s m : Nat} {d : D} {l : List D} (h : Nc k s d) (r : NcA k s m l) : NcA k s (m + 1) (d :: l) :=
  ⟨by simp [PyData.showableAll, h.sh, r.sh], by simp [PyData.hasDictAll, h.nd, r.nd], by simp only [PyData.depthAll]; exact Nat.max_le.mpr ⟨h.dp, r.dp⟩, by
    have := h.sz; have := r.sz
    show szD d + 2 + szAll l ≤ _
    rw [Nat.add_mul]; omega, by simp [PyData.canLayAll0, h.ly, r.ly]⟩
theorem NcA.of {k s : Nat} : ∀ {l : List D}, (∀ d ∈ l, Nc k s d) → NcA k s l.length l
  | [], _ => .nil
  | d :: l, h => .cons (h d (List.mem_cons_self ..)) (NcA.of fun x hx => h x (List.mem_cons_of_mem _ hx))
theorem NcA.list {k s m : Nat} {l : List D} (h : NcA k s m l) : Nc (k + 1) (m * (s + 2) + 4) (.list l) :=
  ⟨h.sh, h.nd, by simp only [PyData.depth]; have := h.dp; omega, Nat.add_le_add_right h.sz 4, h.ly⟩
theorem NcA.tup {k s m : Nat} {l : List D} (h : NcA k s m l) : Nc (k + 1) (m * (s + 2) + 4) (.tuple l) :=
  ⟨h.sh, h.nd, by simp only [PyData.depth]; have := h.dp; omega, Nat.add_le_add_right h.sz 4, h.ly⟩
theorem NcA.ints {r : List Int} (h : ∀ i ∈ r, i.natAbs.log2 < 1920) : NcA 1 1921 r.length (r.map .int) := by
  have := NcA.of (k := 1) (s := 1921) (l := r.map PyData.int) fun d hd => by
    obtain ⟨i, hi, rfl⟩ := List.mem_map.mp hd
    exact .int (h i hi)
  rwa [List.length_map] at this
theorem Nc.sho {k s : Nat} {d : D} (h : Nc k s d) (hk : k ≤ 50) (hs : s ≤ 16000000) : Sho d := sho_mk h.sh h.nd (Nat.le_trans h.dp hk) (Nat.le_trans h.sz hs) h.ly
theorem Nc.shp {k s : Nat} {d : D} (h : Nc k s d) (hk : k ≤ 64) : Shp d := by
  unfold Shp SeqAt.shaped
  rw [h.ly, decide_eq_true (Nat.le_trans h.dp hk)]; rfl
theorem lay_ints : ∀ r : List Int, PyData.canLayAll0 (r.map .int) = true ∧ PyData.depthAll (r.map .int) = 0
  | [] => ⟨rfl, by simp [PyData.depthAll]⟩
  | i :: r => by
    have := lay_ints r
    exact ⟨by simp [PyData.canLayAll0, PyData.canLay0, this.1], by simp [PyData.depthAll, PyData.depth, this.2]⟩
theorem shpL (r : List Int) : Shp (.list (r.map .int)) := by
  unfold Shp SeqAt.shaped
  simp only [PyData.canLay0, PyData.depth, (lay_ints r).1, (lay_ints r).2]; decide
theorem shpT (r : List Int) : Shp (.tuple (r.map .int)) := by
  unfold Shp SeqAt.shaped
  simp only [PyData.canLay0, PyData.depth, (lay_ints r).1, (lay_ints r).2]; decide
theorem eqv_ints : ∀ r s : List Int, PyData.eqvAll (r.map .int) (s.map .int) = decide (r = s)
  | [], [] => rfl
  | [], _ :: _ => rfl
  | _ :: _, [] => rfl
  | a :: r, b :: s => by
    show (decide (a = b) && PyData.eqvAll (r.map .int) (s.map .int)) = _
    rw [eqv_ints r s]
    by_cases h : a = b <;> by_cases h2 : r = s <;> simp [h, h2]
/-! loops by an invariant -/
section
variable {Γ : Gam} {G : Nat → D}
theorem forG (hΓ : MonoG Γ) {b : Ss} {tg : Tg} {dead : List Nat} {K : Kn} {ds : List D} {e : Env} {n : Nat} (I : List D → Env → Nat → Prop) (h0 : I ds e n) (hn : ∀ e n, I [] e n → K.nx (clrS e dead) n)
    (hs : ∀ d ds e n, I (d :: ds) e n → wBnd tg d (clrS e dead) fun e' => wSs Γ G b e' n { K with nx := fun e n => I ds e n, ct := fun e n => I ds e n, bk := fun e n => K.nx (clrS e dead) n }) :
    wFor (fun env n K => wSs Γ G b env n K) tg dead ds e n K := wFor_inv (b := fun env n K => wSs Γ G b env n K) I (fun _ _ _ _ l q => wSs_mono hΓ b l q) hn hs ds e n h0
end
/-! `_law_stream` -/
abbrev nL_stream : List Str := ["script", "numbers", "cell", "rest", "k", "stirred"]
abbrev pL_stream : List Str := ["script"]
def lL_stream_1 : Ss := (.cons (.app 1 (.bin .mod (.bi .int (.cons (.var 3) .nil)) (.cst (.int 1009))))
  (.cons (.asg 3 (.bin .fdiv (.var 3) (.cst (.int 1009))))
  (.cons (.ite (.cmp .eq (.var 3) (.cst (.int 0))) (.cons .brk
  .nil) .nil)
  .nil)))
def lL_stream_2 : Ss := (.cons (.asg 5 (.bin .mod (.bi .int (.cons (.bin .add (.bin .add (.bin .mul (.var 5) (.cst (.int 48271))) (.bin .mul (.cst (.int 7)) (.var 4))) (.cst (.int 11))) .nil)) (.cst (.int 2147483647))))
  (.cons (.app 1 (.bin .mod (.bin .mod (.bi .int (.cons (.bin .add (.bin .mul (.var 5) (.cst (.int 69621))) (.var 4)) .nil)) (.cst (.int 2147483629))) (.cst (.int 1009))))
  .nil))
def lL_stream_3 : Ss := (.cons (.asg 3 (.bi .abs (.cons (.bi .int (.cons (.var 2) .nil)) .nil)))
  (.cons (.ite (.cmp .ge (.var 3) (.bin .pow (.cst (.int 10)) (.cst (.int 18)))) (.cons (.for_ (.nm 4) (.rng1 (.cst (.int 60))) lL_stream_1 [4])
  .nil) (.cons (.asg 5 (.bin .mod (.bi .int (.cons (.var 3) .nil)) (.cst (.int 2147483647))))
  (.cons (.for_ (.nm 4) (.rng1 (.cst (.int 10))) lL_stream_2 [4])
  .nil)))
  .nil))
def bL_stream : Ss := (.cons (.asgO 1 (.lst .nil))
  (.cons (.for_ (.nm 2) (.lst (.slc (.var 0) .no (.ex (.cst (.int 63))))) lL_stream_3 [2, 3, 4, 5])
  (.cons (.ite (.cmp .eq (.bi .len (.cons (.pk 1) .nil)) (.cst (.int 0))) (.cons (.app 1 (.cst (.int 0)))
  .nil) .nil)
  (.cons (.retO 1)
  .nil))))
abbrev sL_stream : Stmt := topS iStream
theorem fL_stream : FnScope nL_stream pL_stream (defScope sL_stream) := C8.fnScope_by (by decide +kernel)
def J2 (scr : D) (m : Nat) (n : Nat) (rem : List D) (e : Env) (n' : Nat) : Prop := ∃ (ns : List Int) (r : Int) (x2 x4 x5 : Sl), n' = n ∧ e = [.v scr, .own (ns.map .int), x2, .v (.int r), x4, x5] ∧ (∀ x ∈ ns, 0 ≤ x ∧ x < 2 ^ 31) ∧ ns.length + rem.length ≤ m
def J3 (scr : D) (m : Nat) (n : Nat) (rem : List D) (e : Env) (n' : Nat) : Prop := ∃ (ns : List Int) (r : Int) (x2 x3 x4 : Sl), n' = n ∧ e = [.v scr, .own (ns.map .int), x2, x3, x4, .v (.int r)] ∧ (∀ x ∈ ns, 0 ≤ x ∧ x < 2 ^ 31) ∧ ns.length + rem.length ≤ m ∧ (∀ d ∈ rem, ∃ i : Int, d = .int i)
def J1 (scr : D) (n : Nat) (rem : List D) (e : Env) (n' : Nat) : Prop := ∃ (ns : List Int) (x2 x3 x4 x5 : Sl), n' = n ∧ (∀ d ∈ rem, ∃ i : Int, d = .int i) ∧ e = [.v scr, .own (ns.map .int), x2, x3, x4, x5] ∧ (∀ x ∈ ns, 0 ≤ x ∧ x < 2 ^ 31) ∧ ns.length + 60 * rem.length ≤ 3780
def spStream : Sg := fun ds n Q X => ∃ is : List Int, ds = [scrD (is.map .int)] ∧ is.length ≤ 63 ∧ ∀ ns, NumsOk ns → Q (.list (ns.map .int)) n
theorem sem_stream {Γ : Gam} {G : Nat → D} (hΓ : MonoG Γ) : ∀ ds n Qd Xd, spStream ds n Qd Xd → wSs Γ G bL_stream (startE nL_stream.length ds) n (endK Qd Xd) := by
  rintro ds n Qd Xd ⟨is, rfl, hl, h⟩
  unfold bL_stream
  (simp only [DD.wSs, DD.wS, DD.wT, DD.wTs, DD.wE, DD.wEs, DD.wEi, DD.wIt, DD.wBnd, DD.bindT, DD.wb_add, DD.wb_sub, DD.wb_mul, DD.wb_fdiv, DD.wb_mod, DD.wb_pow, DD.wb_shl, DD.wb_shr, DD.wb_addL, DD.wb_addT, DD.wb_mulL, DD.wc_lt, DD.wc_le, DD.wc_gt, DD.wc_ge, DD.wc_eq, DD.wc_ne, DD.wc_isN0, DD.wc_isN1, DD.wc_isN2, DD.wc_isN3, DD.wc_isN4, DD.wc_isN5, DD.wc_notN0, DD.wc_notN1, DD.wc_notN2, DD.wc_notN3, DD.wc_notN4, DD.wc_notN5, DD.wt_n, DD.wt_b, DD.wt_i, DD.wt_l, DD.wt_t, DD.wi_l, DD.wi_t, DD.wu_len, DD.wu_lenT, DD.wu_int, DD.wu_intb, DD.wu_abs, DD.wu_tup, DD.wu_tupT, DD.wu_lst, DD.wu_lstT, DD.wu_max2, DD.wu_min2, DD.wu_max1, DD.wu_min1, DD.wu_sum, DD.wu_all, DD.wu_any, DD.wu_sorted, DD.ws_l, DD.ws_t, DD.ws_s, DD.wr_l, DD.wr_t, DD.wb_mulT, DD.wst_l, DD.wst_t, DD.wz_l, DD.wz_t, DD.wn_l, DD.wv_l, DD.wv_t, DD.wc_inl, DD.wc_ninl, DD.wc_int, DD.wc_nint, DD.wCh, DD.ev_ii, DD.ev_bb, DD.ev_ss, DD.ev_nn, DD.ev_ni, DD.ev_in, DD.ev_is, DD.ev_si, DD.ev_tt, DD.ev_ll, DD.ea_nn, DD.ea_cc, DD.ea_nc, DD.ea_cn, DD.sh_n, DD.sh_b, DD.sh_i, DD.sh_s, DD.so_told, DD.so_refused, DD.so_missing, DD.so_large, DD.at0, DD.at1, DD.at2, DD.at3, DD.startE, DD.endK, List.map_cons, List.map_nil, List.length_cons, List.length_nil, List.replicate, List.cons_append, List.nil_append, List.append_nil, DD.getS, DD.setS, DD.clrS, DD.deo_c, DD.deo_n, DD.deo1_v, DD.deo1_u, DD.deo1_o, DD.tgs, DD.Sl.v.injEq, DD.Sl.own.injEq, PySem.PyData.int.injEq, PySem.PyData.bool.injEq, PySem.PyData.list.injEq, PySem.PyData.tuple.injEq, PySem.PyData.str.injEq, Option.some.injEq, exists_eq_left', exists_eq_left, exists_and_left, exists_and_right, List.zip_cons_cons, List.zip_nil_right, List.zip_nil_left, List.foldl_cons, List.foldl_nil, List.getD_cons_zero, List.getD_cons_succ, true_and, and_true, Bool.false_eq_true, Bool.true_eq_false, Bool.not_true, Bool.not_false, if_true, if_false, decide_eq_true_eq, decide_eq_false_iff_not, Bool.not_eq_true', Bool.not_eq_false', DD.imp_tt, DD.imp_ff, DD.imp_tf, DD.imp_ft, forall_const, true_implies, false_implies, implies_true, Int.reduceLT, Int.reduceLE, reduceIte, ite_true, ite_false])
  obtain ⟨js, ej, hj⟩ := cut63 is
  rw [ej]
  refine forG hΓ (J1 (scrD (is.map .int)) n) ⟨[], _, _, _, _, rfl, ?_, rfl, by simp, ?_⟩ ?_ ?_
  · intro d hd
    obtain ⟨i, _, rfl⟩ := List.mem_map.mp hd
    exact ⟨i, rfl⟩
  · rw [mapInt_len]; simp only [List.length_nil]; omega
  · rintro e n' ⟨ns, x2, x3, x4, x5, rfl, _, rfl, hns, hlen⟩
    (simp only [DD.wSs, DD.wS, DD.wT, DD.wTs, DD.wE, DD.wEs, DD.wEi, DD.wIt, DD.wBnd, DD.bindT, DD.wb_add, DD.wb_sub, DD.wb_mul, DD.wb_fdiv, DD.wb_mod, DD.wb_pow, DD.wb_shl, DD.wb_shr, DD.wb_addL, DD.wb_addT, DD.wb_mulL, DD.wc_lt, DD.wc_le, DD.wc_gt, DD.wc_ge, DD.wc_eq, DD.wc_ne, DD.wc_isN0, DD.wc_isN1, DD.wc_isN2, DD.wc_isN3, DD.wc_isN4, DD.wc_isN5, DD.wc_notN0, DD.wc_notN1, DD.wc_notN2, DD.wc_notN3, DD.wc_notN4, DD.wc_notN5, DD.wt_n, DD.wt_b, DD.wt_i, DD.wt_l, DD.wt_t, DD.wi_l, DD.wi_t, DD.wu_len, DD.wu_lenT, DD.wu_int, DD.wu_intb, DD.wu_abs, DD.wu_tup, DD.wu_tupT, DD.wu_lst, DD.wu_lstT, DD.wu_max2, DD.wu_min2, DD.wu_max1, DD.wu_min1, DD.wu_sum, DD.wu_all, DD.wu_any, DD.wu_sorted, DD.ws_l, DD.ws_t, DD.ws_s, DD.wr_l, DD.wr_t, DD.wb_mulT, DD.wst_l, DD.wst_t, DD.wz_l, DD.wz_t, DD.wn_l, DD.wv_l, DD.wv_t, DD.wc_inl, DD.wc_ninl, DD.wc_int, DD.wc_nint, DD.wCh, DD.ev_ii, DD.ev_bb, DD.ev_ss, DD.ev_nn, DD.ev_ni, DD.ev_in, DD.ev_is, DD.ev_si, DD.ev_tt, DD.ev_ll, DD.ea_nn, DD.ea_cc, DD.ea_nc, DD.ea_cn, DD.sh_n, DD.sh_b, DD.sh_i, DD.sh_s, DD.so_told, DD.so_refused, DD.so_missing, DD.so_large, DD.at0, DD.at1, DD.at2, DD.at3, DD.startE, DD.endK, List.map_cons, List.map_nil, List.length_cons, List.length_nil, List.replicate, List.cons_append, List.nil_append, List.append_nil, DD.getS, DD.setS, DD.clrS, DD.deo_c, DD.deo_n, DD.deo1_v, DD.deo1_u, DD.deo1_o, DD.tgs, DD.Sl.v.injEq, DD.Sl.own.injEq, PySem.PyData.int.injEq, PySem.PyData.bool.injEq, PySem.PyData.list.injEq, PySem.PyData.tuple.injEq, PySem.PyData.str.injEq, Option.some.injEq, exists_eq_left', exists_eq_left, exists_and_left, exists_and_right, List.zip_cons_cons, List.zip_nil_right, List.zip_nil_left, List.foldl_cons, List.foldl_nil, List.getD_cons_zero, List.getD_cons_succ, true_and, and_true, Bool.false_eq_true, Bool.true_eq_false, Bool.not_true, Bool.not_false, if_true, if_false, decide_eq_true_eq, decide_eq_false_iff_not, Bool.not_eq_true', Bool.not_eq_false', DD.imp_tt, DD.imp_ff, DD.imp_tf, DD.imp_ft, forall_const, true_implies, false_implies, implies_true, Int.reduceLT, Int.reduceLE, reduceIte, ite_true, ite_false])
    rw [mapInt_len]
    simp only [List.length_nil] at hlen
    refine ⟨fun h0 => ⟨by omega, ?_⟩, fun h0 => ?_⟩
    · rw [show ns.map PyData.int ++ [PyData.int 0] = (ns ++ [0]).map PyData.int by simp]
      exact h (ns ++ [0]) ⟨by simp, snoc hns (by decide) (by decide), by rw [List.length_append]; simp only [List.length_cons, List.length_nil]; omega⟩
    · exact h ns ⟨fun z => h0 (by rw [z]; rfl), hns, by omega⟩
  · rintro z ds e n' ⟨ns, x2, x3, x4, x5, rfl, hd, rfl, hns, hlen⟩
    obtain ⟨i, rfl⟩ := hd z (List.mem_cons_self ..)
    have hd' : ∀ d ∈ ds, ∃ i : Int, d = .int i := fun d hm => hd d (List.mem_cons_of_mem _ hm)
    simp only [List.length_cons] at hlen
    unfold lL_stream_3
    (simp only [DD.wSs, DD.wS, DD.wT, DD.wTs, DD.wE, DD.wEs, DD.wEi, DD.wIt, DD.wBnd, DD.bindT, DD.wb_add, DD.wb_sub, DD.wb_mul, DD.wb_fdiv, DD.wb_mod, DD.wb_pow, DD.wb_shl, DD.wb_shr, DD.wb_addL, DD.wb_addT, DD.wb_mulL, DD.wc_lt, DD.wc_le, DD.wc_gt, DD.wc_ge, DD.wc_eq, DD.wc_ne, DD.wc_isN0, DD.wc_isN1, DD.wc_isN2, DD.wc_isN3, DD.wc_isN4, DD.wc_isN5, DD.wc_notN0, DD.wc_notN1, DD.wc_notN2, DD.wc_notN3, DD.wc_notN4, DD.wc_notN5, DD.wt_n, DD.wt_b, DD.wt_i, DD.wt_l, DD.wt_t, DD.wi_l, DD.wi_t, DD.wu_len, DD.wu_lenT, DD.wu_int, DD.wu_intb, DD.wu_abs, DD.wu_tup, DD.wu_tupT, DD.wu_lst, DD.wu_lstT, DD.wu_max2, DD.wu_min2, DD.wu_max1, DD.wu_min1, DD.wu_sum, DD.wu_all, DD.wu_any, DD.wu_sorted, DD.ws_l, DD.ws_t, DD.ws_s, DD.wr_l, DD.wr_t, DD.wb_mulT, DD.wst_l, DD.wst_t, DD.wz_l, DD.wz_t, DD.wn_l, DD.wv_l, DD.wv_t, DD.wc_inl, DD.wc_ninl, DD.wc_int, DD.wc_nint, DD.wCh, DD.ev_ii, DD.ev_bb, DD.ev_ss, DD.ev_nn, DD.ev_ni, DD.ev_in, DD.ev_is, DD.ev_si, DD.ev_tt, DD.ev_ll, DD.ea_nn, DD.ea_cc, DD.ea_nc, DD.ea_cn, DD.sh_n, DD.sh_b, DD.sh_i, DD.sh_s, DD.so_told, DD.so_refused, DD.so_missing, DD.so_large, DD.at0, DD.at1, DD.at2, DD.at3, DD.startE, DD.endK, List.map_cons, List.map_nil, List.length_cons, List.length_nil, List.replicate, List.cons_append, List.nil_append, List.append_nil, DD.getS, DD.setS, DD.clrS, DD.deo_c, DD.deo_n, DD.deo1_v, DD.deo1_u, DD.deo1_o, DD.tgs, DD.Sl.v.injEq, DD.Sl.own.injEq, PySem.PyData.int.injEq, PySem.PyData.bool.injEq, PySem.PyData.list.injEq, PySem.PyData.tuple.injEq, PySem.PyData.str.injEq, Option.some.injEq, exists_eq_left', exists_eq_left, exists_and_left, exists_and_right, List.zip_cons_cons, List.zip_nil_right, List.zip_nil_left, List.foldl_cons, List.foldl_nil, List.getD_cons_zero, List.getD_cons_succ, true_and, and_true, Bool.false_eq_true, Bool.true_eq_false, Bool.not_true, Bool.not_false, if_true, if_false, decide_eq_true_eq, decide_eq_false_iff_not, Bool.not_eq_true', Bool.not_eq_false', DD.imp_tt, DD.imp_ff, DD.imp_tf, DD.imp_ft, forall_const, true_implies, false_implies, implies_true, Int.reduceLT, Int.reduceLE, reduceIte, ite_true, ite_false])
    generalize (if i < 0 then -i else i) = r
    refine ⟨⟨by decide, by decide, by decide⟩, fun _ => ⟨⟨by decide, by decide, by decide, by decide, by decide⟩, ?_⟩, fun _ => ⟨by decide, ⟨by decide, by decide, by decide, by decide, by decide⟩, ?_⟩⟩
    · refine forG hΓ (J2 (scrD (is.map .int)) (ns.length + 60) n') ⟨ns, r, _, _, _, rfl, rfl, hns, by rw [rngD_len, show (60 - 0 : Int).toNat = 60 from rfl]; omega⟩ ?_ ?_
      · rintro e m ⟨ms, r', y2, y4, y5, rfl, rfl, hms, hml⟩
        (simp only [DD.wSs, DD.wS, DD.wT, DD.wTs, DD.wE, DD.wEs, DD.wEi, DD.wIt, DD.wBnd, DD.bindT, DD.wb_add, DD.wb_sub, DD.wb_mul, DD.wb_fdiv, DD.wb_mod, DD.wb_pow, DD.wb_shl, DD.wb_shr, DD.wb_addL, DD.wb_addT, DD.wb_mulL, DD.wc_lt, DD.wc_le, DD.wc_gt, DD.wc_ge, DD.wc_eq, DD.wc_ne, DD.wc_isN0, DD.wc_isN1, DD.wc_isN2, DD.wc_isN3, DD.wc_isN4, DD.wc_isN5, DD.wc_notN0, DD.wc_notN1, DD.wc_notN2, DD.wc_notN3, DD.wc_notN4, DD.wc_notN5, DD.wt_n, DD.wt_b, DD.wt_i, DD.wt_l, DD.wt_t, DD.wi_l, DD.wi_t, DD.wu_len, DD.wu_lenT, DD.wu_int, DD.wu_intb, DD.wu_abs, DD.wu_tup, DD.wu_tupT, DD.wu_lst, DD.wu_lstT, DD.wu_max2, DD.wu_min2, DD.wu_max1, DD.wu_min1, DD.wu_sum, DD.wu_all, DD.wu_any, DD.wu_sorted, DD.ws_l, DD.ws_t, DD.ws_s, DD.wr_l, DD.wr_t, DD.wb_mulT, DD.wst_l, DD.wst_t, DD.wz_l, DD.wz_t, DD.wn_l, DD.wv_l, DD.wv_t, DD.wc_inl, DD.wc_ninl, DD.wc_int, DD.wc_nint, DD.wCh, DD.ev_ii, DD.ev_bb, DD.ev_ss, DD.ev_nn, DD.ev_ni, DD.ev_in, DD.ev_is, DD.ev_si, DD.ev_tt, DD.ev_ll, DD.ea_nn, DD.ea_cc, DD.ea_nc, DD.ea_cn, DD.sh_n, DD.sh_b, DD.sh_i, DD.sh_s, DD.so_told, DD.so_refused, DD.so_missing, DD.so_large, DD.at0, DD.at1, DD.at2, DD.at3, DD.startE, DD.endK, List.map_cons, List.map_nil, List.length_cons, List.length_nil, List.replicate, List.cons_append, List.nil_append, List.append_nil, DD.getS, DD.setS, DD.clrS, DD.deo_c, DD.deo_n, DD.deo1_v, DD.deo1_u, DD.deo1_o, DD.tgs, DD.Sl.v.injEq, DD.Sl.own.injEq, PySem.PyData.int.injEq, PySem.PyData.bool.injEq, PySem.PyData.list.injEq, PySem.PyData.tuple.injEq, PySem.PyData.str.injEq, Option.some.injEq, exists_eq_left', exists_eq_left, exists_and_left, exists_and_right, List.zip_cons_cons, List.zip_nil_right, List.zip_nil_left, List.foldl_cons, List.foldl_nil, List.getD_cons_zero, List.getD_cons_succ, true_and, and_true, Bool.false_eq_true, Bool.true_eq_false, Bool.not_true, Bool.not_false, if_true, if_false, decide_eq_true_eq, decide_eq_false_iff_not, Bool.not_eq_true', Bool.not_eq_false', DD.imp_tt, DD.imp_ff, DD.imp_tf, DD.imp_ft, forall_const, true_implies, false_implies, implies_true, Int.reduceLT, Int.reduceLE, reduceIte, ite_true, ite_false])
        exact ⟨ms, _, _, _, _, rfl, hd', rfl, hms, by simp only [List.length_nil] at hml; omega⟩
      · rintro k ks e m ⟨ms, r', y2, y4, y5, rfl, rfl, hms, hml⟩
        simp only [List.length_cons] at hml
        have q := fmod_lt r' 1009 (by decide)
        have q2 := snoc hms q.1 (by omega)
        have eqn : ms.map PyData.int ++ [PyData.int (r'.fmod 1009)] = (ms ++ [r'.fmod 1009]).map PyData.int := by simp
        have ll : (ms ++ [r'.fmod 1009]).length = ms.length + 1 := by simp
        unfold lL_stream_1
        (simp only [DD.wSs, DD.wS, DD.wT, DD.wTs, DD.wE, DD.wEs, DD.wEi, DD.wIt, DD.wBnd, DD.bindT, DD.wb_add, DD.wb_sub, DD.wb_mul, DD.wb_fdiv, DD.wb_mod, DD.wb_pow, DD.wb_shl, DD.wb_shr, DD.wb_addL, DD.wb_addT, DD.wb_mulL, DD.wc_lt, DD.wc_le, DD.wc_gt, DD.wc_ge, DD.wc_eq, DD.wc_ne, DD.wc_isN0, DD.wc_isN1, DD.wc_isN2, DD.wc_isN3, DD.wc_isN4, DD.wc_isN5, DD.wc_notN0, DD.wc_notN1, DD.wc_notN2, DD.wc_notN3, DD.wc_notN4, DD.wc_notN5, DD.wt_n, DD.wt_b, DD.wt_i, DD.wt_l, DD.wt_t, DD.wi_l, DD.wi_t, DD.wu_len, DD.wu_lenT, DD.wu_int, DD.wu_intb, DD.wu_abs, DD.wu_tup, DD.wu_tupT, DD.wu_lst, DD.wu_lstT, DD.wu_max2, DD.wu_min2, DD.wu_max1, DD.wu_min1, DD.wu_sum, DD.wu_all, DD.wu_any, DD.wu_sorted, DD.ws_l, DD.ws_t, DD.ws_s, DD.wr_l, DD.wr_t, DD.wb_mulT, DD.wst_l, DD.wst_t, DD.wz_l, DD.wz_t, DD.wn_l, DD.wv_l, DD.wv_t, DD.wc_inl, DD.wc_ninl, DD.wc_int, DD.wc_nint, DD.wCh, DD.ev_ii, DD.ev_bb, DD.ev_ss, DD.ev_nn, DD.ev_ni, DD.ev_in, DD.ev_is, DD.ev_si, DD.ev_tt, DD.ev_ll, DD.ea_nn, DD.ea_cc, DD.ea_nc, DD.ea_cn, DD.sh_n, DD.sh_b, DD.sh_i, DD.sh_s, DD.so_told, DD.so_refused, DD.so_missing, DD.so_large, DD.at0, DD.at1, DD.at2, DD.at3, DD.startE, DD.endK, List.map_cons, List.map_nil, List.length_cons, List.length_nil, List.replicate, List.cons_append, List.nil_append, List.append_nil, DD.getS, DD.setS, DD.clrS, DD.deo_c, DD.deo_n, DD.deo1_v, DD.deo1_u, DD.deo1_o, DD.tgs, DD.Sl.v.injEq, DD.Sl.own.injEq, PySem.PyData.int.injEq, PySem.PyData.bool.injEq, PySem.PyData.list.injEq, PySem.PyData.tuple.injEq, PySem.PyData.str.injEq, Option.some.injEq, exists_eq_left', exists_eq_left, exists_and_left, exists_and_right, List.zip_cons_cons, List.zip_nil_right, List.zip_nil_left, List.foldl_cons, List.foldl_nil, List.getD_cons_zero, List.getD_cons_succ, true_and, and_true, Bool.false_eq_true, Bool.true_eq_false, Bool.not_true, Bool.not_false, if_true, if_false, decide_eq_true_eq, decide_eq_false_iff_not, Bool.not_eq_true', Bool.not_eq_false', DD.imp_tt, DD.imp_ff, DD.imp_tf, DD.imp_ft, forall_const, true_implies, false_implies, implies_true, Int.reduceLT, Int.reduceLE, reduceIte, ite_true, ite_false])
        rw [mapInt_len, eqn]
        refine ⟨by decide, by omega, .inl ⟨by decide, by decide⟩, fun _ => ?_, fun _ => ?_⟩
        · exact ⟨_, _, _, _, _, rfl, hd', rfl, q2, by omega⟩
        · exact ⟨_, _, _, _, _, rfl, rfl, q2, by omega⟩
    · refine forG hΓ (J3 (scrD (is.map .int)) (ns.length + 10) n') ⟨ns, _, _, _, _, rfl, rfl, hns, by rw [rngD_len, show (10 - 0 : Int).toNat = 10 from rfl]; omega, fun d hm => let ⟨i, e, _⟩ := rngD_mem hm; ⟨i, e⟩⟩ ?_ ?_
      · rintro e m ⟨ms, r', y2, y4, y5, rfl, rfl, hms, hml, _⟩
        (simp only [DD.wSs, DD.wS, DD.wT, DD.wTs, DD.wE, DD.wEs, DD.wEi, DD.wIt, DD.wBnd, DD.bindT, DD.wb_add, DD.wb_sub, DD.wb_mul, DD.wb_fdiv, DD.wb_mod, DD.wb_pow, DD.wb_shl, DD.wb_shr, DD.wb_addL, DD.wb_addT, DD.wb_mulL, DD.wc_lt, DD.wc_le, DD.wc_gt, DD.wc_ge, DD.wc_eq, DD.wc_ne, DD.wc_isN0, DD.wc_isN1, DD.wc_isN2, DD.wc_isN3, DD.wc_isN4, DD.wc_isN5, DD.wc_notN0, DD.wc_notN1, DD.wc_notN2, DD.wc_notN3, DD.wc_notN4, DD.wc_notN5, DD.wt_n, DD.wt_b, DD.wt_i, DD.wt_l, DD.wt_t, DD.wi_l, DD.wi_t, DD.wu_len, DD.wu_lenT, DD.wu_int, DD.wu_intb, DD.wu_abs, DD.wu_tup, DD.wu_tupT, DD.wu_lst, DD.wu_lstT, DD.wu_max2, DD.wu_min2, DD.wu_max1, DD.wu_min1, DD.wu_sum, DD.wu_all, DD.wu_any, DD.wu_sorted, DD.ws_l, DD.ws_t, DD.ws_s, DD.wr_l, DD.wr_t, DD.wb_mulT, DD.wst_l, DD.wst_t, DD.wz_l, DD.wz_t, DD.wn_l, DD.wv_l, DD.wv_t, DD.wc_inl, DD.wc_ninl, DD.wc_int, DD.wc_nint, DD.wCh, DD.ev_ii, DD.ev_bb, DD.ev_ss, DD.ev_nn, DD.ev_ni, DD.ev_in, DD.ev_is, DD.ev_si, DD.ev_tt, DD.ev_ll, DD.ea_nn, DD.ea_cc, DD.ea_nc, DD.ea_cn, DD.sh_n, DD.sh_b, DD.sh_i, DD.sh_s, DD.so_told, DD.so_refused, DD.so_missing, DD.so_large, DD.at0, DD.at1, DD.at2, DD.at3, DD.startE, DD.endK, List.map_cons, List.map_nil, List.length_cons, List.length_nil, List.replicate, List.cons_append, List.nil_append, List.append_nil, DD.getS, DD.setS, DD.clrS, DD.deo_c, DD.deo_n, DD.deo1_v, DD.deo1_u, DD.deo1_o, DD.tgs, DD.Sl.v.injEq, DD.Sl.own.injEq, PySem.PyData.int.injEq, PySem.PyData.bool.injEq, PySem.PyData.list.injEq, PySem.PyData.tuple.injEq, PySem.PyData.str.injEq, Option.some.injEq, exists_eq_left', exists_eq_left, exists_and_left, exists_and_right, List.zip_cons_cons, List.zip_nil_right, List.zip_nil_left, List.foldl_cons, List.foldl_nil, List.getD_cons_zero, List.getD_cons_succ, true_and, and_true, Bool.false_eq_true, Bool.true_eq_false, Bool.not_true, Bool.not_false, if_true, if_false, decide_eq_true_eq, decide_eq_false_iff_not, Bool.not_eq_true', Bool.not_eq_false', DD.imp_tt, DD.imp_ff, DD.imp_tf, DD.imp_ft, forall_const, true_implies, false_implies, implies_true, Int.reduceLT, Int.reduceLE, reduceIte, ite_true, ite_false])
        exact ⟨ms, _, _, _, _, rfl, hd', rfl, hms, by simp only [List.length_nil] at hml; omega⟩
      · rintro k ks e m ⟨ms, r', y2, y4, y5, rfl, rfl, hms, hml, hk⟩
        obtain ⟨k, rfl⟩ := hk k (List.mem_cons_self ..)
        have hk' : ∀ d ∈ ks, ∃ i : Int, d = .int i := fun d hm => hk d (List.mem_cons_of_mem _ hm)
        simp only [List.length_cons] at hml
        unfold lL_stream_2
        (simp only [DD.wSs, DD.wS, DD.wT, DD.wTs, DD.wE, DD.wEs, DD.wEi, DD.wIt, DD.wBnd, DD.bindT, DD.wb_add, DD.wb_sub, DD.wb_mul, DD.wb_fdiv, DD.wb_mod, DD.wb_pow, DD.wb_shl, DD.wb_shr, DD.wb_addL, DD.wb_addT, DD.wb_mulL, DD.wc_lt, DD.wc_le, DD.wc_gt, DD.wc_ge, DD.wc_eq, DD.wc_ne, DD.wc_isN0, DD.wc_isN1, DD.wc_isN2, DD.wc_isN3, DD.wc_isN4, DD.wc_isN5, DD.wc_notN0, DD.wc_notN1, DD.wc_notN2, DD.wc_notN3, DD.wc_notN4, DD.wc_notN5, DD.wt_n, DD.wt_b, DD.wt_i, DD.wt_l, DD.wt_t, DD.wi_l, DD.wi_t, DD.wu_len, DD.wu_lenT, DD.wu_int, DD.wu_intb, DD.wu_abs, DD.wu_tup, DD.wu_tupT, DD.wu_lst, DD.wu_lstT, DD.wu_max2, DD.wu_min2, DD.wu_max1, DD.wu_min1, DD.wu_sum, DD.wu_all, DD.wu_any, DD.wu_sorted, DD.ws_l, DD.ws_t, DD.ws_s, DD.wr_l, DD.wr_t, DD.wb_mulT, DD.wst_l, DD.wst_t, DD.wz_l, DD.wz_t, DD.wn_l, DD.wv_l, DD.wv_t, DD.wc_inl, DD.wc_ninl, DD.wc_int, DD.wc_nint, DD.wCh, DD.ev_ii, DD.ev_bb, DD.ev_ss, DD.ev_nn, DD.ev_ni, DD.ev_in, DD.ev_is, DD.ev_si, DD.ev_tt, DD.ev_ll, DD.ea_nn, DD.ea_cc, DD.ea_nc, DD.ea_cn, DD.sh_n, DD.sh_b, DD.sh_i, DD.sh_s, DD.so_told, DD.so_refused, DD.so_missing, DD.so_large, DD.at0, DD.at1, DD.at2, DD.at3, DD.startE, DD.endK, List.map_cons, List.map_nil, List.length_cons, List.length_nil, List.replicate, List.cons_append, List.nil_append, List.append_nil, DD.getS, DD.setS, DD.clrS, DD.deo_c, DD.deo_n, DD.deo1_v, DD.deo1_u, DD.deo1_o, DD.tgs, DD.Sl.v.injEq, DD.Sl.own.injEq, PySem.PyData.int.injEq, PySem.PyData.bool.injEq, PySem.PyData.list.injEq, PySem.PyData.tuple.injEq, PySem.PyData.str.injEq, Option.some.injEq, exists_eq_left', exists_eq_left, exists_and_left, exists_and_right, List.zip_cons_cons, List.zip_nil_right, List.zip_nil_left, List.foldl_cons, List.foldl_nil, List.getD_cons_zero, List.getD_cons_succ, true_and, and_true, Bool.false_eq_true, Bool.true_eq_false, Bool.not_true, Bool.not_false, if_true, if_false, decide_eq_true_eq, decide_eq_false_iff_not, Bool.not_eq_true', Bool.not_eq_false', DD.imp_tt, DD.imp_ff, DD.imp_tf, DD.imp_ft, forall_const, true_implies, false_implies, implies_true, Int.reduceLT, Int.reduceLE, reduceIte, ite_true, ite_false])
        generalize (r' * 48271 + 7 * k + 11).fmod 2147483647 = r2
        have q := fmod_lt ((r2 * 69621 + k).fmod 2147483629) 1009 (by decide)
        generalize ((r2 * 69621 + k).fmod 2147483629).fmod 1009 = y at q
        have q2 := snoc hms q.1 (by omega)
        have eqn : ms.map PyData.int ++ [PyData.int y] = (ms ++ [y]).map PyData.int := by simp
        have ll : (ms ++ [y]).length = ms.length + 1 := by simp
        rw [mapInt_len, eqn]
        exact ⟨okMul_r (by decide) (by decide), okMul_l (by decide) (by decide), by decide, okMul_r (by decide) (by decide), by decide, by decide, by omega, _, _, _, _, _, rfl, rfl, q2, by omega, hk'⟩
end DD



set_option Elab.async false
set_option linter.all false
set_option maxRecDepth 100000
set_option maxHeartbeats 4000000
namespace DD
open PySem PySem.Spec PyProof.Rows L2
/-! the text, as terms of the little language (printed by gen.py) -/
def dnL : List Str := ["check_digits", "check_row", "transfer", "is_free", "splits", "adds_free", "added_rows", "_law_same", "_law_stream", "_law_next", "_law_told", "_law_divisor", "_law_ratio", "_law_plus", "_law_sum", "_law_less", "_law_is_ratio", "_law_system", "_law_value", "_law_row", "_law_rows", "_law_wrong_system", "_law_carries", "_law_most", "_law_added", "law"]
def arL : List Nat := [1, 2, 1, 3, 4, 1, 3, 2, 1, 2, 1, 2, 2, 2, 1, 2, 1, 1, 2, 3, 2, 1, 3, 1, 4, 1]
def gnL : List Str := ["MAX_BASE", "MAX_DIGIT", "MAX_LENGTH", "MAX_CARRY"]
def glL : List D := [.int 12, .int 20, .int 24, .int 3]
def sta (L : List Nat) : Sta := { gn := fun i => gnL.getD i "", dn := fun i => dnL.getD i "", ar := fun i => arL.getD i 0, L := L, gl := List.range 4, en := enF, ks := [0, 1, 2] }
abbrev s_check_digits : Stmt := topS 12
abbrev n_check_digits : List Str := ["system", "base", "low", "high"]
abbrev p_check_digits : List Str := ["system"]
def b_check_digits : Ss := (.cons (.ite (.cmp .ne (.bi .len (.cons (.var 0) .nil)) (.cst (.int 3))) (.cons (.raise 0)
  .nil) .nil)
  (.cons (.asgT [1, 2, 3] (.var 0))
  (.cons (.ite (.or (.not (.ch2 .le .le (.cst (.int 2)) (.var 1) (.glb 0))) (.or (.not (.chn (.neg (.glb 1)) (.link .le (.var 2) (.link .le (.cst (.int 0)) (.link .le (.var 3) (.last .le (.glb 1))))))) (.cmp .eq (.var 2) (.var 3)))) (.cons (.raise 0)
  .nil) .nil)
  .nil)))
theorem f_check_digits : FnScope n_check_digits p_check_digits (defScope s_check_digits) := C8.fnScope_by (by decide +kernel)
theorem m_check_digits : mtSs (sta []) n_check_digits false (defScope s_check_digits) b_check_digits (defBody s_check_digits) = true := by decide +kernel
abbrev s_check_row : Stmt := topS 13
abbrev n_check_row : List Str := ["system", "row", "digit"]
abbrev p_check_row : List Str := ["system", "row"]
def b_check_row : Ss := (.cons (.expr (.call 0 (.cons (.var 0) .nil)))
  (.cons (.ite (.or (.cmp .gt (.bi .len (.cons (.var 1) .nil)) (.glb 2)) (.not (.val (.bi .all (.cons (.lc (.nm 2) (.tup (.var 1)) .no (.ch2 .le .le (.idx (.var 0) (.cst (.int 1))) (.var 2) (.idx (.var 0) (.cst (.int 2))))) .nil))))) (.cons (.raise 0)
  .nil) .nil)
  .nil))
theorem f_check_row : FnScope n_check_row p_check_row (defScope s_check_row) := C8.fnScope_by (by decide +kernel)
theorem m_check_row : mtSs (sta [0]) n_check_row false (defScope s_check_row) b_check_row (defBody s_check_row) = true := by decide +kernel
abbrev s_transfer : Stmt := topS 14
abbrev n_transfer : List Str := ["system", "most"]
abbrev p_transfer : List Str := ["system"]
def l_transfer_1 : Ss := (.cons (.ite (.and (.cmp .le (.idx (.var 0) (.cst (.int 1))) (.neg (.var 1))) (.and (.cmp .le (.var 1) (.idx (.var 0) (.cst (.int 2)))) (.val (.call 3 (.cons (.var 0) (.cons (.neg (.var 1)) (.cons (.var 1) .nil))))))) (.cons (.ret (.var 1))
  .nil) .nil)
  .nil)
def b_transfer : Ss := (.cons (.expr (.call 0 (.cons (.var 0) .nil)))
  (.cons (.for_ (.nm 1) (.rng2 (.cst (.int 1)) (.bin .add (.glb 3) (.cst (.int 1)))) l_transfer_1 [1])
  (.cons (.ret (.cst .none))
  .nil)))
theorem f_transfer : FnScope n_transfer p_transfer (defScope s_transfer) := C8.fnScope_by (by decide +kernel)
theorem m_transfer : mtSs (sta [0, 3]) n_transfer false (defScope s_transfer) b_transfer (defBody s_transfer) = true := by decide +kernel
abbrev s_is_free : Stmt := topS 15
abbrev n_is_free : List Str := ["system", "low", "high", "total"]
abbrev p_is_free : List Str := ["system", "low", "high"]
def l_is_free_1 : Ss := (.cons (.ite (.cmp .eq (.bi .len (.cons (.call 4 (.cons (.var 0) (.cons (.var 1) (.cons (.var 2) (.cons (.var 3) .nil))))) .nil)) (.cst (.int 0))) (.cons (.ret (.cst (.bool false)))
  .nil) .nil)
  .nil)
def b_is_free : Ss := (.cons (.for_ (.nm 3) (.rng2 (.bin .mul (.cst (.int 2)) (.idx (.var 0) (.cst (.int 1)))) (.bin .add (.bin .mul (.cst (.int 2)) (.idx (.var 0) (.cst (.int 2)))) (.cst (.int 1)))) l_is_free_1 [3])
  (.cons (.ret (.cst (.bool true)))
  .nil))
theorem f_is_free : FnScope n_is_free p_is_free (defScope s_is_free) := C8.fnScope_by (by decide +kernel)
theorem m_is_free : mtSs (sta [4]) n_is_free false (defScope s_is_free) b_is_free (defBody s_is_free) = true := by decide +kernel
abbrev s_splits : Stmt := topS 16
abbrev n_splits : List Str := ["system", "low", "high", "total", "base", "least", "most", "c"]
abbrev p_splits : List Str := ["system", "low", "high", "total"]
def b_splits : Ss := (.cons (.asgT [4, 5, 6] (.var 0))
  (.cons (.ret (.lc (.nm 7) (.rng2 (.var 1) (.bin .add (.var 2) (.cst (.int 1)))) (.ex (.ch2 .le .le (.bin .sub (.var 5) (.var 1)) (.bin .sub (.var 3) (.bin .mul (.var 7) (.var 4))) (.bin .sub (.var 6) (.var 2)))) (.var 7)))
  .nil))
theorem f_splits : FnScope n_splits p_splits (defScope s_splits) := C8.fnScope_by (by decide +kernel)
theorem m_splits : mtSs (sta []) n_splits false (defScope s_splits) b_splits (defBody s_splits) = true := by decide +kernel
abbrev s_adds_free : Stmt := topS 17
abbrev n_adds_free : List Str := ["system"]
abbrev p_adds_free : List Str := ["system"]
def b_adds_free : Ss := (.cons (.expr (.call 0 (.cons (.var 0) .nil)))
  (.cons (.ret (.cmp .notN (.call 2 (.cons (.var 0) .nil)) (.cst .none)))
  .nil))
theorem f_adds_free : FnScope n_adds_free p_adds_free (defScope s_adds_free) := C8.fnScope_by (by decide +kernel)
theorem m_adds_free : mtSs (sta [0, 2]) n_adds_free false (defScope s_adds_free) b_adds_free (defBody s_adds_free) = true := by decide +kernel
abbrev s_added_rows : Stmt := topS 18
abbrev n_added_rows : List Str := ["system", "one", "other", "most", "length", "first", "second", "found", "carry", "digit", "more", "total", "after"]
abbrev p_added_rows : List Str := ["system", "one", "other"]
def l_added_rows_1 : Ss := (.cons (.asg 11 (.bin .add (.var 9) (.var 10)))
  (.cons (.asg 12 (.idx (.call 4 (.cons (.var 0) (.cons (.neg (.var 3)) (.cons (.var 3) (.cons (.var 11) .nil))))) (.cst (.int 0))))
  (.cons (.app 7 (.bin .add (.bin .sub (.var 11) (.bin .mul (.var 12) (.idx (.var 0) (.cst (.int 0))))) (.var 8)))
  (.cons (.asg 8 (.var 12))
  .nil))))
def c_added_rows_67 : Ss := (.cons (.ret (.tup (.star (.pk 7) (.cons (.var 8) .nil))))
  .nil)
def c_added_rows_62 : Ss := (.cons (.for_ (.tp [9, 10]) (.zip (.var 5) (.var 6)) l_added_rows_1 [9, 10, 11, 12])
  c_added_rows_67)
def c_added_rows_61 : Ss := (.cons (.parO 7 8 (.lst .nil) (.cst (.int 0)))
  c_added_rows_62)
def c_added_rows_60 : Ss := (.cons (.asg 6 (.lst (.star (.var 2) (.star (.bin .mul (.lst (.cons (.cst (.int 0)) .nil)) (.bin .sub (.var 4) (.bi .len (.cons (.var 2) .nil)))) .nil))))
  c_added_rows_61)
def c_added_rows_59 : Ss := (.cons (.asg 5 (.lst (.star (.var 1) (.star (.bin .mul (.lst (.cons (.cst (.int 0)) .nil)) (.bin .sub (.var 4) (.bi .len (.cons (.var 1) .nil)))) .nil))))
  c_added_rows_60)
def c_added_rows_58 : Ss := (.cons (.asg 4 (.bi .max2 (.cons (.bi .len (.cons (.var 1) .nil)) (.cons (.bi .len (.cons (.var 2) .nil)) .nil))))
  c_added_rows_59)
def c_added_rows_56 : Ss := (.cons (.ite (.cmp .isN (.var 3) (.cst .none)) (.cons (.raise 2)
  .nil) .nil)
  c_added_rows_58)
def c_added_rows_55 : Ss := (.cons (.asg 3 (.call 2 (.cons (.var 0) .nil)))
  c_added_rows_56)
def c_added_rows_54 : Ss := (.cons (.expr (.call 1 (.cons (.var 0) (.cons (.var 2) .nil))))
  c_added_rows_55)
def b_added_rows : Ss := (.cons (.expr (.call 1 (.cons (.var 0) (.cons (.var 1) .nil))))
  c_added_rows_54)
theorem f_added_rows : FnScope n_added_rows p_added_rows (defScope s_added_rows) := C8.fnScope_by (by decide +kernel)
theorem m_added_rows : mtSs (sta [1, 2, 4]) n_added_rows false (defScope s_added_rows) b_added_rows (defBody s_added_rows) = true := by decide +kernel
abbrev sL_system : Stmt := topS 30
abbrev nL_system : List Str := ["state", "base", "way", "low", "high", "half"]
abbrev pL_system : List Str := ["state"]
def bL_system : Ss := (.cons (.asg 1 (.bin .add (.cst (.int 2)) (.call 9 (.cons (.var 0) (.cons (.idx (.lst (.cons (.cst (.int 3)) (.cons (.cst (.int 11)) .nil))) (.call 9 (.cons (.var 0) (.cons (.cst (.int 2)) .nil)))) .nil)))))
  (.cons (.asg 2 (.call 9 (.cons (.var 0) (.cons (.cst (.int 5)) .nil))))
  (.cons (.asg 3 (.bin .sub (.cst (.int 0)) (.call 9 (.cons (.var 0) (.cons (.idx (.lst (.cons (.cst (.int 3)) (.cons (.cst (.int 12)) .nil))) (.call 9 (.cons (.var 0) (.cons (.cst (.int 2)) .nil)))) .nil)))))
  (.cons (.asg 4 (.call 9 (.cons (.var 0) (.cons (.idx (.lst (.cons (.cst (.int 4)) (.cons (.cst (.int 13)) .nil))) (.call 9 (.cons (.var 0) (.cons (.cst (.int 2)) .nil)))) .nil))))
  (.cons (.ite (.cmp .eq (.var 2) (.cst (.int 0))) (.cons (.par 3 4 (.cst (.int 0)) (.bin .sub (.var 1) (.cst (.int 1))))
  .nil) .nil)
  (.cons (.ite (.cmp .eq (.var 2) (.cst (.int 1))) (.cons (.asg 5 (.bin .add (.bin .fdiv (.var 1) (.cst (.int 2))) (.call 9 (.cons (.var 0) (.cons (.cst (.int 3)) .nil)))))
  (.cons (.par 3 4 (.bin .sub (.cst (.int 0)) (.var 5)) (.var 5))
  .nil)) .nil)
  (.cons (.ite (.and (.cmp .eq (.var 3) (.cst (.int 0))) (.cmp .eq (.var 4) (.cst (.int 0)))) (.cons (.asg 4 (.cst (.int 1)))
  .nil) .nil)
  (.cons (.ret (.tup (.cons (.var 1) (.cons (.var 3) (.cons (.var 4) .nil)))))
  .nil))))))))
theorem fL_system : FnScope nL_system pL_system (defScope sL_system) := C8.fnScope_by (by decide +kernel)
theorem mL_system : mtSs (sta [9]) nL_system false (defScope sL_system) bL_system (defBody sL_system) = true := by decide +kernel
abbrev sL_value : Stmt := topS 31
abbrev nL_value : List Str := ["system", "row", "total", "digit"]
abbrev pL_value : List Str := ["system", "row"]
def lL_value_1 : Ss := (.cons (.asg 2 (.bin .add (.bin .mul (.var 2) (.idx (.var 0) (.cst (.int 0)))) (.var 3)))
  .nil)
def bL_value : Ss := (.cons (.asg 2 (.cst (.int 0)))
  (.cons (.for_ (.nm 3) (.tup (.rev (.var 1))) lL_value_1 [3])
  (.cons (.ret (.var 2))
  .nil)))
theorem fL_value : FnScope nL_value pL_value (defScope sL_value) := C8.fnScope_by (by decide +kernel)
theorem mL_value : mtSs (sta []) nL_value false (defScope sL_value) bL_value (defBody sL_value) = true := by decide +kernel
abbrev sL_row : Stmt := topS 32
abbrev nL_row : List Str := ["state", "system", "most", "k"]
abbrev pL_row : List Str := ["state", "system", "most"]
def bL_row : Ss := (.cons (.ret (.bi .tuple (.cons (.lc (.nm 3) (.rng1 (.call 9 (.cons (.var 0) (.cons (.var 2) .nil)))) .no (.bin .add (.idx (.var 1) (.cst (.int 1))) (.call 9 (.cons (.var 0) (.cons (.bin .add (.bin .sub (.idx (.var 1) (.cst (.int 2))) (.idx (.var 1) (.cst (.int 1)))) (.cst (.int 1))) .nil))))) .nil)))
  .nil)
theorem fL_row : FnScope nL_row pL_row (defScope sL_row) := C8.fnScope_by (by decide +kernel)
theorem mL_row : mtSs (sta [9]) nL_row false (defScope sL_row) bL_row (defBody sL_row) = true := by decide +kernel
abbrev sL_wrong_system : Stmt := topS 34
abbrev nL_wrong_system : List Str := ["state"]
abbrev pL_wrong_system : List Str := ["state"]
def bL_wrong_system : Ss := (.cons (.ret (.idx (.lst (.cons (.tup (.cons (.cst (.int 1)) (.cons (.cst (.int 0)) (.cons (.cst (.int 1)) .nil)))) (.cons (.tup (.cons (.cst (.int 13)) (.cons (.cst (.int 0)) (.cons (.cst (.int 1)) .nil)))) (.cons (.tup (.cons (.cst (.int 2)) (.cons (.cst (.int 1)) (.cons (.cst (.int 2)) .nil)))) (.cons (.tup (.cons (.cst (.int 2)) (.cons (.neg (.cst (.int 1))) (.cons (.neg (.cst (.int 1))) .nil)))) (.cons (.tup (.cons (.cst (.int 2)) (.cons (.cst (.int 0)) (.cons (.cst (.int 0)) .nil)))) (.cons (.tup (.cons (.cst (.int 2)) (.cons (.neg (.cst (.int 21))) (.cons (.cst (.int 1)) .nil)))) (.cons (.tup (.cons (.cst (.int 2)) (.cons (.cst (.int 0)) (.cons (.cst (.int 21)) .nil)))) (.cons (.tup (.cons (.cst (.int 2)) (.cons (.cst (.int 0)) .nil))) .nil))))))))) (.call 9 (.cons (.var 0) (.cons (.cst (.int 8)) .nil)))))
  .nil)
theorem fL_wrong_system : FnScope nL_wrong_system pL_wrong_system (defScope sL_wrong_system) := C8.fnScope_by (by decide +kernel)
theorem mL_wrong_system : mtSs (sta [9]) nL_wrong_system false (defScope sL_wrong_system) bL_wrong_system (defBody sL_wrong_system) = true := by decide +kernel
abbrev sL_carries : Stmt := topS 35
abbrev nL_carries : List Str := ["system", "most", "total", "base", "low", "high", "carry", "below"]
abbrev pL_carries : List Str := ["system", "most", "total"]
def bL_carries : Ss := (.cons (.asgT [3, 4, 5] (.var 0))
  (.cons (.ret (.lc (.nm 6) (.rng2 (.bin .sub (.cst (.int 0)) (.var 1)) (.bin .add (.var 1) (.cst (.int 1)))) (.ex (.val (.bi .all (.cons (.lc (.nm 7) (.rng2 (.bin .sub (.cst (.int 0)) (.var 1)) (.bin .add (.var 1) (.cst (.int 1)))) .no (.ch2 .le .le (.var 4) (.bin .add (.bin .sub (.var 2) (.bin .mul (.var 6) (.var 3))) (.var 7)) (.var 5))) .nil)))) (.var 6)))
  .nil))
theorem fL_carries : FnScope nL_carries pL_carries (defScope sL_carries) := C8.fnScope_by (by decide +kernel)
theorem mL_carries : mtSs (sta []) nL_carries false (defScope sL_carries) bL_carries (defBody sL_carries) = true := by decide +kernel
abbrev sL_most : Stmt := topS 36
abbrev nL_most : List Str := ["system", "base", "low", "high", "most", "total"]
abbrev pL_most : List Str := ["system"]
def lL_most_1 : Ss := (.cons (.ite (.and (.cmp .le (.var 2) (.bin .sub (.cst (.int 0)) (.var 4))) (.and (.cmp .le (.var 4) (.var 3)) (.val (.bi .all (.cons (.lc (.nm 5) (.rng2 (.bin .mul (.cst (.int 2)) (.var 2)) (.bin .add (.bin .mul (.cst (.int 2)) (.var 3)) (.cst (.int 1)))) .no (.cmp .ne (.call 22 (.cons (.var 0) (.cons (.var 4) (.cons (.var 5) .nil)))) (.lst .nil))) .nil))))) (.cons (.ret (.var 4))
  .nil) .nil)
  .nil)
def bL_most : Ss := (.cons (.asgT [1, 2, 3] (.var 0))
  (.cons (.for_ (.nm 4) (.rng2 (.cst (.int 1)) (.cst (.int 4))) lL_most_1 [4])
  (.cons (.ret (.cst .none))
  .nil)))
theorem fL_most : FnScope nL_most pL_most (defScope sL_most) := C8.fnScope_by (by decide +kernel)
theorem mL_most : mtSs (sta [22]) nL_most false (defScope sL_most) bL_most (defBody sL_most) = true := by decide +kernel
abbrev sL_added : Stmt := topS 37
abbrev nL_added : List Str := ["system", "most", "one", "other", "length", "first", "second", "found", "carry", "k", "after"]
abbrev pL_added : List Str := ["system", "most", "one", "other"]
def lL_added_1 : Ss := (.cons (.asg 10 (.idx (.call 22 (.cons (.var 0) (.cons (.var 1) (.cons (.bin .add (.idx (.var 5) (.var 9)) (.idx (.var 6) (.var 9))) .nil)))) (.cst (.int 0))))
  (.cons (.app 7 (.bin .add (.bin .sub (.bin .add (.idx (.var 5) (.var 9)) (.idx (.var 6) (.var 9))) (.bin .mul (.var 10) (.idx (.var 0) (.cst (.int 0))))) (.var 8)))
  (.cons (.asg 8 (.var 10))
  .nil)))
def bL_added : Ss := (.cons (.asg 4 (.bi .max2 (.cons (.bi .len (.cons (.var 2) .nil)) (.cons (.bi .len (.cons (.var 3) .nil)) .nil))))
  (.cons (.asg 5 (.bin .add (.var 2) (.bin .mul (.tup (.cons (.cst (.int 0)) .nil)) (.bin .sub (.var 4) (.bi .len (.cons (.var 2) .nil))))))
  (.cons (.asg 6 (.bin .add (.var 3) (.bin .mul (.tup (.cons (.cst (.int 0)) .nil)) (.bin .sub (.var 4) (.bi .len (.cons (.var 3) .nil))))))
  (.cons (.asgO 7 (.lst .nil))
  (.cons (.asg 8 (.cst (.int 0)))
  (.cons (.for_ (.nm 9) (.rng1 (.var 4)) lL_added_1 [9, 10])
  (.cons (.ret (.bin .add (.bi .tuple (.cons (.pk 7) .nil)) (.tup (.cons (.var 8) .nil))))
  .nil)))))))
theorem fL_added : FnScope nL_added pL_added (defScope sL_added) := C8.fnScope_by (by decide +kernel)
theorem mL_added : mtSs (sta [22]) nL_added false (defScope sL_added) bL_added (defBody sL_added) = true := by decide +kernel
abbrev s_law : Stmt := topS 38
abbrev n_law : List Str := ["script", "state", "turn", "system", "base", "half", "most", "one", "other", "told", "due", "digit", "at", "changed", "after", "k", "wrong", "odd"]
abbrev p_law : List Str := ["script"]
def c_law_203 : Ss := (.cons (.ite (.cmp .ne (.var 17) (.bin .mul (.lst (.cons (.tup (.cons (.cst (.str "refused")) .nil)) .nil)) (.cst (.int 4)))) (.cons (.ret (.cst (.bool false)))
  .nil) .nil)
  .nil)
def c_law_202 : Ss := (.cons (.asg 17 (.lst (.cons (.told [] (.call 2 (.cons (.var 16) .nil))) (.cons (.told [] (.call 5 (.cons (.var 16) .nil))) (.cons (.told [] (.call 6 (.cons (.var 3) (.cons (.tup (.cons (.bin .add (.idx (.var 3) (.cst (.int 2))) (.cst (.int 1))) .nil)) (.cons (.tup .nil) .nil))))) (.cons (.told [] (.call 6 (.cons (.var 3) (.cons (.tup .nil) (.cons (.bin .mul (.tup (.cons (.cst (.int 0)) .nil)) (.cst (.int 25))) .nil))))) .nil))))))
  c_law_203)
def c_law_201 : Ss := (.cons (.asg 16 (.call 21 (.cons (.var 1) .nil)))
  c_law_202)
def c_law_186 : Ss := (.cons (.ite (.cmp .isN (.var 6) (.cst .none)) (.cons (.ite (.cmp .ne (.var 9) (.tup (.cons (.cst (.str "missing")) .nil))) (.cons (.ret (.cst (.bool false)))
  .nil) .nil)
  .nil) (.cons (.asg 10 (.call 24 (.cons (.var 3) (.cons (.var 6) (.cons (.var 7) (.cons (.var 8) .nil))))))
  (.cons (.ite (.or (.not (.val (.call 7 (.cons (.var 9) (.cons (.tup (.cons (.cst (.str "told")) (.cons (.var 10) .nil))) .nil))))) (.cmp .ne (.call 18 (.cons (.var 3) (.cons (.var 10) .nil))) (.bin .add (.call 18 (.cons (.var 3) (.cons (.var 7) .nil))) (.call 18 (.cons (.var 3) (.cons (.var 8) .nil)))))) (.cons (.ret (.cst (.bool false)))
  .nil) .nil)
  (.cons (.ite (.not (.val (.bi .all (.cons (.lc (.nm 11) (.tup (.var 10)) .no (.ch2 .le .le (.idx (.var 3) (.cst (.int 1))) (.var 11) (.idx (.var 3) (.cst (.int 2))))) .nil)))) (.cons (.ret (.cst (.bool false)))
  .nil) .nil)
  (.cons (.ite (.cmp .gt (.bi .len (.cons (.var 7) .nil)) (.cst (.int 0))) (.cons (.asg 12 (.call 9 (.cons (.var 1) (.cons (.bi .len (.cons (.var 7) .nil)) .nil))))
  (.cons (.asg 13 (.bin .add (.bin .add (.slc (.var 7) .no (.ex (.var 12))) (.tup (.cons (.bin .add (.idx (.var 3) (.cst (.int 1))) (.call 9 (.cons (.var 1) (.cons (.bin .add (.bin .sub (.idx (.var 3) (.cst (.int 2))) (.idx (.var 3) (.cst (.int 1)))) (.cst (.int 1))) .nil)))) .nil))) (.slc (.var 7) (.ex (.bin .add (.var 12) (.cst (.int 1)))) .no)))
  (.cons (.asg 14 (.told [] (.call 6 (.cons (.var 3) (.cons (.var 13) (.cons (.var 8) .nil))))))
  (.cons (.ite (.or (.cmp .ne (.idx (.var 14) (.cst (.int 0))) (.cst (.str "told"))) (.val (.bi .any (.cons (.lc (.nm 15) (.rng1 (.bi .len (.cons (.var 10) .nil))) (.ex (.cmp .nin (.var 15) (.lst (.cons (.var 12) (.cons (.bin .add (.var 12) (.cst (.int 1))) .nil))))) (.cmp .ne (.idx (.idx (.var 14) (.cst (.int 1))) (.var 15)) (.idx (.var 10) (.var 15)))) .nil)))) (.cons (.ret (.cst (.bool false)))
  .nil) .nil)
  .nil)))) .nil)
  .nil)))))
  c_law_201)
def c_law_185 : Ss := (.cons (.asg 9 (.told [] (.call 6 (.cons (.var 3) (.cons (.var 7) (.cons (.var 8) .nil))))))
  c_law_186)
def c_law_184 : Ss := (.cons (.asg 8 (.call 19 (.cons (.var 1) (.cons (.var 3) (.cons (.cst (.int 25)) .nil)))))
  c_law_185)
def c_law_183 : Ss := (.cons (.asg 7 (.call 19 (.cons (.var 1) (.cons (.var 3) (.cons (.cst (.int 25)) .nil)))))
  c_law_184)
def c_law_181 : Ss := (.cons (.ite (.not (.val (.call 7 (.cons (.lst (.cons (.told [] (.call 2 (.cons (.var 3) .nil))) (.cons (.told [] (.call 5 (.cons (.var 3) .nil))) .nil))) (.cons (.lst (.cons (.tup (.cons (.cst (.str "told")) (.cons (.var 6) .nil))) (.cons (.tup (.cons (.cst (.str "told")) (.cons (.cmp .notN (.var 6) (.cst .none)) .nil))) .nil))) .nil))))) (.cons (.ret (.cst (.bool false)))
  .nil) .nil)
  c_law_183)
def c_law_180 : Ss := (.cons (.asg 6 (.call 23 (.cons (.var 3) .nil)))
  c_law_181)
def c_law_176 : Ss := (.cons (.ite (.cmp .eq (.call 9 (.cons (.var 1) (.cons (.cst (.int 2)) .nil))) (.cst (.int 0))) (.cons (.asg 4 (.bin .add (.cst (.int 3)) (.call 9 (.cons (.var 1) (.cons (.cst (.int 10)) .nil)))))
  (.cons (.asg 5 (.bin .add (.bin .add (.bin .fdiv (.var 4) (.cst (.int 2))) (.cst (.int 1))) (.call 9 (.cons (.var 1) (.cons (.cst (.int 6)) .nil)))))
  (.cons (.asg 3 (.tup (.cons (.var 4) (.cons (.bin .sub (.cst (.int 0)) (.var 5)) (.cons (.var 5) .nil)))))
  .nil))) .nil)
  c_law_180)
def l_law_11 : Ss := (.cons (.asg 3 (.call 17 (.cons (.var 1) .nil)))
  c_law_176)
def b_law : Ss := (.cons (.for_ (.nm 2) (.rng1 (.cst (.int 6))) l_law_11 [2, 3, 4, 5, 6, 7, 8, 9, 10, 12, 13, 14, 16, 17])
  (.cons (.ret (.cst (.bool true)))
  .nil))
theorem f_law : FnScope n_law p_law (defScope s_law) := C8.fnScope_by (by decide +kernel)
theorem m_law : mtSs (sta [2, 5, 6, 7, 8, 9, 17, 18, 19, 21, 23, 24]) n_law true (defScope s_law) b_law (defBody s_law).tail = true := by decide +kernel
end DD



set_option Elab.async false
set_option linter.all false
namespace D56
/-! sums without waiting: the arithmetic -/
def SysOk (b l h : Int) : Prop := 2 ≤ b ∧ b ≤ 12 ∧ -20 ≤ l ∧ l ≤ 0 ∧ 0 ≤ h ∧ h ≤ 20 ∧ l ≠ h
def fits (b l h m t c : Int) : Bool := decide (l - -m ≤ t - c * b) && decide (t - c * b ≤ h - m)
def cands (m : Int) : List Int := (List.range (m + 1 - -m).toNat).map fun i : Nat => -m + (i : Int)
def carr (b l h m t : Int) : List Int := (cands m).filter (fits b l h m t)
theorem mem_cands {m c : Int} : c ∈ cands m ↔ -m ≤ c ∧ c ≤ m := by
  unfold cands
  rw [List.mem_map]
  constructor
  · rintro ⟨i, hi, rfl⟩
    have := List.mem_range.mp hi
    omega
  · intro ⟨h1, h2⟩
    exact ⟨(c + m).toNat, List.mem_range.mpr (by omega), by omega⟩
theorem mem_carr {b l h m t c : Int} : c ∈ carr b l h m t ↔ -m ≤ c ∧ c ≤ m ∧ l + m ≤ t - c * b ∧ t - c * b ≤ h - m := by
  unfold carr fits
  rw [List.mem_filter, mem_cands, Bool.and_eq_true, decide_eq_true_eq, decide_eq_true_eq]
  omega
def Free (b l h m : Int) : Prop := ∀ t, 2 * l ≤ t → t ≤ 2 * h → carr b l h m t ≠ []
def Good (b l h m : Int) : Prop := l ≤ -m ∧ m ≤ h ∧ Free b l h m
def TrIs (b l h : Int) : Option Int → Prop
  | none => ∀ m, 1 ≤ m → m ≤ 3 → ¬ Good b l h m
  | some m => 1 ≤ m ∧ m ≤ 3 ∧ Good b l h m ∧ ∀ k, 1 ≤ k → k < m → ¬ Good b l h k
theorem TrIs.uniq {b l h : Int} : ∀ {o o' : Option Int}, TrIs b l h o → TrIs b l h o' → o = o'
  | none, none, _, _ => rfl
  | none, some m, h1, h2 => absurd h2.2.2.1 (h1 m h2.1 h2.2.1)
  | some m, none, h1, h2 => absurd h1.2.2.1 (h2 m h1.1 h1.2.1)
  | some m, some k, h1, h2 => by
    have : ¬ m < k := fun q => h2.2.2.2 m h1.1 q h1.2.2.1
    have : ¬ k < m := fun q => h1.2.2.2 k h2.1 q h2.2.2.1
    congr 1; omega
def one0 (b l h m t : Int) : Int := (carr b l h m t).headD 0
def addGo (b l h m : Int) : Int → List Int → List Int → List Int
  | c, x :: xs, y :: ys => (x + y - one0 b l h m (x + y) * b + c) :: addGo b l h m (one0 b l h m (x + y)) xs ys
  | c, _, _ => [c]
def padd (n : Nat) (xs : List Int) : List Int := xs ++ List.replicate (n - xs.length) 0
def added (b l h m : Int) (one other : List Int) : List Int := addGo b l h m 0 (padd (max one.length other.length) one) (padd (max one.length other.length) other)
def valD (b : Int) : List Int → Int
  | [] => 0
  | d :: ds => valD b ds * b + d
theorem padd_len {n : Nat} {xs : List Int} (h : xs.length ≤ n) : (padd n xs).length = n := by
  unfold padd
  rw [List.length_append, List.length_replicate]; omega
theorem valD_app (b : Int) : ∀ (xs : List Int) (k : Nat), valD b (xs ++ List.replicate k 0) = valD b xs
  | [], 0 => rfl
  | [], k + 1 => by
    have := valD_app b [] k
    rw [List.nil_append] at this ⊢
    show valD b (List.replicate k 0) * b + 0 = _
    rw [this]; show 0 * b + 0 = 0; omega
  | x :: xs, k => by
    show valD b (xs ++ List.replicate k 0) * b + x = _
    rw [valD_app b xs k]; rfl
theorem valD_padd (b : Int) (n : Nat) (xs : List Int) : valD b (padd n xs) = valD b xs := valD_app b xs _
theorem val_addGo {b l h m : Int} : ∀ (c : Int) (xs ys : List Int), xs.length = ys.length → valD b (addGo b l h m c xs ys) = valD b xs + valD b ys + c
  | c, [], [], _ => by show 0 * b + c = 0 + 0 + c; omega
  | c, x :: xs, y :: ys, e => by
    show valD b (addGo b l h m (one0 b l h m (x + y)) xs ys) * b + (x + y - one0 b l h m (x + y) * b + c) = valD b xs * b + x + (valD b ys * b + y) + c
    rw [val_addGo _ xs ys (by simpa using e), Int.add_mul, Int.add_mul]; omega
theorem val_added {b l h m : Int} (one other : List Int) : valD b (added b l h m one other) = valD b one + valD b other := by
  unfold added
  rw [val_addGo _ _ _ (by rw [padd_len (by omega), padd_len (by omega)]), valD_padd, valD_padd]; omega
theorem one0_mem {b l h m t : Int} (f : Free b l h m) (h0 : 2 * l ≤ t) (h1 : t ≤ 2 * h) : one0 b l h m t ∈ carr b l h m t := by
  unfold one0
  have := f t h0 h1
  cases e : carr b l h m t with
  | nil => exact absurd e this
  | cons a r => exact List.mem_cons_self ..
def InD (l h : Int) (xs : List Int) : Prop := ∀ d ∈ xs, l ≤ d ∧ d ≤ h
theorem in_addGo {b l h m : Int} (g : Good b l h m) : ∀ (c : Int) (xs ys : List Int), -m ≤ c → c ≤ m → InD l h xs → InD l h ys → InD l h (addGo b l h m c xs ys)
  | c, x :: xs, y :: ys, h0, h1, hx, hy => by
    have x0 := hx x (List.mem_cons_self ..)
    have y0 := hy y (List.mem_cons_self ..)
    have k := mem_carr.mp (one0_mem (t := x + y) g.2.2 (by omega) (by omega))
    intro d hd
    rcases List.mem_cons.mp hd with rfl | hd
    · omega
    · exact in_addGo g _ xs ys k.1 k.2.1 (fun z q => hx z (List.mem_cons_of_mem _ q)) (fun z q => hy z (List.mem_cons_of_mem _ q)) d hd
  | c, [], _, h0, h1, _, _ => fun d hd => by
    have := List.mem_singleton.mp (show d ∈ [c] from hd)
    have := g.1; have := g.2.1; omega
  | c, _ :: _, [], h0, h1, _, _ => fun d hd => by
    have := List.mem_singleton.mp (show d ∈ [c] from hd)
    have := g.1; have := g.2.1; omega
theorem in_padd {l h : Int} (h0 : l ≤ 0) (h1 : 0 ≤ h) {xs : List Int} (hx : InD l h xs) (n : Nat) : InD l h (padd n xs) := fun d hd => by
  rcases List.mem_append.mp hd with q | q
  · exact hx d q
  · rw [(List.mem_replicate.mp q).2]; exact ⟨h0, h1⟩
theorem in_added {b l h m : Int} (g : Good b l h m) (m0 : 0 ≤ m) {one other : List Int} (h1 : InD l h one) (h2 : InD l h other) : InD l h (added b l h m one other) :=
  in_addGo g 0 _ _ (by omega) m0 (in_padd (by have := g.1; omega) (by have := g.2.1; omega) h1 _) (in_padd (by have := g.1; omega) (by have := g.2.1; omega) h2 _)
theorem len_addGo {b l h m : Int} : ∀ (c : Int) (xs ys : List Int), xs.length = ys.length → (addGo b l h m c xs ys).length = xs.length + 1
  | _, [], [], _ => rfl
  | c, x :: xs, y :: ys, e => by
    show (addGo b l h m _ xs ys).length + 1 = _
    rw [len_addGo _ xs ys (by simpa using e)]; rfl
theorem len_added {b l h m : Int} (one other : List Int) : (added b l h m one other).length = max one.length other.length + 1 := by
  unfold added
  rw [len_addGo _ _ _ (by rw [padd_len (by omega), padd_len (by omega)]), padd_len (by omega)]
/-- each digit hangs on its own place and the one below -/
theorem get_addGo {b l h m : Int} : ∀ (c : Int) (xs ys xs' : List Int) (k at_ : Nat), xs.length = ys.length → xs'.length = xs.length → (∀ i, i ≠ at_ → xs'[i]? = xs[i]?) → k ≠ at_ → k ≠ at_ + 1 → (addGo b l h m c xs' ys)[k]? = (addGo b l h m c xs ys)[k]?
  | c, [], ys, xs', k, at_, e, e', hs, h1, h2 => by
    have : xs' = [] := List.eq_nil_of_length_eq_zero (by simpa using e')
    subst this; rfl
  | c, x :: xs, [], xs', k, at_, e, e', hs, h1, h2 => by simp at e
  | c, x :: xs, y :: ys, [], k, at_, e, e', hs, h1, h2 => by simp at e'
  | c, x :: xs, y :: ys, x' :: xs', k, at_, e, e', hs, h1, h2 => by
    match at_, k with
    | 0, 0 => exact absurd rfl h1
    | 0, 1 => exact absurd rfl h2
    | 0, k + 2 =>
      have ex : xs' = xs := List.ext_getElem? fun i => by simpa using hs (i + 1) (by omega)
      subst ex
      show (addGo b l h m _ xs' ys)[k + 1]? = (addGo b l h m _ xs' ys)[k + 1]?
      cases xs' with
      | nil => cases ys <;> simp [addGo]
      | cons a as => cases ys with
        | nil => simp [addGo]
        | cons b' bs => rfl
    | a + 1, 0 =>
      have ex : x' = x := by simpa using hs 0 (by omega)
      subst ex; rfl
    | a + 1, k + 1 =>
      have ex : x' = x := by simpa using hs 0 (by omega)
      subst ex
      exact get_addGo _ xs ys xs' k a (by simpa using e) (by simpa using e') (fun i hi => by simpa using hs (i + 1) (by omega)) (by omega) (by omega)
theorem get_added {b l h m : Int} {one one' other : List Int} {k at_ : Nat} (e : one'.length = one.length) (hs : ∀ i, i ≠ at_ → one'[i]? = one[i]?) (h1 : k ≠ at_) (h2 : k ≠ at_ + 1) :
    (added b l h m one' other)[k]? = (added b l h m one other)[k]? := by
  unfold added
  rw [e]
  refine get_addGo _ _ _ _ k at_ (by rw [padd_len (by omega), padd_len (by omega)]) (by rw [padd_len (by omega), padd_len (by omega)]) (fun i hi => ?_) h1 h2
  unfold padd
  rw [e]
  by_cases q : i < one.length
  · rw [List.getElem?_append_left (by omega), List.getElem?_append_left q]; exact hs i hi
  · rw [List.getElem?_append_right (by omega), List.getElem?_append_right (by omega), e]
/-- the law's own way of asking -/
theorem law_fits {b l h m t c : Int} (hm : 0 ≤ m) : ((cands m).all fun w => decide (l ≤ t - c * b + w) && decide (t - c * b + w ≤ h)) = fits b l h m t c := by
  rw [Bool.eq_iff_iff, List.all_eq_true]
  unfold fits
  simp only [Bool.and_eq_true, decide_eq_true_eq]
  constructor
  · intro q
    have q1 := q m (mem_cands.mpr ⟨by omega, by omega⟩)
    have q2 := q (-m) (mem_cands.mpr ⟨by omega, by omega⟩)
    omega
  · intro q w hw
    have := mem_cands.mp hw
    omega
end D56



set_option Elab.async false
set_option linter.all false
set_option maxRecDepth 100000
set_option maxHeartbeats 4000000
namespace DD
open PySem PySem.Spec PyProof.Rows L2 D56
abbrev sy (b l h : Int) : List D := [.int b, .int l, .int h]
def sysOk (l : List D) : Prop := ∃ b lo hi, l = sy b lo hi ∧ SysOk b lo hi
def SysArg (l : List D) : Prop := l.length ≠ 3 ∨ ∃ b lo hi, l = sy b lo hi
theorem sysOk_iff {b lo hi : Int} : sysOk (sy b lo hi) ↔ SysOk b lo hi := by
  constructor
  · rintro ⟨_, _, _, e, h⟩; cases e; exact h
  · exact fun h => ⟨_, _, _, rfl, h⟩
def RowOk (l h : Int) (r : List Int) : Prop := r.length ≤ 24 ∧ InD l h r
abbrev iL (r : List Int) : List D := r.map .int
def sp0 : Sg := fun ds n Q X => ∃ l, ds = [.tuple l] ∧ SysArg l ∧ (sysOk l → Q .none n) ∧ (¬ sysOk l → X 0 n)
def sp1 : Sg := fun ds n Q X => ∃ l r, ds = [.tuple l, .tuple (iL r)] ∧ SysArg l ∧ (∀ b lo hi, l = sy b lo hi → SysOk b lo hi → (RowOk lo hi r → Q .none n) ∧ (¬ RowOk lo hi r → X 0 n)) ∧ (¬ sysOk l → X 0 n)
def sp2 : Sg := fun ds n Q X => ∃ l, ds = [.tuple l] ∧ SysArg l ∧ (∀ b lo hi, l = sy b lo hi → SysOk b lo hi → ∀ o, TrIs b lo hi o → Q (optD o) n) ∧ (¬ sysOk l → X 0 n)
def sp3 : Sg := fun ds n Q X => ∃ b l h m, ds = [.tuple (sy b l h), .int (-m), .int m] ∧ SysOk b l h ∧ 1 ≤ m ∧ m ≤ 3 ∧ ∀ z : Bool, (z = true ↔ Free b l h m) → Q (.bool z) n
def sp4 : Sg := fun ds n Q X => ∃ b l h m t, ds = [.tuple (sy b l h), .int (-m), .int m, .int t] ∧ SysOk b l h ∧ 1 ≤ m ∧ m ≤ 3 ∧ Q (.list (iL (carr b l h m t))) n
def sp5 : Sg := fun ds n Q X => ∃ l, ds = [.tuple l] ∧ SysArg l ∧ (∀ b lo hi, l = sy b lo hi → SysOk b lo hi → ∀ o, TrIs b lo hi o → Q (.bool o.isSome) n) ∧ (¬ sysOk l → X 0 n)
def addK (b l h : Int) (r s : List Int) (n : Nat) (Q : K1) (X : XK1) : Option Int → Prop
  | none => X 2 n
  | some m => Q (.tuple (iL (added b l h m r s))) n
def sp6 : Sg := fun ds n Q X => ∃ l r s, ds = [.tuple l, .tuple (iL r), .tuple (iL s)] ∧ SysArg l ∧ (∀ b lo hi, l = sy b lo hi → SysOk b lo hi → (RowOk lo hi r → RowOk lo hi s → ∀ o, TrIs b lo hi o → addK b lo hi r s n Q X o) ∧ (¬ (RowOk lo hi r ∧ RowOk lo hi s) → X 0 n)) ∧ (¬ sysOk l → X 0 n)
def sp17 : Sg := fun ds n Q X => ds = [sttD] ∧ n < 2 ^ 59 ∧ ∀ b l h n', SysOk b l h → n ≤ n' → n' ≤ n + 10 → Q (.tuple (sy b l h)) n'
def sp18 : Sg := fun ds n Q X => ∃ b l h r, ds = [.tuple (sy b l h), .tuple (iL r)] ∧ 2 ≤ b ∧ b ≤ 12 ∧ Q (.int (valD b r)) n
def sp19 : Sg := fun ds n Q X => ∃ b l h m, ds = [sttD, .tuple (sy b l h), .int m] ∧ SysOk b l h ∧ 1 ≤ m ∧ m ≤ 25 ∧ n < 2 ^ 59 ∧ ∀ r n', InD l h r → r.length < m → n' ≤ n + 25 → Q (.tuple (iL r)) n'
def sp21 : Sg := fun ds n Q X => ds = [sttD] ∧ n < 2 ^ 59 ∧ ∀ l, SysArg l → ¬ sysOk l → Q (.tuple l) (n + 1)
def sp22 : Sg := fun ds n Q X => ∃ b l h m t, ds = [.tuple (sy b l h), .int m, .int t] ∧ SysOk b l h ∧ 1 ≤ m ∧ m ≤ 3 ∧ Q (.list (iL (carr b l h m t))) n
def sp23 : Sg := fun ds n Q X => ∃ b l h, ds = [.tuple (sy b l h)] ∧ SysOk b l h ∧ ∀ o, TrIs b l h o → Q (optD o) n
def sp24 : Sg := fun ds n Q X => ∃ b l h m r s, ds = [.tuple (sy b l h), .int m, .tuple (iL r), .tuple (iL s)] ∧ SysOk b l h ∧ 1 ≤ m ∧ m ≤ 3 ∧ Good b l h m ∧ RowOk l h r ∧ RowOk l h s ∧ Q (.tuple (iL (added b l h m r s))) n
def GL : Nat → D := fun g => glL.getD g .none
theorem g0 : GL 0 = .int 12 := rfl
theorem g1 : GL 1 = .int 20 := rfl
theorem g2 : GL 2 = .int 24 := rfl
theorem g3 : GL 3 = .int 3 := rfl
def ΓL : Gam := fun i => match i with
  | 0 => sp0 | 1 => sp1 | 2 => sp2 | 3 => sp3 | 4 => sp4 | 5 => sp5 | 6 => sp6 | 7 => spSame | 8 => spStream | 9 => spNext | 17 => sp17 | 18 => sp18 | 19 => sp19 | 21 => sp21 | 22 => sp22 | 23 => sp23 | 24 => sp24
  | _ => fun _ _ _ _ => False
theorem γ0 : ΓL 0 = sp0 := rfl
theorem γ1 : ΓL 1 = sp1 := rfl
theorem γ2 : ΓL 2 = sp2 := rfl
theorem γ3 : ΓL 3 = sp3 := rfl
theorem γ4 : ΓL 4 = sp4 := rfl
theorem γ5 : ΓL 5 = sp5 := rfl
theorem γ6 : ΓL 6 = sp6 := rfl
theorem γ7 : ΓL 7 = spSame := rfl
theorem γ8 : ΓL 8 = spStream := rfl
theorem γ9 : ΓL 9 = spNext := rfl
theorem γ17 : ΓL 17 = sp17 := rfl
theorem γ18 : ΓL 18 = sp18 := rfl
theorem γ19 : ΓL 19 = sp19 := rfl
theorem γ21 : ΓL 21 = sp21 := rfl
theorem γ22 : ΓL 22 = sp22 := rfl
theorem γ23 : ΓL 23 = sp23 := rfl
theorem γ24 : ΓL 24 = sp24 := rfl
theorem monoL : MonoG ΓL := by
  intro i ds n Q Q' X X' hQ hX h
  match i, h with
  | 0, ⟨l, e, a, h1, h2⟩ => exact ⟨l, e, a, fun c => hQ _ _ (h1 c), fun c => hX _ _ (h2 c)⟩
  | 1, ⟨l, r, e, a, h1, h2⟩ => exact ⟨l, r, e, a, fun b lo hi c d => ⟨fun z => hQ _ _ ((h1 b lo hi c d).1 z), fun z => hX _ _ ((h1 b lo hi c d).2 z)⟩, fun c => hX _ _ (h2 c)⟩
  | 2, ⟨l, e, a, h1, h2⟩ => exact ⟨l, e, a, fun b lo hi c d o z => hQ _ _ (h1 b lo hi c d o z), fun c => hX _ _ (h2 c)⟩
  | 3, ⟨b, l, h', m, e, s, a, c, h⟩ => exact ⟨b, l, h', m, e, s, a, c, fun z q => hQ _ _ (h z q)⟩
  | 4, ⟨b, l, h', m, t, e, s, a, c, h⟩ => exact ⟨b, l, h', m, t, e, s, a, c, hQ _ _ h⟩
  | 5, ⟨l, e, a, h1, h2⟩ => exact ⟨l, e, a, fun b lo hi c d o z => hQ _ _ (h1 b lo hi c d o z), fun c => hX _ _ (h2 c)⟩
  | 6, ⟨l, r, s, e, a, h1, h2⟩ => exact ⟨l, r, s, e, a, fun b lo hi c d => ⟨fun z z' o q => by
      have := (h1 b lo hi c d).1 z z' o q
      cases o with
      | none => exact hX _ _ this
      | some m => exact hQ _ _ this, fun z => hX _ _ ((h1 b lo hi c d).2 z)⟩, fun c => hX _ _ (h2 c)⟩
  | 7, ⟨x, e, h0, h⟩ => exact ⟨x, e, h0, hQ _ _ h⟩
  | 8, ⟨is, e, h0, h⟩ => exact ⟨is, e, h0, fun ns hn => hQ _ _ (h ns hn)⟩
  | 9, ⟨m, e, h0, h1, h⟩ => exact ⟨m, e, h0, h1, fun r a b => hQ _ _ (h r a b)⟩
  | 17, ⟨e, h0, h⟩ => exact ⟨e, h0, fun b l h' n' s a c => hQ _ _ (h b l h' n' s a c)⟩
  | 18, ⟨b, l, h', r, e, a, c, h⟩ => exact ⟨b, l, h', r, e, a, c, hQ _ _ h⟩
  | 19, ⟨b, l, h', m, e, s, a, c, d, h⟩ => exact ⟨b, l, h', m, e, s, a, c, d, fun r n' x y z => hQ _ _ (h r n' x y z)⟩
  | 21, ⟨e, h0, h⟩ => exact ⟨e, h0, fun l a c => hQ _ _ (h l a c)⟩
  | 22, ⟨b, l, h', m, t, e, s, a, c, h⟩ => exact ⟨b, l, h', m, t, e, s, a, c, hQ _ _ h⟩
  | 23, ⟨b, l, h', e, s, h⟩ => exact ⟨b, l, h', e, s, fun o z => hQ _ _ (h o z)⟩
  | 24, ⟨b, l, h', m, r, s, e, so, a, c, g, r1, r2, h⟩ => exact ⟨b, l, h', m, r, s, e, so, a, c, g, r1, r2, hQ _ _ h⟩
theorem sem8 : ∀ ds n Qd Xd, spStream ds n Qd Xd → wSs ΓL GL bL_stream (startE nL_stream.length ds) n (endK Qd Xd) := sem_stream monoL
theorem sem0 : ∀ ds n Qd Xd, sp0 ds n Qd Xd → wSs ΓL GL b_check_digits (startE n_check_digits.length ds) n (endK Qd Xd) := by
  rintro ds n Qd Xd ⟨l, rfl, hl, h1, h2⟩
  unfold b_check_digits
  rcases hl with hl | ⟨b, lo, hi, rfl⟩
  · (((simp only [DD.wSs, DD.wS, DD.wT, DD.wTs, DD.wE, DD.wEs, DD.wEi, DD.wIt, DD.wBnd, DD.bindT, DD.wb_add, DD.wb_sub, DD.wb_mul, DD.wb_fdiv, DD.wb_mod, DD.wb_pow, DD.wb_shl, DD.wb_shr, DD.wb_addL, DD.wb_addT, DD.wb_mulL, DD.wc_lt, DD.wc_le, DD.wc_gt, DD.wc_ge, DD.wc_eq, DD.wc_ne, DD.wc_isN0, DD.wc_isN1, DD.wc_isN2, DD.wc_isN3, DD.wc_isN4, DD.wc_isN5, DD.wc_notN0, DD.wc_notN1, DD.wc_notN2, DD.wc_notN3, DD.wc_notN4, DD.wc_notN5, DD.wt_n, DD.wt_b, DD.wt_i, DD.wt_l, DD.wt_t, DD.wi_l, DD.wi_t, DD.wu_len, DD.wu_lenT, DD.wu_int, DD.wu_intb, DD.wu_abs, DD.wu_tup, DD.wu_tupT, DD.wu_lst, DD.wu_lstT, DD.wu_max2, DD.wu_min2, DD.wu_max1, DD.wu_min1, DD.wu_sum, DD.wu_all, DD.wu_any, DD.wu_sorted, DD.ws_l, DD.ws_t, DD.ws_s, DD.wr_l, DD.wr_t, DD.wb_mulT, DD.wst_l, DD.wst_t, DD.wz_l, DD.wz_t, DD.wn_l, DD.wv_l, DD.wv_t, DD.wc_inl, DD.wc_ninl, DD.wc_int, DD.wc_nint, DD.wCh, DD.ev_ii, DD.ev_bb, DD.ev_ss, DD.ev_nn, DD.ev_ni, DD.ev_in, DD.ev_is, DD.ev_si, DD.ev_tt, DD.ev_ll, DD.ea_nn, DD.ea_cc, DD.ea_nc, DD.ea_cn, DD.sh_n, DD.sh_b, DD.sh_i, DD.sh_s, DD.so_told, DD.so_refused, DD.so_missing, DD.so_large, DD.at0, DD.at1, DD.at2, DD.at3, DD.startE, DD.endK, List.map_cons, List.map_nil, List.length_cons, List.length_nil, List.replicate, List.cons_append, List.nil_append, List.append_nil, DD.getS, DD.setS, DD.clrS, DD.deo_c, DD.deo_n, DD.deo1_v, DD.deo1_u, DD.deo1_o, DD.tgs, DD.Sl.v.injEq, DD.Sl.own.injEq, PySem.PyData.int.injEq, PySem.PyData.bool.injEq, PySem.PyData.list.injEq, PySem.PyData.tuple.injEq, PySem.PyData.str.injEq, Option.some.injEq, exists_eq_left', exists_eq_left, exists_and_left, exists_and_right, List.zip_cons_cons, List.zip_nil_right, List.zip_nil_left, List.foldl_cons, List.foldl_nil, List.getD_cons_zero, List.getD_cons_succ, true_and, and_true, Bool.false_eq_true, Bool.true_eq_false, Bool.not_true, Bool.not_false, if_true, if_false, decide_eq_true_eq, decide_eq_false_iff_not, Bool.not_eq_true', Bool.not_eq_false', DD.imp_tt, DD.imp_ff, DD.imp_tf, DD.imp_ft, forall_const, true_implies, false_implies, implies_true, Int.reduceLT, Int.reduceLE, reduceIte, ite_true, ite_false]); try simp only [g0, g1, g2, g3, γ0, γ1, γ2, γ3, γ4, γ5, γ6, γ7, γ8, γ9, γ17, γ18, γ19, γ21, γ22, γ23, γ24]; try (simp only [DD.wSs, DD.wS, DD.wT, DD.wTs, DD.wE, DD.wEs, DD.wEi, DD.wIt, DD.wBnd, DD.bindT, DD.wb_add, DD.wb_sub, DD.wb_mul, DD.wb_fdiv, DD.wb_mod, DD.wb_pow, DD.wb_shl, DD.wb_shr, DD.wb_addL, DD.wb_addT, DD.wb_mulL, DD.wc_lt, DD.wc_le, DD.wc_gt, DD.wc_ge, DD.wc_eq, DD.wc_ne, DD.wc_isN0, DD.wc_isN1, DD.wc_isN2, DD.wc_isN3, DD.wc_isN4, DD.wc_isN5, DD.wc_notN0, DD.wc_notN1, DD.wc_notN2, DD.wc_notN3, DD.wc_notN4, DD.wc_notN5, DD.wt_n, DD.wt_b, DD.wt_i, DD.wt_l, DD.wt_t, DD.wi_l, DD.wi_t, DD.wu_len, DD.wu_lenT, DD.wu_int, DD.wu_intb, DD.wu_abs, DD.wu_tup, DD.wu_tupT, DD.wu_lst, DD.wu_lstT, DD.wu_max2, DD.wu_min2, DD.wu_max1, DD.wu_min1, DD.wu_sum, DD.wu_all, DD.wu_any, DD.wu_sorted, DD.ws_l, DD.ws_t, DD.ws_s, DD.wr_l, DD.wr_t, DD.wb_mulT, DD.wst_l, DD.wst_t, DD.wz_l, DD.wz_t, DD.wn_l, DD.wv_l, DD.wv_t, DD.wc_inl, DD.wc_ninl, DD.wc_int, DD.wc_nint, DD.wCh, DD.ev_ii, DD.ev_bb, DD.ev_ss, DD.ev_nn, DD.ev_ni, DD.ev_in, DD.ev_is, DD.ev_si, DD.ev_tt, DD.ev_ll, DD.ea_nn, DD.ea_cc, DD.ea_nc, DD.ea_cn, DD.sh_n, DD.sh_b, DD.sh_i, DD.sh_s, DD.so_told, DD.so_refused, DD.so_missing, DD.so_large, DD.at0, DD.at1, DD.at2, DD.at3, DD.startE, DD.endK, List.map_cons, List.map_nil, List.length_cons, List.length_nil, List.replicate, List.cons_append, List.nil_append, List.append_nil, DD.getS, DD.setS, DD.clrS, DD.deo_c, DD.deo_n, DD.deo1_v, DD.deo1_u, DD.deo1_o, DD.tgs, DD.Sl.v.injEq, DD.Sl.own.injEq, PySem.PyData.int.injEq, PySem.PyData.bool.injEq, PySem.PyData.list.injEq, PySem.PyData.tuple.injEq, PySem.PyData.str.injEq, Option.some.injEq, exists_eq_left', exists_eq_left, exists_and_left, exists_and_right, List.zip_cons_cons, List.zip_nil_right, List.zip_nil_left, List.foldl_cons, List.foldl_nil, List.getD_cons_zero, List.getD_cons_succ, true_and, and_true, Bool.false_eq_true, Bool.true_eq_false, Bool.not_true, Bool.not_false, if_true, if_false, decide_eq_true_eq, decide_eq_false_iff_not, Bool.not_eq_true', Bool.not_eq_false', DD.imp_tt, DD.imp_ff, DD.imp_tf, DD.imp_ft, forall_const, true_implies, false_implies, implies_true, Int.reduceLT, Int.reduceLE, reduceIte, ite_true, ite_false])))
    exact ⟨fun _ => h2 fun ⟨_, _, _, e, _⟩ => hl (by rw [e]; rfl), fun e => absurd (by omega) hl⟩
  · (((simp only [DD.wSs, DD.wS, DD.wT, DD.wTs, DD.wE, DD.wEs, DD.wEi, DD.wIt, DD.wBnd, DD.bindT, DD.wb_add, DD.wb_sub, DD.wb_mul, DD.wb_fdiv, DD.wb_mod, DD.wb_pow, DD.wb_shl, DD.wb_shr, DD.wb_addL, DD.wb_addT, DD.wb_mulL, DD.wc_lt, DD.wc_le, DD.wc_gt, DD.wc_ge, DD.wc_eq, DD.wc_ne, DD.wc_isN0, DD.wc_isN1, DD.wc_isN2, DD.wc_isN3, DD.wc_isN4, DD.wc_isN5, DD.wc_notN0, DD.wc_notN1, DD.wc_notN2, DD.wc_notN3, DD.wc_notN4, DD.wc_notN5, DD.wt_n, DD.wt_b, DD.wt_i, DD.wt_l, DD.wt_t, DD.wi_l, DD.wi_t, DD.wu_len, DD.wu_lenT, DD.wu_int, DD.wu_intb, DD.wu_abs, DD.wu_tup, DD.wu_tupT, DD.wu_lst, DD.wu_lstT, DD.wu_max2, DD.wu_min2, DD.wu_max1, DD.wu_min1, DD.wu_sum, DD.wu_all, DD.wu_any, DD.wu_sorted, DD.ws_l, DD.ws_t, DD.ws_s, DD.wr_l, DD.wr_t, DD.wb_mulT, DD.wst_l, DD.wst_t, DD.wz_l, DD.wz_t, DD.wn_l, DD.wv_l, DD.wv_t, DD.wc_inl, DD.wc_ninl, DD.wc_int, DD.wc_nint, DD.wCh, DD.ev_ii, DD.ev_bb, DD.ev_ss, DD.ev_nn, DD.ev_ni, DD.ev_in, DD.ev_is, DD.ev_si, DD.ev_tt, DD.ev_ll, DD.ea_nn, DD.ea_cc, DD.ea_nc, DD.ea_cn, DD.sh_n, DD.sh_b, DD.sh_i, DD.sh_s, DD.so_told, DD.so_refused, DD.so_missing, DD.so_large, DD.at0, DD.at1, DD.at2, DD.at3, DD.startE, DD.endK, List.map_cons, List.map_nil, List.length_cons, List.length_nil, List.replicate, List.cons_append, List.nil_append, List.append_nil, DD.getS, DD.setS, DD.clrS, DD.deo_c, DD.deo_n, DD.deo1_v, DD.deo1_u, DD.deo1_o, DD.tgs, DD.Sl.v.injEq, DD.Sl.own.injEq, PySem.PyData.int.injEq, PySem.PyData.bool.injEq, PySem.PyData.list.injEq, PySem.PyData.tuple.injEq, PySem.PyData.str.injEq, Option.some.injEq, exists_eq_left', exists_eq_left, exists_and_left, exists_and_right, List.zip_cons_cons, List.zip_nil_right, List.zip_nil_left, List.foldl_cons, List.foldl_nil, List.getD_cons_zero, List.getD_cons_succ, true_and, and_true, Bool.false_eq_true, Bool.true_eq_false, Bool.not_true, Bool.not_false, if_true, if_false, decide_eq_true_eq, decide_eq_false_iff_not, Bool.not_eq_true', Bool.not_eq_false', DD.imp_tt, DD.imp_ff, DD.imp_tf, DD.imp_ft, forall_const, true_implies, false_implies, implies_true, Int.reduceLT, Int.reduceLE, reduceIte, ite_true, ite_false]); try simp only [g0, g1, g2, g3, γ0, γ1, γ2, γ3, γ4, γ5, γ6, γ7, γ8, γ9, γ17, γ18, γ19, γ21, γ22, γ23, γ24]; try (simp only [DD.wSs, DD.wS, DD.wT, DD.wTs, DD.wE, DD.wEs, DD.wEi, DD.wIt, DD.wBnd, DD.bindT, DD.wb_add, DD.wb_sub, DD.wb_mul, DD.wb_fdiv, DD.wb_mod, DD.wb_pow, DD.wb_shl, DD.wb_shr, DD.wb_addL, DD.wb_addT, DD.wb_mulL, DD.wc_lt, DD.wc_le, DD.wc_gt, DD.wc_ge, DD.wc_eq, DD.wc_ne, DD.wc_isN0, DD.wc_isN1, DD.wc_isN2, DD.wc_isN3, DD.wc_isN4, DD.wc_isN5, DD.wc_notN0, DD.wc_notN1, DD.wc_notN2, DD.wc_notN3, DD.wc_notN4, DD.wc_notN5, DD.wt_n, DD.wt_b, DD.wt_i, DD.wt_l, DD.wt_t, DD.wi_l, DD.wi_t, DD.wu_len, DD.wu_lenT, DD.wu_int, DD.wu_intb, DD.wu_abs, DD.wu_tup, DD.wu_tupT, DD.wu_lst, DD.wu_lstT, DD.wu_max2, DD.wu_min2, DD.wu_max1, DD.wu_min1, DD.wu_sum, DD.wu_all, DD.wu_any, DD.wu_sorted, DD.ws_l, DD.ws_t, DD.ws_s, DD.wr_l, DD.wr_t, DD.wb_mulT, DD.wst_l, DD.wst_t, DD.wz_l, DD.wz_t, DD.wn_l, DD.wv_l, DD.wv_t, DD.wc_inl, DD.wc_ninl, DD.wc_int, DD.wc_nint, DD.wCh, DD.ev_ii, DD.ev_bb, DD.ev_ss, DD.ev_nn, DD.ev_ni, DD.ev_in, DD.ev_is, DD.ev_si, DD.ev_tt, DD.ev_ll, DD.ea_nn, DD.ea_cc, DD.ea_nc, DD.ea_cn, DD.sh_n, DD.sh_b, DD.sh_i, DD.sh_s, DD.so_told, DD.so_refused, DD.so_missing, DD.so_large, DD.at0, DD.at1, DD.at2, DD.at3, DD.startE, DD.endK, List.map_cons, List.map_nil, List.length_cons, List.length_nil, List.replicate, List.cons_append, List.nil_append, List.append_nil, DD.getS, DD.setS, DD.clrS, DD.deo_c, DD.deo_n, DD.deo1_v, DD.deo1_u, DD.deo1_o, DD.tgs, DD.Sl.v.injEq, DD.Sl.own.injEq, PySem.PyData.int.injEq, PySem.PyData.bool.injEq, PySem.PyData.list.injEq, PySem.PyData.tuple.injEq, PySem.PyData.str.injEq, Option.some.injEq, exists_eq_left', exists_eq_left, exists_and_left, exists_and_right, List.zip_cons_cons, List.zip_nil_right, List.zip_nil_left, List.foldl_cons, List.foldl_nil, List.getD_cons_zero, List.getD_cons_succ, true_and, and_true, Bool.false_eq_true, Bool.true_eq_false, Bool.not_true, Bool.not_false, if_true, if_false, decide_eq_true_eq, decide_eq_false_iff_not, Bool.not_eq_true', Bool.not_eq_false', DD.imp_tt, DD.imp_ff, DD.imp_tf, DD.imp_ft, forall_const, true_implies, false_implies, implies_true, Int.reduceLT, Int.reduceLE, reduceIte, ite_true, ite_false])))
    rw [sysOk_iff] at h1 h2
    unfold SysOk at h1 h2
    (repeat' (first | (intro _) | (apply And.intro))) <;> first | exact h2 (by omega) | exact h1 (by omega)
end DD



set_option Elab.async false
set_option linter.all false
set_option maxRecDepth 100000
set_option maxHeartbeats 4000000
namespace DD
open PySem PySem.Spec PyProof.Rows L2 D56
theorem sysArg_sy {b l h : Int} : SysArg (sy b l h) := .inr ⟨_, _, _, rfl⟩
theorem sem1 : ∀ ds n Qd Xd, sp1 ds n Qd Xd → wSs ΓL GL b_check_row (startE n_check_row.length ds) n (endK Qd Xd) := by
  rintro ds n Qd Xd ⟨l, r, rfl, hl, h1, h2⟩
  unfold b_check_row
  (((simp only [DD.wSs, DD.wS, DD.wT, DD.wTs, DD.wE, DD.wEs, DD.wEi, DD.wIt, DD.wBnd, DD.bindT, DD.wb_add, DD.wb_sub, DD.wb_mul, DD.wb_fdiv, DD.wb_mod, DD.wb_pow, DD.wb_shl, DD.wb_shr, DD.wb_addL, DD.wb_addT, DD.wb_mulL, DD.wc_lt, DD.wc_le, DD.wc_gt, DD.wc_ge, DD.wc_eq, DD.wc_ne, DD.wc_isN0, DD.wc_isN1, DD.wc_isN2, DD.wc_isN3, DD.wc_isN4, DD.wc_isN5, DD.wc_notN0, DD.wc_notN1, DD.wc_notN2, DD.wc_notN3, DD.wc_notN4, DD.wc_notN5, DD.wt_n, DD.wt_b, DD.wt_i, DD.wt_l, DD.wt_t, DD.wi_l, DD.wi_t, DD.wu_len, DD.wu_lenT, DD.wu_int, DD.wu_intb, DD.wu_abs, DD.wu_tup, DD.wu_tupT, DD.wu_lst, DD.wu_lstT, DD.wu_max2, DD.wu_min2, DD.wu_max1, DD.wu_min1, DD.wu_sum, DD.wu_all, DD.wu_any, DD.wu_sorted, DD.ws_l, DD.ws_t, DD.ws_s, DD.wr_l, DD.wr_t, DD.wb_mulT, DD.wst_l, DD.wst_t, DD.wz_l, DD.wz_t, DD.wn_l, DD.wv_l, DD.wv_t, DD.wc_inl, DD.wc_ninl, DD.wc_int, DD.wc_nint, DD.wCh, DD.ev_ii, DD.ev_bb, DD.ev_ss, DD.ev_nn, DD.ev_ni, DD.ev_in, DD.ev_is, DD.ev_si, DD.ev_tt, DD.ev_ll, DD.ea_nn, DD.ea_cc, DD.ea_nc, DD.ea_cn, DD.sh_n, DD.sh_b, DD.sh_i, DD.sh_s, DD.so_told, DD.so_refused, DD.so_missing, DD.so_large, DD.at0, DD.at1, DD.at2, DD.at3, DD.startE, DD.endK, List.map_cons, List.map_nil, List.length_cons, List.length_nil, List.replicate, List.cons_append, List.nil_append, List.append_nil, DD.getS, DD.setS, DD.clrS, DD.deo_c, DD.deo_n, DD.deo1_v, DD.deo1_u, DD.deo1_o, DD.tgs, DD.Sl.v.injEq, DD.Sl.own.injEq, PySem.PyData.int.injEq, PySem.PyData.bool.injEq, PySem.PyData.list.injEq, PySem.PyData.tuple.injEq, PySem.PyData.str.injEq, Option.some.injEq, exists_eq_left', exists_eq_left, exists_and_left, exists_and_right, List.zip_cons_cons, List.zip_nil_right, List.zip_nil_left, List.foldl_cons, List.foldl_nil, List.getD_cons_zero, List.getD_cons_succ, true_and, and_true, Bool.false_eq_true, Bool.true_eq_false, Bool.not_true, Bool.not_false, if_true, if_false, decide_eq_true_eq, decide_eq_false_iff_not, Bool.not_eq_true', Bool.not_eq_false', DD.imp_tt, DD.imp_ff, DD.imp_tf, DD.imp_ft, forall_const, true_implies, false_implies, implies_true, Int.reduceLT, Int.reduceLE, reduceIte, ite_true, ite_false]); try simp only [g0, g1, g2, g3, γ0, γ1, γ2, γ3, γ4, γ5, γ6, γ7, γ8, γ9, γ17, γ18, γ19, γ21, γ22, γ23, γ24]; try (simp only [DD.wSs, DD.wS, DD.wT, DD.wTs, DD.wE, DD.wEs, DD.wEi, DD.wIt, DD.wBnd, DD.bindT, DD.wb_add, DD.wb_sub, DD.wb_mul, DD.wb_fdiv, DD.wb_mod, DD.wb_pow, DD.wb_shl, DD.wb_shr, DD.wb_addL, DD.wb_addT, DD.wb_mulL, DD.wc_lt, DD.wc_le, DD.wc_gt, DD.wc_ge, DD.wc_eq, DD.wc_ne, DD.wc_isN0, DD.wc_isN1, DD.wc_isN2, DD.wc_isN3, DD.wc_isN4, DD.wc_isN5, DD.wc_notN0, DD.wc_notN1, DD.wc_notN2, DD.wc_notN3, DD.wc_notN4, DD.wc_notN5, DD.wt_n, DD.wt_b, DD.wt_i, DD.wt_l, DD.wt_t, DD.wi_l, DD.wi_t, DD.wu_len, DD.wu_lenT, DD.wu_int, DD.wu_intb, DD.wu_abs, DD.wu_tup, DD.wu_tupT, DD.wu_lst, DD.wu_lstT, DD.wu_max2, DD.wu_min2, DD.wu_max1, DD.wu_min1, DD.wu_sum, DD.wu_all, DD.wu_any, DD.wu_sorted, DD.ws_l, DD.ws_t, DD.ws_s, DD.wr_l, DD.wr_t, DD.wb_mulT, DD.wst_l, DD.wst_t, DD.wz_l, DD.wz_t, DD.wn_l, DD.wv_l, DD.wv_t, DD.wc_inl, DD.wc_ninl, DD.wc_int, DD.wc_nint, DD.wCh, DD.ev_ii, DD.ev_bb, DD.ev_ss, DD.ev_nn, DD.ev_ni, DD.ev_in, DD.ev_is, DD.ev_si, DD.ev_tt, DD.ev_ll, DD.ea_nn, DD.ea_cc, DD.ea_nc, DD.ea_cn, DD.sh_n, DD.sh_b, DD.sh_i, DD.sh_s, DD.so_told, DD.so_refused, DD.so_missing, DD.so_large, DD.at0, DD.at1, DD.at2, DD.at3, DD.startE, DD.endK, List.map_cons, List.map_nil, List.length_cons, List.length_nil, List.replicate, List.cons_append, List.nil_append, List.append_nil, DD.getS, DD.setS, DD.clrS, DD.deo_c, DD.deo_n, DD.deo1_v, DD.deo1_u, DD.deo1_o, DD.tgs, DD.Sl.v.injEq, DD.Sl.own.injEq, PySem.PyData.int.injEq, PySem.PyData.bool.injEq, PySem.PyData.list.injEq, PySem.PyData.tuple.injEq, PySem.PyData.str.injEq, Option.some.injEq, exists_eq_left', exists_eq_left, exists_and_left, exists_and_right, List.zip_cons_cons, List.zip_nil_right, List.zip_nil_left, List.foldl_cons, List.foldl_nil, List.getD_cons_zero, List.getD_cons_succ, true_and, and_true, Bool.false_eq_true, Bool.true_eq_false, Bool.not_true, Bool.not_false, if_true, if_false, decide_eq_true_eq, decide_eq_false_iff_not, Bool.not_eq_true', Bool.not_eq_false', DD.imp_tt, DD.imp_ff, DD.imp_tf, DD.imp_ft, forall_const, true_implies, false_implies, implies_true, Int.reduceLT, Int.reduceLE, reduceIte, ite_true, ite_false])))
  refine ⟨l, rfl, hl, fun ⟨b, lo, hi, e, so⟩ => ?_, h2⟩
  subst e
  obtain ⟨q1, q2⟩ := h1 b lo hi rfl so
  unfold RowOk InD at q1 q2
  rw [mapInt_len]
  refine ⟨fun c => q2 fun z => by omega, fun c => ?_⟩
  refine wTurns_mem PyData.int (fun i => some (.bool (decide (lo ≤ i) && decide (i ≤ hi)))) r (fun i hi' R hR => ?_) ?_
  · (((simp only [DD.wSs, DD.wS, DD.wT, DD.wTs, DD.wE, DD.wEs, DD.wEi, DD.wIt, DD.wBnd, DD.bindT, DD.wb_add, DD.wb_sub, DD.wb_mul, DD.wb_fdiv, DD.wb_mod, DD.wb_pow, DD.wb_shl, DD.wb_shr, DD.wb_addL, DD.wb_addT, DD.wb_mulL, DD.wc_lt, DD.wc_le, DD.wc_gt, DD.wc_ge, DD.wc_eq, DD.wc_ne, DD.wc_isN0, DD.wc_isN1, DD.wc_isN2, DD.wc_isN3, DD.wc_isN4, DD.wc_isN5, DD.wc_notN0, DD.wc_notN1, DD.wc_notN2, DD.wc_notN3, DD.wc_notN4, DD.wc_notN5, DD.wt_n, DD.wt_b, DD.wt_i, DD.wt_l, DD.wt_t, DD.wi_l, DD.wi_t, DD.wu_len, DD.wu_lenT, DD.wu_int, DD.wu_intb, DD.wu_abs, DD.wu_tup, DD.wu_tupT, DD.wu_lst, DD.wu_lstT, DD.wu_max2, DD.wu_min2, DD.wu_max1, DD.wu_min1, DD.wu_sum, DD.wu_all, DD.wu_any, DD.wu_sorted, DD.ws_l, DD.ws_t, DD.ws_s, DD.wr_l, DD.wr_t, DD.wb_mulT, DD.wst_l, DD.wst_t, DD.wz_l, DD.wz_t, DD.wn_l, DD.wv_l, DD.wv_t, DD.wc_inl, DD.wc_ninl, DD.wc_int, DD.wc_nint, DD.wCh, DD.ev_ii, DD.ev_bb, DD.ev_ss, DD.ev_nn, DD.ev_ni, DD.ev_in, DD.ev_is, DD.ev_si, DD.ev_tt, DD.ev_ll, DD.ea_nn, DD.ea_cc, DD.ea_nc, DD.ea_cn, DD.sh_n, DD.sh_b, DD.sh_i, DD.sh_s, DD.so_told, DD.so_refused, DD.so_missing, DD.so_large, DD.at0, DD.at1, DD.at2, DD.at3, DD.startE, DD.endK, List.map_cons, List.map_nil, List.length_cons, List.length_nil, List.replicate, List.cons_append, List.nil_append, List.append_nil, DD.getS, DD.setS, DD.clrS, DD.deo_c, DD.deo_n, DD.deo1_v, DD.deo1_u, DD.deo1_o, DD.tgs, DD.Sl.v.injEq, DD.Sl.own.injEq, PySem.PyData.int.injEq, PySem.PyData.bool.injEq, PySem.PyData.list.injEq, PySem.PyData.tuple.injEq, PySem.PyData.str.injEq, Option.some.injEq, exists_eq_left', exists_eq_left, exists_and_left, exists_and_right, List.zip_cons_cons, List.zip_nil_right, List.zip_nil_left, List.foldl_cons, List.foldl_nil, List.getD_cons_zero, List.getD_cons_succ, true_and, and_true, Bool.false_eq_true, Bool.true_eq_false, Bool.not_true, Bool.not_false, if_true, if_false, decide_eq_true_eq, decide_eq_false_iff_not, Bool.not_eq_true', Bool.not_eq_false', DD.imp_tt, DD.imp_ff, DD.imp_tf, DD.imp_ft, forall_const, true_implies, false_implies, implies_true, Int.reduceLT, Int.reduceLE, reduceIte, ite_true, ite_false]); try simp only [g0, g1, g2, g3, γ0, γ1, γ2, γ3, γ4, γ5, γ6, γ7, γ8, γ9, γ17, γ18, γ19, γ21, γ22, γ23, γ24]; try (simp only [DD.wSs, DD.wS, DD.wT, DD.wTs, DD.wE, DD.wEs, DD.wEi, DD.wIt, DD.wBnd, DD.bindT, DD.wb_add, DD.wb_sub, DD.wb_mul, DD.wb_fdiv, DD.wb_mod, DD.wb_pow, DD.wb_shl, DD.wb_shr, DD.wb_addL, DD.wb_addT, DD.wb_mulL, DD.wc_lt, DD.wc_le, DD.wc_gt, DD.wc_ge, DD.wc_eq, DD.wc_ne, DD.wc_isN0, DD.wc_isN1, DD.wc_isN2, DD.wc_isN3, DD.wc_isN4, DD.wc_isN5, DD.wc_notN0, DD.wc_notN1, DD.wc_notN2, DD.wc_notN3, DD.wc_notN4, DD.wc_notN5, DD.wt_n, DD.wt_b, DD.wt_i, DD.wt_l, DD.wt_t, DD.wi_l, DD.wi_t, DD.wu_len, DD.wu_lenT, DD.wu_int, DD.wu_intb, DD.wu_abs, DD.wu_tup, DD.wu_tupT, DD.wu_lst, DD.wu_lstT, DD.wu_max2, DD.wu_min2, DD.wu_max1, DD.wu_min1, DD.wu_sum, DD.wu_all, DD.wu_any, DD.wu_sorted, DD.ws_l, DD.ws_t, DD.ws_s, DD.wr_l, DD.wr_t, DD.wb_mulT, DD.wst_l, DD.wst_t, DD.wz_l, DD.wz_t, DD.wn_l, DD.wv_l, DD.wv_t, DD.wc_inl, DD.wc_ninl, DD.wc_int, DD.wc_nint, DD.wCh, DD.ev_ii, DD.ev_bb, DD.ev_ss, DD.ev_nn, DD.ev_ni, DD.ev_in, DD.ev_is, DD.ev_si, DD.ev_tt, DD.ev_ll, DD.ea_nn, DD.ea_cc, DD.ea_nc, DD.ea_cn, DD.sh_n, DD.sh_b, DD.sh_i, DD.sh_s, DD.so_told, DD.so_refused, DD.so_missing, DD.so_large, DD.at0, DD.at1, DD.at2, DD.at3, DD.startE, DD.endK, List.map_cons, List.map_nil, List.length_cons, List.length_nil, List.replicate, List.cons_append, List.nil_append, List.append_nil, DD.getS, DD.setS, DD.clrS, DD.deo_c, DD.deo_n, DD.deo1_v, DD.deo1_u, DD.deo1_o, DD.tgs, DD.Sl.v.injEq, DD.Sl.own.injEq, PySem.PyData.int.injEq, PySem.PyData.bool.injEq, PySem.PyData.list.injEq, PySem.PyData.tuple.injEq, PySem.PyData.str.injEq, Option.some.injEq, exists_eq_left', exists_eq_left, exists_and_left, exists_and_right, List.zip_cons_cons, List.zip_nil_right, List.zip_nil_left, List.foldl_cons, List.foldl_nil, List.getD_cons_zero, List.getD_cons_succ, true_and, and_true, Bool.false_eq_true, Bool.true_eq_false, Bool.not_true, Bool.not_false, if_true, if_false, decide_eq_true_eq, decide_eq_false_iff_not, Bool.not_eq_true', Bool.not_eq_false', DD.imp_tt, DD.imp_ff, DD.imp_tf, DD.imp_ft, forall_const, true_implies, false_implies, implies_true, Int.reduceLT, Int.reduceLE, reduceIte, ite_true, ite_false])))
    refine ⟨fun z => ?_, fun z => ?_⟩
    · simp only [z, decide_true, Bool.true_and] at hR; exact hR
    · simp only [z, decide_false, Bool.false_and] at hR; exact hR
  · rw [List.nil_append, fm_some]
    refine ⟨_, blsOf_map _ _, ?_⟩
    rw [all_id]
    refine ⟨fun z => ?_, fun z => ?_⟩
    · refine q2 fun w => ?_
      rw [List.all_eq_false] at z
      obtain ⟨x, hx, hb⟩ := z
      have := w.2 x hx
      simp at hb
      omega
    · refine q1 ⟨by omega, fun x hx => ?_⟩
      have := List.all_eq_true.mp z x hx
      simp at this
      exact this
theorem sem4 : ∀ ds n Qd Xd, sp4 ds n Qd Xd → wSs ΓL GL b_splits (startE n_splits.length ds) n (endK Qd Xd) := by
  rintro ds n Qd Xd ⟨b, l, h, m, t, rfl, so, m0, m1, hq⟩
  unfold b_splits
  (((simp only [DD.wSs, DD.wS, DD.wT, DD.wTs, DD.wE, DD.wEs, DD.wEi, DD.wIt, DD.wBnd, DD.bindT, DD.wb_add, DD.wb_sub, DD.wb_mul, DD.wb_fdiv, DD.wb_mod, DD.wb_pow, DD.wb_shl, DD.wb_shr, DD.wb_addL, DD.wb_addT, DD.wb_mulL, DD.wc_lt, DD.wc_le, DD.wc_gt, DD.wc_ge, DD.wc_eq, DD.wc_ne, DD.wc_isN0, DD.wc_isN1, DD.wc_isN2, DD.wc_isN3, DD.wc_isN4, DD.wc_isN5, DD.wc_notN0, DD.wc_notN1, DD.wc_notN2, DD.wc_notN3, DD.wc_notN4, DD.wc_notN5, DD.wt_n, DD.wt_b, DD.wt_i, DD.wt_l, DD.wt_t, DD.wi_l, DD.wi_t, DD.wu_len, DD.wu_lenT, DD.wu_int, DD.wu_intb, DD.wu_abs, DD.wu_tup, DD.wu_tupT, DD.wu_lst, DD.wu_lstT, DD.wu_max2, DD.wu_min2, DD.wu_max1, DD.wu_min1, DD.wu_sum, DD.wu_all, DD.wu_any, DD.wu_sorted, DD.ws_l, DD.ws_t, DD.ws_s, DD.wr_l, DD.wr_t, DD.wb_mulT, DD.wst_l, DD.wst_t, DD.wz_l, DD.wz_t, DD.wn_l, DD.wv_l, DD.wv_t, DD.wc_inl, DD.wc_ninl, DD.wc_int, DD.wc_nint, DD.wCh, DD.ev_ii, DD.ev_bb, DD.ev_ss, DD.ev_nn, DD.ev_ni, DD.ev_in, DD.ev_is, DD.ev_si, DD.ev_tt, DD.ev_ll, DD.ea_nn, DD.ea_cc, DD.ea_nc, DD.ea_cn, DD.sh_n, DD.sh_b, DD.sh_i, DD.sh_s, DD.so_told, DD.so_refused, DD.so_missing, DD.so_large, DD.at0, DD.at1, DD.at2, DD.at3, DD.startE, DD.endK, List.map_cons, List.map_nil, List.length_cons, List.length_nil, List.replicate, List.cons_append, List.nil_append, List.append_nil, DD.getS, DD.setS, DD.clrS, DD.deo_c, DD.deo_n, DD.deo1_v, DD.deo1_u, DD.deo1_o, DD.tgs, DD.Sl.v.injEq, DD.Sl.own.injEq, PySem.PyData.int.injEq, PySem.PyData.bool.injEq, PySem.PyData.list.injEq, PySem.PyData.tuple.injEq, PySem.PyData.str.injEq, Option.some.injEq, exists_eq_left', exists_eq_left, exists_and_left, exists_and_right, List.zip_cons_cons, List.zip_nil_right, List.zip_nil_left, List.foldl_cons, List.foldl_nil, List.getD_cons_zero, List.getD_cons_succ, true_and, and_true, Bool.false_eq_true, Bool.true_eq_false, Bool.not_true, Bool.not_false, if_true, if_false, decide_eq_true_eq, decide_eq_false_iff_not, Bool.not_eq_true', Bool.not_eq_false', DD.imp_tt, DD.imp_ff, DD.imp_tf, DD.imp_ft, forall_const, true_implies, false_implies, implies_true, Int.reduceLT, Int.reduceLE, reduceIte, ite_true, ite_false]); try simp only [g0, g1, g2, g3, γ0, γ1, γ2, γ3, γ4, γ5, γ6, γ7, γ8, γ9, γ17, γ18, γ19, γ21, γ22, γ23, γ24]; try (simp only [DD.wSs, DD.wS, DD.wT, DD.wTs, DD.wE, DD.wEs, DD.wEi, DD.wIt, DD.wBnd, DD.bindT, DD.wb_add, DD.wb_sub, DD.wb_mul, DD.wb_fdiv, DD.wb_mod, DD.wb_pow, DD.wb_shl, DD.wb_shr, DD.wb_addL, DD.wb_addT, DD.wb_mulL, DD.wc_lt, DD.wc_le, DD.wc_gt, DD.wc_ge, DD.wc_eq, DD.wc_ne, DD.wc_isN0, DD.wc_isN1, DD.wc_isN2, DD.wc_isN3, DD.wc_isN4, DD.wc_isN5, DD.wc_notN0, DD.wc_notN1, DD.wc_notN2, DD.wc_notN3, DD.wc_notN4, DD.wc_notN5, DD.wt_n, DD.wt_b, DD.wt_i, DD.wt_l, DD.wt_t, DD.wi_l, DD.wi_t, DD.wu_len, DD.wu_lenT, DD.wu_int, DD.wu_intb, DD.wu_abs, DD.wu_tup, DD.wu_tupT, DD.wu_lst, DD.wu_lstT, DD.wu_max2, DD.wu_min2, DD.wu_max1, DD.wu_min1, DD.wu_sum, DD.wu_all, DD.wu_any, DD.wu_sorted, DD.ws_l, DD.ws_t, DD.ws_s, DD.wr_l, DD.wr_t, DD.wb_mulT, DD.wst_l, DD.wst_t, DD.wz_l, DD.wz_t, DD.wn_l, DD.wv_l, DD.wv_t, DD.wc_inl, DD.wc_ninl, DD.wc_int, DD.wc_nint, DD.wCh, DD.ev_ii, DD.ev_bb, DD.ev_ss, DD.ev_nn, DD.ev_ni, DD.ev_in, DD.ev_is, DD.ev_si, DD.ev_tt, DD.ev_ll, DD.ea_nn, DD.ea_cc, DD.ea_nc, DD.ea_cn, DD.sh_n, DD.sh_b, DD.sh_i, DD.sh_s, DD.so_told, DD.so_refused, DD.so_missing, DD.so_large, DD.at0, DD.at1, DD.at2, DD.at3, DD.startE, DD.endK, List.map_cons, List.map_nil, List.length_cons, List.length_nil, List.replicate, List.cons_append, List.nil_append, List.append_nil, DD.getS, DD.setS, DD.clrS, DD.deo_c, DD.deo_n, DD.deo1_v, DD.deo1_u, DD.deo1_o, DD.tgs, DD.Sl.v.injEq, DD.Sl.own.injEq, PySem.PyData.int.injEq, PySem.PyData.bool.injEq, PySem.PyData.list.injEq, PySem.PyData.tuple.injEq, PySem.PyData.str.injEq, Option.some.injEq, exists_eq_left', exists_eq_left, exists_and_left, exists_and_right, List.zip_cons_cons, List.zip_nil_right, List.zip_nil_left, List.foldl_cons, List.foldl_nil, List.getD_cons_zero, List.getD_cons_succ, true_and, and_true, Bool.false_eq_true, Bool.true_eq_false, Bool.not_true, Bool.not_false, if_true, if_false, decide_eq_true_eq, decide_eq_false_iff_not, Bool.not_eq_true', Bool.not_eq_false', DD.imp_tt, DD.imp_ff, DD.imp_tf, DD.imp_ft, forall_const, true_implies, false_implies, implies_true, Int.reduceLT, Int.reduceLE, reduceIte, ite_true, ite_false])))
  unfold SysOk at so
  refine ⟨⟨by omega, by omega, by omega, by omega, by omega⟩, wTurns_rng (fun c => if fits b l h m t c = true then some (.int c) else none) (fun i i0 i1 R hR => ?_) ?_⟩
  · (((simp only [DD.wSs, DD.wS, DD.wT, DD.wTs, DD.wE, DD.wEs, DD.wEi, DD.wIt, DD.wBnd, DD.bindT, DD.wb_add, DD.wb_sub, DD.wb_mul, DD.wb_fdiv, DD.wb_mod, DD.wb_pow, DD.wb_shl, DD.wb_shr, DD.wb_addL, DD.wb_addT, DD.wb_mulL, DD.wc_lt, DD.wc_le, DD.wc_gt, DD.wc_ge, DD.wc_eq, DD.wc_ne, DD.wc_isN0, DD.wc_isN1, DD.wc_isN2, DD.wc_isN3, DD.wc_isN4, DD.wc_isN5, DD.wc_notN0, DD.wc_notN1, DD.wc_notN2, DD.wc_notN3, DD.wc_notN4, DD.wc_notN5, DD.wt_n, DD.wt_b, DD.wt_i, DD.wt_l, DD.wt_t, DD.wi_l, DD.wi_t, DD.wu_len, DD.wu_lenT, DD.wu_int, DD.wu_intb, DD.wu_abs, DD.wu_tup, DD.wu_tupT, DD.wu_lst, DD.wu_lstT, DD.wu_max2, DD.wu_min2, DD.wu_max1, DD.wu_min1, DD.wu_sum, DD.wu_all, DD.wu_any, DD.wu_sorted, DD.ws_l, DD.ws_t, DD.ws_s, DD.wr_l, DD.wr_t, DD.wb_mulT, DD.wst_l, DD.wst_t, DD.wz_l, DD.wz_t, DD.wn_l, DD.wv_l, DD.wv_t, DD.wc_inl, DD.wc_ninl, DD.wc_int, DD.wc_nint, DD.wCh, DD.ev_ii, DD.ev_bb, DD.ev_ss, DD.ev_nn, DD.ev_ni, DD.ev_in, DD.ev_is, DD.ev_si, DD.ev_tt, DD.ev_ll, DD.ea_nn, DD.ea_cc, DD.ea_nc, DD.ea_cn, DD.sh_n, DD.sh_b, DD.sh_i, DD.sh_s, DD.so_told, DD.so_refused, DD.so_missing, DD.so_large, DD.at0, DD.at1, DD.at2, DD.at3, DD.startE, DD.endK, List.map_cons, List.map_nil, List.length_cons, List.length_nil, List.replicate, List.cons_append, List.nil_append, List.append_nil, DD.getS, DD.setS, DD.clrS, DD.deo_c, DD.deo_n, DD.deo1_v, DD.deo1_u, DD.deo1_o, DD.tgs, DD.Sl.v.injEq, DD.Sl.own.injEq, PySem.PyData.int.injEq, PySem.PyData.bool.injEq, PySem.PyData.list.injEq, PySem.PyData.tuple.injEq, PySem.PyData.str.injEq, Option.some.injEq, exists_eq_left', exists_eq_left, exists_and_left, exists_and_right, List.zip_cons_cons, List.zip_nil_right, List.zip_nil_left, List.foldl_cons, List.foldl_nil, List.getD_cons_zero, List.getD_cons_succ, true_and, and_true, Bool.false_eq_true, Bool.true_eq_false, Bool.not_true, Bool.not_false, if_true, if_false, decide_eq_true_eq, decide_eq_false_iff_not, Bool.not_eq_true', Bool.not_eq_false', DD.imp_tt, DD.imp_ff, DD.imp_tf, DD.imp_ft, forall_const, true_implies, false_implies, implies_true, Int.reduceLT, Int.reduceLE, reduceIte, ite_true, ite_false]); try simp only [g0, g1, g2, g3, γ0, γ1, γ2, γ3, γ4, γ5, γ6, γ7, γ8, γ9, γ17, γ18, γ19, γ21, γ22, γ23, γ24]; try (simp only [DD.wSs, DD.wS, DD.wT, DD.wTs, DD.wE, DD.wEs, DD.wEi, DD.wIt, DD.wBnd, DD.bindT, DD.wb_add, DD.wb_sub, DD.wb_mul, DD.wb_fdiv, DD.wb_mod, DD.wb_pow, DD.wb_shl, DD.wb_shr, DD.wb_addL, DD.wb_addT, DD.wb_mulL, DD.wc_lt, DD.wc_le, DD.wc_gt, DD.wc_ge, DD.wc_eq, DD.wc_ne, DD.wc_isN0, DD.wc_isN1, DD.wc_isN2, DD.wc_isN3, DD.wc_isN4, DD.wc_isN5, DD.wc_notN0, DD.wc_notN1, DD.wc_notN2, DD.wc_notN3, DD.wc_notN4, DD.wc_notN5, DD.wt_n, DD.wt_b, DD.wt_i, DD.wt_l, DD.wt_t, DD.wi_l, DD.wi_t, DD.wu_len, DD.wu_lenT, DD.wu_int, DD.wu_intb, DD.wu_abs, DD.wu_tup, DD.wu_tupT, DD.wu_lst, DD.wu_lstT, DD.wu_max2, DD.wu_min2, DD.wu_max1, DD.wu_min1, DD.wu_sum, DD.wu_all, DD.wu_any, DD.wu_sorted, DD.ws_l, DD.ws_t, DD.ws_s, DD.wr_l, DD.wr_t, DD.wb_mulT, DD.wst_l, DD.wst_t, DD.wz_l, DD.wz_t, DD.wn_l, DD.wv_l, DD.wv_t, DD.wc_inl, DD.wc_ninl, DD.wc_int, DD.wc_nint, DD.wCh, DD.ev_ii, DD.ev_bb, DD.ev_ss, DD.ev_nn, DD.ev_ni, DD.ev_in, DD.ev_is, DD.ev_si, DD.ev_tt, DD.ev_ll, DD.ea_nn, DD.ea_cc, DD.ea_nc, DD.ea_cn, DD.sh_n, DD.sh_b, DD.sh_i, DD.sh_s, DD.so_told, DD.so_refused, DD.so_missing, DD.so_large, DD.at0, DD.at1, DD.at2, DD.at3, DD.startE, DD.endK, List.map_cons, List.map_nil, List.length_cons, List.length_nil, List.replicate, List.cons_append, List.nil_append, List.append_nil, DD.getS, DD.setS, DD.clrS, DD.deo_c, DD.deo_n, DD.deo1_v, DD.deo1_u, DD.deo1_o, DD.tgs, DD.Sl.v.injEq, DD.Sl.own.injEq, PySem.PyData.int.injEq, PySem.PyData.bool.injEq, PySem.PyData.list.injEq, PySem.PyData.tuple.injEq, PySem.PyData.str.injEq, Option.some.injEq, exists_eq_left', exists_eq_left, exists_and_left, exists_and_right, List.zip_cons_cons, List.zip_nil_right, List.zip_nil_left, List.foldl_cons, List.foldl_nil, List.getD_cons_zero, List.getD_cons_succ, true_and, and_true, Bool.false_eq_true, Bool.true_eq_false, Bool.not_true, Bool.not_false, if_true, if_false, decide_eq_true_eq, decide_eq_false_iff_not, Bool.not_eq_true', Bool.not_eq_false', DD.imp_tt, DD.imp_ff, DD.imp_tf, DD.imp_ft, forall_const, true_implies, false_implies, implies_true, Int.reduceLT, Int.reduceLE, reduceIte, ite_true, ite_false])))
    unfold fits at hR
    refine ⟨okMul_l (by omega) (by omega), fun z => ?_, fun z => ?_⟩
    · refine ⟨fun y => ?_, fun y => ?_⟩
      · simp only [z, y, decide_true, Bool.and_true, if_true] at hR; exact hR
      · simp only [z, y, decide_true, decide_false, Bool.and_false, Bool.true_and, if_false, Bool.false_eq_true] at hR; exact hR
    · simp only [z, decide_false, Bool.false_and, if_false, Bool.false_eq_true] at hR; exact hR
  · rw [List.nil_append, fm_if]
    exact hq
def I3 (b l h m : Int) (n : Nat) (rem : List D) (e : Env) (n' : Nat) : Prop := ∃ (j : Nat) (x : Sl), n' = n ∧ rem = (rngD (2 * l) (2 * h + 1)).drop j ∧ (∀ y : Int, 2 * l ≤ y → y < 2 * l + j → carr b l h m y ≠ []) ∧ e = [.v (.tuple (sy b l h)), .v (.int (-m)), .v (.int m), x]
theorem sem3 : ∀ ds n Qd Xd, sp3 ds n Qd Xd → wSs ΓL GL b_is_free (startE n_is_free.length ds) n (endK Qd Xd) := by
  rintro ds n Qd Xd ⟨b, l, h, m, rfl, so, m0, m1, hq⟩
  have so' := so
  unfold b_is_free
  (((simp only [DD.wSs, DD.wS, DD.wT, DD.wTs, DD.wE, DD.wEs, DD.wEi, DD.wIt, DD.wBnd, DD.bindT, DD.wb_add, DD.wb_sub, DD.wb_mul, DD.wb_fdiv, DD.wb_mod, DD.wb_pow, DD.wb_shl, DD.wb_shr, DD.wb_addL, DD.wb_addT, DD.wb_mulL, DD.wc_lt, DD.wc_le, DD.wc_gt, DD.wc_ge, DD.wc_eq, DD.wc_ne, DD.wc_isN0, DD.wc_isN1, DD.wc_isN2, DD.wc_isN3, DD.wc_isN4, DD.wc_isN5, DD.wc_notN0, DD.wc_notN1, DD.wc_notN2, DD.wc_notN3, DD.wc_notN4, DD.wc_notN5, DD.wt_n, DD.wt_b, DD.wt_i, DD.wt_l, DD.wt_t, DD.wi_l, DD.wi_t, DD.wu_len, DD.wu_lenT, DD.wu_int, DD.wu_intb, DD.wu_abs, DD.wu_tup, DD.wu_tupT, DD.wu_lst, DD.wu_lstT, DD.wu_max2, DD.wu_min2, DD.wu_max1, DD.wu_min1, DD.wu_sum, DD.wu_all, DD.wu_any, DD.wu_sorted, DD.ws_l, DD.ws_t, DD.ws_s, DD.wr_l, DD.wr_t, DD.wb_mulT, DD.wst_l, DD.wst_t, DD.wz_l, DD.wz_t, DD.wn_l, DD.wv_l, DD.wv_t, DD.wc_inl, DD.wc_ninl, DD.wc_int, DD.wc_nint, DD.wCh, DD.ev_ii, DD.ev_bb, DD.ev_ss, DD.ev_nn, DD.ev_ni, DD.ev_in, DD.ev_is, DD.ev_si, DD.ev_tt, DD.ev_ll, DD.ea_nn, DD.ea_cc, DD.ea_nc, DD.ea_cn, DD.sh_n, DD.sh_b, DD.sh_i, DD.sh_s, DD.so_told, DD.so_refused, DD.so_missing, DD.so_large, DD.at0, DD.at1, DD.at2, DD.at3, DD.startE, DD.endK, List.map_cons, List.map_nil, List.length_cons, List.length_nil, List.replicate, List.cons_append, List.nil_append, List.append_nil, DD.getS, DD.setS, DD.clrS, DD.deo_c, DD.deo_n, DD.deo1_v, DD.deo1_u, DD.deo1_o, DD.tgs, DD.Sl.v.injEq, DD.Sl.own.injEq, PySem.PyData.int.injEq, PySem.PyData.bool.injEq, PySem.PyData.list.injEq, PySem.PyData.tuple.injEq, PySem.PyData.str.injEq, Option.some.injEq, exists_eq_left', exists_eq_left, exists_and_left, exists_and_right, List.zip_cons_cons, List.zip_nil_right, List.zip_nil_left, List.foldl_cons, List.foldl_nil, List.getD_cons_zero, List.getD_cons_succ, true_and, and_true, Bool.false_eq_true, Bool.true_eq_false, Bool.not_true, Bool.not_false, if_true, if_false, decide_eq_true_eq, decide_eq_false_iff_not, Bool.not_eq_true', Bool.not_eq_false', DD.imp_tt, DD.imp_ff, DD.imp_tf, DD.imp_ft, forall_const, true_implies, false_implies, implies_true, Int.reduceLT, Int.reduceLE, reduceIte, ite_true, ite_false]); try simp only [g0, g1, g2, g3, γ0, γ1, γ2, γ3, γ4, γ5, γ6, γ7, γ8, γ9, γ17, γ18, γ19, γ21, γ22, γ23, γ24]; try (simp only [DD.wSs, DD.wS, DD.wT, DD.wTs, DD.wE, DD.wEs, DD.wEi, DD.wIt, DD.wBnd, DD.bindT, DD.wb_add, DD.wb_sub, DD.wb_mul, DD.wb_fdiv, DD.wb_mod, DD.wb_pow, DD.wb_shl, DD.wb_shr, DD.wb_addL, DD.wb_addT, DD.wb_mulL, DD.wc_lt, DD.wc_le, DD.wc_gt, DD.wc_ge, DD.wc_eq, DD.wc_ne, DD.wc_isN0, DD.wc_isN1, DD.wc_isN2, DD.wc_isN3, DD.wc_isN4, DD.wc_isN5, DD.wc_notN0, DD.wc_notN1, DD.wc_notN2, DD.wc_notN3, DD.wc_notN4, DD.wc_notN5, DD.wt_n, DD.wt_b, DD.wt_i, DD.wt_l, DD.wt_t, DD.wi_l, DD.wi_t, DD.wu_len, DD.wu_lenT, DD.wu_int, DD.wu_intb, DD.wu_abs, DD.wu_tup, DD.wu_tupT, DD.wu_lst, DD.wu_lstT, DD.wu_max2, DD.wu_min2, DD.wu_max1, DD.wu_min1, DD.wu_sum, DD.wu_all, DD.wu_any, DD.wu_sorted, DD.ws_l, DD.ws_t, DD.ws_s, DD.wr_l, DD.wr_t, DD.wb_mulT, DD.wst_l, DD.wst_t, DD.wz_l, DD.wz_t, DD.wn_l, DD.wv_l, DD.wv_t, DD.wc_inl, DD.wc_ninl, DD.wc_int, DD.wc_nint, DD.wCh, DD.ev_ii, DD.ev_bb, DD.ev_ss, DD.ev_nn, DD.ev_ni, DD.ev_in, DD.ev_is, DD.ev_si, DD.ev_tt, DD.ev_ll, DD.ea_nn, DD.ea_cc, DD.ea_nc, DD.ea_cn, DD.sh_n, DD.sh_b, DD.sh_i, DD.sh_s, DD.so_told, DD.so_refused, DD.so_missing, DD.so_large, DD.at0, DD.at1, DD.at2, DD.at3, DD.startE, DD.endK, List.map_cons, List.map_nil, List.length_cons, List.length_nil, List.replicate, List.cons_append, List.nil_append, List.append_nil, DD.getS, DD.setS, DD.clrS, DD.deo_c, DD.deo_n, DD.deo1_v, DD.deo1_u, DD.deo1_o, DD.tgs, DD.Sl.v.injEq, DD.Sl.own.injEq, PySem.PyData.int.injEq, PySem.PyData.bool.injEq, PySem.PyData.list.injEq, PySem.PyData.tuple.injEq, PySem.PyData.str.injEq, Option.some.injEq, exists_eq_left', exists_eq_left, exists_and_left, exists_and_right, List.zip_cons_cons, List.zip_nil_right, List.zip_nil_left, List.foldl_cons, List.foldl_nil, List.getD_cons_zero, List.getD_cons_succ, true_and, and_true, Bool.false_eq_true, Bool.true_eq_false, Bool.not_true, Bool.not_false, if_true, if_false, decide_eq_true_eq, decide_eq_false_iff_not, Bool.not_eq_true', Bool.not_eq_false', DD.imp_tt, DD.imp_ff, DD.imp_tf, DD.imp_ft, forall_const, true_implies, false_implies, implies_true, Int.reduceLT, Int.reduceLE, reduceIte, ite_true, ite_false])))
  unfold SysOk at so
  refine ⟨okMul_l (by decide) (by decide), okMul_l (by decide) (by decide), ⟨by omega, by omega, by omega, by omega, by omega⟩, ?_⟩
  refine forG monoL (I3 b l h m n) ⟨0, .un, rfl, rfl, fun y a b => by omega, rfl⟩ ?_ ?_
  · rintro e n' ⟨j, x, rfl, hr, hy, rfl⟩
    (((simp only [DD.wSs, DD.wS, DD.wT, DD.wTs, DD.wE, DD.wEs, DD.wEi, DD.wIt, DD.wBnd, DD.bindT, DD.wb_add, DD.wb_sub, DD.wb_mul, DD.wb_fdiv, DD.wb_mod, DD.wb_pow, DD.wb_shl, DD.wb_shr, DD.wb_addL, DD.wb_addT, DD.wb_mulL, DD.wc_lt, DD.wc_le, DD.wc_gt, DD.wc_ge, DD.wc_eq, DD.wc_ne, DD.wc_isN0, DD.wc_isN1, DD.wc_isN2, DD.wc_isN3, DD.wc_isN4, DD.wc_isN5, DD.wc_notN0, DD.wc_notN1, DD.wc_notN2, DD.wc_notN3, DD.wc_notN4, DD.wc_notN5, DD.wt_n, DD.wt_b, DD.wt_i, DD.wt_l, DD.wt_t, DD.wi_l, DD.wi_t, DD.wu_len, DD.wu_lenT, DD.wu_int, DD.wu_intb, DD.wu_abs, DD.wu_tup, DD.wu_tupT, DD.wu_lst, DD.wu_lstT, DD.wu_max2, DD.wu_min2, DD.wu_max1, DD.wu_min1, DD.wu_sum, DD.wu_all, DD.wu_any, DD.wu_sorted, DD.ws_l, DD.ws_t, DD.ws_s, DD.wr_l, DD.wr_t, DD.wb_mulT, DD.wst_l, DD.wst_t, DD.wz_l, DD.wz_t, DD.wn_l, DD.wv_l, DD.wv_t, DD.wc_inl, DD.wc_ninl, DD.wc_int, DD.wc_nint, DD.wCh, DD.ev_ii, DD.ev_bb, DD.ev_ss, DD.ev_nn, DD.ev_ni, DD.ev_in, DD.ev_is, DD.ev_si, DD.ev_tt, DD.ev_ll, DD.ea_nn, DD.ea_cc, DD.ea_nc, DD.ea_cn, DD.sh_n, DD.sh_b, DD.sh_i, DD.sh_s, DD.so_told, DD.so_refused, DD.so_missing, DD.so_large, DD.at0, DD.at1, DD.at2, DD.at3, DD.startE, DD.endK, List.map_cons, List.map_nil, List.length_cons, List.length_nil, List.replicate, List.cons_append, List.nil_append, List.append_nil, DD.getS, DD.setS, DD.clrS, DD.deo_c, DD.deo_n, DD.deo1_v, DD.deo1_u, DD.deo1_o, DD.tgs, DD.Sl.v.injEq, DD.Sl.own.injEq, PySem.PyData.int.injEq, PySem.PyData.bool.injEq, PySem.PyData.list.injEq, PySem.PyData.tuple.injEq, PySem.PyData.str.injEq, Option.some.injEq, exists_eq_left', exists_eq_left, exists_and_left, exists_and_right, List.zip_cons_cons, List.zip_nil_right, List.zip_nil_left, List.foldl_cons, List.foldl_nil, List.getD_cons_zero, List.getD_cons_succ, true_and, and_true, Bool.false_eq_true, Bool.true_eq_false, Bool.not_true, Bool.not_false, if_true, if_false, decide_eq_true_eq, decide_eq_false_iff_not, Bool.not_eq_true', Bool.not_eq_false', DD.imp_tt, DD.imp_ff, DD.imp_tf, DD.imp_ft, forall_const, true_implies, false_implies, implies_true, Int.reduceLT, Int.reduceLE, reduceIte, ite_true, ite_false]); try simp only [g0, g1, g2, g3, γ0, γ1, γ2, γ3, γ4, γ5, γ6, γ7, γ8, γ9, γ17, γ18, γ19, γ21, γ22, γ23, γ24]; try (simp only [DD.wSs, DD.wS, DD.wT, DD.wTs, DD.wE, DD.wEs, DD.wEi, DD.wIt, DD.wBnd, DD.bindT, DD.wb_add, DD.wb_sub, DD.wb_mul, DD.wb_fdiv, DD.wb_mod, DD.wb_pow, DD.wb_shl, DD.wb_shr, DD.wb_addL, DD.wb_addT, DD.wb_mulL, DD.wc_lt, DD.wc_le, DD.wc_gt, DD.wc_ge, DD.wc_eq, DD.wc_ne, DD.wc_isN0, DD.wc_isN1, DD.wc_isN2, DD.wc_isN3, DD.wc_isN4, DD.wc_isN5, DD.wc_notN0, DD.wc_notN1, DD.wc_notN2, DD.wc_notN3, DD.wc_notN4, DD.wc_notN5, DD.wt_n, DD.wt_b, DD.wt_i, DD.wt_l, DD.wt_t, DD.wi_l, DD.wi_t, DD.wu_len, DD.wu_lenT, DD.wu_int, DD.wu_intb, DD.wu_abs, DD.wu_tup, DD.wu_tupT, DD.wu_lst, DD.wu_lstT, DD.wu_max2, DD.wu_min2, DD.wu_max1, DD.wu_min1, DD.wu_sum, DD.wu_all, DD.wu_any, DD.wu_sorted, DD.ws_l, DD.ws_t, DD.ws_s, DD.wr_l, DD.wr_t, DD.wb_mulT, DD.wst_l, DD.wst_t, DD.wz_l, DD.wz_t, DD.wn_l, DD.wv_l, DD.wv_t, DD.wc_inl, DD.wc_ninl, DD.wc_int, DD.wc_nint, DD.wCh, DD.ev_ii, DD.ev_bb, DD.ev_ss, DD.ev_nn, DD.ev_ni, DD.ev_in, DD.ev_is, DD.ev_si, DD.ev_tt, DD.ev_ll, DD.ea_nn, DD.ea_cc, DD.ea_nc, DD.ea_cn, DD.sh_n, DD.sh_b, DD.sh_i, DD.sh_s, DD.so_told, DD.so_refused, DD.so_missing, DD.so_large, DD.at0, DD.at1, DD.at2, DD.at3, DD.startE, DD.endK, List.map_cons, List.map_nil, List.length_cons, List.length_nil, List.replicate, List.cons_append, List.nil_append, List.append_nil, DD.getS, DD.setS, DD.clrS, DD.deo_c, DD.deo_n, DD.deo1_v, DD.deo1_u, DD.deo1_o, DD.tgs, DD.Sl.v.injEq, DD.Sl.own.injEq, PySem.PyData.int.injEq, PySem.PyData.bool.injEq, PySem.PyData.list.injEq, PySem.PyData.tuple.injEq, PySem.PyData.str.injEq, Option.some.injEq, exists_eq_left', exists_eq_left, exists_and_left, exists_and_right, List.zip_cons_cons, List.zip_nil_right, List.zip_nil_left, List.foldl_cons, List.foldl_nil, List.getD_cons_zero, List.getD_cons_succ, true_and, and_true, Bool.false_eq_true, Bool.true_eq_false, Bool.not_true, Bool.not_false, if_true, if_false, decide_eq_true_eq, decide_eq_false_iff_not, Bool.not_eq_true', Bool.not_eq_false', DD.imp_tt, DD.imp_ff, DD.imp_tf, DD.imp_ft, forall_const, true_implies, false_implies, implies_true, Int.reduceLT, Int.reduceLE, reduceIte, ite_true, ite_false])))
    have := rngD_end hr
    exact hq true ⟨fun _ t a c => hy t a (by omega), fun _ => rfl⟩
  · rintro z ds e n' ⟨j, x, rfl, hr, hy, rfl⟩
    obtain ⟨rfl, hr2, hlt⟩ := rngD_drop hr
    unfold l_is_free_1
    (((simp only [DD.wSs, DD.wS, DD.wT, DD.wTs, DD.wE, DD.wEs, DD.wEi, DD.wIt, DD.wBnd, DD.bindT, DD.wb_add, DD.wb_sub, DD.wb_mul, DD.wb_fdiv, DD.wb_mod, DD.wb_pow, DD.wb_shl, DD.wb_shr, DD.wb_addL, DD.wb_addT, DD.wb_mulL, DD.wc_lt, DD.wc_le, DD.wc_gt, DD.wc_ge, DD.wc_eq, DD.wc_ne, DD.wc_isN0, DD.wc_isN1, DD.wc_isN2, DD.wc_isN3, DD.wc_isN4, DD.wc_isN5, DD.wc_notN0, DD.wc_notN1, DD.wc_notN2, DD.wc_notN3, DD.wc_notN4, DD.wc_notN5, DD.wt_n, DD.wt_b, DD.wt_i, DD.wt_l, DD.wt_t, DD.wi_l, DD.wi_t, DD.wu_len, DD.wu_lenT, DD.wu_int, DD.wu_intb, DD.wu_abs, DD.wu_tup, DD.wu_tupT, DD.wu_lst, DD.wu_lstT, DD.wu_max2, DD.wu_min2, DD.wu_max1, DD.wu_min1, DD.wu_sum, DD.wu_all, DD.wu_any, DD.wu_sorted, DD.ws_l, DD.ws_t, DD.ws_s, DD.wr_l, DD.wr_t, DD.wb_mulT, DD.wst_l, DD.wst_t, DD.wz_l, DD.wz_t, DD.wn_l, DD.wv_l, DD.wv_t, DD.wc_inl, DD.wc_ninl, DD.wc_int, DD.wc_nint, DD.wCh, DD.ev_ii, DD.ev_bb, DD.ev_ss, DD.ev_nn, DD.ev_ni, DD.ev_in, DD.ev_is, DD.ev_si, DD.ev_tt, DD.ev_ll, DD.ea_nn, DD.ea_cc, DD.ea_nc, DD.ea_cn, DD.sh_n, DD.sh_b, DD.sh_i, DD.sh_s, DD.so_told, DD.so_refused, DD.so_missing, DD.so_large, DD.at0, DD.at1, DD.at2, DD.at3, DD.startE, DD.endK, List.map_cons, List.map_nil, List.length_cons, List.length_nil, List.replicate, List.cons_append, List.nil_append, List.append_nil, DD.getS, DD.setS, DD.clrS, DD.deo_c, DD.deo_n, DD.deo1_v, DD.deo1_u, DD.deo1_o, DD.tgs, DD.Sl.v.injEq, DD.Sl.own.injEq, PySem.PyData.int.injEq, PySem.PyData.bool.injEq, PySem.PyData.list.injEq, PySem.PyData.tuple.injEq, PySem.PyData.str.injEq, Option.some.injEq, exists_eq_left', exists_eq_left, exists_and_left, exists_and_right, List.zip_cons_cons, List.zip_nil_right, List.zip_nil_left, List.foldl_cons, List.foldl_nil, List.getD_cons_zero, List.getD_cons_succ, true_and, and_true, Bool.false_eq_true, Bool.true_eq_false, Bool.not_true, Bool.not_false, if_true, if_false, decide_eq_true_eq, decide_eq_false_iff_not, Bool.not_eq_true', Bool.not_eq_false', DD.imp_tt, DD.imp_ff, DD.imp_tf, DD.imp_ft, forall_const, true_implies, false_implies, implies_true, Int.reduceLT, Int.reduceLE, reduceIte, ite_true, ite_false]); try simp only [g0, g1, g2, g3, γ0, γ1, γ2, γ3, γ4, γ5, γ6, γ7, γ8, γ9, γ17, γ18, γ19, γ21, γ22, γ23, γ24]; try (simp only [DD.wSs, DD.wS, DD.wT, DD.wTs, DD.wE, DD.wEs, DD.wEi, DD.wIt, DD.wBnd, DD.bindT, DD.wb_add, DD.wb_sub, DD.wb_mul, DD.wb_fdiv, DD.wb_mod, DD.wb_pow, DD.wb_shl, DD.wb_shr, DD.wb_addL, DD.wb_addT, DD.wb_mulL, DD.wc_lt, DD.wc_le, DD.wc_gt, DD.wc_ge, DD.wc_eq, DD.wc_ne, DD.wc_isN0, DD.wc_isN1, DD.wc_isN2, DD.wc_isN3, DD.wc_isN4, DD.wc_isN5, DD.wc_notN0, DD.wc_notN1, DD.wc_notN2, DD.wc_notN3, DD.wc_notN4, DD.wc_notN5, DD.wt_n, DD.wt_b, DD.wt_i, DD.wt_l, DD.wt_t, DD.wi_l, DD.wi_t, DD.wu_len, DD.wu_lenT, DD.wu_int, DD.wu_intb, DD.wu_abs, DD.wu_tup, DD.wu_tupT, DD.wu_lst, DD.wu_lstT, DD.wu_max2, DD.wu_min2, DD.wu_max1, DD.wu_min1, DD.wu_sum, DD.wu_all, DD.wu_any, DD.wu_sorted, DD.ws_l, DD.ws_t, DD.ws_s, DD.wr_l, DD.wr_t, DD.wb_mulT, DD.wst_l, DD.wst_t, DD.wz_l, DD.wz_t, DD.wn_l, DD.wv_l, DD.wv_t, DD.wc_inl, DD.wc_ninl, DD.wc_int, DD.wc_nint, DD.wCh, DD.ev_ii, DD.ev_bb, DD.ev_ss, DD.ev_nn, DD.ev_ni, DD.ev_in, DD.ev_is, DD.ev_si, DD.ev_tt, DD.ev_ll, DD.ea_nn, DD.ea_cc, DD.ea_nc, DD.ea_cn, DD.sh_n, DD.sh_b, DD.sh_i, DD.sh_s, DD.so_told, DD.so_refused, DD.so_missing, DD.so_large, DD.at0, DD.at1, DD.at2, DD.at3, DD.startE, DD.endK, List.map_cons, List.map_nil, List.length_cons, List.length_nil, List.replicate, List.cons_append, List.nil_append, List.append_nil, DD.getS, DD.setS, DD.clrS, DD.deo_c, DD.deo_n, DD.deo1_v, DD.deo1_u, DD.deo1_o, DD.tgs, DD.Sl.v.injEq, DD.Sl.own.injEq, PySem.PyData.int.injEq, PySem.PyData.bool.injEq, PySem.PyData.list.injEq, PySem.PyData.tuple.injEq, PySem.PyData.str.injEq, Option.some.injEq, exists_eq_left', exists_eq_left, exists_and_left, exists_and_right, List.zip_cons_cons, List.zip_nil_right, List.zip_nil_left, List.foldl_cons, List.foldl_nil, List.getD_cons_zero, List.getD_cons_succ, true_and, and_true, Bool.false_eq_true, Bool.true_eq_false, Bool.not_true, Bool.not_false, if_true, if_false, decide_eq_true_eq, decide_eq_false_iff_not, Bool.not_eq_true', Bool.not_eq_false', DD.imp_tt, DD.imp_ff, DD.imp_tf, DD.imp_ft, forall_const, true_implies, false_implies, implies_true, Int.reduceLT, Int.reduceLE, reduceIte, ite_true, ite_false])))
    refine ⟨b, l, h, m, _, rfl, so', m0, m1, ?_⟩
    (((simp only [DD.wSs, DD.wS, DD.wT, DD.wTs, DD.wE, DD.wEs, DD.wEi, DD.wIt, DD.wBnd, DD.bindT, DD.wb_add, DD.wb_sub, DD.wb_mul, DD.wb_fdiv, DD.wb_mod, DD.wb_pow, DD.wb_shl, DD.wb_shr, DD.wb_addL, DD.wb_addT, DD.wb_mulL, DD.wc_lt, DD.wc_le, DD.wc_gt, DD.wc_ge, DD.wc_eq, DD.wc_ne, DD.wc_isN0, DD.wc_isN1, DD.wc_isN2, DD.wc_isN3, DD.wc_isN4, DD.wc_isN5, DD.wc_notN0, DD.wc_notN1, DD.wc_notN2, DD.wc_notN3, DD.wc_notN4, DD.wc_notN5, DD.wt_n, DD.wt_b, DD.wt_i, DD.wt_l, DD.wt_t, DD.wi_l, DD.wi_t, DD.wu_len, DD.wu_lenT, DD.wu_int, DD.wu_intb, DD.wu_abs, DD.wu_tup, DD.wu_tupT, DD.wu_lst, DD.wu_lstT, DD.wu_max2, DD.wu_min2, DD.wu_max1, DD.wu_min1, DD.wu_sum, DD.wu_all, DD.wu_any, DD.wu_sorted, DD.ws_l, DD.ws_t, DD.ws_s, DD.wr_l, DD.wr_t, DD.wb_mulT, DD.wst_l, DD.wst_t, DD.wz_l, DD.wz_t, DD.wn_l, DD.wv_l, DD.wv_t, DD.wc_inl, DD.wc_ninl, DD.wc_int, DD.wc_nint, DD.wCh, DD.ev_ii, DD.ev_bb, DD.ev_ss, DD.ev_nn, DD.ev_ni, DD.ev_in, DD.ev_is, DD.ev_si, DD.ev_tt, DD.ev_ll, DD.ea_nn, DD.ea_cc, DD.ea_nc, DD.ea_cn, DD.sh_n, DD.sh_b, DD.sh_i, DD.sh_s, DD.so_told, DD.so_refused, DD.so_missing, DD.so_large, DD.at0, DD.at1, DD.at2, DD.at3, DD.startE, DD.endK, List.map_cons, List.map_nil, List.length_cons, List.length_nil, List.replicate, List.cons_append, List.nil_append, List.append_nil, DD.getS, DD.setS, DD.clrS, DD.deo_c, DD.deo_n, DD.deo1_v, DD.deo1_u, DD.deo1_o, DD.tgs, DD.Sl.v.injEq, DD.Sl.own.injEq, PySem.PyData.int.injEq, PySem.PyData.bool.injEq, PySem.PyData.list.injEq, PySem.PyData.tuple.injEq, PySem.PyData.str.injEq, Option.some.injEq, exists_eq_left', exists_eq_left, exists_and_left, exists_and_right, List.zip_cons_cons, List.zip_nil_right, List.zip_nil_left, List.foldl_cons, List.foldl_nil, List.getD_cons_zero, List.getD_cons_succ, true_and, and_true, Bool.false_eq_true, Bool.true_eq_false, Bool.not_true, Bool.not_false, if_true, if_false, decide_eq_true_eq, decide_eq_false_iff_not, Bool.not_eq_true', Bool.not_eq_false', DD.imp_tt, DD.imp_ff, DD.imp_tf, DD.imp_ft, forall_const, true_implies, false_implies, implies_true, Int.reduceLT, Int.reduceLE, reduceIte, ite_true, ite_false]); try simp only [g0, g1, g2, g3, γ0, γ1, γ2, γ3, γ4, γ5, γ6, γ7, γ8, γ9, γ17, γ18, γ19, γ21, γ22, γ23, γ24]; try (simp only [DD.wSs, DD.wS, DD.wT, DD.wTs, DD.wE, DD.wEs, DD.wEi, DD.wIt, DD.wBnd, DD.bindT, DD.wb_add, DD.wb_sub, DD.wb_mul, DD.wb_fdiv, DD.wb_mod, DD.wb_pow, DD.wb_shl, DD.wb_shr, DD.wb_addL, DD.wb_addT, DD.wb_mulL, DD.wc_lt, DD.wc_le, DD.wc_gt, DD.wc_ge, DD.wc_eq, DD.wc_ne, DD.wc_isN0, DD.wc_isN1, DD.wc_isN2, DD.wc_isN3, DD.wc_isN4, DD.wc_isN5, DD.wc_notN0, DD.wc_notN1, DD.wc_notN2, DD.wc_notN3, DD.wc_notN4, DD.wc_notN5, DD.wt_n, DD.wt_b, DD.wt_i, DD.wt_l, DD.wt_t, DD.wi_l, DD.wi_t, DD.wu_len, DD.wu_lenT, DD.wu_int, DD.wu_intb, DD.wu_abs, DD.wu_tup, DD.wu_tupT, DD.wu_lst, DD.wu_lstT, DD.wu_max2, DD.wu_min2, DD.wu_max1, DD.wu_min1, DD.wu_sum, DD.wu_all, DD.wu_any, DD.wu_sorted, DD.ws_l, DD.ws_t, DD.ws_s, DD.wr_l, DD.wr_t, DD.wb_mulT, DD.wst_l, DD.wst_t, DD.wz_l, DD.wz_t, DD.wn_l, DD.wv_l, DD.wv_t, DD.wc_inl, DD.wc_ninl, DD.wc_int, DD.wc_nint, DD.wCh, DD.ev_ii, DD.ev_bb, DD.ev_ss, DD.ev_nn, DD.ev_ni, DD.ev_in, DD.ev_is, DD.ev_si, DD.ev_tt, DD.ev_ll, DD.ea_nn, DD.ea_cc, DD.ea_nc, DD.ea_cn, DD.sh_n, DD.sh_b, DD.sh_i, DD.sh_s, DD.so_told, DD.so_refused, DD.so_missing, DD.so_large, DD.at0, DD.at1, DD.at2, DD.at3, DD.startE, DD.endK, List.map_cons, List.map_nil, List.length_cons, List.length_nil, List.replicate, List.cons_append, List.nil_append, List.append_nil, DD.getS, DD.setS, DD.clrS, DD.deo_c, DD.deo_n, DD.deo1_v, DD.deo1_u, DD.deo1_o, DD.tgs, DD.Sl.v.injEq, DD.Sl.own.injEq, PySem.PyData.int.injEq, PySem.PyData.bool.injEq, PySem.PyData.list.injEq, PySem.PyData.tuple.injEq, PySem.PyData.str.injEq, Option.some.injEq, exists_eq_left', exists_eq_left, exists_and_left, exists_and_right, List.zip_cons_cons, List.zip_nil_right, List.zip_nil_left, List.foldl_cons, List.foldl_nil, List.getD_cons_zero, List.getD_cons_succ, true_and, and_true, Bool.false_eq_true, Bool.true_eq_false, Bool.not_true, Bool.not_false, if_true, if_false, decide_eq_true_eq, decide_eq_false_iff_not, Bool.not_eq_true', Bool.not_eq_false', DD.imp_tt, DD.imp_ff, DD.imp_tf, DD.imp_ft, forall_const, true_implies, false_implies, implies_true, Int.reduceLT, Int.reduceLE, reduceIte, ite_true, ite_false])))
    rw [mapInt_len]
    refine ⟨fun z => ?_, fun z => ?_⟩
    · refine hq false ⟨fun q => absurd q (by decide), fun f => absurd ?_ (f (2 * l + j) (by omega) (by omega))⟩
      exact List.eq_nil_of_length_eq_zero (by omega)
    · refine ⟨j + 1, _, rfl, hr2, fun y a c => ?_, rfl⟩
      by_cases q : y = 2 * l + j
      · rw [q]; intro e; rw [e] at z; exact z rfl
      · exact hy y a (by omega)
def I2 (b l h : Int) (n : Nat) (rem : List D) (e : Env) (n' : Nat) : Prop := ∃ (j : Nat) (x : Sl), n' = n ∧ rem = (rngD 1 4).drop j ∧ (∀ y : Int, 1 ≤ y → y < 1 + j → ¬ Good b l h y) ∧ e = [.v (.tuple (sy b l h)), x]
theorem sem2 : ∀ ds n Qd Xd, sp2 ds n Qd Xd → wSs ΓL GL b_transfer (startE n_transfer.length ds) n (endK Qd Xd) := by
  rintro ds n Qd Xd ⟨l, rfl, hl, h1, h2⟩
  unfold b_transfer
  (((simp only [DD.wSs, DD.wS, DD.wT, DD.wTs, DD.wE, DD.wEs, DD.wEi, DD.wIt, DD.wBnd, DD.bindT, DD.wb_add, DD.wb_sub, DD.wb_mul, DD.wb_fdiv, DD.wb_mod, DD.wb_pow, DD.wb_shl, DD.wb_shr, DD.wb_addL, DD.wb_addT, DD.wb_mulL, DD.wc_lt, DD.wc_le, DD.wc_gt, DD.wc_ge, DD.wc_eq, DD.wc_ne, DD.wc_isN0, DD.wc_isN1, DD.wc_isN2, DD.wc_isN3, DD.wc_isN4, DD.wc_isN5, DD.wc_notN0, DD.wc_notN1, DD.wc_notN2, DD.wc_notN3, DD.wc_notN4, DD.wc_notN5, DD.wt_n, DD.wt_b, DD.wt_i, DD.wt_l, DD.wt_t, DD.wi_l, DD.wi_t, DD.wu_len, DD.wu_lenT, DD.wu_int, DD.wu_intb, DD.wu_abs, DD.wu_tup, DD.wu_tupT, DD.wu_lst, DD.wu_lstT, DD.wu_max2, DD.wu_min2, DD.wu_max1, DD.wu_min1, DD.wu_sum, DD.wu_all, DD.wu_any, DD.wu_sorted, DD.ws_l, DD.ws_t, DD.ws_s, DD.wr_l, DD.wr_t, DD.wb_mulT, DD.wst_l, DD.wst_t, DD.wz_l, DD.wz_t, DD.wn_l, DD.wv_l, DD.wv_t, DD.wc_inl, DD.wc_ninl, DD.wc_int, DD.wc_nint, DD.wCh, DD.ev_ii, DD.ev_bb, DD.ev_ss, DD.ev_nn, DD.ev_ni, DD.ev_in, DD.ev_is, DD.ev_si, DD.ev_tt, DD.ev_ll, DD.ea_nn, DD.ea_cc, DD.ea_nc, DD.ea_cn, DD.sh_n, DD.sh_b, DD.sh_i, DD.sh_s, DD.so_told, DD.so_refused, DD.so_missing, DD.so_large, DD.at0, DD.at1, DD.at2, DD.at3, DD.startE, DD.endK, List.map_cons, List.map_nil, List.length_cons, List.length_nil, List.replicate, List.cons_append, List.nil_append, List.append_nil, DD.getS, DD.setS, DD.clrS, DD.deo_c, DD.deo_n, DD.deo1_v, DD.deo1_u, DD.deo1_o, DD.tgs, DD.Sl.v.injEq, DD.Sl.own.injEq, PySem.PyData.int.injEq, PySem.PyData.bool.injEq, PySem.PyData.list.injEq, PySem.PyData.tuple.injEq, PySem.PyData.str.injEq, Option.some.injEq, exists_eq_left', exists_eq_left, exists_and_left, exists_and_right, List.zip_cons_cons, List.zip_nil_right, List.zip_nil_left, List.foldl_cons, List.foldl_nil, List.getD_cons_zero, List.getD_cons_succ, true_and, and_true, Bool.false_eq_true, Bool.true_eq_false, Bool.not_true, Bool.not_false, if_true, if_false, decide_eq_true_eq, decide_eq_false_iff_not, Bool.not_eq_true', Bool.not_eq_false', DD.imp_tt, DD.imp_ff, DD.imp_tf, DD.imp_ft, forall_const, true_implies, false_implies, implies_true, Int.reduceLT, Int.reduceLE, reduceIte, ite_true, ite_false]); try simp only [g0, g1, g2, g3, γ0, γ1, γ2, γ3, γ4, γ5, γ6, γ7, γ8, γ9, γ17, γ18, γ19, γ21, γ22, γ23, γ24]; try (simp only [DD.wSs, DD.wS, DD.wT, DD.wTs, DD.wE, DD.wEs, DD.wEi, DD.wIt, DD.wBnd, DD.bindT, DD.wb_add, DD.wb_sub, DD.wb_mul, DD.wb_fdiv, DD.wb_mod, DD.wb_pow, DD.wb_shl, DD.wb_shr, DD.wb_addL, DD.wb_addT, DD.wb_mulL, DD.wc_lt, DD.wc_le, DD.wc_gt, DD.wc_ge, DD.wc_eq, DD.wc_ne, DD.wc_isN0, DD.wc_isN1, DD.wc_isN2, DD.wc_isN3, DD.wc_isN4, DD.wc_isN5, DD.wc_notN0, DD.wc_notN1, DD.wc_notN2, DD.wc_notN3, DD.wc_notN4, DD.wc_notN5, DD.wt_n, DD.wt_b, DD.wt_i, DD.wt_l, DD.wt_t, DD.wi_l, DD.wi_t, DD.wu_len, DD.wu_lenT, DD.wu_int, DD.wu_intb, DD.wu_abs, DD.wu_tup, DD.wu_tupT, DD.wu_lst, DD.wu_lstT, DD.wu_max2, DD.wu_min2, DD.wu_max1, DD.wu_min1, DD.wu_sum, DD.wu_all, DD.wu_any, DD.wu_sorted, DD.ws_l, DD.ws_t, DD.ws_s, DD.wr_l, DD.wr_t, DD.wb_mulT, DD.wst_l, DD.wst_t, DD.wz_l, DD.wz_t, DD.wn_l, DD.wv_l, DD.wv_t, DD.wc_inl, DD.wc_ninl, DD.wc_int, DD.wc_nint, DD.wCh, DD.ev_ii, DD.ev_bb, DD.ev_ss, DD.ev_nn, DD.ev_ni, DD.ev_in, DD.ev_is, DD.ev_si, DD.ev_tt, DD.ev_ll, DD.ea_nn, DD.ea_cc, DD.ea_nc, DD.ea_cn, DD.sh_n, DD.sh_b, DD.sh_i, DD.sh_s, DD.so_told, DD.so_refused, DD.so_missing, DD.so_large, DD.at0, DD.at1, DD.at2, DD.at3, DD.startE, DD.endK, List.map_cons, List.map_nil, List.length_cons, List.length_nil, List.replicate, List.cons_append, List.nil_append, List.append_nil, DD.getS, DD.setS, DD.clrS, DD.deo_c, DD.deo_n, DD.deo1_v, DD.deo1_u, DD.deo1_o, DD.tgs, DD.Sl.v.injEq, DD.Sl.own.injEq, PySem.PyData.int.injEq, PySem.PyData.bool.injEq, PySem.PyData.list.injEq, PySem.PyData.tuple.injEq, PySem.PyData.str.injEq, Option.some.injEq, exists_eq_left', exists_eq_left, exists_and_left, exists_and_right, List.zip_cons_cons, List.zip_nil_right, List.zip_nil_left, List.foldl_cons, List.foldl_nil, List.getD_cons_zero, List.getD_cons_succ, true_and, and_true, Bool.false_eq_true, Bool.true_eq_false, Bool.not_true, Bool.not_false, if_true, if_false, decide_eq_true_eq, decide_eq_false_iff_not, Bool.not_eq_true', Bool.not_eq_false', DD.imp_tt, DD.imp_ff, DD.imp_tf, DD.imp_ft, forall_const, true_implies, false_implies, implies_true, Int.reduceLT, Int.reduceLE, reduceIte, ite_true, ite_false])))
  refine ⟨l, rfl, hl, fun ⟨b, lo, hi, e, so⟩ => ?_, h2⟩
  subst e
  have q := h1 b lo hi rfl so
  refine ⟨⟨by decide, by decide, by decide, by decide, by decide⟩, ?_⟩
  refine forG monoL (I2 b lo hi n) ⟨0, .un, rfl, rfl, fun y a b => by omega, rfl⟩ ?_ ?_
  · rintro e n' ⟨j, x, rfl, hr, hy, rfl⟩
    (((simp only [DD.wSs, DD.wS, DD.wT, DD.wTs, DD.wE, DD.wEs, DD.wEi, DD.wIt, DD.wBnd, DD.bindT, DD.wb_add, DD.wb_sub, DD.wb_mul, DD.wb_fdiv, DD.wb_mod, DD.wb_pow, DD.wb_shl, DD.wb_shr, DD.wb_addL, DD.wb_addT, DD.wb_mulL, DD.wc_lt, DD.wc_le, DD.wc_gt, DD.wc_ge, DD.wc_eq, DD.wc_ne, DD.wc_isN0, DD.wc_isN1, DD.wc_isN2, DD.wc_isN3, DD.wc_isN4, DD.wc_isN5, DD.wc_notN0, DD.wc_notN1, DD.wc_notN2, DD.wc_notN3, DD.wc_notN4, DD.wc_notN5, DD.wt_n, DD.wt_b, DD.wt_i, DD.wt_l, DD.wt_t, DD.wi_l, DD.wi_t, DD.wu_len, DD.wu_lenT, DD.wu_int, DD.wu_intb, DD.wu_abs, DD.wu_tup, DD.wu_tupT, DD.wu_lst, DD.wu_lstT, DD.wu_max2, DD.wu_min2, DD.wu_max1, DD.wu_min1, DD.wu_sum, DD.wu_all, DD.wu_any, DD.wu_sorted, DD.ws_l, DD.ws_t, DD.ws_s, DD.wr_l, DD.wr_t, DD.wb_mulT, DD.wst_l, DD.wst_t, DD.wz_l, DD.wz_t, DD.wn_l, DD.wv_l, DD.wv_t, DD.wc_inl, DD.wc_ninl, DD.wc_int, DD.wc_nint, DD.wCh, DD.ev_ii, DD.ev_bb, DD.ev_ss, DD.ev_nn, DD.ev_ni, DD.ev_in, DD.ev_is, DD.ev_si, DD.ev_tt, DD.ev_ll, DD.ea_nn, DD.ea_cc, DD.ea_nc, DD.ea_cn, DD.sh_n, DD.sh_b, DD.sh_i, DD.sh_s, DD.so_told, DD.so_refused, DD.so_missing, DD.so_large, DD.at0, DD.at1, DD.at2, DD.at3, DD.startE, DD.endK, List.map_cons, List.map_nil, List.length_cons, List.length_nil, List.replicate, List.cons_append, List.nil_append, List.append_nil, DD.getS, DD.setS, DD.clrS, DD.deo_c, DD.deo_n, DD.deo1_v, DD.deo1_u, DD.deo1_o, DD.tgs, DD.Sl.v.injEq, DD.Sl.own.injEq, PySem.PyData.int.injEq, PySem.PyData.bool.injEq, PySem.PyData.list.injEq, PySem.PyData.tuple.injEq, PySem.PyData.str.injEq, Option.some.injEq, exists_eq_left', exists_eq_left, exists_and_left, exists_and_right, List.zip_cons_cons, List.zip_nil_right, List.zip_nil_left, List.foldl_cons, List.foldl_nil, List.getD_cons_zero, List.getD_cons_succ, true_and, and_true, Bool.false_eq_true, Bool.true_eq_false, Bool.not_true, Bool.not_false, if_true, if_false, decide_eq_true_eq, decide_eq_false_iff_not, Bool.not_eq_true', Bool.not_eq_false', DD.imp_tt, DD.imp_ff, DD.imp_tf, DD.imp_ft, forall_const, true_implies, false_implies, implies_true, Int.reduceLT, Int.reduceLE, reduceIte, ite_true, ite_false]); try simp only [g0, g1, g2, g3, γ0, γ1, γ2, γ3, γ4, γ5, γ6, γ7, γ8, γ9, γ17, γ18, γ19, γ21, γ22, γ23, γ24]; try (simp only [DD.wSs, DD.wS, DD.wT, DD.wTs, DD.wE, DD.wEs, DD.wEi, DD.wIt, DD.wBnd, DD.bindT, DD.wb_add, DD.wb_sub, DD.wb_mul, DD.wb_fdiv, DD.wb_mod, DD.wb_pow, DD.wb_shl, DD.wb_shr, DD.wb_addL, DD.wb_addT, DD.wb_mulL, DD.wc_lt, DD.wc_le, DD.wc_gt, DD.wc_ge, DD.wc_eq, DD.wc_ne, DD.wc_isN0, DD.wc_isN1, DD.wc_isN2, DD.wc_isN3, DD.wc_isN4, DD.wc_isN5, DD.wc_notN0, DD.wc_notN1, DD.wc_notN2, DD.wc_notN3, DD.wc_notN4, DD.wc_notN5, DD.wt_n, DD.wt_b, DD.wt_i, DD.wt_l, DD.wt_t, DD.wi_l, DD.wi_t, DD.wu_len, DD.wu_lenT, DD.wu_int, DD.wu_intb, DD.wu_abs, DD.wu_tup, DD.wu_tupT, DD.wu_lst, DD.wu_lstT, DD.wu_max2, DD.wu_min2, DD.wu_max1, DD.wu_min1, DD.wu_sum, DD.wu_all, DD.wu_any, DD.wu_sorted, DD.ws_l, DD.ws_t, DD.ws_s, DD.wr_l, DD.wr_t, DD.wb_mulT, DD.wst_l, DD.wst_t, DD.wz_l, DD.wz_t, DD.wn_l, DD.wv_l, DD.wv_t, DD.wc_inl, DD.wc_ninl, DD.wc_int, DD.wc_nint, DD.wCh, DD.ev_ii, DD.ev_bb, DD.ev_ss, DD.ev_nn, DD.ev_ni, DD.ev_in, DD.ev_is, DD.ev_si, DD.ev_tt, DD.ev_ll, DD.ea_nn, DD.ea_cc, DD.ea_nc, DD.ea_cn, DD.sh_n, DD.sh_b, DD.sh_i, DD.sh_s, DD.so_told, DD.so_refused, DD.so_missing, DD.so_large, DD.at0, DD.at1, DD.at2, DD.at3, DD.startE, DD.endK, List.map_cons, List.map_nil, List.length_cons, List.length_nil, List.replicate, List.cons_append, List.nil_append, List.append_nil, DD.getS, DD.setS, DD.clrS, DD.deo_c, DD.deo_n, DD.deo1_v, DD.deo1_u, DD.deo1_o, DD.tgs, DD.Sl.v.injEq, DD.Sl.own.injEq, PySem.PyData.int.injEq, PySem.PyData.bool.injEq, PySem.PyData.list.injEq, PySem.PyData.tuple.injEq, PySem.PyData.str.injEq, Option.some.injEq, exists_eq_left', exists_eq_left, exists_and_left, exists_and_right, List.zip_cons_cons, List.zip_nil_right, List.zip_nil_left, List.foldl_cons, List.foldl_nil, List.getD_cons_zero, List.getD_cons_succ, true_and, and_true, Bool.false_eq_true, Bool.true_eq_false, Bool.not_true, Bool.not_false, if_true, if_false, decide_eq_true_eq, decide_eq_false_iff_not, Bool.not_eq_true', Bool.not_eq_false', DD.imp_tt, DD.imp_ff, DD.imp_tf, DD.imp_ft, forall_const, true_implies, false_implies, implies_true, Int.reduceLT, Int.reduceLE, reduceIte, ite_true, ite_false])))
    have := rngD_end hr
    exact q none fun m a c => hy m a (by omega)
  · rintro z ds e n' ⟨j, x, rfl, hr, hy, rfl⟩
    obtain ⟨rfl, hr2, hlt⟩ := rngD_drop hr
    unfold l_transfer_1
    (((simp only [DD.wSs, DD.wS, DD.wT, DD.wTs, DD.wE, DD.wEs, DD.wEi, DD.wIt, DD.wBnd, DD.bindT, DD.wb_add, DD.wb_sub, DD.wb_mul, DD.wb_fdiv, DD.wb_mod, DD.wb_pow, DD.wb_shl, DD.wb_shr, DD.wb_addL, DD.wb_addT, DD.wb_mulL, DD.wc_lt, DD.wc_le, DD.wc_gt, DD.wc_ge, DD.wc_eq, DD.wc_ne, DD.wc_isN0, DD.wc_isN1, DD.wc_isN2, DD.wc_isN3, DD.wc_isN4, DD.wc_isN5, DD.wc_notN0, DD.wc_notN1, DD.wc_notN2, DD.wc_notN3, DD.wc_notN4, DD.wc_notN5, DD.wt_n, DD.wt_b, DD.wt_i, DD.wt_l, DD.wt_t, DD.wi_l, DD.wi_t, DD.wu_len, DD.wu_lenT, DD.wu_int, DD.wu_intb, DD.wu_abs, DD.wu_tup, DD.wu_tupT, DD.wu_lst, DD.wu_lstT, DD.wu_max2, DD.wu_min2, DD.wu_max1, DD.wu_min1, DD.wu_sum, DD.wu_all, DD.wu_any, DD.wu_sorted, DD.ws_l, DD.ws_t, DD.ws_s, DD.wr_l, DD.wr_t, DD.wb_mulT, DD.wst_l, DD.wst_t, DD.wz_l, DD.wz_t, DD.wn_l, DD.wv_l, DD.wv_t, DD.wc_inl, DD.wc_ninl, DD.wc_int, DD.wc_nint, DD.wCh, DD.ev_ii, DD.ev_bb, DD.ev_ss, DD.ev_nn, DD.ev_ni, DD.ev_in, DD.ev_is, DD.ev_si, DD.ev_tt, DD.ev_ll, DD.ea_nn, DD.ea_cc, DD.ea_nc, DD.ea_cn, DD.sh_n, DD.sh_b, DD.sh_i, DD.sh_s, DD.so_told, DD.so_refused, DD.so_missing, DD.so_large, DD.at0, DD.at1, DD.at2, DD.at3, DD.startE, DD.endK, List.map_cons, List.map_nil, List.length_cons, List.length_nil, List.replicate, List.cons_append, List.nil_append, List.append_nil, DD.getS, DD.setS, DD.clrS, DD.deo_c, DD.deo_n, DD.deo1_v, DD.deo1_u, DD.deo1_o, DD.tgs, DD.Sl.v.injEq, DD.Sl.own.injEq, PySem.PyData.int.injEq, PySem.PyData.bool.injEq, PySem.PyData.list.injEq, PySem.PyData.tuple.injEq, PySem.PyData.str.injEq, Option.some.injEq, exists_eq_left', exists_eq_left, exists_and_left, exists_and_right, List.zip_cons_cons, List.zip_nil_right, List.zip_nil_left, List.foldl_cons, List.foldl_nil, List.getD_cons_zero, List.getD_cons_succ, true_and, and_true, Bool.false_eq_true, Bool.true_eq_false, Bool.not_true, Bool.not_false, if_true, if_false, decide_eq_true_eq, decide_eq_false_iff_not, Bool.not_eq_true', Bool.not_eq_false', DD.imp_tt, DD.imp_ff, DD.imp_tf, DD.imp_ft, forall_const, true_implies, false_implies, implies_true, Int.reduceLT, Int.reduceLE, reduceIte, ite_true, ite_false]); try simp only [g0, g1, g2, g3, γ0, γ1, γ2, γ3, γ4, γ5, γ6, γ7, γ8, γ9, γ17, γ18, γ19, γ21, γ22, γ23, γ24]; try (simp only [DD.wSs, DD.wS, DD.wT, DD.wTs, DD.wE, DD.wEs, DD.wEi, DD.wIt, DD.wBnd, DD.bindT, DD.wb_add, DD.wb_sub, DD.wb_mul, DD.wb_fdiv, DD.wb_mod, DD.wb_pow, DD.wb_shl, DD.wb_shr, DD.wb_addL, DD.wb_addT, DD.wb_mulL, DD.wc_lt, DD.wc_le, DD.wc_gt, DD.wc_ge, DD.wc_eq, DD.wc_ne, DD.wc_isN0, DD.wc_isN1, DD.wc_isN2, DD.wc_isN3, DD.wc_isN4, DD.wc_isN5, DD.wc_notN0, DD.wc_notN1, DD.wc_notN2, DD.wc_notN3, DD.wc_notN4, DD.wc_notN5, DD.wt_n, DD.wt_b, DD.wt_i, DD.wt_l, DD.wt_t, DD.wi_l, DD.wi_t, DD.wu_len, DD.wu_lenT, DD.wu_int, DD.wu_intb, DD.wu_abs, DD.wu_tup, DD.wu_tupT, DD.wu_lst, DD.wu_lstT, DD.wu_max2, DD.wu_min2, DD.wu_max1, DD.wu_min1, DD.wu_sum, DD.wu_all, DD.wu_any, DD.wu_sorted, DD.ws_l, DD.ws_t, DD.ws_s, DD.wr_l, DD.wr_t, DD.wb_mulT, DD.wst_l, DD.wst_t, DD.wz_l, DD.wz_t, DD.wn_l, DD.wv_l, DD.wv_t, DD.wc_inl, DD.wc_ninl, DD.wc_int, DD.wc_nint, DD.wCh, DD.ev_ii, DD.ev_bb, DD.ev_ss, DD.ev_nn, DD.ev_ni, DD.ev_in, DD.ev_is, DD.ev_si, DD.ev_tt, DD.ev_ll, DD.ea_nn, DD.ea_cc, DD.ea_nc, DD.ea_cn, DD.sh_n, DD.sh_b, DD.sh_i, DD.sh_s, DD.so_told, DD.so_refused, DD.so_missing, DD.so_large, DD.at0, DD.at1, DD.at2, DD.at3, DD.startE, DD.endK, List.map_cons, List.map_nil, List.length_cons, List.length_nil, List.replicate, List.cons_append, List.nil_append, List.append_nil, DD.getS, DD.setS, DD.clrS, DD.deo_c, DD.deo_n, DD.deo1_v, DD.deo1_u, DD.deo1_o, DD.tgs, DD.Sl.v.injEq, DD.Sl.own.injEq, PySem.PyData.int.injEq, PySem.PyData.bool.injEq, PySem.PyData.list.injEq, PySem.PyData.tuple.injEq, PySem.PyData.str.injEq, Option.some.injEq, exists_eq_left', exists_eq_left, exists_and_left, exists_and_right, List.zip_cons_cons, List.zip_nil_right, List.zip_nil_left, List.foldl_cons, List.foldl_nil, List.getD_cons_zero, List.getD_cons_succ, true_and, and_true, Bool.false_eq_true, Bool.true_eq_false, Bool.not_true, Bool.not_false, if_true, if_false, decide_eq_true_eq, decide_eq_false_iff_not, Bool.not_eq_true', Bool.not_eq_false', DD.imp_tt, DD.imp_ff, DD.imp_tf, DD.imp_ft, forall_const, true_implies, false_implies, implies_true, Int.reduceLT, Int.reduceLE, reduceIte, ite_true, ite_false])))
    have nx : ¬ Good b lo hi (1 + (j : Int)) → I2 b lo hi n' ds [.v (.tuple (sy b lo hi)), .v (.int (1 + (j : Int)))] n' := fun ng => ⟨j + 1, _, rfl, hr2, fun y a c => by
      by_cases q : y = 1 + j
      · rw [q]; exact ng
      · exact hy y a (by omega), rfl⟩
    refine ⟨fun z => ⟨fun y => ⟨b, lo, hi, _, rfl, so, by omega, by omega, fun w hw => ?_⟩, fun y => nx fun g => y g.2.1⟩, fun z => nx fun g => z g.1⟩
    (((simp only [DD.wSs, DD.wS, DD.wT, DD.wTs, DD.wE, DD.wEs, DD.wEi, DD.wIt, DD.wBnd, DD.bindT, DD.wb_add, DD.wb_sub, DD.wb_mul, DD.wb_fdiv, DD.wb_mod, DD.wb_pow, DD.wb_shl, DD.wb_shr, DD.wb_addL, DD.wb_addT, DD.wb_mulL, DD.wc_lt, DD.wc_le, DD.wc_gt, DD.wc_ge, DD.wc_eq, DD.wc_ne, DD.wc_isN0, DD.wc_isN1, DD.wc_isN2, DD.wc_isN3, DD.wc_isN4, DD.wc_isN5, DD.wc_notN0, DD.wc_notN1, DD.wc_notN2, DD.wc_notN3, DD.wc_notN4, DD.wc_notN5, DD.wt_n, DD.wt_b, DD.wt_i, DD.wt_l, DD.wt_t, DD.wi_l, DD.wi_t, DD.wu_len, DD.wu_lenT, DD.wu_int, DD.wu_intb, DD.wu_abs, DD.wu_tup, DD.wu_tupT, DD.wu_lst, DD.wu_lstT, DD.wu_max2, DD.wu_min2, DD.wu_max1, DD.wu_min1, DD.wu_sum, DD.wu_all, DD.wu_any, DD.wu_sorted, DD.ws_l, DD.ws_t, DD.ws_s, DD.wr_l, DD.wr_t, DD.wb_mulT, DD.wst_l, DD.wst_t, DD.wz_l, DD.wz_t, DD.wn_l, DD.wv_l, DD.wv_t, DD.wc_inl, DD.wc_ninl, DD.wc_int, DD.wc_nint, DD.wCh, DD.ev_ii, DD.ev_bb, DD.ev_ss, DD.ev_nn, DD.ev_ni, DD.ev_in, DD.ev_is, DD.ev_si, DD.ev_tt, DD.ev_ll, DD.ea_nn, DD.ea_cc, DD.ea_nc, DD.ea_cn, DD.sh_n, DD.sh_b, DD.sh_i, DD.sh_s, DD.so_told, DD.so_refused, DD.so_missing, DD.so_large, DD.at0, DD.at1, DD.at2, DD.at3, DD.startE, DD.endK, List.map_cons, List.map_nil, List.length_cons, List.length_nil, List.replicate, List.cons_append, List.nil_append, List.append_nil, DD.getS, DD.setS, DD.clrS, DD.deo_c, DD.deo_n, DD.deo1_v, DD.deo1_u, DD.deo1_o, DD.tgs, DD.Sl.v.injEq, DD.Sl.own.injEq, PySem.PyData.int.injEq, PySem.PyData.bool.injEq, PySem.PyData.list.injEq, PySem.PyData.tuple.injEq, PySem.PyData.str.injEq, Option.some.injEq, exists_eq_left', exists_eq_left, exists_and_left, exists_and_right, List.zip_cons_cons, List.zip_nil_right, List.zip_nil_left, List.foldl_cons, List.foldl_nil, List.getD_cons_zero, List.getD_cons_succ, true_and, and_true, Bool.false_eq_true, Bool.true_eq_false, Bool.not_true, Bool.not_false, if_true, if_false, decide_eq_true_eq, decide_eq_false_iff_not, Bool.not_eq_true', Bool.not_eq_false', DD.imp_tt, DD.imp_ff, DD.imp_tf, DD.imp_ft, forall_const, true_implies, false_implies, implies_true, Int.reduceLT, Int.reduceLE, reduceIte, ite_true, ite_false]); try simp only [g0, g1, g2, g3, γ0, γ1, γ2, γ3, γ4, γ5, γ6, γ7, γ8, γ9, γ17, γ18, γ19, γ21, γ22, γ23, γ24]; try (simp only [DD.wSs, DD.wS, DD.wT, DD.wTs, DD.wE, DD.wEs, DD.wEi, DD.wIt, DD.wBnd, DD.bindT, DD.wb_add, DD.wb_sub, DD.wb_mul, DD.wb_fdiv, DD.wb_mod, DD.wb_pow, DD.wb_shl, DD.wb_shr, DD.wb_addL, DD.wb_addT, DD.wb_mulL, DD.wc_lt, DD.wc_le, DD.wc_gt, DD.wc_ge, DD.wc_eq, DD.wc_ne, DD.wc_isN0, DD.wc_isN1, DD.wc_isN2, DD.wc_isN3, DD.wc_isN4, DD.wc_isN5, DD.wc_notN0, DD.wc_notN1, DD.wc_notN2, DD.wc_notN3, DD.wc_notN4, DD.wc_notN5, DD.wt_n, DD.wt_b, DD.wt_i, DD.wt_l, DD.wt_t, DD.wi_l, DD.wi_t, DD.wu_len, DD.wu_lenT, DD.wu_int, DD.wu_intb, DD.wu_abs, DD.wu_tup, DD.wu_tupT, DD.wu_lst, DD.wu_lstT, DD.wu_max2, DD.wu_min2, DD.wu_max1, DD.wu_min1, DD.wu_sum, DD.wu_all, DD.wu_any, DD.wu_sorted, DD.ws_l, DD.ws_t, DD.ws_s, DD.wr_l, DD.wr_t, DD.wb_mulT, DD.wst_l, DD.wst_t, DD.wz_l, DD.wz_t, DD.wn_l, DD.wv_l, DD.wv_t, DD.wc_inl, DD.wc_ninl, DD.wc_int, DD.wc_nint, DD.wCh, DD.ev_ii, DD.ev_bb, DD.ev_ss, DD.ev_nn, DD.ev_ni, DD.ev_in, DD.ev_is, DD.ev_si, DD.ev_tt, DD.ev_ll, DD.ea_nn, DD.ea_cc, DD.ea_nc, DD.ea_cn, DD.sh_n, DD.sh_b, DD.sh_i, DD.sh_s, DD.so_told, DD.so_refused, DD.so_missing, DD.so_large, DD.at0, DD.at1, DD.at2, DD.at3, DD.startE, DD.endK, List.map_cons, List.map_nil, List.length_cons, List.length_nil, List.replicate, List.cons_append, List.nil_append, List.append_nil, DD.getS, DD.setS, DD.clrS, DD.deo_c, DD.deo_n, DD.deo1_v, DD.deo1_u, DD.deo1_o, DD.tgs, DD.Sl.v.injEq, DD.Sl.own.injEq, PySem.PyData.int.injEq, PySem.PyData.bool.injEq, PySem.PyData.list.injEq, PySem.PyData.tuple.injEq, PySem.PyData.str.injEq, Option.some.injEq, exists_eq_left', exists_eq_left, exists_and_left, exists_and_right, List.zip_cons_cons, List.zip_nil_right, List.zip_nil_left, List.foldl_cons, List.foldl_nil, List.getD_cons_zero, List.getD_cons_succ, true_and, and_true, Bool.false_eq_true, Bool.true_eq_false, Bool.not_true, Bool.not_false, if_true, if_false, decide_eq_true_eq, decide_eq_false_iff_not, Bool.not_eq_true', Bool.not_eq_false', DD.imp_tt, DD.imp_ff, DD.imp_tf, DD.imp_ft, forall_const, true_implies, false_implies, implies_true, Int.reduceLT, Int.reduceLE, reduceIte, ite_true, ite_false])))
    refine ⟨fun w1 => ?_, fun w1 => nx fun g => ?_⟩
    · exact q (some (1 + (j : Int))) ⟨by omega, by omega, ⟨z, y, hw.mp w1⟩, fun k a c => hy k a (by omega)⟩
    · have := hw.mpr g.2.2; rw [w1] at this; cases this
theorem sem5 : ∀ ds n Qd Xd, sp5 ds n Qd Xd → wSs ΓL GL b_adds_free (startE n_adds_free.length ds) n (endK Qd Xd) := by
  rintro ds n Qd Xd ⟨l, rfl, hl, h1, h2⟩
  unfold b_adds_free
  (((simp only [DD.wSs, DD.wS, DD.wT, DD.wTs, DD.wE, DD.wEs, DD.wEi, DD.wIt, DD.wBnd, DD.bindT, DD.wb_add, DD.wb_sub, DD.wb_mul, DD.wb_fdiv, DD.wb_mod, DD.wb_pow, DD.wb_shl, DD.wb_shr, DD.wb_addL, DD.wb_addT, DD.wb_mulL, DD.wc_lt, DD.wc_le, DD.wc_gt, DD.wc_ge, DD.wc_eq, DD.wc_ne, DD.wc_isN0, DD.wc_isN1, DD.wc_isN2, DD.wc_isN3, DD.wc_isN4, DD.wc_isN5, DD.wc_notN0, DD.wc_notN1, DD.wc_notN2, DD.wc_notN3, DD.wc_notN4, DD.wc_notN5, DD.wt_n, DD.wt_b, DD.wt_i, DD.wt_l, DD.wt_t, DD.wi_l, DD.wi_t, DD.wu_len, DD.wu_lenT, DD.wu_int, DD.wu_intb, DD.wu_abs, DD.wu_tup, DD.wu_tupT, DD.wu_lst, DD.wu_lstT, DD.wu_max2, DD.wu_min2, DD.wu_max1, DD.wu_min1, DD.wu_sum, DD.wu_all, DD.wu_any, DD.wu_sorted, DD.ws_l, DD.ws_t, DD.ws_s, DD.wr_l, DD.wr_t, DD.wb_mulT, DD.wst_l, DD.wst_t, DD.wz_l, DD.wz_t, DD.wn_l, DD.wv_l, DD.wv_t, DD.wc_inl, DD.wc_ninl, DD.wc_int, DD.wc_nint, DD.wCh, DD.ev_ii, DD.ev_bb, DD.ev_ss, DD.ev_nn, DD.ev_ni, DD.ev_in, DD.ev_is, DD.ev_si, DD.ev_tt, DD.ev_ll, DD.ea_nn, DD.ea_cc, DD.ea_nc, DD.ea_cn, DD.sh_n, DD.sh_b, DD.sh_i, DD.sh_s, DD.so_told, DD.so_refused, DD.so_missing, DD.so_large, DD.at0, DD.at1, DD.at2, DD.at3, DD.startE, DD.endK, List.map_cons, List.map_nil, List.length_cons, List.length_nil, List.replicate, List.cons_append, List.nil_append, List.append_nil, DD.getS, DD.setS, DD.clrS, DD.deo_c, DD.deo_n, DD.deo1_v, DD.deo1_u, DD.deo1_o, DD.tgs, DD.Sl.v.injEq, DD.Sl.own.injEq, PySem.PyData.int.injEq, PySem.PyData.bool.injEq, PySem.PyData.list.injEq, PySem.PyData.tuple.injEq, PySem.PyData.str.injEq, Option.some.injEq, exists_eq_left', exists_eq_left, exists_and_left, exists_and_right, List.zip_cons_cons, List.zip_nil_right, List.zip_nil_left, List.foldl_cons, List.foldl_nil, List.getD_cons_zero, List.getD_cons_succ, true_and, and_true, Bool.false_eq_true, Bool.true_eq_false, Bool.not_true, Bool.not_false, if_true, if_false, decide_eq_true_eq, decide_eq_false_iff_not, Bool.not_eq_true', Bool.not_eq_false', DD.imp_tt, DD.imp_ff, DD.imp_tf, DD.imp_ft, forall_const, true_implies, false_implies, implies_true, Int.reduceLT, Int.reduceLE, reduceIte, ite_true, ite_false]); try simp only [g0, g1, g2, g3, γ0, γ1, γ2, γ3, γ4, γ5, γ6, γ7, γ8, γ9, γ17, γ18, γ19, γ21, γ22, γ23, γ24]; try (simp only [DD.wSs, DD.wS, DD.wT, DD.wTs, DD.wE, DD.wEs, DD.wEi, DD.wIt, DD.wBnd, DD.bindT, DD.wb_add, DD.wb_sub, DD.wb_mul, DD.wb_fdiv, DD.wb_mod, DD.wb_pow, DD.wb_shl, DD.wb_shr, DD.wb_addL, DD.wb_addT, DD.wb_mulL, DD.wc_lt, DD.wc_le, DD.wc_gt, DD.wc_ge, DD.wc_eq, DD.wc_ne, DD.wc_isN0, DD.wc_isN1, DD.wc_isN2, DD.wc_isN3, DD.wc_isN4, DD.wc_isN5, DD.wc_notN0, DD.wc_notN1, DD.wc_notN2, DD.wc_notN3, DD.wc_notN4, DD.wc_notN5, DD.wt_n, DD.wt_b, DD.wt_i, DD.wt_l, DD.wt_t, DD.wi_l, DD.wi_t, DD.wu_len, DD.wu_lenT, DD.wu_int, DD.wu_intb, DD.wu_abs, DD.wu_tup, DD.wu_tupT, DD.wu_lst, DD.wu_lstT, DD.wu_max2, DD.wu_min2, DD.wu_max1, DD.wu_min1, DD.wu_sum, DD.wu_all, DD.wu_any, DD.wu_sorted, DD.ws_l, DD.ws_t, DD.ws_s, DD.wr_l, DD.wr_t, DD.wb_mulT, DD.wst_l, DD.wst_t, DD.wz_l, DD.wz_t, DD.wn_l, DD.wv_l, DD.wv_t, DD.wc_inl, DD.wc_ninl, DD.wc_int, DD.wc_nint, DD.wCh, DD.ev_ii, DD.ev_bb, DD.ev_ss, DD.ev_nn, DD.ev_ni, DD.ev_in, DD.ev_is, DD.ev_si, DD.ev_tt, DD.ev_ll, DD.ea_nn, DD.ea_cc, DD.ea_nc, DD.ea_cn, DD.sh_n, DD.sh_b, DD.sh_i, DD.sh_s, DD.so_told, DD.so_refused, DD.so_missing, DD.so_large, DD.at0, DD.at1, DD.at2, DD.at3, DD.startE, DD.endK, List.map_cons, List.map_nil, List.length_cons, List.length_nil, List.replicate, List.cons_append, List.nil_append, List.append_nil, DD.getS, DD.setS, DD.clrS, DD.deo_c, DD.deo_n, DD.deo1_v, DD.deo1_u, DD.deo1_o, DD.tgs, DD.Sl.v.injEq, DD.Sl.own.injEq, PySem.PyData.int.injEq, PySem.PyData.bool.injEq, PySem.PyData.list.injEq, PySem.PyData.tuple.injEq, PySem.PyData.str.injEq, Option.some.injEq, exists_eq_left', exists_eq_left, exists_and_left, exists_and_right, List.zip_cons_cons, List.zip_nil_right, List.zip_nil_left, List.foldl_cons, List.foldl_nil, List.getD_cons_zero, List.getD_cons_succ, true_and, and_true, Bool.false_eq_true, Bool.true_eq_false, Bool.not_true, Bool.not_false, if_true, if_false, decide_eq_true_eq, decide_eq_false_iff_not, Bool.not_eq_true', Bool.not_eq_false', DD.imp_tt, DD.imp_ff, DD.imp_tf, DD.imp_ft, forall_const, true_implies, false_implies, implies_true, Int.reduceLT, Int.reduceLE, reduceIte, ite_true, ite_false])))
  refine ⟨l, rfl, hl, fun ⟨b, lo, hi, e, so⟩ => ?_, h2⟩
  refine ⟨l, rfl, hl, fun b lo hi e so o ho => ?_, h2⟩
  have q := h1 b lo hi e so o ho
  cases o <;> (unfold optD; (((simp only [DD.wSs, DD.wS, DD.wT, DD.wTs, DD.wE, DD.wEs, DD.wEi, DD.wIt, DD.wBnd, DD.bindT, DD.wb_add, DD.wb_sub, DD.wb_mul, DD.wb_fdiv, DD.wb_mod, DD.wb_pow, DD.wb_shl, DD.wb_shr, DD.wb_addL, DD.wb_addT, DD.wb_mulL, DD.wc_lt, DD.wc_le, DD.wc_gt, DD.wc_ge, DD.wc_eq, DD.wc_ne, DD.wc_isN0, DD.wc_isN1, DD.wc_isN2, DD.wc_isN3, DD.wc_isN4, DD.wc_isN5, DD.wc_notN0, DD.wc_notN1, DD.wc_notN2, DD.wc_notN3, DD.wc_notN4, DD.wc_notN5, DD.wt_n, DD.wt_b, DD.wt_i, DD.wt_l, DD.wt_t, DD.wi_l, DD.wi_t, DD.wu_len, DD.wu_lenT, DD.wu_int, DD.wu_intb, DD.wu_abs, DD.wu_tup, DD.wu_tupT, DD.wu_lst, DD.wu_lstT, DD.wu_max2, DD.wu_min2, DD.wu_max1, DD.wu_min1, DD.wu_sum, DD.wu_all, DD.wu_any, DD.wu_sorted, DD.ws_l, DD.ws_t, DD.ws_s, DD.wr_l, DD.wr_t, DD.wb_mulT, DD.wst_l, DD.wst_t, DD.wz_l, DD.wz_t, DD.wn_l, DD.wv_l, DD.wv_t, DD.wc_inl, DD.wc_ninl, DD.wc_int, DD.wc_nint, DD.wCh, DD.ev_ii, DD.ev_bb, DD.ev_ss, DD.ev_nn, DD.ev_ni, DD.ev_in, DD.ev_is, DD.ev_si, DD.ev_tt, DD.ev_ll, DD.ea_nn, DD.ea_cc, DD.ea_nc, DD.ea_cn, DD.sh_n, DD.sh_b, DD.sh_i, DD.sh_s, DD.so_told, DD.so_refused, DD.so_missing, DD.so_large, DD.at0, DD.at1, DD.at2, DD.at3, DD.startE, DD.endK, List.map_cons, List.map_nil, List.length_cons, List.length_nil, List.replicate, List.cons_append, List.nil_append, List.append_nil, DD.getS, DD.setS, DD.clrS, DD.deo_c, DD.deo_n, DD.deo1_v, DD.deo1_u, DD.deo1_o, DD.tgs, DD.Sl.v.injEq, DD.Sl.own.injEq, PySem.PyData.int.injEq, PySem.PyData.bool.injEq, PySem.PyData.list.injEq, PySem.PyData.tuple.injEq, PySem.PyData.str.injEq, Option.some.injEq, exists_eq_left', exists_eq_left, exists_and_left, exists_and_right, List.zip_cons_cons, List.zip_nil_right, List.zip_nil_left, List.foldl_cons, List.foldl_nil, List.getD_cons_zero, List.getD_cons_succ, true_and, and_true, Bool.false_eq_true, Bool.true_eq_false, Bool.not_true, Bool.not_false, if_true, if_false, decide_eq_true_eq, decide_eq_false_iff_not, Bool.not_eq_true', Bool.not_eq_false', DD.imp_tt, DD.imp_ff, DD.imp_tf, DD.imp_ft, forall_const, true_implies, false_implies, implies_true, Int.reduceLT, Int.reduceLE, reduceIte, ite_true, ite_false]); try simp only [g0, g1, g2, g3, γ0, γ1, γ2, γ3, γ4, γ5, γ6, γ7, γ8, γ9, γ17, γ18, γ19, γ21, γ22, γ23, γ24]; try (simp only [DD.wSs, DD.wS, DD.wT, DD.wTs, DD.wE, DD.wEs, DD.wEi, DD.wIt, DD.wBnd, DD.bindT, DD.wb_add, DD.wb_sub, DD.wb_mul, DD.wb_fdiv, DD.wb_mod, DD.wb_pow, DD.wb_shl, DD.wb_shr, DD.wb_addL, DD.wb_addT, DD.wb_mulL, DD.wc_lt, DD.wc_le, DD.wc_gt, DD.wc_ge, DD.wc_eq, DD.wc_ne, DD.wc_isN0, DD.wc_isN1, DD.wc_isN2, DD.wc_isN3, DD.wc_isN4, DD.wc_isN5, DD.wc_notN0, DD.wc_notN1, DD.wc_notN2, DD.wc_notN3, DD.wc_notN4, DD.wc_notN5, DD.wt_n, DD.wt_b, DD.wt_i, DD.wt_l, DD.wt_t, DD.wi_l, DD.wi_t, DD.wu_len, DD.wu_lenT, DD.wu_int, DD.wu_intb, DD.wu_abs, DD.wu_tup, DD.wu_tupT, DD.wu_lst, DD.wu_lstT, DD.wu_max2, DD.wu_min2, DD.wu_max1, DD.wu_min1, DD.wu_sum, DD.wu_all, DD.wu_any, DD.wu_sorted, DD.ws_l, DD.ws_t, DD.ws_s, DD.wr_l, DD.wr_t, DD.wb_mulT, DD.wst_l, DD.wst_t, DD.wz_l, DD.wz_t, DD.wn_l, DD.wv_l, DD.wv_t, DD.wc_inl, DD.wc_ninl, DD.wc_int, DD.wc_nint, DD.wCh, DD.ev_ii, DD.ev_bb, DD.ev_ss, DD.ev_nn, DD.ev_ni, DD.ev_in, DD.ev_is, DD.ev_si, DD.ev_tt, DD.ev_ll, DD.ea_nn, DD.ea_cc, DD.ea_nc, DD.ea_cn, DD.sh_n, DD.sh_b, DD.sh_i, DD.sh_s, DD.so_told, DD.so_refused, DD.so_missing, DD.so_large, DD.at0, DD.at1, DD.at2, DD.at3, DD.startE, DD.endK, List.map_cons, List.map_nil, List.length_cons, List.length_nil, List.replicate, List.cons_append, List.nil_append, List.append_nil, DD.getS, DD.setS, DD.clrS, DD.deo_c, DD.deo_n, DD.deo1_v, DD.deo1_u, DD.deo1_o, DD.tgs, DD.Sl.v.injEq, DD.Sl.own.injEq, PySem.PyData.int.injEq, PySem.PyData.bool.injEq, PySem.PyData.list.injEq, PySem.PyData.tuple.injEq, PySem.PyData.str.injEq, Option.some.injEq, exists_eq_left', exists_eq_left, exists_and_left, exists_and_right, List.zip_cons_cons, List.zip_nil_right, List.zip_nil_left, List.foldl_cons, List.foldl_nil, List.getD_cons_zero, List.getD_cons_succ, true_and, and_true, Bool.false_eq_true, Bool.true_eq_false, Bool.not_true, Bool.not_false, if_true, if_false, decide_eq_true_eq, decide_eq_false_iff_not, Bool.not_eq_true', Bool.not_eq_false', DD.imp_tt, DD.imp_ff, DD.imp_tf, DD.imp_ft, forall_const, true_implies, false_implies, implies_true, Int.reduceLT, Int.reduceLE, reduceIte, ite_true, ite_false]))); exact q)
end DD



set_option Elab.async false
set_option linter.all false
set_option maxRecDepth 100000
set_option maxHeartbeats 4000000
namespace DD
open PySem PySem.Spec PyProof.Rows L2 D56
theorem rep0 (k : Int) : (List.replicate k.toNat [PyData.int 0]).flatten = iL (List.replicate k.toNat 0) := by
  generalize k.toNat = m
  induction m with
  | zero => rfl
  | succ m ih => rw [List.replicate_succ, List.replicate_succ, List.flatten_cons, ih]; rfl
theorem pad_eq (r : List Int) (n : Nat) : iL r ++ (List.replicate ((n : Int) - (r.length : Int)).toNat [PyData.int 0]).flatten = iL (padd n r) := by
  rw [rep0]
  unfold padd
  rw [show ((n : Int) - (r.length : Int)).toNat = n - r.length by omega]
  exact (List.map_append ..).symm
theorem max_eq (a b : Nat) : (if (b : Int) > (a : Int) then (b : Int) else (a : Int)) = ((max a b : Nat) : Int) := by
  split <;> omega
theorem head_of {b l h m t : Int} (f : Free b l h m) (h0 : 2 * l ≤ t) (h1 : t ≤ 2 * h) {Q : D → Prop} (q : Q (.int (one0 b l h m t))) : wIdx (.list (iL (carr b l h m t))) (.int 0) Q := by
  have := f t h0 h1
  unfold one0 at q
  cases e : carr b l h m t with
  | nil => exact absurd e this
  | cons a r => rw [e] at q; exact ⟨_, at0, q⟩
theorem zipD_ints : ∀ xs ys : List Int, zipD (iL xs) (iL ys) = (xs.zip ys).map fun p => PyData.tuple [.int p.1, .int p.2]
  | [], _ => by simp [zipD]
  | _ :: _, [] => by simp [zipD]
  | x :: xs, y :: ys => by
    show PyData.tuple [.int x, .int y] :: zipD (iL xs) (iL ys) = _
    rw [zipD_ints xs ys]; rfl
/-- what has been made, the carry, and what is still to come make up the sum -/
def IA (b l h m : Int) (W : List Int) (x1 x2 x4 : Sl) (n : Nat) (rem : List D) (e : Env) (n' : Nat) : Prop :=
  ∃ (acc xs ys : List Int) (c : Int) (x5 x6 x9 x10 x11 x12 : Sl), n' = n ∧ xs.length = ys.length ∧ rem = zipD (iL xs) (iL ys) ∧ InD l h xs ∧ InD l h ys ∧ -m ≤ c ∧ c ≤ m ∧ acc ++ addGo b l h m c xs ys = W ∧ acc.length + xs.length ≤ 30 ∧
    e = [.v (.tuple (sy b l h)), x1, x2, .v (.int m), x4, x5, x6, .own (iL acc), .v (.int c), x9, x10, x11, x12]
theorem sem6 : ∀ ds n Qd Xd, sp6 ds n Qd Xd → wSs ΓL GL b_added_rows (startE n_added_rows.length ds) n (endK Qd Xd) := by
  rintro ds n Qd Xd ⟨l, r, s, rfl, hl, h1, h2⟩
  unfold b_added_rows
  (((simp only [DD.wSs, DD.wS, DD.wT, DD.wTs, DD.wE, DD.wEs, DD.wEi, DD.wIt, DD.wBnd, DD.bindT, DD.wb_add, DD.wb_sub, DD.wb_mul, DD.wb_fdiv, DD.wb_mod, DD.wb_pow, DD.wb_shl, DD.wb_shr, DD.wb_addL, DD.wb_addT, DD.wb_mulL, DD.wc_lt, DD.wc_le, DD.wc_gt, DD.wc_ge, DD.wc_eq, DD.wc_ne, DD.wc_isN0, DD.wc_isN1, DD.wc_isN2, DD.wc_isN3, DD.wc_isN4, DD.wc_isN5, DD.wc_notN0, DD.wc_notN1, DD.wc_notN2, DD.wc_notN3, DD.wc_notN4, DD.wc_notN5, DD.wt_n, DD.wt_b, DD.wt_i, DD.wt_l, DD.wt_t, DD.wi_l, DD.wi_t, DD.wu_len, DD.wu_lenT, DD.wu_int, DD.wu_intb, DD.wu_abs, DD.wu_tup, DD.wu_tupT, DD.wu_lst, DD.wu_lstT, DD.wu_max2, DD.wu_min2, DD.wu_max1, DD.wu_min1, DD.wu_sum, DD.wu_all, DD.wu_any, DD.wu_sorted, DD.ws_l, DD.ws_t, DD.ws_s, DD.wr_l, DD.wr_t, DD.wb_mulT, DD.wst_l, DD.wst_t, DD.wz_l, DD.wz_t, DD.wn_l, DD.wv_l, DD.wv_t, DD.wc_inl, DD.wc_ninl, DD.wc_int, DD.wc_nint, DD.wCh, DD.ev_ii, DD.ev_bb, DD.ev_ss, DD.ev_nn, DD.ev_ni, DD.ev_in, DD.ev_is, DD.ev_si, DD.ev_tt, DD.ev_ll, DD.ea_nn, DD.ea_cc, DD.ea_nc, DD.ea_cn, DD.sh_n, DD.sh_b, DD.sh_i, DD.sh_s, DD.so_told, DD.so_refused, DD.so_missing, DD.so_large, DD.at0, DD.at1, DD.at2, DD.at3, DD.startE, DD.endK, List.map_cons, List.map_nil, List.length_cons, List.length_nil, List.replicate, List.cons_append, List.nil_append, List.append_nil, DD.getS, DD.setS, DD.clrS, DD.deo_c, DD.deo_n, DD.deo1_v, DD.deo1_u, DD.deo1_o, DD.tgs, DD.Sl.v.injEq, DD.Sl.own.injEq, PySem.PyData.int.injEq, PySem.PyData.bool.injEq, PySem.PyData.list.injEq, PySem.PyData.tuple.injEq, PySem.PyData.str.injEq, Option.some.injEq, exists_eq_left', exists_eq_left, exists_and_left, exists_and_right, List.zip_cons_cons, List.zip_nil_right, List.zip_nil_left, List.foldl_cons, List.foldl_nil, List.getD_cons_zero, List.getD_cons_succ, true_and, and_true, Bool.false_eq_true, Bool.true_eq_false, Bool.not_true, Bool.not_false, if_true, if_false, decide_eq_true_eq, decide_eq_false_iff_not, Bool.not_eq_true', Bool.not_eq_false', DD.imp_tt, DD.imp_ff, DD.imp_tf, DD.imp_ft, forall_const, true_implies, false_implies, implies_true, Int.reduceLT, Int.reduceLE, reduceIte, ite_true, ite_false]); try simp only [g0, g1, g2, g3, γ0, γ1, γ2, γ3, γ4, γ5, γ6, γ7, γ8, γ9, γ17, γ18, γ19, γ21, γ22, γ23, γ24]; try (simp only [DD.wSs, DD.wS, DD.wT, DD.wTs, DD.wE, DD.wEs, DD.wEi, DD.wIt, DD.wBnd, DD.bindT, DD.wb_add, DD.wb_sub, DD.wb_mul, DD.wb_fdiv, DD.wb_mod, DD.wb_pow, DD.wb_shl, DD.wb_shr, DD.wb_addL, DD.wb_addT, DD.wb_mulL, DD.wc_lt, DD.wc_le, DD.wc_gt, DD.wc_ge, DD.wc_eq, DD.wc_ne, DD.wc_isN0, DD.wc_isN1, DD.wc_isN2, DD.wc_isN3, DD.wc_isN4, DD.wc_isN5, DD.wc_notN0, DD.wc_notN1, DD.wc_notN2, DD.wc_notN3, DD.wc_notN4, DD.wc_notN5, DD.wt_n, DD.wt_b, DD.wt_i, DD.wt_l, DD.wt_t, DD.wi_l, DD.wi_t, DD.wu_len, DD.wu_lenT, DD.wu_int, DD.wu_intb, DD.wu_abs, DD.wu_tup, DD.wu_tupT, DD.wu_lst, DD.wu_lstT, DD.wu_max2, DD.wu_min2, DD.wu_max1, DD.wu_min1, DD.wu_sum, DD.wu_all, DD.wu_any, DD.wu_sorted, DD.ws_l, DD.ws_t, DD.ws_s, DD.wr_l, DD.wr_t, DD.wb_mulT, DD.wst_l, DD.wst_t, DD.wz_l, DD.wz_t, DD.wn_l, DD.wv_l, DD.wv_t, DD.wc_inl, DD.wc_ninl, DD.wc_int, DD.wc_nint, DD.wCh, DD.ev_ii, DD.ev_bb, DD.ev_ss, DD.ev_nn, DD.ev_ni, DD.ev_in, DD.ev_is, DD.ev_si, DD.ev_tt, DD.ev_ll, DD.ea_nn, DD.ea_cc, DD.ea_nc, DD.ea_cn, DD.sh_n, DD.sh_b, DD.sh_i, DD.sh_s, DD.so_told, DD.so_refused, DD.so_missing, DD.so_large, DD.at0, DD.at1, DD.at2, DD.at3, DD.startE, DD.endK, List.map_cons, List.map_nil, List.length_cons, List.length_nil, List.replicate, List.cons_append, List.nil_append, List.append_nil, DD.getS, DD.setS, DD.clrS, DD.deo_c, DD.deo_n, DD.deo1_v, DD.deo1_u, DD.deo1_o, DD.tgs, DD.Sl.v.injEq, DD.Sl.own.injEq, PySem.PyData.int.injEq, PySem.PyData.bool.injEq, PySem.PyData.list.injEq, PySem.PyData.tuple.injEq, PySem.PyData.str.injEq, Option.some.injEq, exists_eq_left', exists_eq_left, exists_and_left, exists_and_right, List.zip_cons_cons, List.zip_nil_right, List.zip_nil_left, List.foldl_cons, List.foldl_nil, List.getD_cons_zero, List.getD_cons_succ, true_and, and_true, Bool.false_eq_true, Bool.true_eq_false, Bool.not_true, Bool.not_false, if_true, if_false, decide_eq_true_eq, decide_eq_false_iff_not, Bool.not_eq_true', Bool.not_eq_false', DD.imp_tt, DD.imp_ff, DD.imp_tf, DD.imp_ft, forall_const, true_implies, false_implies, implies_true, Int.reduceLT, Int.reduceLE, reduceIte, ite_true, ite_false])))
  refine ⟨l, r, rfl, hl, fun b lo hi e so => ⟨fun hr => ?_, fun z => (h1 b lo hi e so).2 fun w => z w.1⟩, h2⟩
  subst e
  obtain ⟨q1, q2⟩ := h1 b lo hi rfl so
  unfold c_added_rows_54
  (((simp only [DD.wSs, DD.wS, DD.wT, DD.wTs, DD.wE, DD.wEs, DD.wEi, DD.wIt, DD.wBnd, DD.bindT, DD.wb_add, DD.wb_sub, DD.wb_mul, DD.wb_fdiv, DD.wb_mod, DD.wb_pow, DD.wb_shl, DD.wb_shr, DD.wb_addL, DD.wb_addT, DD.wb_mulL, DD.wc_lt, DD.wc_le, DD.wc_gt, DD.wc_ge, DD.wc_eq, DD.wc_ne, DD.wc_isN0, DD.wc_isN1, DD.wc_isN2, DD.wc_isN3, DD.wc_isN4, DD.wc_isN5, DD.wc_notN0, DD.wc_notN1, DD.wc_notN2, DD.wc_notN3, DD.wc_notN4, DD.wc_notN5, DD.wt_n, DD.wt_b, DD.wt_i, DD.wt_l, DD.wt_t, DD.wi_l, DD.wi_t, DD.wu_len, DD.wu_lenT, DD.wu_int, DD.wu_intb, DD.wu_abs, DD.wu_tup, DD.wu_tupT, DD.wu_lst, DD.wu_lstT, DD.wu_max2, DD.wu_min2, DD.wu_max1, DD.wu_min1, DD.wu_sum, DD.wu_all, DD.wu_any, DD.wu_sorted, DD.ws_l, DD.ws_t, DD.ws_s, DD.wr_l, DD.wr_t, DD.wb_mulT, DD.wst_l, DD.wst_t, DD.wz_l, DD.wz_t, DD.wn_l, DD.wv_l, DD.wv_t, DD.wc_inl, DD.wc_ninl, DD.wc_int, DD.wc_nint, DD.wCh, DD.ev_ii, DD.ev_bb, DD.ev_ss, DD.ev_nn, DD.ev_ni, DD.ev_in, DD.ev_is, DD.ev_si, DD.ev_tt, DD.ev_ll, DD.ea_nn, DD.ea_cc, DD.ea_nc, DD.ea_cn, DD.sh_n, DD.sh_b, DD.sh_i, DD.sh_s, DD.so_told, DD.so_refused, DD.so_missing, DD.so_large, DD.at0, DD.at1, DD.at2, DD.at3, DD.startE, DD.endK, List.map_cons, List.map_nil, List.length_cons, List.length_nil, List.replicate, List.cons_append, List.nil_append, List.append_nil, DD.getS, DD.setS, DD.clrS, DD.deo_c, DD.deo_n, DD.deo1_v, DD.deo1_u, DD.deo1_o, DD.tgs, DD.Sl.v.injEq, DD.Sl.own.injEq, PySem.PyData.int.injEq, PySem.PyData.bool.injEq, PySem.PyData.list.injEq, PySem.PyData.tuple.injEq, PySem.PyData.str.injEq, Option.some.injEq, exists_eq_left', exists_eq_left, exists_and_left, exists_and_right, List.zip_cons_cons, List.zip_nil_right, List.zip_nil_left, List.foldl_cons, List.foldl_nil, List.getD_cons_zero, List.getD_cons_succ, true_and, and_true, Bool.false_eq_true, Bool.true_eq_false, Bool.not_true, Bool.not_false, if_true, if_false, decide_eq_true_eq, decide_eq_false_iff_not, Bool.not_eq_true', Bool.not_eq_false', DD.imp_tt, DD.imp_ff, DD.imp_tf, DD.imp_ft, forall_const, true_implies, false_implies, implies_true, Int.reduceLT, Int.reduceLE, reduceIte, ite_true, ite_false]); try simp only [g0, g1, g2, g3, γ0, γ1, γ2, γ3, γ4, γ5, γ6, γ7, γ8, γ9, γ17, γ18, γ19, γ21, γ22, γ23, γ24]; try (simp only [DD.wSs, DD.wS, DD.wT, DD.wTs, DD.wE, DD.wEs, DD.wEi, DD.wIt, DD.wBnd, DD.bindT, DD.wb_add, DD.wb_sub, DD.wb_mul, DD.wb_fdiv, DD.wb_mod, DD.wb_pow, DD.wb_shl, DD.wb_shr, DD.wb_addL, DD.wb_addT, DD.wb_mulL, DD.wc_lt, DD.wc_le, DD.wc_gt, DD.wc_ge, DD.wc_eq, DD.wc_ne, DD.wc_isN0, DD.wc_isN1, DD.wc_isN2, DD.wc_isN3, DD.wc_isN4, DD.wc_isN5, DD.wc_notN0, DD.wc_notN1, DD.wc_notN2, DD.wc_notN3, DD.wc_notN4, DD.wc_notN5, DD.wt_n, DD.wt_b, DD.wt_i, DD.wt_l, DD.wt_t, DD.wi_l, DD.wi_t, DD.wu_len, DD.wu_lenT, DD.wu_int, DD.wu_intb, DD.wu_abs, DD.wu_tup, DD.wu_tupT, DD.wu_lst, DD.wu_lstT, DD.wu_max2, DD.wu_min2, DD.wu_max1, DD.wu_min1, DD.wu_sum, DD.wu_all, DD.wu_any, DD.wu_sorted, DD.ws_l, DD.ws_t, DD.ws_s, DD.wr_l, DD.wr_t, DD.wb_mulT, DD.wst_l, DD.wst_t, DD.wz_l, DD.wz_t, DD.wn_l, DD.wv_l, DD.wv_t, DD.wc_inl, DD.wc_ninl, DD.wc_int, DD.wc_nint, DD.wCh, DD.ev_ii, DD.ev_bb, DD.ev_ss, DD.ev_nn, DD.ev_ni, DD.ev_in, DD.ev_is, DD.ev_si, DD.ev_tt, DD.ev_ll, DD.ea_nn, DD.ea_cc, DD.ea_nc, DD.ea_cn, DD.sh_n, DD.sh_b, DD.sh_i, DD.sh_s, DD.so_told, DD.so_refused, DD.so_missing, DD.so_large, DD.at0, DD.at1, DD.at2, DD.at3, DD.startE, DD.endK, List.map_cons, List.map_nil, List.length_cons, List.length_nil, List.replicate, List.cons_append, List.nil_append, List.append_nil, DD.getS, DD.setS, DD.clrS, DD.deo_c, DD.deo_n, DD.deo1_v, DD.deo1_u, DD.deo1_o, DD.tgs, DD.Sl.v.injEq, DD.Sl.own.injEq, PySem.PyData.int.injEq, PySem.PyData.bool.injEq, PySem.PyData.list.injEq, PySem.PyData.tuple.injEq, PySem.PyData.str.injEq, Option.some.injEq, exists_eq_left', exists_eq_left, exists_and_left, exists_and_right, List.zip_cons_cons, List.zip_nil_right, List.zip_nil_left, List.foldl_cons, List.foldl_nil, List.getD_cons_zero, List.getD_cons_succ, true_and, and_true, Bool.false_eq_true, Bool.true_eq_false, Bool.not_true, Bool.not_false, if_true, if_false, decide_eq_true_eq, decide_eq_false_iff_not, Bool.not_eq_true', Bool.not_eq_false', DD.imp_tt, DD.imp_ff, DD.imp_tf, DD.imp_ft, forall_const, true_implies, false_implies, implies_true, Int.reduceLT, Int.reduceLE, reduceIte, ite_true, ite_false])))
  refine ⟨_, s, rfl, hl, fun b' lo' hi' e _ => ?_, h2⟩
  cases e
  refine ⟨fun hs => ?_, fun z => q2 fun w => z w.2⟩
  unfold c_added_rows_55
  (((simp only [DD.wSs, DD.wS, DD.wT, DD.wTs, DD.wE, DD.wEs, DD.wEi, DD.wIt, DD.wBnd, DD.bindT, DD.wb_add, DD.wb_sub, DD.wb_mul, DD.wb_fdiv, DD.wb_mod, DD.wb_pow, DD.wb_shl, DD.wb_shr, DD.wb_addL, DD.wb_addT, DD.wb_mulL, DD.wc_lt, DD.wc_le, DD.wc_gt, DD.wc_ge, DD.wc_eq, DD.wc_ne, DD.wc_isN0, DD.wc_isN1, DD.wc_isN2, DD.wc_isN3, DD.wc_isN4, DD.wc_isN5, DD.wc_notN0, DD.wc_notN1, DD.wc_notN2, DD.wc_notN3, DD.wc_notN4, DD.wc_notN5, DD.wt_n, DD.wt_b, DD.wt_i, DD.wt_l, DD.wt_t, DD.wi_l, DD.wi_t, DD.wu_len, DD.wu_lenT, DD.wu_int, DD.wu_intb, DD.wu_abs, DD.wu_tup, DD.wu_tupT, DD.wu_lst, DD.wu_lstT, DD.wu_max2, DD.wu_min2, DD.wu_max1, DD.wu_min1, DD.wu_sum, DD.wu_all, DD.wu_any, DD.wu_sorted, DD.ws_l, DD.ws_t, DD.ws_s, DD.wr_l, DD.wr_t, DD.wb_mulT, DD.wst_l, DD.wst_t, DD.wz_l, DD.wz_t, DD.wn_l, DD.wv_l, DD.wv_t, DD.wc_inl, DD.wc_ninl, DD.wc_int, DD.wc_nint, DD.wCh, DD.ev_ii, DD.ev_bb, DD.ev_ss, DD.ev_nn, DD.ev_ni, DD.ev_in, DD.ev_is, DD.ev_si, DD.ev_tt, DD.ev_ll, DD.ea_nn, DD.ea_cc, DD.ea_nc, DD.ea_cn, DD.sh_n, DD.sh_b, DD.sh_i, DD.sh_s, DD.so_told, DD.so_refused, DD.so_missing, DD.so_large, DD.at0, DD.at1, DD.at2, DD.at3, DD.startE, DD.endK, List.map_cons, List.map_nil, List.length_cons, List.length_nil, List.replicate, List.cons_append, List.nil_append, List.append_nil, DD.getS, DD.setS, DD.clrS, DD.deo_c, DD.deo_n, DD.deo1_v, DD.deo1_u, DD.deo1_o, DD.tgs, DD.Sl.v.injEq, DD.Sl.own.injEq, PySem.PyData.int.injEq, PySem.PyData.bool.injEq, PySem.PyData.list.injEq, PySem.PyData.tuple.injEq, PySem.PyData.str.injEq, Option.some.injEq, exists_eq_left', exists_eq_left, exists_and_left, exists_and_right, List.zip_cons_cons, List.zip_nil_right, List.zip_nil_left, List.foldl_cons, List.foldl_nil, List.getD_cons_zero, List.getD_cons_succ, true_and, and_true, Bool.false_eq_true, Bool.true_eq_false, Bool.not_true, Bool.not_false, if_true, if_false, decide_eq_true_eq, decide_eq_false_iff_not, Bool.not_eq_true', Bool.not_eq_false', DD.imp_tt, DD.imp_ff, DD.imp_tf, DD.imp_ft, forall_const, true_implies, false_implies, implies_true, Int.reduceLT, Int.reduceLE, reduceIte, ite_true, ite_false]); try simp only [g0, g1, g2, g3, γ0, γ1, γ2, γ3, γ4, γ5, γ6, γ7, γ8, γ9, γ17, γ18, γ19, γ21, γ22, γ23, γ24]; try (simp only [DD.wSs, DD.wS, DD.wT, DD.wTs, DD.wE, DD.wEs, DD.wEi, DD.wIt, DD.wBnd, DD.bindT, DD.wb_add, DD.wb_sub, DD.wb_mul, DD.wb_fdiv, DD.wb_mod, DD.wb_pow, DD.wb_shl, DD.wb_shr, DD.wb_addL, DD.wb_addT, DD.wb_mulL, DD.wc_lt, DD.wc_le, DD.wc_gt, DD.wc_ge, DD.wc_eq, DD.wc_ne, DD.wc_isN0, DD.wc_isN1, DD.wc_isN2, DD.wc_isN3, DD.wc_isN4, DD.wc_isN5, DD.wc_notN0, DD.wc_notN1, DD.wc_notN2, DD.wc_notN3, DD.wc_notN4, DD.wc_notN5, DD.wt_n, DD.wt_b, DD.wt_i, DD.wt_l, DD.wt_t, DD.wi_l, DD.wi_t, DD.wu_len, DD.wu_lenT, DD.wu_int, DD.wu_intb, DD.wu_abs, DD.wu_tup, DD.wu_tupT, DD.wu_lst, DD.wu_lstT, DD.wu_max2, DD.wu_min2, DD.wu_max1, DD.wu_min1, DD.wu_sum, DD.wu_all, DD.wu_any, DD.wu_sorted, DD.ws_l, DD.ws_t, DD.ws_s, DD.wr_l, DD.wr_t, DD.wb_mulT, DD.wst_l, DD.wst_t, DD.wz_l, DD.wz_t, DD.wn_l, DD.wv_l, DD.wv_t, DD.wc_inl, DD.wc_ninl, DD.wc_int, DD.wc_nint, DD.wCh, DD.ev_ii, DD.ev_bb, DD.ev_ss, DD.ev_nn, DD.ev_ni, DD.ev_in, DD.ev_is, DD.ev_si, DD.ev_tt, DD.ev_ll, DD.ea_nn, DD.ea_cc, DD.ea_nc, DD.ea_cn, DD.sh_n, DD.sh_b, DD.sh_i, DD.sh_s, DD.so_told, DD.so_refused, DD.so_missing, DD.so_large, DD.at0, DD.at1, DD.at2, DD.at3, DD.startE, DD.endK, List.map_cons, List.map_nil, List.length_cons, List.length_nil, List.replicate, List.cons_append, List.nil_append, List.append_nil, DD.getS, DD.setS, DD.clrS, DD.deo_c, DD.deo_n, DD.deo1_v, DD.deo1_u, DD.deo1_o, DD.tgs, DD.Sl.v.injEq, DD.Sl.own.injEq, PySem.PyData.int.injEq, PySem.PyData.bool.injEq, PySem.PyData.list.injEq, PySem.PyData.tuple.injEq, PySem.PyData.str.injEq, Option.some.injEq, exists_eq_left', exists_eq_left, exists_and_left, exists_and_right, List.zip_cons_cons, List.zip_nil_right, List.zip_nil_left, List.foldl_cons, List.foldl_nil, List.getD_cons_zero, List.getD_cons_succ, true_and, and_true, Bool.false_eq_true, Bool.true_eq_false, Bool.not_true, Bool.not_false, if_true, if_false, decide_eq_true_eq, decide_eq_false_iff_not, Bool.not_eq_true', Bool.not_eq_false', DD.imp_tt, DD.imp_ff, DD.imp_tf, DD.imp_ft, forall_const, true_implies, false_implies, implies_true, Int.reduceLT, Int.reduceLE, reduceIte, ite_true, ite_false])))
  refine ⟨_, rfl, hl, fun b' lo' hi' e _ o ho => ?_, h2⟩
  cases e
  have q := q1 hr hs o ho
  unfold c_added_rows_56
  cases o with
  | none => unfold optD; (((simp only [DD.wSs, DD.wS, DD.wT, DD.wTs, DD.wE, DD.wEs, DD.wEi, DD.wIt, DD.wBnd, DD.bindT, DD.wb_add, DD.wb_sub, DD.wb_mul, DD.wb_fdiv, DD.wb_mod, DD.wb_pow, DD.wb_shl, DD.wb_shr, DD.wb_addL, DD.wb_addT, DD.wb_mulL, DD.wc_lt, DD.wc_le, DD.wc_gt, DD.wc_ge, DD.wc_eq, DD.wc_ne, DD.wc_isN0, DD.wc_isN1, DD.wc_isN2, DD.wc_isN3, DD.wc_isN4, DD.wc_isN5, DD.wc_notN0, DD.wc_notN1, DD.wc_notN2, DD.wc_notN3, DD.wc_notN4, DD.wc_notN5, DD.wt_n, DD.wt_b, DD.wt_i, DD.wt_l, DD.wt_t, DD.wi_l, DD.wi_t, DD.wu_len, DD.wu_lenT, DD.wu_int, DD.wu_intb, DD.wu_abs, DD.wu_tup, DD.wu_tupT, DD.wu_lst, DD.wu_lstT, DD.wu_max2, DD.wu_min2, DD.wu_max1, DD.wu_min1, DD.wu_sum, DD.wu_all, DD.wu_any, DD.wu_sorted, DD.ws_l, DD.ws_t, DD.ws_s, DD.wr_l, DD.wr_t, DD.wb_mulT, DD.wst_l, DD.wst_t, DD.wz_l, DD.wz_t, DD.wn_l, DD.wv_l, DD.wv_t, DD.wc_inl, DD.wc_ninl, DD.wc_int, DD.wc_nint, DD.wCh, DD.ev_ii, DD.ev_bb, DD.ev_ss, DD.ev_nn, DD.ev_ni, DD.ev_in, DD.ev_is, DD.ev_si, DD.ev_tt, DD.ev_ll, DD.ea_nn, DD.ea_cc, DD.ea_nc, DD.ea_cn, DD.sh_n, DD.sh_b, DD.sh_i, DD.sh_s, DD.so_told, DD.so_refused, DD.so_missing, DD.so_large, DD.at0, DD.at1, DD.at2, DD.at3, DD.startE, DD.endK, List.map_cons, List.map_nil, List.length_cons, List.length_nil, List.replicate, List.cons_append, List.nil_append, List.append_nil, DD.getS, DD.setS, DD.clrS, DD.deo_c, DD.deo_n, DD.deo1_v, DD.deo1_u, DD.deo1_o, DD.tgs, DD.Sl.v.injEq, DD.Sl.own.injEq, PySem.PyData.int.injEq, PySem.PyData.bool.injEq, PySem.PyData.list.injEq, PySem.PyData.tuple.injEq, PySem.PyData.str.injEq, Option.some.injEq, exists_eq_left', exists_eq_left, exists_and_left, exists_and_right, List.zip_cons_cons, List.zip_nil_right, List.zip_nil_left, List.foldl_cons, List.foldl_nil, List.getD_cons_zero, List.getD_cons_succ, true_and, and_true, Bool.false_eq_true, Bool.true_eq_false, Bool.not_true, Bool.not_false, if_true, if_false, decide_eq_true_eq, decide_eq_false_iff_not, Bool.not_eq_true', Bool.not_eq_false', DD.imp_tt, DD.imp_ff, DD.imp_tf, DD.imp_ft, forall_const, true_implies, false_implies, implies_true, Int.reduceLT, Int.reduceLE, reduceIte, ite_true, ite_false]); try simp only [g0, g1, g2, g3, γ0, γ1, γ2, γ3, γ4, γ5, γ6, γ7, γ8, γ9, γ17, γ18, γ19, γ21, γ22, γ23, γ24]; try (simp only [DD.wSs, DD.wS, DD.wT, DD.wTs, DD.wE, DD.wEs, DD.wEi, DD.wIt, DD.wBnd, DD.bindT, DD.wb_add, DD.wb_sub, DD.wb_mul, DD.wb_fdiv, DD.wb_mod, DD.wb_pow, DD.wb_shl, DD.wb_shr, DD.wb_addL, DD.wb_addT, DD.wb_mulL, DD.wc_lt, DD.wc_le, DD.wc_gt, DD.wc_ge, DD.wc_eq, DD.wc_ne, DD.wc_isN0, DD.wc_isN1, DD.wc_isN2, DD.wc_isN3, DD.wc_isN4, DD.wc_isN5, DD.wc_notN0, DD.wc_notN1, DD.wc_notN2, DD.wc_notN3, DD.wc_notN4, DD.wc_notN5, DD.wt_n, DD.wt_b, DD.wt_i, DD.wt_l, DD.wt_t, DD.wi_l, DD.wi_t, DD.wu_len, DD.wu_lenT, DD.wu_int, DD.wu_intb, DD.wu_abs, DD.wu_tup, DD.wu_tupT, DD.wu_lst, DD.wu_lstT, DD.wu_max2, DD.wu_min2, DD.wu_max1, DD.wu_min1, DD.wu_sum, DD.wu_all, DD.wu_any, DD.wu_sorted, DD.ws_l, DD.ws_t, DD.ws_s, DD.wr_l, DD.wr_t, DD.wb_mulT, DD.wst_l, DD.wst_t, DD.wz_l, DD.wz_t, DD.wn_l, DD.wv_l, DD.wv_t, DD.wc_inl, DD.wc_ninl, DD.wc_int, DD.wc_nint, DD.wCh, DD.ev_ii, DD.ev_bb, DD.ev_ss, DD.ev_nn, DD.ev_ni, DD.ev_in, DD.ev_is, DD.ev_si, DD.ev_tt, DD.ev_ll, DD.ea_nn, DD.ea_cc, DD.ea_nc, DD.ea_cn, DD.sh_n, DD.sh_b, DD.sh_i, DD.sh_s, DD.so_told, DD.so_refused, DD.so_missing, DD.so_large, DD.at0, DD.at1, DD.at2, DD.at3, DD.startE, DD.endK, List.map_cons, List.map_nil, List.length_cons, List.length_nil, List.replicate, List.cons_append, List.nil_append, List.append_nil, DD.getS, DD.setS, DD.clrS, DD.deo_c, DD.deo_n, DD.deo1_v, DD.deo1_u, DD.deo1_o, DD.tgs, DD.Sl.v.injEq, DD.Sl.own.injEq, PySem.PyData.int.injEq, PySem.PyData.bool.injEq, PySem.PyData.list.injEq, PySem.PyData.tuple.injEq, PySem.PyData.str.injEq, Option.some.injEq, exists_eq_left', exists_eq_left, exists_and_left, exists_and_right, List.zip_cons_cons, List.zip_nil_right, List.zip_nil_left, List.foldl_cons, List.foldl_nil, List.getD_cons_zero, List.getD_cons_succ, true_and, and_true, Bool.false_eq_true, Bool.true_eq_false, Bool.not_true, Bool.not_false, if_true, if_false, decide_eq_true_eq, decide_eq_false_iff_not, Bool.not_eq_true', Bool.not_eq_false', DD.imp_tt, DD.imp_ff, DD.imp_tf, DD.imp_ft, forall_const, true_implies, false_implies, implies_true, Int.reduceLT, Int.reduceLE, reduceIte, ite_true, ite_false]))); exact q
  | some m =>
    obtain ⟨m0, m1, g, _⟩ := ho
    have so' := so
    unfold SysOk at so
    simp only [optD]
    (((simp only [DD.wSs, DD.wS, DD.wT, DD.wTs, DD.wE, DD.wEs, DD.wEi, DD.wIt, DD.wBnd, DD.bindT, DD.wb_add, DD.wb_sub, DD.wb_mul, DD.wb_fdiv, DD.wb_mod, DD.wb_pow, DD.wb_shl, DD.wb_shr, DD.wb_addL, DD.wb_addT, DD.wb_mulL, DD.wc_lt, DD.wc_le, DD.wc_gt, DD.wc_ge, DD.wc_eq, DD.wc_ne, DD.wc_isN0, DD.wc_isN1, DD.wc_isN2, DD.wc_isN3, DD.wc_isN4, DD.wc_isN5, DD.wc_notN0, DD.wc_notN1, DD.wc_notN2, DD.wc_notN3, DD.wc_notN4, DD.wc_notN5, DD.wt_n, DD.wt_b, DD.wt_i, DD.wt_l, DD.wt_t, DD.wi_l, DD.wi_t, DD.wu_len, DD.wu_lenT, DD.wu_int, DD.wu_intb, DD.wu_abs, DD.wu_tup, DD.wu_tupT, DD.wu_lst, DD.wu_lstT, DD.wu_max2, DD.wu_min2, DD.wu_max1, DD.wu_min1, DD.wu_sum, DD.wu_all, DD.wu_any, DD.wu_sorted, DD.ws_l, DD.ws_t, DD.ws_s, DD.wr_l, DD.wr_t, DD.wb_mulT, DD.wst_l, DD.wst_t, DD.wz_l, DD.wz_t, DD.wn_l, DD.wv_l, DD.wv_t, DD.wc_inl, DD.wc_ninl, DD.wc_int, DD.wc_nint, DD.wCh, DD.ev_ii, DD.ev_bb, DD.ev_ss, DD.ev_nn, DD.ev_ni, DD.ev_in, DD.ev_is, DD.ev_si, DD.ev_tt, DD.ev_ll, DD.ea_nn, DD.ea_cc, DD.ea_nc, DD.ea_cn, DD.sh_n, DD.sh_b, DD.sh_i, DD.sh_s, DD.so_told, DD.so_refused, DD.so_missing, DD.so_large, DD.at0, DD.at1, DD.at2, DD.at3, DD.startE, DD.endK, List.map_cons, List.map_nil, List.length_cons, List.length_nil, List.replicate, List.cons_append, List.nil_append, List.append_nil, DD.getS, DD.setS, DD.clrS, DD.deo_c, DD.deo_n, DD.deo1_v, DD.deo1_u, DD.deo1_o, DD.tgs, DD.Sl.v.injEq, DD.Sl.own.injEq, PySem.PyData.int.injEq, PySem.PyData.bool.injEq, PySem.PyData.list.injEq, PySem.PyData.tuple.injEq, PySem.PyData.str.injEq, Option.some.injEq, exists_eq_left', exists_eq_left, exists_and_left, exists_and_right, List.zip_cons_cons, List.zip_nil_right, List.zip_nil_left, List.foldl_cons, List.foldl_nil, List.getD_cons_zero, List.getD_cons_succ, true_and, and_true, Bool.false_eq_true, Bool.true_eq_false, Bool.not_true, Bool.not_false, if_true, if_false, decide_eq_true_eq, decide_eq_false_iff_not, Bool.not_eq_true', Bool.not_eq_false', DD.imp_tt, DD.imp_ff, DD.imp_tf, DD.imp_ft, forall_const, true_implies, false_implies, implies_true, Int.reduceLT, Int.reduceLE, reduceIte, ite_true, ite_false]); try simp only [g0, g1, g2, g3, γ0, γ1, γ2, γ3, γ4, γ5, γ6, γ7, γ8, γ9, γ17, γ18, γ19, γ21, γ22, γ23, γ24]; try (simp only [DD.wSs, DD.wS, DD.wT, DD.wTs, DD.wE, DD.wEs, DD.wEi, DD.wIt, DD.wBnd, DD.bindT, DD.wb_add, DD.wb_sub, DD.wb_mul, DD.wb_fdiv, DD.wb_mod, DD.wb_pow, DD.wb_shl, DD.wb_shr, DD.wb_addL, DD.wb_addT, DD.wb_mulL, DD.wc_lt, DD.wc_le, DD.wc_gt, DD.wc_ge, DD.wc_eq, DD.wc_ne, DD.wc_isN0, DD.wc_isN1, DD.wc_isN2, DD.wc_isN3, DD.wc_isN4, DD.wc_isN5, DD.wc_notN0, DD.wc_notN1, DD.wc_notN2, DD.wc_notN3, DD.wc_notN4, DD.wc_notN5, DD.wt_n, DD.wt_b, DD.wt_i, DD.wt_l, DD.wt_t, DD.wi_l, DD.wi_t, DD.wu_len, DD.wu_lenT, DD.wu_int, DD.wu_intb, DD.wu_abs, DD.wu_tup, DD.wu_tupT, DD.wu_lst, DD.wu_lstT, DD.wu_max2, DD.wu_min2, DD.wu_max1, DD.wu_min1, DD.wu_sum, DD.wu_all, DD.wu_any, DD.wu_sorted, DD.ws_l, DD.ws_t, DD.ws_s, DD.wr_l, DD.wr_t, DD.wb_mulT, DD.wst_l, DD.wst_t, DD.wz_l, DD.wz_t, DD.wn_l, DD.wv_l, DD.wv_t, DD.wc_inl, DD.wc_ninl, DD.wc_int, DD.wc_nint, DD.wCh, DD.ev_ii, DD.ev_bb, DD.ev_ss, DD.ev_nn, DD.ev_ni, DD.ev_in, DD.ev_is, DD.ev_si, DD.ev_tt, DD.ev_ll, DD.ea_nn, DD.ea_cc, DD.ea_nc, DD.ea_cn, DD.sh_n, DD.sh_b, DD.sh_i, DD.sh_s, DD.so_told, DD.so_refused, DD.so_missing, DD.so_large, DD.at0, DD.at1, DD.at2, DD.at3, DD.startE, DD.endK, List.map_cons, List.map_nil, List.length_cons, List.length_nil, List.replicate, List.cons_append, List.nil_append, List.append_nil, DD.getS, DD.setS, DD.clrS, DD.deo_c, DD.deo_n, DD.deo1_v, DD.deo1_u, DD.deo1_o, DD.tgs, DD.Sl.v.injEq, DD.Sl.own.injEq, PySem.PyData.int.injEq, PySem.PyData.bool.injEq, PySem.PyData.list.injEq, PySem.PyData.tuple.injEq, PySem.PyData.str.injEq, Option.some.injEq, exists_eq_left', exists_eq_left, exists_and_left, exists_and_right, List.zip_cons_cons, List.zip_nil_right, List.zip_nil_left, List.foldl_cons, List.foldl_nil, List.getD_cons_zero, List.getD_cons_succ, true_and, and_true, Bool.false_eq_true, Bool.true_eq_false, Bool.not_true, Bool.not_false, if_true, if_false, decide_eq_true_eq, decide_eq_false_iff_not, Bool.not_eq_true', Bool.not_eq_false', DD.imp_tt, DD.imp_ff, DD.imp_tf, DD.imp_ft, forall_const, true_implies, false_implies, implies_true, Int.reduceLT, Int.reduceLE, reduceIte, ite_true, ite_false])))
    unfold c_added_rows_58
    (((simp only [DD.wSs, DD.wS, DD.wT, DD.wTs, DD.wE, DD.wEs, DD.wEi, DD.wIt, DD.wBnd, DD.bindT, DD.wb_add, DD.wb_sub, DD.wb_mul, DD.wb_fdiv, DD.wb_mod, DD.wb_pow, DD.wb_shl, DD.wb_shr, DD.wb_addL, DD.wb_addT, DD.wb_mulL, DD.wc_lt, DD.wc_le, DD.wc_gt, DD.wc_ge, DD.wc_eq, DD.wc_ne, DD.wc_isN0, DD.wc_isN1, DD.wc_isN2, DD.wc_isN3, DD.wc_isN4, DD.wc_isN5, DD.wc_notN0, DD.wc_notN1, DD.wc_notN2, DD.wc_notN3, DD.wc_notN4, DD.wc_notN5, DD.wt_n, DD.wt_b, DD.wt_i, DD.wt_l, DD.wt_t, DD.wi_l, DD.wi_t, DD.wu_len, DD.wu_lenT, DD.wu_int, DD.wu_intb, DD.wu_abs, DD.wu_tup, DD.wu_tupT, DD.wu_lst, DD.wu_lstT, DD.wu_max2, DD.wu_min2, DD.wu_max1, DD.wu_min1, DD.wu_sum, DD.wu_all, DD.wu_any, DD.wu_sorted, DD.ws_l, DD.ws_t, DD.ws_s, DD.wr_l, DD.wr_t, DD.wb_mulT, DD.wst_l, DD.wst_t, DD.wz_l, DD.wz_t, DD.wn_l, DD.wv_l, DD.wv_t, DD.wc_inl, DD.wc_ninl, DD.wc_int, DD.wc_nint, DD.wCh, DD.ev_ii, DD.ev_bb, DD.ev_ss, DD.ev_nn, DD.ev_ni, DD.ev_in, DD.ev_is, DD.ev_si, DD.ev_tt, DD.ev_ll, DD.ea_nn, DD.ea_cc, DD.ea_nc, DD.ea_cn, DD.sh_n, DD.sh_b, DD.sh_i, DD.sh_s, DD.so_told, DD.so_refused, DD.so_missing, DD.so_large, DD.at0, DD.at1, DD.at2, DD.at3, DD.startE, DD.endK, List.map_cons, List.map_nil, List.length_cons, List.length_nil, List.replicate, List.cons_append, List.nil_append, List.append_nil, DD.getS, DD.setS, DD.clrS, DD.deo_c, DD.deo_n, DD.deo1_v, DD.deo1_u, DD.deo1_o, DD.tgs, DD.Sl.v.injEq, DD.Sl.own.injEq, PySem.PyData.int.injEq, PySem.PyData.bool.injEq, PySem.PyData.list.injEq, PySem.PyData.tuple.injEq, PySem.PyData.str.injEq, Option.some.injEq, exists_eq_left', exists_eq_left, exists_and_left, exists_and_right, List.zip_cons_cons, List.zip_nil_right, List.zip_nil_left, List.foldl_cons, List.foldl_nil, List.getD_cons_zero, List.getD_cons_succ, true_and, and_true, Bool.false_eq_true, Bool.true_eq_false, Bool.not_true, Bool.not_false, if_true, if_false, decide_eq_true_eq, decide_eq_false_iff_not, Bool.not_eq_true', Bool.not_eq_false', DD.imp_tt, DD.imp_ff, DD.imp_tf, DD.imp_ft, forall_const, true_implies, false_implies, implies_true, Int.reduceLT, Int.reduceLE, reduceIte, ite_true, ite_false]); try simp only [g0, g1, g2, g3, γ0, γ1, γ2, γ3, γ4, γ5, γ6, γ7, γ8, γ9, γ17, γ18, γ19, γ21, γ22, γ23, γ24]; try (simp only [DD.wSs, DD.wS, DD.wT, DD.wTs, DD.wE, DD.wEs, DD.wEi, DD.wIt, DD.wBnd, DD.bindT, DD.wb_add, DD.wb_sub, DD.wb_mul, DD.wb_fdiv, DD.wb_mod, DD.wb_pow, DD.wb_shl, DD.wb_shr, DD.wb_addL, DD.wb_addT, DD.wb_mulL, DD.wc_lt, DD.wc_le, DD.wc_gt, DD.wc_ge, DD.wc_eq, DD.wc_ne, DD.wc_isN0, DD.wc_isN1, DD.wc_isN2, DD.wc_isN3, DD.wc_isN4, DD.wc_isN5, DD.wc_notN0, DD.wc_notN1, DD.wc_notN2, DD.wc_notN3, DD.wc_notN4, DD.wc_notN5, DD.wt_n, DD.wt_b, DD.wt_i, DD.wt_l, DD.wt_t, DD.wi_l, DD.wi_t, DD.wu_len, DD.wu_lenT, DD.wu_int, DD.wu_intb, DD.wu_abs, DD.wu_tup, DD.wu_tupT, DD.wu_lst, DD.wu_lstT, DD.wu_max2, DD.wu_min2, DD.wu_max1, DD.wu_min1, DD.wu_sum, DD.wu_all, DD.wu_any, DD.wu_sorted, DD.ws_l, DD.ws_t, DD.ws_s, DD.wr_l, DD.wr_t, DD.wb_mulT, DD.wst_l, DD.wst_t, DD.wz_l, DD.wz_t, DD.wn_l, DD.wv_l, DD.wv_t, DD.wc_inl, DD.wc_ninl, DD.wc_int, DD.wc_nint, DD.wCh, DD.ev_ii, DD.ev_bb, DD.ev_ss, DD.ev_nn, DD.ev_ni, DD.ev_in, DD.ev_is, DD.ev_si, DD.ev_tt, DD.ev_ll, DD.ea_nn, DD.ea_cc, DD.ea_nc, DD.ea_cn, DD.sh_n, DD.sh_b, DD.sh_i, DD.sh_s, DD.so_told, DD.so_refused, DD.so_missing, DD.so_large, DD.at0, DD.at1, DD.at2, DD.at3, DD.startE, DD.endK, List.map_cons, List.map_nil, List.length_cons, List.length_nil, List.replicate, List.cons_append, List.nil_append, List.append_nil, DD.getS, DD.setS, DD.clrS, DD.deo_c, DD.deo_n, DD.deo1_v, DD.deo1_u, DD.deo1_o, DD.tgs, DD.Sl.v.injEq, DD.Sl.own.injEq, PySem.PyData.int.injEq, PySem.PyData.bool.injEq, PySem.PyData.list.injEq, PySem.PyData.tuple.injEq, PySem.PyData.str.injEq, Option.some.injEq, exists_eq_left', exists_eq_left, exists_and_left, exists_and_right, List.zip_cons_cons, List.zip_nil_right, List.zip_nil_left, List.foldl_cons, List.foldl_nil, List.getD_cons_zero, List.getD_cons_succ, true_and, and_true, Bool.false_eq_true, Bool.true_eq_false, Bool.not_true, Bool.not_false, if_true, if_false, decide_eq_true_eq, decide_eq_false_iff_not, Bool.not_eq_true', Bool.not_eq_false', DD.imp_tt, DD.imp_ff, DD.imp_tf, DD.imp_ft, forall_const, true_implies, false_implies, implies_true, Int.reduceLT, Int.reduceLE, reduceIte, ite_true, ite_false])))
    rw [mapInt_len, mapInt_len, max_eq]
    have l1 := hr.1
    have l2 := hs.1
    have hm : max r.length s.length ≤ 24 := by omega
    unfold c_added_rows_59
    (((simp only [DD.wSs, DD.wS, DD.wT, DD.wTs, DD.wE, DD.wEs, DD.wEi, DD.wIt, DD.wBnd, DD.bindT, DD.wb_add, DD.wb_sub, DD.wb_mul, DD.wb_fdiv, DD.wb_mod, DD.wb_pow, DD.wb_shl, DD.wb_shr, DD.wb_addL, DD.wb_addT, DD.wb_mulL, DD.wc_lt, DD.wc_le, DD.wc_gt, DD.wc_ge, DD.wc_eq, DD.wc_ne, DD.wc_isN0, DD.wc_isN1, DD.wc_isN2, DD.wc_isN3, DD.wc_isN4, DD.wc_isN5, DD.wc_notN0, DD.wc_notN1, DD.wc_notN2, DD.wc_notN3, DD.wc_notN4, DD.wc_notN5, DD.wt_n, DD.wt_b, DD.wt_i, DD.wt_l, DD.wt_t, DD.wi_l, DD.wi_t, DD.wu_len, DD.wu_lenT, DD.wu_int, DD.wu_intb, DD.wu_abs, DD.wu_tup, DD.wu_tupT, DD.wu_lst, DD.wu_lstT, DD.wu_max2, DD.wu_min2, DD.wu_max1, DD.wu_min1, DD.wu_sum, DD.wu_all, DD.wu_any, DD.wu_sorted, DD.ws_l, DD.ws_t, DD.ws_s, DD.wr_l, DD.wr_t, DD.wb_mulT, DD.wst_l, DD.wst_t, DD.wz_l, DD.wz_t, DD.wn_l, DD.wv_l, DD.wv_t, DD.wc_inl, DD.wc_ninl, DD.wc_int, DD.wc_nint, DD.wCh, DD.ev_ii, DD.ev_bb, DD.ev_ss, DD.ev_nn, DD.ev_ni, DD.ev_in, DD.ev_is, DD.ev_si, DD.ev_tt, DD.ev_ll, DD.ea_nn, DD.ea_cc, DD.ea_nc, DD.ea_cn, DD.sh_n, DD.sh_b, DD.sh_i, DD.sh_s, DD.so_told, DD.so_refused, DD.so_missing, DD.so_large, DD.at0, DD.at1, DD.at2, DD.at3, DD.startE, DD.endK, List.map_cons, List.map_nil, List.length_cons, List.length_nil, List.replicate, List.cons_append, List.nil_append, List.append_nil, DD.getS, DD.setS, DD.clrS, DD.deo_c, DD.deo_n, DD.deo1_v, DD.deo1_u, DD.deo1_o, DD.tgs, DD.Sl.v.injEq, DD.Sl.own.injEq, PySem.PyData.int.injEq, PySem.PyData.bool.injEq, PySem.PyData.list.injEq, PySem.PyData.tuple.injEq, PySem.PyData.str.injEq, Option.some.injEq, exists_eq_left', exists_eq_left, exists_and_left, exists_and_right, List.zip_cons_cons, List.zip_nil_right, List.zip_nil_left, List.foldl_cons, List.foldl_nil, List.getD_cons_zero, List.getD_cons_succ, true_and, and_true, Bool.false_eq_true, Bool.true_eq_false, Bool.not_true, Bool.not_false, if_true, if_false, decide_eq_true_eq, decide_eq_false_iff_not, Bool.not_eq_true', Bool.not_eq_false', DD.imp_tt, DD.imp_ff, DD.imp_tf, DD.imp_ft, forall_const, true_implies, false_implies, implies_true, Int.reduceLT, Int.reduceLE, reduceIte, ite_true, ite_false]); try simp only [g0, g1, g2, g3, γ0, γ1, γ2, γ3, γ4, γ5, γ6, γ7, γ8, γ9, γ17, γ18, γ19, γ21, γ22, γ23, γ24]; try (simp only [DD.wSs, DD.wS, DD.wT, DD.wTs, DD.wE, DD.wEs, DD.wEi, DD.wIt, DD.wBnd, DD.bindT, DD.wb_add, DD.wb_sub, DD.wb_mul, DD.wb_fdiv, DD.wb_mod, DD.wb_pow, DD.wb_shl, DD.wb_shr, DD.wb_addL, DD.wb_addT, DD.wb_mulL, DD.wc_lt, DD.wc_le, DD.wc_gt, DD.wc_ge, DD.wc_eq, DD.wc_ne, DD.wc_isN0, DD.wc_isN1, DD.wc_isN2, DD.wc_isN3, DD.wc_isN4, DD.wc_isN5, DD.wc_notN0, DD.wc_notN1, DD.wc_notN2, DD.wc_notN3, DD.wc_notN4, DD.wc_notN5, DD.wt_n, DD.wt_b, DD.wt_i, DD.wt_l, DD.wt_t, DD.wi_l, DD.wi_t, DD.wu_len, DD.wu_lenT, DD.wu_int, DD.wu_intb, DD.wu_abs, DD.wu_tup, DD.wu_tupT, DD.wu_lst, DD.wu_lstT, DD.wu_max2, DD.wu_min2, DD.wu_max1, DD.wu_min1, DD.wu_sum, DD.wu_all, DD.wu_any, DD.wu_sorted, DD.ws_l, DD.ws_t, DD.ws_s, DD.wr_l, DD.wr_t, DD.wb_mulT, DD.wst_l, DD.wst_t, DD.wz_l, DD.wz_t, DD.wn_l, DD.wv_l, DD.wv_t, DD.wc_inl, DD.wc_ninl, DD.wc_int, DD.wc_nint, DD.wCh, DD.ev_ii, DD.ev_bb, DD.ev_ss, DD.ev_nn, DD.ev_ni, DD.ev_in, DD.ev_is, DD.ev_si, DD.ev_tt, DD.ev_ll, DD.ea_nn, DD.ea_cc, DD.ea_nc, DD.ea_cn, DD.sh_n, DD.sh_b, DD.sh_i, DD.sh_s, DD.so_told, DD.so_refused, DD.so_missing, DD.so_large, DD.at0, DD.at1, DD.at2, DD.at3, DD.startE, DD.endK, List.map_cons, List.map_nil, List.length_cons, List.length_nil, List.replicate, List.cons_append, List.nil_append, List.append_nil, DD.getS, DD.setS, DD.clrS, DD.deo_c, DD.deo_n, DD.deo1_v, DD.deo1_u, DD.deo1_o, DD.tgs, DD.Sl.v.injEq, DD.Sl.own.injEq, PySem.PyData.int.injEq, PySem.PyData.bool.injEq, PySem.PyData.list.injEq, PySem.PyData.tuple.injEq, PySem.PyData.str.injEq, Option.some.injEq, exists_eq_left', exists_eq_left, exists_and_left, exists_and_right, List.zip_cons_cons, List.zip_nil_right, List.zip_nil_left, List.foldl_cons, List.foldl_nil, List.getD_cons_zero, List.getD_cons_succ, true_and, and_true, Bool.false_eq_true, Bool.true_eq_false, Bool.not_true, Bool.not_false, if_true, if_false, decide_eq_true_eq, decide_eq_false_iff_not, Bool.not_eq_true', Bool.not_eq_false', DD.imp_tt, DD.imp_ff, DD.imp_tf, DD.imp_ft, forall_const, true_implies, false_implies, implies_true, Int.reduceLT, Int.reduceLE, reduceIte, ite_true, ite_false])))
    rw [mapInt_len, pad_eq]
    have p1 : (padd (max r.length s.length) r).length = max r.length s.length := padd_len (by omega)
    have p2 : (padd (max r.length s.length) s).length = max r.length s.length := padd_len (by omega)
    have i1 : InD lo hi (padd (max r.length s.length) r) := in_padd (by omega) (by omega) hr.2 _
    have i2 : InD lo hi (padd (max r.length s.length) s) := in_padd (by omega) (by omega) hs.2 _
    refine ⟨by omega, ⟨by omega, by omega, ?_⟩, ?_, ?_⟩
    · unfold okLen; omega
    · rw [rep0, mapInt_len, List.length_replicate]; omega
    unfold c_added_rows_60
    (((simp only [DD.wSs, DD.wS, DD.wT, DD.wTs, DD.wE, DD.wEs, DD.wEi, DD.wIt, DD.wBnd, DD.bindT, DD.wb_add, DD.wb_sub, DD.wb_mul, DD.wb_fdiv, DD.wb_mod, DD.wb_pow, DD.wb_shl, DD.wb_shr, DD.wb_addL, DD.wb_addT, DD.wb_mulL, DD.wc_lt, DD.wc_le, DD.wc_gt, DD.wc_ge, DD.wc_eq, DD.wc_ne, DD.wc_isN0, DD.wc_isN1, DD.wc_isN2, DD.wc_isN3, DD.wc_isN4, DD.wc_isN5, DD.wc_notN0, DD.wc_notN1, DD.wc_notN2, DD.wc_notN3, DD.wc_notN4, DD.wc_notN5, DD.wt_n, DD.wt_b, DD.wt_i, DD.wt_l, DD.wt_t, DD.wi_l, DD.wi_t, DD.wu_len, DD.wu_lenT, DD.wu_int, DD.wu_intb, DD.wu_abs, DD.wu_tup, DD.wu_tupT, DD.wu_lst, DD.wu_lstT, DD.wu_max2, DD.wu_min2, DD.wu_max1, DD.wu_min1, DD.wu_sum, DD.wu_all, DD.wu_any, DD.wu_sorted, DD.ws_l, DD.ws_t, DD.ws_s, DD.wr_l, DD.wr_t, DD.wb_mulT, DD.wst_l, DD.wst_t, DD.wz_l, DD.wz_t, DD.wn_l, DD.wv_l, DD.wv_t, DD.wc_inl, DD.wc_ninl, DD.wc_int, DD.wc_nint, DD.wCh, DD.ev_ii, DD.ev_bb, DD.ev_ss, DD.ev_nn, DD.ev_ni, DD.ev_in, DD.ev_is, DD.ev_si, DD.ev_tt, DD.ev_ll, DD.ea_nn, DD.ea_cc, DD.ea_nc, DD.ea_cn, DD.sh_n, DD.sh_b, DD.sh_i, DD.sh_s, DD.so_told, DD.so_refused, DD.so_missing, DD.so_large, DD.at0, DD.at1, DD.at2, DD.at3, DD.startE, DD.endK, List.map_cons, List.map_nil, List.length_cons, List.length_nil, List.replicate, List.cons_append, List.nil_append, List.append_nil, DD.getS, DD.setS, DD.clrS, DD.deo_c, DD.deo_n, DD.deo1_v, DD.deo1_u, DD.deo1_o, DD.tgs, DD.Sl.v.injEq, DD.Sl.own.injEq, PySem.PyData.int.injEq, PySem.PyData.bool.injEq, PySem.PyData.list.injEq, PySem.PyData.tuple.injEq, PySem.PyData.str.injEq, Option.some.injEq, exists_eq_left', exists_eq_left, exists_and_left, exists_and_right, List.zip_cons_cons, List.zip_nil_right, List.zip_nil_left, List.foldl_cons, List.foldl_nil, List.getD_cons_zero, List.getD_cons_succ, true_and, and_true, Bool.false_eq_true, Bool.true_eq_false, Bool.not_true, Bool.not_false, if_true, if_false, decide_eq_true_eq, decide_eq_false_iff_not, Bool.not_eq_true', Bool.not_eq_false', DD.imp_tt, DD.imp_ff, DD.imp_tf, DD.imp_ft, forall_const, true_implies, false_implies, implies_true, Int.reduceLT, Int.reduceLE, reduceIte, ite_true, ite_false]); try simp only [g0, g1, g2, g3, γ0, γ1, γ2, γ3, γ4, γ5, γ6, γ7, γ8, γ9, γ17, γ18, γ19, γ21, γ22, γ23, γ24]; try (simp only [DD.wSs, DD.wS, DD.wT, DD.wTs, DD.wE, DD.wEs, DD.wEi, DD.wIt, DD.wBnd, DD.bindT, DD.wb_add, DD.wb_sub, DD.wb_mul, DD.wb_fdiv, DD.wb_mod, DD.wb_pow, DD.wb_shl, DD.wb_shr, DD.wb_addL, DD.wb_addT, DD.wb_mulL, DD.wc_lt, DD.wc_le, DD.wc_gt, DD.wc_ge, DD.wc_eq, DD.wc_ne, DD.wc_isN0, DD.wc_isN1, DD.wc_isN2, DD.wc_isN3, DD.wc_isN4, DD.wc_isN5, DD.wc_notN0, DD.wc_notN1, DD.wc_notN2, DD.wc_notN3, DD.wc_notN4, DD.wc_notN5, DD.wt_n, DD.wt_b, DD.wt_i, DD.wt_l, DD.wt_t, DD.wi_l, DD.wi_t, DD.wu_len, DD.wu_lenT, DD.wu_int, DD.wu_intb, DD.wu_abs, DD.wu_tup, DD.wu_tupT, DD.wu_lst, DD.wu_lstT, DD.wu_max2, DD.wu_min2, DD.wu_max1, DD.wu_min1, DD.wu_sum, DD.wu_all, DD.wu_any, DD.wu_sorted, DD.ws_l, DD.ws_t, DD.ws_s, DD.wr_l, DD.wr_t, DD.wb_mulT, DD.wst_l, DD.wst_t, DD.wz_l, DD.wz_t, DD.wn_l, DD.wv_l, DD.wv_t, DD.wc_inl, DD.wc_ninl, DD.wc_int, DD.wc_nint, DD.wCh, DD.ev_ii, DD.ev_bb, DD.ev_ss, DD.ev_nn, DD.ev_ni, DD.ev_in, DD.ev_is, DD.ev_si, DD.ev_tt, DD.ev_ll, DD.ea_nn, DD.ea_cc, DD.ea_nc, DD.ea_cn, DD.sh_n, DD.sh_b, DD.sh_i, DD.sh_s, DD.so_told, DD.so_refused, DD.so_missing, DD.so_large, DD.at0, DD.at1, DD.at2, DD.at3, DD.startE, DD.endK, List.map_cons, List.map_nil, List.length_cons, List.length_nil, List.replicate, List.cons_append, List.nil_append, List.append_nil, DD.getS, DD.setS, DD.clrS, DD.deo_c, DD.deo_n, DD.deo1_v, DD.deo1_u, DD.deo1_o, DD.tgs, DD.Sl.v.injEq, DD.Sl.own.injEq, PySem.PyData.int.injEq, PySem.PyData.bool.injEq, PySem.PyData.list.injEq, PySem.PyData.tuple.injEq, PySem.PyData.str.injEq, Option.some.injEq, exists_eq_left', exists_eq_left, exists_and_left, exists_and_right, List.zip_cons_cons, List.zip_nil_right, List.zip_nil_left, List.foldl_cons, List.foldl_nil, List.getD_cons_zero, List.getD_cons_succ, true_and, and_true, Bool.false_eq_true, Bool.true_eq_false, Bool.not_true, Bool.not_false, if_true, if_false, decide_eq_true_eq, decide_eq_false_iff_not, Bool.not_eq_true', Bool.not_eq_false', DD.imp_tt, DD.imp_ff, DD.imp_tf, DD.imp_ft, forall_const, true_implies, false_implies, implies_true, Int.reduceLT, Int.reduceLE, reduceIte, ite_true, ite_false])))
    rw [mapInt_len, pad_eq]
    refine ⟨by omega, ⟨by omega, by omega, ?_⟩, ?_, ?_⟩
    · unfold okLen; omega
    · rw [rep0, mapInt_len, List.length_replicate]; omega
    unfold c_added_rows_61
    (((simp only [DD.wSs, DD.wS, DD.wT, DD.wTs, DD.wE, DD.wEs, DD.wEi, DD.wIt, DD.wBnd, DD.bindT, DD.wb_add, DD.wb_sub, DD.wb_mul, DD.wb_fdiv, DD.wb_mod, DD.wb_pow, DD.wb_shl, DD.wb_shr, DD.wb_addL, DD.wb_addT, DD.wb_mulL, DD.wc_lt, DD.wc_le, DD.wc_gt, DD.wc_ge, DD.wc_eq, DD.wc_ne, DD.wc_isN0, DD.wc_isN1, DD.wc_isN2, DD.wc_isN3, DD.wc_isN4, DD.wc_isN5, DD.wc_notN0, DD.wc_notN1, DD.wc_notN2, DD.wc_notN3, DD.wc_notN4, DD.wc_notN5, DD.wt_n, DD.wt_b, DD.wt_i, DD.wt_l, DD.wt_t, DD.wi_l, DD.wi_t, DD.wu_len, DD.wu_lenT, DD.wu_int, DD.wu_intb, DD.wu_abs, DD.wu_tup, DD.wu_tupT, DD.wu_lst, DD.wu_lstT, DD.wu_max2, DD.wu_min2, DD.wu_max1, DD.wu_min1, DD.wu_sum, DD.wu_all, DD.wu_any, DD.wu_sorted, DD.ws_l, DD.ws_t, DD.ws_s, DD.wr_l, DD.wr_t, DD.wb_mulT, DD.wst_l, DD.wst_t, DD.wz_l, DD.wz_t, DD.wn_l, DD.wv_l, DD.wv_t, DD.wc_inl, DD.wc_ninl, DD.wc_int, DD.wc_nint, DD.wCh, DD.ev_ii, DD.ev_bb, DD.ev_ss, DD.ev_nn, DD.ev_ni, DD.ev_in, DD.ev_is, DD.ev_si, DD.ev_tt, DD.ev_ll, DD.ea_nn, DD.ea_cc, DD.ea_nc, DD.ea_cn, DD.sh_n, DD.sh_b, DD.sh_i, DD.sh_s, DD.so_told, DD.so_refused, DD.so_missing, DD.so_large, DD.at0, DD.at1, DD.at2, DD.at3, DD.startE, DD.endK, List.map_cons, List.map_nil, List.length_cons, List.length_nil, List.replicate, List.cons_append, List.nil_append, List.append_nil, DD.getS, DD.setS, DD.clrS, DD.deo_c, DD.deo_n, DD.deo1_v, DD.deo1_u, DD.deo1_o, DD.tgs, DD.Sl.v.injEq, DD.Sl.own.injEq, PySem.PyData.int.injEq, PySem.PyData.bool.injEq, PySem.PyData.list.injEq, PySem.PyData.tuple.injEq, PySem.PyData.str.injEq, Option.some.injEq, exists_eq_left', exists_eq_left, exists_and_left, exists_and_right, List.zip_cons_cons, List.zip_nil_right, List.zip_nil_left, List.foldl_cons, List.foldl_nil, List.getD_cons_zero, List.getD_cons_succ, true_and, and_true, Bool.false_eq_true, Bool.true_eq_false, Bool.not_true, Bool.not_false, if_true, if_false, decide_eq_true_eq, decide_eq_false_iff_not, Bool.not_eq_true', Bool.not_eq_false', DD.imp_tt, DD.imp_ff, DD.imp_tf, DD.imp_ft, forall_const, true_implies, false_implies, implies_true, Int.reduceLT, Int.reduceLE, reduceIte, ite_true, ite_false]); try simp only [g0, g1, g2, g3, γ0, γ1, γ2, γ3, γ4, γ5, γ6, γ7, γ8, γ9, γ17, γ18, γ19, γ21, γ22, γ23, γ24]; try (simp only [DD.wSs, DD.wS, DD.wT, DD.wTs, DD.wE, DD.wEs, DD.wEi, DD.wIt, DD.wBnd, DD.bindT, DD.wb_add, DD.wb_sub, DD.wb_mul, DD.wb_fdiv, DD.wb_mod, DD.wb_pow, DD.wb_shl, DD.wb_shr, DD.wb_addL, DD.wb_addT, DD.wb_mulL, DD.wc_lt, DD.wc_le, DD.wc_gt, DD.wc_ge, DD.wc_eq, DD.wc_ne, DD.wc_isN0, DD.wc_isN1, DD.wc_isN2, DD.wc_isN3, DD.wc_isN4, DD.wc_isN5, DD.wc_notN0, DD.wc_notN1, DD.wc_notN2, DD.wc_notN3, DD.wc_notN4, DD.wc_notN5, DD.wt_n, DD.wt_b, DD.wt_i, DD.wt_l, DD.wt_t, DD.wi_l, DD.wi_t, DD.wu_len, DD.wu_lenT, DD.wu_int, DD.wu_intb, DD.wu_abs, DD.wu_tup, DD.wu_tupT, DD.wu_lst, DD.wu_lstT, DD.wu_max2, DD.wu_min2, DD.wu_max1, DD.wu_min1, DD.wu_sum, DD.wu_all, DD.wu_any, DD.wu_sorted, DD.ws_l, DD.ws_t, DD.ws_s, DD.wr_l, DD.wr_t, DD.wb_mulT, DD.wst_l, DD.wst_t, DD.wz_l, DD.wz_t, DD.wn_l, DD.wv_l, DD.wv_t, DD.wc_inl, DD.wc_ninl, DD.wc_int, DD.wc_nint, DD.wCh, DD.ev_ii, DD.ev_bb, DD.ev_ss, DD.ev_nn, DD.ev_ni, DD.ev_in, DD.ev_is, DD.ev_si, DD.ev_tt, DD.ev_ll, DD.ea_nn, DD.ea_cc, DD.ea_nc, DD.ea_cn, DD.sh_n, DD.sh_b, DD.sh_i, DD.sh_s, DD.so_told, DD.so_refused, DD.so_missing, DD.so_large, DD.at0, DD.at1, DD.at2, DD.at3, DD.startE, DD.endK, List.map_cons, List.map_nil, List.length_cons, List.length_nil, List.replicate, List.cons_append, List.nil_append, List.append_nil, DD.getS, DD.setS, DD.clrS, DD.deo_c, DD.deo_n, DD.deo1_v, DD.deo1_u, DD.deo1_o, DD.tgs, DD.Sl.v.injEq, DD.Sl.own.injEq, PySem.PyData.int.injEq, PySem.PyData.bool.injEq, PySem.PyData.list.injEq, PySem.PyData.tuple.injEq, PySem.PyData.str.injEq, Option.some.injEq, exists_eq_left', exists_eq_left, exists_and_left, exists_and_right, List.zip_cons_cons, List.zip_nil_right, List.zip_nil_left, List.foldl_cons, List.foldl_nil, List.getD_cons_zero, List.getD_cons_succ, true_and, and_true, Bool.false_eq_true, Bool.true_eq_false, Bool.not_true, Bool.not_false, if_true, if_false, decide_eq_true_eq, decide_eq_false_iff_not, Bool.not_eq_true', Bool.not_eq_false', DD.imp_tt, DD.imp_ff, DD.imp_tf, DD.imp_ft, forall_const, true_implies, false_implies, implies_true, Int.reduceLT, Int.reduceLE, reduceIte, ite_true, ite_false])))
    unfold c_added_rows_62
    (((simp only [DD.wSs, DD.wS, DD.wT, DD.wTs, DD.wE, DD.wEs, DD.wEi, DD.wIt, DD.wBnd, DD.bindT, DD.wb_add, DD.wb_sub, DD.wb_mul, DD.wb_fdiv, DD.wb_mod, DD.wb_pow, DD.wb_shl, DD.wb_shr, DD.wb_addL, DD.wb_addT, DD.wb_mulL, DD.wc_lt, DD.wc_le, DD.wc_gt, DD.wc_ge, DD.wc_eq, DD.wc_ne, DD.wc_isN0, DD.wc_isN1, DD.wc_isN2, DD.wc_isN3, DD.wc_isN4, DD.wc_isN5, DD.wc_notN0, DD.wc_notN1, DD.wc_notN2, DD.wc_notN3, DD.wc_notN4, DD.wc_notN5, DD.wt_n, DD.wt_b, DD.wt_i, DD.wt_l, DD.wt_t, DD.wi_l, DD.wi_t, DD.wu_len, DD.wu_lenT, DD.wu_int, DD.wu_intb, DD.wu_abs, DD.wu_tup, DD.wu_tupT, DD.wu_lst, DD.wu_lstT, DD.wu_max2, DD.wu_min2, DD.wu_max1, DD.wu_min1, DD.wu_sum, DD.wu_all, DD.wu_any, DD.wu_sorted, DD.ws_l, DD.ws_t, DD.ws_s, DD.wr_l, DD.wr_t, DD.wb_mulT, DD.wst_l, DD.wst_t, DD.wz_l, DD.wz_t, DD.wn_l, DD.wv_l, DD.wv_t, DD.wc_inl, DD.wc_ninl, DD.wc_int, DD.wc_nint, DD.wCh, DD.ev_ii, DD.ev_bb, DD.ev_ss, DD.ev_nn, DD.ev_ni, DD.ev_in, DD.ev_is, DD.ev_si, DD.ev_tt, DD.ev_ll, DD.ea_nn, DD.ea_cc, DD.ea_nc, DD.ea_cn, DD.sh_n, DD.sh_b, DD.sh_i, DD.sh_s, DD.so_told, DD.so_refused, DD.so_missing, DD.so_large, DD.at0, DD.at1, DD.at2, DD.at3, DD.startE, DD.endK, List.map_cons, List.map_nil, List.length_cons, List.length_nil, List.replicate, List.cons_append, List.nil_append, List.append_nil, DD.getS, DD.setS, DD.clrS, DD.deo_c, DD.deo_n, DD.deo1_v, DD.deo1_u, DD.deo1_o, DD.tgs, DD.Sl.v.injEq, DD.Sl.own.injEq, PySem.PyData.int.injEq, PySem.PyData.bool.injEq, PySem.PyData.list.injEq, PySem.PyData.tuple.injEq, PySem.PyData.str.injEq, Option.some.injEq, exists_eq_left', exists_eq_left, exists_and_left, exists_and_right, List.zip_cons_cons, List.zip_nil_right, List.zip_nil_left, List.foldl_cons, List.foldl_nil, List.getD_cons_zero, List.getD_cons_succ, true_and, and_true, Bool.false_eq_true, Bool.true_eq_false, Bool.not_true, Bool.not_false, if_true, if_false, decide_eq_true_eq, decide_eq_false_iff_not, Bool.not_eq_true', Bool.not_eq_false', DD.imp_tt, DD.imp_ff, DD.imp_tf, DD.imp_ft, forall_const, true_implies, false_implies, implies_true, Int.reduceLT, Int.reduceLE, reduceIte, ite_true, ite_false]); try simp only [g0, g1, g2, g3, γ0, γ1, γ2, γ3, γ4, γ5, γ6, γ7, γ8, γ9, γ17, γ18, γ19, γ21, γ22, γ23, γ24]; try (simp only [DD.wSs, DD.wS, DD.wT, DD.wTs, DD.wE, DD.wEs, DD.wEi, DD.wIt, DD.wBnd, DD.bindT, DD.wb_add, DD.wb_sub, DD.wb_mul, DD.wb_fdiv, DD.wb_mod, DD.wb_pow, DD.wb_shl, DD.wb_shr, DD.wb_addL, DD.wb_addT, DD.wb_mulL, DD.wc_lt, DD.wc_le, DD.wc_gt, DD.wc_ge, DD.wc_eq, DD.wc_ne, DD.wc_isN0, DD.wc_isN1, DD.wc_isN2, DD.wc_isN3, DD.wc_isN4, DD.wc_isN5, DD.wc_notN0, DD.wc_notN1, DD.wc_notN2, DD.wc_notN3, DD.wc_notN4, DD.wc_notN5, DD.wt_n, DD.wt_b, DD.wt_i, DD.wt_l, DD.wt_t, DD.wi_l, DD.wi_t, DD.wu_len, DD.wu_lenT, DD.wu_int, DD.wu_intb, DD.wu_abs, DD.wu_tup, DD.wu_tupT, DD.wu_lst, DD.wu_lstT, DD.wu_max2, DD.wu_min2, DD.wu_max1, DD.wu_min1, DD.wu_sum, DD.wu_all, DD.wu_any, DD.wu_sorted, DD.ws_l, DD.ws_t, DD.ws_s, DD.wr_l, DD.wr_t, DD.wb_mulT, DD.wst_l, DD.wst_t, DD.wz_l, DD.wz_t, DD.wn_l, DD.wv_l, DD.wv_t, DD.wc_inl, DD.wc_ninl, DD.wc_int, DD.wc_nint, DD.wCh, DD.ev_ii, DD.ev_bb, DD.ev_ss, DD.ev_nn, DD.ev_ni, DD.ev_in, DD.ev_is, DD.ev_si, DD.ev_tt, DD.ev_ll, DD.ea_nn, DD.ea_cc, DD.ea_nc, DD.ea_cn, DD.sh_n, DD.sh_b, DD.sh_i, DD.sh_s, DD.so_told, DD.so_refused, DD.so_missing, DD.so_large, DD.at0, DD.at1, DD.at2, DD.at3, DD.startE, DD.endK, List.map_cons, List.map_nil, List.length_cons, List.length_nil, List.replicate, List.cons_append, List.nil_append, List.append_nil, DD.getS, DD.setS, DD.clrS, DD.deo_c, DD.deo_n, DD.deo1_v, DD.deo1_u, DD.deo1_o, DD.tgs, DD.Sl.v.injEq, DD.Sl.own.injEq, PySem.PyData.int.injEq, PySem.PyData.bool.injEq, PySem.PyData.list.injEq, PySem.PyData.tuple.injEq, PySem.PyData.str.injEq, Option.some.injEq, exists_eq_left', exists_eq_left, exists_and_left, exists_and_right, List.zip_cons_cons, List.zip_nil_right, List.zip_nil_left, List.foldl_cons, List.foldl_nil, List.getD_cons_zero, List.getD_cons_succ, true_and, and_true, Bool.false_eq_true, Bool.true_eq_false, Bool.not_true, Bool.not_false, if_true, if_false, decide_eq_true_eq, decide_eq_false_iff_not, Bool.not_eq_true', Bool.not_eq_false', DD.imp_tt, DD.imp_ff, DD.imp_tf, DD.imp_ft, forall_const, true_implies, false_implies, implies_true, Int.reduceLT, Int.reduceLE, reduceIte, ite_true, ite_false])))
    rw [mapInt_len, p1]
    refine ⟨by unfold okLen; omega, ?_⟩
    refine forG monoL (IA b lo hi m (added b lo hi m r s) (.v (.tuple (iL r))) (.v (.tuple (iL s))) (.v (.int (max r.length s.length : Nat))) n) ⟨[], _, _, 0, _, _, .un, .un, .un, .un, rfl, by rw [p1, p2], rfl, i1, i2, by omega, by omega, rfl, by rw [p1]; simp; omega, rfl⟩ ?_ ?_
    · rintro e n' ⟨acc, xs, ys, c, x5, x6, x9, x10, x11, x12, rfl, hlen, hrem, hx, hy, c0, c1, hW, hl', rfl⟩
      have e1 : xs = [] := by
        cases xs with
        | nil => rfl
        | cons a as => cases ys with
          | nil => simp at hlen
          | cons b bs => cases hrem
      subst e1
      unfold c_added_rows_67
      (((simp only [DD.wSs, DD.wS, DD.wT, DD.wTs, DD.wE, DD.wEs, DD.wEi, DD.wIt, DD.wBnd, DD.bindT, DD.wb_add, DD.wb_sub, DD.wb_mul, DD.wb_fdiv, DD.wb_mod, DD.wb_pow, DD.wb_shl, DD.wb_shr, DD.wb_addL, DD.wb_addT, DD.wb_mulL, DD.wc_lt, DD.wc_le, DD.wc_gt, DD.wc_ge, DD.wc_eq, DD.wc_ne, DD.wc_isN0, DD.wc_isN1, DD.wc_isN2, DD.wc_isN3, DD.wc_isN4, DD.wc_isN5, DD.wc_notN0, DD.wc_notN1, DD.wc_notN2, DD.wc_notN3, DD.wc_notN4, DD.wc_notN5, DD.wt_n, DD.wt_b, DD.wt_i, DD.wt_l, DD.wt_t, DD.wi_l, DD.wi_t, DD.wu_len, DD.wu_lenT, DD.wu_int, DD.wu_intb, DD.wu_abs, DD.wu_tup, DD.wu_tupT, DD.wu_lst, DD.wu_lstT, DD.wu_max2, DD.wu_min2, DD.wu_max1, DD.wu_min1, DD.wu_sum, DD.wu_all, DD.wu_any, DD.wu_sorted, DD.ws_l, DD.ws_t, DD.ws_s, DD.wr_l, DD.wr_t, DD.wb_mulT, DD.wst_l, DD.wst_t, DD.wz_l, DD.wz_t, DD.wn_l, DD.wv_l, DD.wv_t, DD.wc_inl, DD.wc_ninl, DD.wc_int, DD.wc_nint, DD.wCh, DD.ev_ii, DD.ev_bb, DD.ev_ss, DD.ev_nn, DD.ev_ni, DD.ev_in, DD.ev_is, DD.ev_si, DD.ev_tt, DD.ev_ll, DD.ea_nn, DD.ea_cc, DD.ea_nc, DD.ea_cn, DD.sh_n, DD.sh_b, DD.sh_i, DD.sh_s, DD.so_told, DD.so_refused, DD.so_missing, DD.so_large, DD.at0, DD.at1, DD.at2, DD.at3, DD.startE, DD.endK, List.map_cons, List.map_nil, List.length_cons, List.length_nil, List.replicate, List.cons_append, List.nil_append, List.append_nil, DD.getS, DD.setS, DD.clrS, DD.deo_c, DD.deo_n, DD.deo1_v, DD.deo1_u, DD.deo1_o, DD.tgs, DD.Sl.v.injEq, DD.Sl.own.injEq, PySem.PyData.int.injEq, PySem.PyData.bool.injEq, PySem.PyData.list.injEq, PySem.PyData.tuple.injEq, PySem.PyData.str.injEq, Option.some.injEq, exists_eq_left', exists_eq_left, exists_and_left, exists_and_right, List.zip_cons_cons, List.zip_nil_right, List.zip_nil_left, List.foldl_cons, List.foldl_nil, List.getD_cons_zero, List.getD_cons_succ, true_and, and_true, Bool.false_eq_true, Bool.true_eq_false, Bool.not_true, Bool.not_false, if_true, if_false, decide_eq_true_eq, decide_eq_false_iff_not, Bool.not_eq_true', Bool.not_eq_false', DD.imp_tt, DD.imp_ff, DD.imp_tf, DD.imp_ft, forall_const, true_implies, false_implies, implies_true, Int.reduceLT, Int.reduceLE, reduceIte, ite_true, ite_false]); try simp only [g0, g1, g2, g3, γ0, γ1, γ2, γ3, γ4, γ5, γ6, γ7, γ8, γ9, γ17, γ18, γ19, γ21, γ22, γ23, γ24]; try (simp only [DD.wSs, DD.wS, DD.wT, DD.wTs, DD.wE, DD.wEs, DD.wEi, DD.wIt, DD.wBnd, DD.bindT, DD.wb_add, DD.wb_sub, DD.wb_mul, DD.wb_fdiv, DD.wb_mod, DD.wb_pow, DD.wb_shl, DD.wb_shr, DD.wb_addL, DD.wb_addT, DD.wb_mulL, DD.wc_lt, DD.wc_le, DD.wc_gt, DD.wc_ge, DD.wc_eq, DD.wc_ne, DD.wc_isN0, DD.wc_isN1, DD.wc_isN2, DD.wc_isN3, DD.wc_isN4, DD.wc_isN5, DD.wc_notN0, DD.wc_notN1, DD.wc_notN2, DD.wc_notN3, DD.wc_notN4, DD.wc_notN5, DD.wt_n, DD.wt_b, DD.wt_i, DD.wt_l, DD.wt_t, DD.wi_l, DD.wi_t, DD.wu_len, DD.wu_lenT, DD.wu_int, DD.wu_intb, DD.wu_abs, DD.wu_tup, DD.wu_tupT, DD.wu_lst, DD.wu_lstT, DD.wu_max2, DD.wu_min2, DD.wu_max1, DD.wu_min1, DD.wu_sum, DD.wu_all, DD.wu_any, DD.wu_sorted, DD.ws_l, DD.ws_t, DD.ws_s, DD.wr_l, DD.wr_t, DD.wb_mulT, DD.wst_l, DD.wst_t, DD.wz_l, DD.wz_t, DD.wn_l, DD.wv_l, DD.wv_t, DD.wc_inl, DD.wc_ninl, DD.wc_int, DD.wc_nint, DD.wCh, DD.ev_ii, DD.ev_bb, DD.ev_ss, DD.ev_nn, DD.ev_ni, DD.ev_in, DD.ev_is, DD.ev_si, DD.ev_tt, DD.ev_ll, DD.ea_nn, DD.ea_cc, DD.ea_nc, DD.ea_cn, DD.sh_n, DD.sh_b, DD.sh_i, DD.sh_s, DD.so_told, DD.so_refused, DD.so_missing, DD.so_large, DD.at0, DD.at1, DD.at2, DD.at3, DD.startE, DD.endK, List.map_cons, List.map_nil, List.length_cons, List.length_nil, List.replicate, List.cons_append, List.nil_append, List.append_nil, DD.getS, DD.setS, DD.clrS, DD.deo_c, DD.deo_n, DD.deo1_v, DD.deo1_u, DD.deo1_o, DD.tgs, DD.Sl.v.injEq, DD.Sl.own.injEq, PySem.PyData.int.injEq, PySem.PyData.bool.injEq, PySem.PyData.list.injEq, PySem.PyData.tuple.injEq, PySem.PyData.str.injEq, Option.some.injEq, exists_eq_left', exists_eq_left, exists_and_left, exists_and_right, List.zip_cons_cons, List.zip_nil_right, List.zip_nil_left, List.foldl_cons, List.foldl_nil, List.getD_cons_zero, List.getD_cons_succ, true_and, and_true, Bool.false_eq_true, Bool.true_eq_false, Bool.not_true, Bool.not_false, if_true, if_false, decide_eq_true_eq, decide_eq_false_iff_not, Bool.not_eq_true', Bool.not_eq_false', DD.imp_tt, DD.imp_ff, DD.imp_tf, DD.imp_ft, forall_const, true_implies, false_implies, implies_true, Int.reduceLT, Int.reduceLE, reduceIte, ite_true, ite_false])))
      simp only [List.length_nil] at hl'
      rw [mapInt_len]
      refine ⟨by omega, ?_⟩
      rw [show iL acc ++ [PyData.int c] = iL (added b lo hi m r s) by rw [← hW]; simp [addGo]]
      exact q
    · rintro z ds e n' ⟨acc, xs, ys, c, x5, x6, x9, x10, x11, x12, rfl, hlen, hrem, hx, hy, c0, c1, hW, hl', rfl⟩
      cases xs with
      | nil => cases hrem
      | cons x xs => cases ys with
        | nil => simp at hlen
        | cons y ys =>
          cases hrem
          have bx := hx x (List.mem_cons_self ..)
          have by' := hy y (List.mem_cons_self ..)
          have km := mem_carr.mp (one0_mem (t := x + y) g.2.2 (by omega) (by omega))
          unfold l_added_rows_1
          (((simp only [DD.wSs, DD.wS, DD.wT, DD.wTs, DD.wE, DD.wEs, DD.wEi, DD.wIt, DD.wBnd, DD.bindT, DD.wb_add, DD.wb_sub, DD.wb_mul, DD.wb_fdiv, DD.wb_mod, DD.wb_pow, DD.wb_shl, DD.wb_shr, DD.wb_addL, DD.wb_addT, DD.wb_mulL, DD.wc_lt, DD.wc_le, DD.wc_gt, DD.wc_ge, DD.wc_eq, DD.wc_ne, DD.wc_isN0, DD.wc_isN1, DD.wc_isN2, DD.wc_isN3, DD.wc_isN4, DD.wc_isN5, DD.wc_notN0, DD.wc_notN1, DD.wc_notN2, DD.wc_notN3, DD.wc_notN4, DD.wc_notN5, DD.wt_n, DD.wt_b, DD.wt_i, DD.wt_l, DD.wt_t, DD.wi_l, DD.wi_t, DD.wu_len, DD.wu_lenT, DD.wu_int, DD.wu_intb, DD.wu_abs, DD.wu_tup, DD.wu_tupT, DD.wu_lst, DD.wu_lstT, DD.wu_max2, DD.wu_min2, DD.wu_max1, DD.wu_min1, DD.wu_sum, DD.wu_all, DD.wu_any, DD.wu_sorted, DD.ws_l, DD.ws_t, DD.ws_s, DD.wr_l, DD.wr_t, DD.wb_mulT, DD.wst_l, DD.wst_t, DD.wz_l, DD.wz_t, DD.wn_l, DD.wv_l, DD.wv_t, DD.wc_inl, DD.wc_ninl, DD.wc_int, DD.wc_nint, DD.wCh, DD.ev_ii, DD.ev_bb, DD.ev_ss, DD.ev_nn, DD.ev_ni, DD.ev_in, DD.ev_is, DD.ev_si, DD.ev_tt, DD.ev_ll, DD.ea_nn, DD.ea_cc, DD.ea_nc, DD.ea_cn, DD.sh_n, DD.sh_b, DD.sh_i, DD.sh_s, DD.so_told, DD.so_refused, DD.so_missing, DD.so_large, DD.at0, DD.at1, DD.at2, DD.at3, DD.startE, DD.endK, List.map_cons, List.map_nil, List.length_cons, List.length_nil, List.replicate, List.cons_append, List.nil_append, List.append_nil, DD.getS, DD.setS, DD.clrS, DD.deo_c, DD.deo_n, DD.deo1_v, DD.deo1_u, DD.deo1_o, DD.tgs, DD.Sl.v.injEq, DD.Sl.own.injEq, PySem.PyData.int.injEq, PySem.PyData.bool.injEq, PySem.PyData.list.injEq, PySem.PyData.tuple.injEq, PySem.PyData.str.injEq, Option.some.injEq, exists_eq_left', exists_eq_left, exists_and_left, exists_and_right, List.zip_cons_cons, List.zip_nil_right, List.zip_nil_left, List.foldl_cons, List.foldl_nil, List.getD_cons_zero, List.getD_cons_succ, true_and, and_true, Bool.false_eq_true, Bool.true_eq_false, Bool.not_true, Bool.not_false, if_true, if_false, decide_eq_true_eq, decide_eq_false_iff_not, Bool.not_eq_true', Bool.not_eq_false', DD.imp_tt, DD.imp_ff, DD.imp_tf, DD.imp_ft, forall_const, true_implies, false_implies, implies_true, Int.reduceLT, Int.reduceLE, reduceIte, ite_true, ite_false]); try simp only [g0, g1, g2, g3, γ0, γ1, γ2, γ3, γ4, γ5, γ6, γ7, γ8, γ9, γ17, γ18, γ19, γ21, γ22, γ23, γ24]; try (simp only [DD.wSs, DD.wS, DD.wT, DD.wTs, DD.wE, DD.wEs, DD.wEi, DD.wIt, DD.wBnd, DD.bindT, DD.wb_add, DD.wb_sub, DD.wb_mul, DD.wb_fdiv, DD.wb_mod, DD.wb_pow, DD.wb_shl, DD.wb_shr, DD.wb_addL, DD.wb_addT, DD.wb_mulL, DD.wc_lt, DD.wc_le, DD.wc_gt, DD.wc_ge, DD.wc_eq, DD.wc_ne, DD.wc_isN0, DD.wc_isN1, DD.wc_isN2, DD.wc_isN3, DD.wc_isN4, DD.wc_isN5, DD.wc_notN0, DD.wc_notN1, DD.wc_notN2, DD.wc_notN3, DD.wc_notN4, DD.wc_notN5, DD.wt_n, DD.wt_b, DD.wt_i, DD.wt_l, DD.wt_t, DD.wi_l, DD.wi_t, DD.wu_len, DD.wu_lenT, DD.wu_int, DD.wu_intb, DD.wu_abs, DD.wu_tup, DD.wu_tupT, DD.wu_lst, DD.wu_lstT, DD.wu_max2, DD.wu_min2, DD.wu_max1, DD.wu_min1, DD.wu_sum, DD.wu_all, DD.wu_any, DD.wu_sorted, DD.ws_l, DD.ws_t, DD.ws_s, DD.wr_l, DD.wr_t, DD.wb_mulT, DD.wst_l, DD.wst_t, DD.wz_l, DD.wz_t, DD.wn_l, DD.wv_l, DD.wv_t, DD.wc_inl, DD.wc_ninl, DD.wc_int, DD.wc_nint, DD.wCh, DD.ev_ii, DD.ev_bb, DD.ev_ss, DD.ev_nn, DD.ev_ni, DD.ev_in, DD.ev_is, DD.ev_si, DD.ev_tt, DD.ev_ll, DD.ea_nn, DD.ea_cc, DD.ea_nc, DD.ea_cn, DD.sh_n, DD.sh_b, DD.sh_i, DD.sh_s, DD.so_told, DD.so_refused, DD.so_missing, DD.so_large, DD.at0, DD.at1, DD.at2, DD.at3, DD.startE, DD.endK, List.map_cons, List.map_nil, List.length_cons, List.length_nil, List.replicate, List.cons_append, List.nil_append, List.append_nil, DD.getS, DD.setS, DD.clrS, DD.deo_c, DD.deo_n, DD.deo1_v, DD.deo1_u, DD.deo1_o, DD.tgs, DD.Sl.v.injEq, DD.Sl.own.injEq, PySem.PyData.int.injEq, PySem.PyData.bool.injEq, PySem.PyData.list.injEq, PySem.PyData.tuple.injEq, PySem.PyData.str.injEq, Option.some.injEq, exists_eq_left', exists_eq_left, exists_and_left, exists_and_right, List.zip_cons_cons, List.zip_nil_right, List.zip_nil_left, List.foldl_cons, List.foldl_nil, List.getD_cons_zero, List.getD_cons_succ, true_and, and_true, Bool.false_eq_true, Bool.true_eq_false, Bool.not_true, Bool.not_false, if_true, if_false, decide_eq_true_eq, decide_eq_false_iff_not, Bool.not_eq_true', Bool.not_eq_false', DD.imp_tt, DD.imp_ff, DD.imp_tf, DD.imp_ft, forall_const, true_implies, false_implies, implies_true, Int.reduceLT, Int.reduceLE, reduceIte, ite_true, ite_false])))
          refine ⟨b, lo, hi, m, x + y, rfl, so', m0, m1, ?_⟩
          refine head_of g.2.2 (by omega) (by omega) ?_
          simp only [List.length_cons] at hl' hlen
          (((simp only [DD.wSs, DD.wS, DD.wT, DD.wTs, DD.wE, DD.wEs, DD.wEi, DD.wIt, DD.wBnd, DD.bindT, DD.wb_add, DD.wb_sub, DD.wb_mul, DD.wb_fdiv, DD.wb_mod, DD.wb_pow, DD.wb_shl, DD.wb_shr, DD.wb_addL, DD.wb_addT, DD.wb_mulL, DD.wc_lt, DD.wc_le, DD.wc_gt, DD.wc_ge, DD.wc_eq, DD.wc_ne, DD.wc_isN0, DD.wc_isN1, DD.wc_isN2, DD.wc_isN3, DD.wc_isN4, DD.wc_isN5, DD.wc_notN0, DD.wc_notN1, DD.wc_notN2, DD.wc_notN3, DD.wc_notN4, DD.wc_notN5, DD.wt_n, DD.wt_b, DD.wt_i, DD.wt_l, DD.wt_t, DD.wi_l, DD.wi_t, DD.wu_len, DD.wu_lenT, DD.wu_int, DD.wu_intb, DD.wu_abs, DD.wu_tup, DD.wu_tupT, DD.wu_lst, DD.wu_lstT, DD.wu_max2, DD.wu_min2, DD.wu_max1, DD.wu_min1, DD.wu_sum, DD.wu_all, DD.wu_any, DD.wu_sorted, DD.ws_l, DD.ws_t, DD.ws_s, DD.wr_l, DD.wr_t, DD.wb_mulT, DD.wst_l, DD.wst_t, DD.wz_l, DD.wz_t, DD.wn_l, DD.wv_l, DD.wv_t, DD.wc_inl, DD.wc_ninl, DD.wc_int, DD.wc_nint, DD.wCh, DD.ev_ii, DD.ev_bb, DD.ev_ss, DD.ev_nn, DD.ev_ni, DD.ev_in, DD.ev_is, DD.ev_si, DD.ev_tt, DD.ev_ll, DD.ea_nn, DD.ea_cc, DD.ea_nc, DD.ea_cn, DD.sh_n, DD.sh_b, DD.sh_i, DD.sh_s, DD.so_told, DD.so_refused, DD.so_missing, DD.so_large, DD.at0, DD.at1, DD.at2, DD.at3, DD.startE, DD.endK, List.map_cons, List.map_nil, List.length_cons, List.length_nil, List.replicate, List.cons_append, List.nil_append, List.append_nil, DD.getS, DD.setS, DD.clrS, DD.deo_c, DD.deo_n, DD.deo1_v, DD.deo1_u, DD.deo1_o, DD.tgs, DD.Sl.v.injEq, DD.Sl.own.injEq, PySem.PyData.int.injEq, PySem.PyData.bool.injEq, PySem.PyData.list.injEq, PySem.PyData.tuple.injEq, PySem.PyData.str.injEq, Option.some.injEq, exists_eq_left', exists_eq_left, exists_and_left, exists_and_right, List.zip_cons_cons, List.zip_nil_right, List.zip_nil_left, List.foldl_cons, List.foldl_nil, List.getD_cons_zero, List.getD_cons_succ, true_and, and_true, Bool.false_eq_true, Bool.true_eq_false, Bool.not_true, Bool.not_false, if_true, if_false, decide_eq_true_eq, decide_eq_false_iff_not, Bool.not_eq_true', Bool.not_eq_false', DD.imp_tt, DD.imp_ff, DD.imp_tf, DD.imp_ft, forall_const, true_implies, false_implies, implies_true, Int.reduceLT, Int.reduceLE, reduceIte, ite_true, ite_false]); try simp only [g0, g1, g2, g3, γ0, γ1, γ2, γ3, γ4, γ5, γ6, γ7, γ8, γ9, γ17, γ18, γ19, γ21, γ22, γ23, γ24]; try (simp only [DD.wSs, DD.wS, DD.wT, DD.wTs, DD.wE, DD.wEs, DD.wEi, DD.wIt, DD.wBnd, DD.bindT, DD.wb_add, DD.wb_sub, DD.wb_mul, DD.wb_fdiv, DD.wb_mod, DD.wb_pow, DD.wb_shl, DD.wb_shr, DD.wb_addL, DD.wb_addT, DD.wb_mulL, DD.wc_lt, DD.wc_le, DD.wc_gt, DD.wc_ge, DD.wc_eq, DD.wc_ne, DD.wc_isN0, DD.wc_isN1, DD.wc_isN2, DD.wc_isN3, DD.wc_isN4, DD.wc_isN5, DD.wc_notN0, DD.wc_notN1, DD.wc_notN2, DD.wc_notN3, DD.wc_notN4, DD.wc_notN5, DD.wt_n, DD.wt_b, DD.wt_i, DD.wt_l, DD.wt_t, DD.wi_l, DD.wi_t, DD.wu_len, DD.wu_lenT, DD.wu_int, DD.wu_intb, DD.wu_abs, DD.wu_tup, DD.wu_tupT, DD.wu_lst, DD.wu_lstT, DD.wu_max2, DD.wu_min2, DD.wu_max1, DD.wu_min1, DD.wu_sum, DD.wu_all, DD.wu_any, DD.wu_sorted, DD.ws_l, DD.ws_t, DD.ws_s, DD.wr_l, DD.wr_t, DD.wb_mulT, DD.wst_l, DD.wst_t, DD.wz_l, DD.wz_t, DD.wn_l, DD.wv_l, DD.wv_t, DD.wc_inl, DD.wc_ninl, DD.wc_int, DD.wc_nint, DD.wCh, DD.ev_ii, DD.ev_bb, DD.ev_ss, DD.ev_nn, DD.ev_ni, DD.ev_in, DD.ev_is, DD.ev_si, DD.ev_tt, DD.ev_ll, DD.ea_nn, DD.ea_cc, DD.ea_nc, DD.ea_cn, DD.sh_n, DD.sh_b, DD.sh_i, DD.sh_s, DD.so_told, DD.so_refused, DD.so_missing, DD.so_large, DD.at0, DD.at1, DD.at2, DD.at3, DD.startE, DD.endK, List.map_cons, List.map_nil, List.length_cons, List.length_nil, List.replicate, List.cons_append, List.nil_append, List.append_nil, DD.getS, DD.setS, DD.clrS, DD.deo_c, DD.deo_n, DD.deo1_v, DD.deo1_u, DD.deo1_o, DD.tgs, DD.Sl.v.injEq, DD.Sl.own.injEq, PySem.PyData.int.injEq, PySem.PyData.bool.injEq, PySem.PyData.list.injEq, PySem.PyData.tuple.injEq, PySem.PyData.str.injEq, Option.some.injEq, exists_eq_left', exists_eq_left, exists_and_left, exists_and_right, List.zip_cons_cons, List.zip_nil_right, List.zip_nil_left, List.foldl_cons, List.foldl_nil, List.getD_cons_zero, List.getD_cons_succ, true_and, and_true, Bool.false_eq_true, Bool.true_eq_false, Bool.not_true, Bool.not_false, if_true, if_false, decide_eq_true_eq, decide_eq_false_iff_not, Bool.not_eq_true', Bool.not_eq_false', DD.imp_tt, DD.imp_ff, DD.imp_tf, DD.imp_ft, forall_const, true_implies, false_implies, implies_true, Int.reduceLT, Int.reduceLE, reduceIte, ite_true, ite_false])))
          rw [mapInt_len]
          refine ⟨okMul_l (by omega) (by omega), by omega, acc ++ [x + y - one0 b lo hi m (x + y) * b + c], xs, ys, one0 b lo hi m (x + y), x5, x6, .v (.int x), .v (.int y), .v (.int (x + y)), .v (.int (one0 b lo hi m (x + y))), rfl, by omega, rfl, fun d hd => hx d (List.mem_cons_of_mem _ hd), fun d hd => hy d (List.mem_cons_of_mem _ hd), km.1, km.2.1, ?_, by rw [List.length_append]; simp only [List.length_cons, List.length_nil]; omega, ?_⟩
          · rw [← hW, List.append_assoc]; rfl
          · rw [show iL (acc ++ [x + y - one0 b lo hi m (x + y) * b + c]) = iL acc ++ [PyData.int (x + y - one0 b lo hi m (x + y) * b + c)] by simp]
theorem draw_pick {l : List D} {n : Nat} {Q : K1} {X : XK1} (h : 0 < l.length) (hn : n < 2 ^ 60) (q : ∀ d ∈ l, Q d (n + 1)) : spNext [sttD, .int l.length] n (fun d n' => wIdx (.list l) d fun z => Q z n') X :=
  spN (by omega) hn fun r r0 r1 => wIdx_pick r0 r1 q
theorem sem17 : ∀ ds n Qd Xd, sp17 ds n Qd Xd → wSs ΓL GL bL_system (startE nL_system.length ds) n (endK Qd Xd) := by
  rintro ds n Qd Xd ⟨rfl, hn, h⟩
  unfold bL_system
  (((simp only [DD.wSs, DD.wS, DD.wT, DD.wTs, DD.wE, DD.wEs, DD.wEi, DD.wIt, DD.wBnd, DD.bindT, DD.wb_add, DD.wb_sub, DD.wb_mul, DD.wb_fdiv, DD.wb_mod, DD.wb_pow, DD.wb_shl, DD.wb_shr, DD.wb_addL, DD.wb_addT, DD.wb_mulL, DD.wc_lt, DD.wc_le, DD.wc_gt, DD.wc_ge, DD.wc_eq, DD.wc_ne, DD.wc_isN0, DD.wc_isN1, DD.wc_isN2, DD.wc_isN3, DD.wc_isN4, DD.wc_isN5, DD.wc_notN0, DD.wc_notN1, DD.wc_notN2, DD.wc_notN3, DD.wc_notN4, DD.wc_notN5, DD.wt_n, DD.wt_b, DD.wt_i, DD.wt_l, DD.wt_t, DD.wi_l, DD.wi_t, DD.wu_len, DD.wu_lenT, DD.wu_int, DD.wu_intb, DD.wu_abs, DD.wu_tup, DD.wu_tupT, DD.wu_lst, DD.wu_lstT, DD.wu_max2, DD.wu_min2, DD.wu_max1, DD.wu_min1, DD.wu_sum, DD.wu_all, DD.wu_any, DD.wu_sorted, DD.ws_l, DD.ws_t, DD.ws_s, DD.wr_l, DD.wr_t, DD.wb_mulT, DD.wst_l, DD.wst_t, DD.wz_l, DD.wz_t, DD.wn_l, DD.wv_l, DD.wv_t, DD.wc_inl, DD.wc_ninl, DD.wc_int, DD.wc_nint, DD.wCh, DD.ev_ii, DD.ev_bb, DD.ev_ss, DD.ev_nn, DD.ev_ni, DD.ev_in, DD.ev_is, DD.ev_si, DD.ev_tt, DD.ev_ll, DD.ea_nn, DD.ea_cc, DD.ea_nc, DD.ea_cn, DD.sh_n, DD.sh_b, DD.sh_i, DD.sh_s, DD.so_told, DD.so_refused, DD.so_missing, DD.so_large, DD.at0, DD.at1, DD.at2, DD.at3, DD.startE, DD.endK, List.map_cons, List.map_nil, List.length_cons, List.length_nil, List.replicate, List.cons_append, List.nil_append, List.append_nil, DD.getS, DD.setS, DD.clrS, DD.deo_c, DD.deo_n, DD.deo1_v, DD.deo1_u, DD.deo1_o, DD.tgs, DD.Sl.v.injEq, DD.Sl.own.injEq, PySem.PyData.int.injEq, PySem.PyData.bool.injEq, PySem.PyData.list.injEq, PySem.PyData.tuple.injEq, PySem.PyData.str.injEq, Option.some.injEq, exists_eq_left', exists_eq_left, exists_and_left, exists_and_right, List.zip_cons_cons, List.zip_nil_right, List.zip_nil_left, List.foldl_cons, List.foldl_nil, List.getD_cons_zero, List.getD_cons_succ, true_and, and_true, Bool.false_eq_true, Bool.true_eq_false, Bool.not_true, Bool.not_false, if_true, if_false, decide_eq_true_eq, decide_eq_false_iff_not, Bool.not_eq_true', Bool.not_eq_false', DD.imp_tt, DD.imp_ff, DD.imp_tf, DD.imp_ft, forall_const, true_implies, false_implies, implies_true, Int.reduceLT, Int.reduceLE, reduceIte, ite_true, ite_false]); try simp only [g0, g1, g2, g3, γ0, γ1, γ2, γ3, γ4, γ5, γ6, γ7, γ8, γ9, γ17, γ18, γ19, γ21, γ22, γ23, γ24]; try (simp only [DD.wSs, DD.wS, DD.wT, DD.wTs, DD.wE, DD.wEs, DD.wEi, DD.wIt, DD.wBnd, DD.bindT, DD.wb_add, DD.wb_sub, DD.wb_mul, DD.wb_fdiv, DD.wb_mod, DD.wb_pow, DD.wb_shl, DD.wb_shr, DD.wb_addL, DD.wb_addT, DD.wb_mulL, DD.wc_lt, DD.wc_le, DD.wc_gt, DD.wc_ge, DD.wc_eq, DD.wc_ne, DD.wc_isN0, DD.wc_isN1, DD.wc_isN2, DD.wc_isN3, DD.wc_isN4, DD.wc_isN5, DD.wc_notN0, DD.wc_notN1, DD.wc_notN2, DD.wc_notN3, DD.wc_notN4, DD.wc_notN5, DD.wt_n, DD.wt_b, DD.wt_i, DD.wt_l, DD.wt_t, DD.wi_l, DD.wi_t, DD.wu_len, DD.wu_lenT, DD.wu_int, DD.wu_intb, DD.wu_abs, DD.wu_tup, DD.wu_tupT, DD.wu_lst, DD.wu_lstT, DD.wu_max2, DD.wu_min2, DD.wu_max1, DD.wu_min1, DD.wu_sum, DD.wu_all, DD.wu_any, DD.wu_sorted, DD.ws_l, DD.ws_t, DD.ws_s, DD.wr_l, DD.wr_t, DD.wb_mulT, DD.wst_l, DD.wst_t, DD.wz_l, DD.wz_t, DD.wn_l, DD.wv_l, DD.wv_t, DD.wc_inl, DD.wc_ninl, DD.wc_int, DD.wc_nint, DD.wCh, DD.ev_ii, DD.ev_bb, DD.ev_ss, DD.ev_nn, DD.ev_ni, DD.ev_in, DD.ev_is, DD.ev_si, DD.ev_tt, DD.ev_ll, DD.ea_nn, DD.ea_cc, DD.ea_nc, DD.ea_cn, DD.sh_n, DD.sh_b, DD.sh_i, DD.sh_s, DD.so_told, DD.so_refused, DD.so_missing, DD.so_large, DD.at0, DD.at1, DD.at2, DD.at3, DD.startE, DD.endK, List.map_cons, List.map_nil, List.length_cons, List.length_nil, List.replicate, List.cons_append, List.nil_append, List.append_nil, DD.getS, DD.setS, DD.clrS, DD.deo_c, DD.deo_n, DD.deo1_v, DD.deo1_u, DD.deo1_o, DD.tgs, DD.Sl.v.injEq, DD.Sl.own.injEq, PySem.PyData.int.injEq, PySem.PyData.bool.injEq, PySem.PyData.list.injEq, PySem.PyData.tuple.injEq, PySem.PyData.str.injEq, Option.some.injEq, exists_eq_left', exists_eq_left, exists_and_left, exists_and_right, List.zip_cons_cons, List.zip_nil_right, List.zip_nil_left, List.foldl_cons, List.foldl_nil, List.getD_cons_zero, List.getD_cons_succ, true_and, and_true, Bool.false_eq_true, Bool.true_eq_false, Bool.not_true, Bool.not_false, if_true, if_false, decide_eq_true_eq, decide_eq_false_iff_not, Bool.not_eq_true', Bool.not_eq_false', DD.imp_tt, DD.imp_ff, DD.imp_tf, DD.imp_ft, forall_const, true_implies, false_implies, implies_true, Int.reduceLT, Int.reduceLE, reduceIte, ite_true, ite_false])))
  refine spN (by decide) (by omega) fun r r0 r1 => wIdx_pick r0 (by simpa using r1) fun w hw => ?_
  obtain ⟨w, rfl, w0, w1⟩ : ∃ i : Int, w = .int i ∧ 0 < i ∧ i ≤ 11 := by
    simp at hw; rcases hw with rfl | rfl <;> exact ⟨_, rfl, by decide, by decide⟩
  refine spN w0 (by omega) fun b0 b00 b01 => ?_
  try (((simp only [DD.wSs, DD.wS, DD.wT, DD.wTs, DD.wE, DD.wEs, DD.wEi, DD.wIt, DD.wBnd, DD.bindT, DD.wb_add, DD.wb_sub, DD.wb_mul, DD.wb_fdiv, DD.wb_mod, DD.wb_pow, DD.wb_shl, DD.wb_shr, DD.wb_addL, DD.wb_addT, DD.wb_mulL, DD.wc_lt, DD.wc_le, DD.wc_gt, DD.wc_ge, DD.wc_eq, DD.wc_ne, DD.wc_isN0, DD.wc_isN1, DD.wc_isN2, DD.wc_isN3, DD.wc_isN4, DD.wc_isN5, DD.wc_notN0, DD.wc_notN1, DD.wc_notN2, DD.wc_notN3, DD.wc_notN4, DD.wc_notN5, DD.wt_n, DD.wt_b, DD.wt_i, DD.wt_l, DD.wt_t, DD.wi_l, DD.wi_t, DD.wu_len, DD.wu_lenT, DD.wu_int, DD.wu_intb, DD.wu_abs, DD.wu_tup, DD.wu_tupT, DD.wu_lst, DD.wu_lstT, DD.wu_max2, DD.wu_min2, DD.wu_max1, DD.wu_min1, DD.wu_sum, DD.wu_all, DD.wu_any, DD.wu_sorted, DD.ws_l, DD.ws_t, DD.ws_s, DD.wr_l, DD.wr_t, DD.wb_mulT, DD.wst_l, DD.wst_t, DD.wz_l, DD.wz_t, DD.wn_l, DD.wv_l, DD.wv_t, DD.wc_inl, DD.wc_ninl, DD.wc_int, DD.wc_nint, DD.wCh, DD.ev_ii, DD.ev_bb, DD.ev_ss, DD.ev_nn, DD.ev_ni, DD.ev_in, DD.ev_is, DD.ev_si, DD.ev_tt, DD.ev_ll, DD.ea_nn, DD.ea_cc, DD.ea_nc, DD.ea_cn, DD.sh_n, DD.sh_b, DD.sh_i, DD.sh_s, DD.so_told, DD.so_refused, DD.so_missing, DD.so_large, DD.at0, DD.at1, DD.at2, DD.at3, DD.startE, DD.endK, List.map_cons, List.map_nil, List.length_cons, List.length_nil, List.replicate, List.cons_append, List.nil_append, List.append_nil, DD.getS, DD.setS, DD.clrS, DD.deo_c, DD.deo_n, DD.deo1_v, DD.deo1_u, DD.deo1_o, DD.tgs, DD.Sl.v.injEq, DD.Sl.own.injEq, PySem.PyData.int.injEq, PySem.PyData.bool.injEq, PySem.PyData.list.injEq, PySem.PyData.tuple.injEq, PySem.PyData.str.injEq, Option.some.injEq, exists_eq_left', exists_eq_left, exists_and_left, exists_and_right, List.zip_cons_cons, List.zip_nil_right, List.zip_nil_left, List.foldl_cons, List.foldl_nil, List.getD_cons_zero, List.getD_cons_succ, true_and, and_true, Bool.false_eq_true, Bool.true_eq_false, Bool.not_true, Bool.not_false, if_true, if_false, decide_eq_true_eq, decide_eq_false_iff_not, Bool.not_eq_true', Bool.not_eq_false', DD.imp_tt, DD.imp_ff, DD.imp_tf, DD.imp_ft, forall_const, true_implies, false_implies, implies_true, Int.reduceLT, Int.reduceLE, reduceIte, ite_true, ite_false]); try simp only [g0, g1, g2, g3, γ0, γ1, γ2, γ3, γ4, γ5, γ6, γ7, γ8, γ9, γ17, γ18, γ19, γ21, γ22, γ23, γ24]; try (simp only [DD.wSs, DD.wS, DD.wT, DD.wTs, DD.wE, DD.wEs, DD.wEi, DD.wIt, DD.wBnd, DD.bindT, DD.wb_add, DD.wb_sub, DD.wb_mul, DD.wb_fdiv, DD.wb_mod, DD.wb_pow, DD.wb_shl, DD.wb_shr, DD.wb_addL, DD.wb_addT, DD.wb_mulL, DD.wc_lt, DD.wc_le, DD.wc_gt, DD.wc_ge, DD.wc_eq, DD.wc_ne, DD.wc_isN0, DD.wc_isN1, DD.wc_isN2, DD.wc_isN3, DD.wc_isN4, DD.wc_isN5, DD.wc_notN0, DD.wc_notN1, DD.wc_notN2, DD.wc_notN3, DD.wc_notN4, DD.wc_notN5, DD.wt_n, DD.wt_b, DD.wt_i, DD.wt_l, DD.wt_t, DD.wi_l, DD.wi_t, DD.wu_len, DD.wu_lenT, DD.wu_int, DD.wu_intb, DD.wu_abs, DD.wu_tup, DD.wu_tupT, DD.wu_lst, DD.wu_lstT, DD.wu_max2, DD.wu_min2, DD.wu_max1, DD.wu_min1, DD.wu_sum, DD.wu_all, DD.wu_any, DD.wu_sorted, DD.ws_l, DD.ws_t, DD.ws_s, DD.wr_l, DD.wr_t, DD.wb_mulT, DD.wst_l, DD.wst_t, DD.wz_l, DD.wz_t, DD.wn_l, DD.wv_l, DD.wv_t, DD.wc_inl, DD.wc_ninl, DD.wc_int, DD.wc_nint, DD.wCh, DD.ev_ii, DD.ev_bb, DD.ev_ss, DD.ev_nn, DD.ev_ni, DD.ev_in, DD.ev_is, DD.ev_si, DD.ev_tt, DD.ev_ll, DD.ea_nn, DD.ea_cc, DD.ea_nc, DD.ea_cn, DD.sh_n, DD.sh_b, DD.sh_i, DD.sh_s, DD.so_told, DD.so_refused, DD.so_missing, DD.so_large, DD.at0, DD.at1, DD.at2, DD.at3, DD.startE, DD.endK, List.map_cons, List.map_nil, List.length_cons, List.length_nil, List.replicate, List.cons_append, List.nil_append, List.append_nil, DD.getS, DD.setS, DD.clrS, DD.deo_c, DD.deo_n, DD.deo1_v, DD.deo1_u, DD.deo1_o, DD.tgs, DD.Sl.v.injEq, DD.Sl.own.injEq, PySem.PyData.int.injEq, PySem.PyData.bool.injEq, PySem.PyData.list.injEq, PySem.PyData.tuple.injEq, PySem.PyData.str.injEq, Option.some.injEq, exists_eq_left', exists_eq_left, exists_and_left, exists_and_right, List.zip_cons_cons, List.zip_nil_right, List.zip_nil_left, List.foldl_cons, List.foldl_nil, List.getD_cons_zero, List.getD_cons_succ, true_and, and_true, Bool.false_eq_true, Bool.true_eq_false, Bool.not_true, Bool.not_false, if_true, if_false, decide_eq_true_eq, decide_eq_false_iff_not, Bool.not_eq_true', Bool.not_eq_false', DD.imp_tt, DD.imp_ff, DD.imp_tf, DD.imp_ft, forall_const, true_implies, false_implies, implies_true, Int.reduceLT, Int.reduceLE, reduceIte, ite_true, ite_false])))
  refine spN (by decide) (by omega) fun way y0 y1 => ?_
  try (((simp only [DD.wSs, DD.wS, DD.wT, DD.wTs, DD.wE, DD.wEs, DD.wEi, DD.wIt, DD.wBnd, DD.bindT, DD.wb_add, DD.wb_sub, DD.wb_mul, DD.wb_fdiv, DD.wb_mod, DD.wb_pow, DD.wb_shl, DD.wb_shr, DD.wb_addL, DD.wb_addT, DD.wb_mulL, DD.wc_lt, DD.wc_le, DD.wc_gt, DD.wc_ge, DD.wc_eq, DD.wc_ne, DD.wc_isN0, DD.wc_isN1, DD.wc_isN2, DD.wc_isN3, DD.wc_isN4, DD.wc_isN5, DD.wc_notN0, DD.wc_notN1, DD.wc_notN2, DD.wc_notN3, DD.wc_notN4, DD.wc_notN5, DD.wt_n, DD.wt_b, DD.wt_i, DD.wt_l, DD.wt_t, DD.wi_l, DD.wi_t, DD.wu_len, DD.wu_lenT, DD.wu_int, DD.wu_intb, DD.wu_abs, DD.wu_tup, DD.wu_tupT, DD.wu_lst, DD.wu_lstT, DD.wu_max2, DD.wu_min2, DD.wu_max1, DD.wu_min1, DD.wu_sum, DD.wu_all, DD.wu_any, DD.wu_sorted, DD.ws_l, DD.ws_t, DD.ws_s, DD.wr_l, DD.wr_t, DD.wb_mulT, DD.wst_l, DD.wst_t, DD.wz_l, DD.wz_t, DD.wn_l, DD.wv_l, DD.wv_t, DD.wc_inl, DD.wc_ninl, DD.wc_int, DD.wc_nint, DD.wCh, DD.ev_ii, DD.ev_bb, DD.ev_ss, DD.ev_nn, DD.ev_ni, DD.ev_in, DD.ev_is, DD.ev_si, DD.ev_tt, DD.ev_ll, DD.ea_nn, DD.ea_cc, DD.ea_nc, DD.ea_cn, DD.sh_n, DD.sh_b, DD.sh_i, DD.sh_s, DD.so_told, DD.so_refused, DD.so_missing, DD.so_large, DD.at0, DD.at1, DD.at2, DD.at3, DD.startE, DD.endK, List.map_cons, List.map_nil, List.length_cons, List.length_nil, List.replicate, List.cons_append, List.nil_append, List.append_nil, DD.getS, DD.setS, DD.clrS, DD.deo_c, DD.deo_n, DD.deo1_v, DD.deo1_u, DD.deo1_o, DD.tgs, DD.Sl.v.injEq, DD.Sl.own.injEq, PySem.PyData.int.injEq, PySem.PyData.bool.injEq, PySem.PyData.list.injEq, PySem.PyData.tuple.injEq, PySem.PyData.str.injEq, Option.some.injEq, exists_eq_left', exists_eq_left, exists_and_left, exists_and_right, List.zip_cons_cons, List.zip_nil_right, List.zip_nil_left, List.foldl_cons, List.foldl_nil, List.getD_cons_zero, List.getD_cons_succ, true_and, and_true, Bool.false_eq_true, Bool.true_eq_false, Bool.not_true, Bool.not_false, if_true, if_false, decide_eq_true_eq, decide_eq_false_iff_not, Bool.not_eq_true', Bool.not_eq_false', DD.imp_tt, DD.imp_ff, DD.imp_tf, DD.imp_ft, forall_const, true_implies, false_implies, implies_true, Int.reduceLT, Int.reduceLE, reduceIte, ite_true, ite_false]); try simp only [g0, g1, g2, g3, γ0, γ1, γ2, γ3, γ4, γ5, γ6, γ7, γ8, γ9, γ17, γ18, γ19, γ21, γ22, γ23, γ24]; try (simp only [DD.wSs, DD.wS, DD.wT, DD.wTs, DD.wE, DD.wEs, DD.wEi, DD.wIt, DD.wBnd, DD.bindT, DD.wb_add, DD.wb_sub, DD.wb_mul, DD.wb_fdiv, DD.wb_mod, DD.wb_pow, DD.wb_shl, DD.wb_shr, DD.wb_addL, DD.wb_addT, DD.wb_mulL, DD.wc_lt, DD.wc_le, DD.wc_gt, DD.wc_ge, DD.wc_eq, DD.wc_ne, DD.wc_isN0, DD.wc_isN1, DD.wc_isN2, DD.wc_isN3, DD.wc_isN4, DD.wc_isN5, DD.wc_notN0, DD.wc_notN1, DD.wc_notN2, DD.wc_notN3, DD.wc_notN4, DD.wc_notN5, DD.wt_n, DD.wt_b, DD.wt_i, DD.wt_l, DD.wt_t, DD.wi_l, DD.wi_t, DD.wu_len, DD.wu_lenT, DD.wu_int, DD.wu_intb, DD.wu_abs, DD.wu_tup, DD.wu_tupT, DD.wu_lst, DD.wu_lstT, DD.wu_max2, DD.wu_min2, DD.wu_max1, DD.wu_min1, DD.wu_sum, DD.wu_all, DD.wu_any, DD.wu_sorted, DD.ws_l, DD.ws_t, DD.ws_s, DD.wr_l, DD.wr_t, DD.wb_mulT, DD.wst_l, DD.wst_t, DD.wz_l, DD.wz_t, DD.wn_l, DD.wv_l, DD.wv_t, DD.wc_inl, DD.wc_ninl, DD.wc_int, DD.wc_nint, DD.wCh, DD.ev_ii, DD.ev_bb, DD.ev_ss, DD.ev_nn, DD.ev_ni, DD.ev_in, DD.ev_is, DD.ev_si, DD.ev_tt, DD.ev_ll, DD.ea_nn, DD.ea_cc, DD.ea_nc, DD.ea_cn, DD.sh_n, DD.sh_b, DD.sh_i, DD.sh_s, DD.so_told, DD.so_refused, DD.so_missing, DD.so_large, DD.at0, DD.at1, DD.at2, DD.at3, DD.startE, DD.endK, List.map_cons, List.map_nil, List.length_cons, List.length_nil, List.replicate, List.cons_append, List.nil_append, List.append_nil, DD.getS, DD.setS, DD.clrS, DD.deo_c, DD.deo_n, DD.deo1_v, DD.deo1_u, DD.deo1_o, DD.tgs, DD.Sl.v.injEq, DD.Sl.own.injEq, PySem.PyData.int.injEq, PySem.PyData.bool.injEq, PySem.PyData.list.injEq, PySem.PyData.tuple.injEq, PySem.PyData.str.injEq, Option.some.injEq, exists_eq_left', exists_eq_left, exists_and_left, exists_and_right, List.zip_cons_cons, List.zip_nil_right, List.zip_nil_left, List.foldl_cons, List.foldl_nil, List.getD_cons_zero, List.getD_cons_succ, true_and, and_true, Bool.false_eq_true, Bool.true_eq_false, Bool.not_true, Bool.not_false, if_true, if_false, decide_eq_true_eq, decide_eq_false_iff_not, Bool.not_eq_true', Bool.not_eq_false', DD.imp_tt, DD.imp_ff, DD.imp_tf, DD.imp_ft, forall_const, true_implies, false_implies, implies_true, Int.reduceLT, Int.reduceLE, reduceIte, ite_true, ite_false])))
  refine spN (by decide) (by omega) fun r r0 r1 => wIdx_pick r0 (by simpa using r1) fun u hu => ?_
  obtain ⟨u, rfl, u0, u1⟩ : ∃ i : Int, u = .int i ∧ 0 < i ∧ i ≤ 12 := by
    simp at hu; rcases hu with rfl | rfl <;> exact ⟨_, rfl, by decide, by decide⟩
  refine spN u0 (by omega) fun lo l0 l1 => ?_
  try (((simp only [DD.wSs, DD.wS, DD.wT, DD.wTs, DD.wE, DD.wEs, DD.wEi, DD.wIt, DD.wBnd, DD.bindT, DD.wb_add, DD.wb_sub, DD.wb_mul, DD.wb_fdiv, DD.wb_mod, DD.wb_pow, DD.wb_shl, DD.wb_shr, DD.wb_addL, DD.wb_addT, DD.wb_mulL, DD.wc_lt, DD.wc_le, DD.wc_gt, DD.wc_ge, DD.wc_eq, DD.wc_ne, DD.wc_isN0, DD.wc_isN1, DD.wc_isN2, DD.wc_isN3, DD.wc_isN4, DD.wc_isN5, DD.wc_notN0, DD.wc_notN1, DD.wc_notN2, DD.wc_notN3, DD.wc_notN4, DD.wc_notN5, DD.wt_n, DD.wt_b, DD.wt_i, DD.wt_l, DD.wt_t, DD.wi_l, DD.wi_t, DD.wu_len, DD.wu_lenT, DD.wu_int, DD.wu_intb, DD.wu_abs, DD.wu_tup, DD.wu_tupT, DD.wu_lst, DD.wu_lstT, DD.wu_max2, DD.wu_min2, DD.wu_max1, DD.wu_min1, DD.wu_sum, DD.wu_all, DD.wu_any, DD.wu_sorted, DD.ws_l, DD.ws_t, DD.ws_s, DD.wr_l, DD.wr_t, DD.wb_mulT, DD.wst_l, DD.wst_t, DD.wz_l, DD.wz_t, DD.wn_l, DD.wv_l, DD.wv_t, DD.wc_inl, DD.wc_ninl, DD.wc_int, DD.wc_nint, DD.wCh, DD.ev_ii, DD.ev_bb, DD.ev_ss, DD.ev_nn, DD.ev_ni, DD.ev_in, DD.ev_is, DD.ev_si, DD.ev_tt, DD.ev_ll, DD.ea_nn, DD.ea_cc, DD.ea_nc, DD.ea_cn, DD.sh_n, DD.sh_b, DD.sh_i, DD.sh_s, DD.so_told, DD.so_refused, DD.so_missing, DD.so_large, DD.at0, DD.at1, DD.at2, DD.at3, DD.startE, DD.endK, List.map_cons, List.map_nil, List.length_cons, List.length_nil, List.replicate, List.cons_append, List.nil_append, List.append_nil, DD.getS, DD.setS, DD.clrS, DD.deo_c, DD.deo_n, DD.deo1_v, DD.deo1_u, DD.deo1_o, DD.tgs, DD.Sl.v.injEq, DD.Sl.own.injEq, PySem.PyData.int.injEq, PySem.PyData.bool.injEq, PySem.PyData.list.injEq, PySem.PyData.tuple.injEq, PySem.PyData.str.injEq, Option.some.injEq, exists_eq_left', exists_eq_left, exists_and_left, exists_and_right, List.zip_cons_cons, List.zip_nil_right, List.zip_nil_left, List.foldl_cons, List.foldl_nil, List.getD_cons_zero, List.getD_cons_succ, true_and, and_true, Bool.false_eq_true, Bool.true_eq_false, Bool.not_true, Bool.not_false, if_true, if_false, decide_eq_true_eq, decide_eq_false_iff_not, Bool.not_eq_true', Bool.not_eq_false', DD.imp_tt, DD.imp_ff, DD.imp_tf, DD.imp_ft, forall_const, true_implies, false_implies, implies_true, Int.reduceLT, Int.reduceLE, reduceIte, ite_true, ite_false]); try simp only [g0, g1, g2, g3, γ0, γ1, γ2, γ3, γ4, γ5, γ6, γ7, γ8, γ9, γ17, γ18, γ19, γ21, γ22, γ23, γ24]; try (simp only [DD.wSs, DD.wS, DD.wT, DD.wTs, DD.wE, DD.wEs, DD.wEi, DD.wIt, DD.wBnd, DD.bindT, DD.wb_add, DD.wb_sub, DD.wb_mul, DD.wb_fdiv, DD.wb_mod, DD.wb_pow, DD.wb_shl, DD.wb_shr, DD.wb_addL, DD.wb_addT, DD.wb_mulL, DD.wc_lt, DD.wc_le, DD.wc_gt, DD.wc_ge, DD.wc_eq, DD.wc_ne, DD.wc_isN0, DD.wc_isN1, DD.wc_isN2, DD.wc_isN3, DD.wc_isN4, DD.wc_isN5, DD.wc_notN0, DD.wc_notN1, DD.wc_notN2, DD.wc_notN3, DD.wc_notN4, DD.wc_notN5, DD.wt_n, DD.wt_b, DD.wt_i, DD.wt_l, DD.wt_t, DD.wi_l, DD.wi_t, DD.wu_len, DD.wu_lenT, DD.wu_int, DD.wu_intb, DD.wu_abs, DD.wu_tup, DD.wu_tupT, DD.wu_lst, DD.wu_lstT, DD.wu_max2, DD.wu_min2, DD.wu_max1, DD.wu_min1, DD.wu_sum, DD.wu_all, DD.wu_any, DD.wu_sorted, DD.ws_l, DD.ws_t, DD.ws_s, DD.wr_l, DD.wr_t, DD.wb_mulT, DD.wst_l, DD.wst_t, DD.wz_l, DD.wz_t, DD.wn_l, DD.wv_l, DD.wv_t, DD.wc_inl, DD.wc_ninl, DD.wc_int, DD.wc_nint, DD.wCh, DD.ev_ii, DD.ev_bb, DD.ev_ss, DD.ev_nn, DD.ev_ni, DD.ev_in, DD.ev_is, DD.ev_si, DD.ev_tt, DD.ev_ll, DD.ea_nn, DD.ea_cc, DD.ea_nc, DD.ea_cn, DD.sh_n, DD.sh_b, DD.sh_i, DD.sh_s, DD.so_told, DD.so_refused, DD.so_missing, DD.so_large, DD.at0, DD.at1, DD.at2, DD.at3, DD.startE, DD.endK, List.map_cons, List.map_nil, List.length_cons, List.length_nil, List.replicate, List.cons_append, List.nil_append, List.append_nil, DD.getS, DD.setS, DD.clrS, DD.deo_c, DD.deo_n, DD.deo1_v, DD.deo1_u, DD.deo1_o, DD.tgs, DD.Sl.v.injEq, DD.Sl.own.injEq, PySem.PyData.int.injEq, PySem.PyData.bool.injEq, PySem.PyData.list.injEq, PySem.PyData.tuple.injEq, PySem.PyData.str.injEq, Option.some.injEq, exists_eq_left', exists_eq_left, exists_and_left, exists_and_right, List.zip_cons_cons, List.zip_nil_right, List.zip_nil_left, List.foldl_cons, List.foldl_nil, List.getD_cons_zero, List.getD_cons_succ, true_and, and_true, Bool.false_eq_true, Bool.true_eq_false, Bool.not_true, Bool.not_false, if_true, if_false, decide_eq_true_eq, decide_eq_false_iff_not, Bool.not_eq_true', Bool.not_eq_false', DD.imp_tt, DD.imp_ff, DD.imp_tf, DD.imp_ft, forall_const, true_implies, false_implies, implies_true, Int.reduceLT, Int.reduceLE, reduceIte, ite_true, ite_false])))
  refine spN (by decide) (by omega) fun r r0 r1 => wIdx_pick r0 (by simpa using r1) fun v hv => ?_
  obtain ⟨v, rfl, v0, v1⟩ : ∃ i : Int, v = .int i ∧ 0 < i ∧ i ≤ 13 := by
    simp at hv; rcases hv with rfl | rfl <;> exact ⟨_, rfl, by decide, by decide⟩
  refine spN v0 (by omega) fun hi h0 h1 => ?_
  try (((simp only [DD.wSs, DD.wS, DD.wT, DD.wTs, DD.wE, DD.wEs, DD.wEi, DD.wIt, DD.wBnd, DD.bindT, DD.wb_add, DD.wb_sub, DD.wb_mul, DD.wb_fdiv, DD.wb_mod, DD.wb_pow, DD.wb_shl, DD.wb_shr, DD.wb_addL, DD.wb_addT, DD.wb_mulL, DD.wc_lt, DD.wc_le, DD.wc_gt, DD.wc_ge, DD.wc_eq, DD.wc_ne, DD.wc_isN0, DD.wc_isN1, DD.wc_isN2, DD.wc_isN3, DD.wc_isN4, DD.wc_isN5, DD.wc_notN0, DD.wc_notN1, DD.wc_notN2, DD.wc_notN3, DD.wc_notN4, DD.wc_notN5, DD.wt_n, DD.wt_b, DD.wt_i, DD.wt_l, DD.wt_t, DD.wi_l, DD.wi_t, DD.wu_len, DD.wu_lenT, DD.wu_int, DD.wu_intb, DD.wu_abs, DD.wu_tup, DD.wu_tupT, DD.wu_lst, DD.wu_lstT, DD.wu_max2, DD.wu_min2, DD.wu_max1, DD.wu_min1, DD.wu_sum, DD.wu_all, DD.wu_any, DD.wu_sorted, DD.ws_l, DD.ws_t, DD.ws_s, DD.wr_l, DD.wr_t, DD.wb_mulT, DD.wst_l, DD.wst_t, DD.wz_l, DD.wz_t, DD.wn_l, DD.wv_l, DD.wv_t, DD.wc_inl, DD.wc_ninl, DD.wc_int, DD.wc_nint, DD.wCh, DD.ev_ii, DD.ev_bb, DD.ev_ss, DD.ev_nn, DD.ev_ni, DD.ev_in, DD.ev_is, DD.ev_si, DD.ev_tt, DD.ev_ll, DD.ea_nn, DD.ea_cc, DD.ea_nc, DD.ea_cn, DD.sh_n, DD.sh_b, DD.sh_i, DD.sh_s, DD.so_told, DD.so_refused, DD.so_missing, DD.so_large, DD.at0, DD.at1, DD.at2, DD.at3, DD.startE, DD.endK, List.map_cons, List.map_nil, List.length_cons, List.length_nil, List.replicate, List.cons_append, List.nil_append, List.append_nil, DD.getS, DD.setS, DD.clrS, DD.deo_c, DD.deo_n, DD.deo1_v, DD.deo1_u, DD.deo1_o, DD.tgs, DD.Sl.v.injEq, DD.Sl.own.injEq, PySem.PyData.int.injEq, PySem.PyData.bool.injEq, PySem.PyData.list.injEq, PySem.PyData.tuple.injEq, PySem.PyData.str.injEq, Option.some.injEq, exists_eq_left', exists_eq_left, exists_and_left, exists_and_right, List.zip_cons_cons, List.zip_nil_right, List.zip_nil_left, List.foldl_cons, List.foldl_nil, List.getD_cons_zero, List.getD_cons_succ, true_and, and_true, Bool.false_eq_true, Bool.true_eq_false, Bool.not_true, Bool.not_false, if_true, if_false, decide_eq_true_eq, decide_eq_false_iff_not, Bool.not_eq_true', Bool.not_eq_false', DD.imp_tt, DD.imp_ff, DD.imp_tf, DD.imp_ft, forall_const, true_implies, false_implies, implies_true, Int.reduceLT, Int.reduceLE, reduceIte, ite_true, ite_false]); try simp only [g0, g1, g2, g3, γ0, γ1, γ2, γ3, γ4, γ5, γ6, γ7, γ8, γ9, γ17, γ18, γ19, γ21, γ22, γ23, γ24]; try (simp only [DD.wSs, DD.wS, DD.wT, DD.wTs, DD.wE, DD.wEs, DD.wEi, DD.wIt, DD.wBnd, DD.bindT, DD.wb_add, DD.wb_sub, DD.wb_mul, DD.wb_fdiv, DD.wb_mod, DD.wb_pow, DD.wb_shl, DD.wb_shr, DD.wb_addL, DD.wb_addT, DD.wb_mulL, DD.wc_lt, DD.wc_le, DD.wc_gt, DD.wc_ge, DD.wc_eq, DD.wc_ne, DD.wc_isN0, DD.wc_isN1, DD.wc_isN2, DD.wc_isN3, DD.wc_isN4, DD.wc_isN5, DD.wc_notN0, DD.wc_notN1, DD.wc_notN2, DD.wc_notN3, DD.wc_notN4, DD.wc_notN5, DD.wt_n, DD.wt_b, DD.wt_i, DD.wt_l, DD.wt_t, DD.wi_l, DD.wi_t, DD.wu_len, DD.wu_lenT, DD.wu_int, DD.wu_intb, DD.wu_abs, DD.wu_tup, DD.wu_tupT, DD.wu_lst, DD.wu_lstT, DD.wu_max2, DD.wu_min2, DD.wu_max1, DD.wu_min1, DD.wu_sum, DD.wu_all, DD.wu_any, DD.wu_sorted, DD.ws_l, DD.ws_t, DD.ws_s, DD.wr_l, DD.wr_t, DD.wb_mulT, DD.wst_l, DD.wst_t, DD.wz_l, DD.wz_t, DD.wn_l, DD.wv_l, DD.wv_t, DD.wc_inl, DD.wc_ninl, DD.wc_int, DD.wc_nint, DD.wCh, DD.ev_ii, DD.ev_bb, DD.ev_ss, DD.ev_nn, DD.ev_ni, DD.ev_in, DD.ev_is, DD.ev_si, DD.ev_tt, DD.ev_ll, DD.ea_nn, DD.ea_cc, DD.ea_nc, DD.ea_cn, DD.sh_n, DD.sh_b, DD.sh_i, DD.sh_s, DD.so_told, DD.so_refused, DD.so_missing, DD.so_large, DD.at0, DD.at1, DD.at2, DD.at3, DD.startE, DD.endK, List.map_cons, List.map_nil, List.length_cons, List.length_nil, List.replicate, List.cons_append, List.nil_append, List.append_nil, DD.getS, DD.setS, DD.clrS, DD.deo_c, DD.deo_n, DD.deo1_v, DD.deo1_u, DD.deo1_o, DD.tgs, DD.Sl.v.injEq, DD.Sl.own.injEq, PySem.PyData.int.injEq, PySem.PyData.bool.injEq, PySem.PyData.list.injEq, PySem.PyData.tuple.injEq, PySem.PyData.str.injEq, Option.some.injEq, exists_eq_left', exists_eq_left, exists_and_left, exists_and_right, List.zip_cons_cons, List.zip_nil_right, List.zip_nil_left, List.foldl_cons, List.foldl_nil, List.getD_cons_zero, List.getD_cons_succ, true_and, and_true, Bool.false_eq_true, Bool.true_eq_false, Bool.not_true, Bool.not_false, if_true, if_false, decide_eq_true_eq, decide_eq_false_iff_not, Bool.not_eq_true', Bool.not_eq_false', DD.imp_tt, DD.imp_ff, DD.imp_tf, DD.imp_ft, forall_const, true_implies, false_implies, implies_true, Int.reduceLT, Int.reduceLE, reduceIte, ite_true, ite_false])))
  have od : okDiv 2 := .inl ⟨by decide, by decide⟩
  have half : ∀ k : Int, 0 ≤ k → k < 3 → 1 ≤ (2 + b0).fdiv 2 + k ∧ (2 + b0).fdiv 2 + k ≤ 8 := fun k k0 k1 => by
    rw [Int.fdiv_eq_ediv_of_nonneg _ (by decide)]; omega
  have fin : ∀ (lo hi : Int) (n' : Nat), -20 ≤ lo → lo ≤ 0 → 0 ≤ hi → hi ≤ 20 → n ≤ n' → n' ≤ n + 10 →
      ((lo = 0 → (hi = 0 → Qd (.tuple [.int (2 + b0), .int lo, .int 1]) n') ∧ (¬ hi = 0 → Qd (.tuple [.int (2 + b0), .int lo, .int hi]) n')) ∧ (¬ lo = 0 → Qd (.tuple [.int (2 + b0), .int lo, .int hi]) n')) := fun lo hi n' a b c d e f =>
    ⟨fun z => ⟨fun y => h _ _ _ _ ⟨by omega, by omega, by omega, by omega, by omega, by omega, by omega⟩ e f, fun y => h _ _ _ _ ⟨by omega, by omega, by omega, by omega, by omega, by omega, by omega⟩ e f⟩, fun z => h _ _ _ _ ⟨by omega, by omega, by omega, by omega, by omega, by omega, by omega⟩ e f⟩
  refine ⟨fun z => ⟨fun y => by omega, fun y => ⟨(fin 0 (2 + b0 - 1) (n + 1 + 1 + 1 + 1 + 1 + 1 + 1) (by omega) (by omega) (by omega) (by omega) (by omega) (by omega)).1 rfl, fun z => absurd trivial z⟩⟩, fun z => ⟨fun y => ⟨od, ?_⟩, fun y => fin _ _ _ (by omega) (by omega) (by omega) (by omega) (by omega) (by omega)⟩⟩
  refine spN (by decide) (by omega) fun k k0 k1 => ?_
  try (((simp only [DD.wSs, DD.wS, DD.wT, DD.wTs, DD.wE, DD.wEs, DD.wEi, DD.wIt, DD.wBnd, DD.bindT, DD.wb_add, DD.wb_sub, DD.wb_mul, DD.wb_fdiv, DD.wb_mod, DD.wb_pow, DD.wb_shl, DD.wb_shr, DD.wb_addL, DD.wb_addT, DD.wb_mulL, DD.wc_lt, DD.wc_le, DD.wc_gt, DD.wc_ge, DD.wc_eq, DD.wc_ne, DD.wc_isN0, DD.wc_isN1, DD.wc_isN2, DD.wc_isN3, DD.wc_isN4, DD.wc_isN5, DD.wc_notN0, DD.wc_notN1, DD.wc_notN2, DD.wc_notN3, DD.wc_notN4, DD.wc_notN5, DD.wt_n, DD.wt_b, DD.wt_i, DD.wt_l, DD.wt_t, DD.wi_l, DD.wi_t, DD.wu_len, DD.wu_lenT, DD.wu_int, DD.wu_intb, DD.wu_abs, DD.wu_tup, DD.wu_tupT, DD.wu_lst, DD.wu_lstT, DD.wu_max2, DD.wu_min2, DD.wu_max1, DD.wu_min1, DD.wu_sum, DD.wu_all, DD.wu_any, DD.wu_sorted, DD.ws_l, DD.ws_t, DD.ws_s, DD.wr_l, DD.wr_t, DD.wb_mulT, DD.wst_l, DD.wst_t, DD.wz_l, DD.wz_t, DD.wn_l, DD.wv_l, DD.wv_t, DD.wc_inl, DD.wc_ninl, DD.wc_int, DD.wc_nint, DD.wCh, DD.ev_ii, DD.ev_bb, DD.ev_ss, DD.ev_nn, DD.ev_ni, DD.ev_in, DD.ev_is, DD.ev_si, DD.ev_tt, DD.ev_ll, DD.ea_nn, DD.ea_cc, DD.ea_nc, DD.ea_cn, DD.sh_n, DD.sh_b, DD.sh_i, DD.sh_s, DD.so_told, DD.so_refused, DD.so_missing, DD.so_large, DD.at0, DD.at1, DD.at2, DD.at3, DD.startE, DD.endK, List.map_cons, List.map_nil, List.length_cons, List.length_nil, List.replicate, List.cons_append, List.nil_append, List.append_nil, DD.getS, DD.setS, DD.clrS, DD.deo_c, DD.deo_n, DD.deo1_v, DD.deo1_u, DD.deo1_o, DD.tgs, DD.Sl.v.injEq, DD.Sl.own.injEq, PySem.PyData.int.injEq, PySem.PyData.bool.injEq, PySem.PyData.list.injEq, PySem.PyData.tuple.injEq, PySem.PyData.str.injEq, Option.some.injEq, exists_eq_left', exists_eq_left, exists_and_left, exists_and_right, List.zip_cons_cons, List.zip_nil_right, List.zip_nil_left, List.foldl_cons, List.foldl_nil, List.getD_cons_zero, List.getD_cons_succ, true_and, and_true, Bool.false_eq_true, Bool.true_eq_false, Bool.not_true, Bool.not_false, if_true, if_false, decide_eq_true_eq, decide_eq_false_iff_not, Bool.not_eq_true', Bool.not_eq_false', DD.imp_tt, DD.imp_ff, DD.imp_tf, DD.imp_ft, forall_const, true_implies, false_implies, implies_true, Int.reduceLT, Int.reduceLE, reduceIte, ite_true, ite_false]); try simp only [g0, g1, g2, g3, γ0, γ1, γ2, γ3, γ4, γ5, γ6, γ7, γ8, γ9, γ17, γ18, γ19, γ21, γ22, γ23, γ24]; try (simp only [DD.wSs, DD.wS, DD.wT, DD.wTs, DD.wE, DD.wEs, DD.wEi, DD.wIt, DD.wBnd, DD.bindT, DD.wb_add, DD.wb_sub, DD.wb_mul, DD.wb_fdiv, DD.wb_mod, DD.wb_pow, DD.wb_shl, DD.wb_shr, DD.wb_addL, DD.wb_addT, DD.wb_mulL, DD.wc_lt, DD.wc_le, DD.wc_gt, DD.wc_ge, DD.wc_eq, DD.wc_ne, DD.wc_isN0, DD.wc_isN1, DD.wc_isN2, DD.wc_isN3, DD.wc_isN4, DD.wc_isN5, DD.wc_notN0, DD.wc_notN1, DD.wc_notN2, DD.wc_notN3, DD.wc_notN4, DD.wc_notN5, DD.wt_n, DD.wt_b, DD.wt_i, DD.wt_l, DD.wt_t, DD.wi_l, DD.wi_t, DD.wu_len, DD.wu_lenT, DD.wu_int, DD.wu_intb, DD.wu_abs, DD.wu_tup, DD.wu_tupT, DD.wu_lst, DD.wu_lstT, DD.wu_max2, DD.wu_min2, DD.wu_max1, DD.wu_min1, DD.wu_sum, DD.wu_all, DD.wu_any, DD.wu_sorted, DD.ws_l, DD.ws_t, DD.ws_s, DD.wr_l, DD.wr_t, DD.wb_mulT, DD.wst_l, DD.wst_t, DD.wz_l, DD.wz_t, DD.wn_l, DD.wv_l, DD.wv_t, DD.wc_inl, DD.wc_ninl, DD.wc_int, DD.wc_nint, DD.wCh, DD.ev_ii, DD.ev_bb, DD.ev_ss, DD.ev_nn, DD.ev_ni, DD.ev_in, DD.ev_is, DD.ev_si, DD.ev_tt, DD.ev_ll, DD.ea_nn, DD.ea_cc, DD.ea_nc, DD.ea_cn, DD.sh_n, DD.sh_b, DD.sh_i, DD.sh_s, DD.so_told, DD.so_refused, DD.so_missing, DD.so_large, DD.at0, DD.at1, DD.at2, DD.at3, DD.startE, DD.endK, List.map_cons, List.map_nil, List.length_cons, List.length_nil, List.replicate, List.cons_append, List.nil_append, List.append_nil, DD.getS, DD.setS, DD.clrS, DD.deo_c, DD.deo_n, DD.deo1_v, DD.deo1_u, DD.deo1_o, DD.tgs, DD.Sl.v.injEq, DD.Sl.own.injEq, PySem.PyData.int.injEq, PySem.PyData.bool.injEq, PySem.PyData.list.injEq, PySem.PyData.tuple.injEq, PySem.PyData.str.injEq, Option.some.injEq, exists_eq_left', exists_eq_left, exists_and_left, exists_and_right, List.zip_cons_cons, List.zip_nil_right, List.zip_nil_left, List.foldl_cons, List.foldl_nil, List.getD_cons_zero, List.getD_cons_succ, true_and, and_true, Bool.false_eq_true, Bool.true_eq_false, Bool.not_true, Bool.not_false, if_true, if_false, decide_eq_true_eq, decide_eq_false_iff_not, Bool.not_eq_true', Bool.not_eq_false', DD.imp_tt, DD.imp_ff, DD.imp_tf, DD.imp_ft, forall_const, true_implies, false_implies, implies_true, Int.reduceLT, Int.reduceLE, reduceIte, ite_true, ite_false])))
  have := half k k0 k1
  exact fin _ _ _ (by omega) (by omega) (by omega) (by omega) (by omega) (by omega)
def I18 (b l h : Int) (r : List Int) (n : Nat) (rem : List D) (e : Env) (n' : Nat) : Prop := ∃ (done todo : List Int) (x : Sl), n' = n ∧ r.reverse = done ++ todo ∧ rem = iL todo ∧ e = [.v (.tuple (sy b l h)), .v (.tuple (iL r)), .v (.int (valD b done.reverse)), x]
theorem sem18 : ∀ ds n Qd Xd, sp18 ds n Qd Xd → wSs ΓL GL bL_value (startE nL_value.length ds) n (endK Qd Xd) := by
  rintro ds n Qd Xd ⟨b, l, h, r, rfl, b0, b1, q⟩
  unfold bL_value
  (((simp only [DD.wSs, DD.wS, DD.wT, DD.wTs, DD.wE, DD.wEs, DD.wEi, DD.wIt, DD.wBnd, DD.bindT, DD.wb_add, DD.wb_sub, DD.wb_mul, DD.wb_fdiv, DD.wb_mod, DD.wb_pow, DD.wb_shl, DD.wb_shr, DD.wb_addL, DD.wb_addT, DD.wb_mulL, DD.wc_lt, DD.wc_le, DD.wc_gt, DD.wc_ge, DD.wc_eq, DD.wc_ne, DD.wc_isN0, DD.wc_isN1, DD.wc_isN2, DD.wc_isN3, DD.wc_isN4, DD.wc_isN5, DD.wc_notN0, DD.wc_notN1, DD.wc_notN2, DD.wc_notN3, DD.wc_notN4, DD.wc_notN5, DD.wt_n, DD.wt_b, DD.wt_i, DD.wt_l, DD.wt_t, DD.wi_l, DD.wi_t, DD.wu_len, DD.wu_lenT, DD.wu_int, DD.wu_intb, DD.wu_abs, DD.wu_tup, DD.wu_tupT, DD.wu_lst, DD.wu_lstT, DD.wu_max2, DD.wu_min2, DD.wu_max1, DD.wu_min1, DD.wu_sum, DD.wu_all, DD.wu_any, DD.wu_sorted, DD.ws_l, DD.ws_t, DD.ws_s, DD.wr_l, DD.wr_t, DD.wb_mulT, DD.wst_l, DD.wst_t, DD.wz_l, DD.wz_t, DD.wn_l, DD.wv_l, DD.wv_t, DD.wc_inl, DD.wc_ninl, DD.wc_int, DD.wc_nint, DD.wCh, DD.ev_ii, DD.ev_bb, DD.ev_ss, DD.ev_nn, DD.ev_ni, DD.ev_in, DD.ev_is, DD.ev_si, DD.ev_tt, DD.ev_ll, DD.ea_nn, DD.ea_cc, DD.ea_nc, DD.ea_cn, DD.sh_n, DD.sh_b, DD.sh_i, DD.sh_s, DD.so_told, DD.so_refused, DD.so_missing, DD.so_large, DD.at0, DD.at1, DD.at2, DD.at3, DD.startE, DD.endK, List.map_cons, List.map_nil, List.length_cons, List.length_nil, List.replicate, List.cons_append, List.nil_append, List.append_nil, DD.getS, DD.setS, DD.clrS, DD.deo_c, DD.deo_n, DD.deo1_v, DD.deo1_u, DD.deo1_o, DD.tgs, DD.Sl.v.injEq, DD.Sl.own.injEq, PySem.PyData.int.injEq, PySem.PyData.bool.injEq, PySem.PyData.list.injEq, PySem.PyData.tuple.injEq, PySem.PyData.str.injEq, Option.some.injEq, exists_eq_left', exists_eq_left, exists_and_left, exists_and_right, List.zip_cons_cons, List.zip_nil_right, List.zip_nil_left, List.foldl_cons, List.foldl_nil, List.getD_cons_zero, List.getD_cons_succ, true_and, and_true, Bool.false_eq_true, Bool.true_eq_false, Bool.not_true, Bool.not_false, if_true, if_false, decide_eq_true_eq, decide_eq_false_iff_not, Bool.not_eq_true', Bool.not_eq_false', DD.imp_tt, DD.imp_ff, DD.imp_tf, DD.imp_ft, forall_const, true_implies, false_implies, implies_true, Int.reduceLT, Int.reduceLE, reduceIte, ite_true, ite_false]); try simp only [g0, g1, g2, g3, γ0, γ1, γ2, γ3, γ4, γ5, γ6, γ7, γ8, γ9, γ17, γ18, γ19, γ21, γ22, γ23, γ24]; try (simp only [DD.wSs, DD.wS, DD.wT, DD.wTs, DD.wE, DD.wEs, DD.wEi, DD.wIt, DD.wBnd, DD.bindT, DD.wb_add, DD.wb_sub, DD.wb_mul, DD.wb_fdiv, DD.wb_mod, DD.wb_pow, DD.wb_shl, DD.wb_shr, DD.wb_addL, DD.wb_addT, DD.wb_mulL, DD.wc_lt, DD.wc_le, DD.wc_gt, DD.wc_ge, DD.wc_eq, DD.wc_ne, DD.wc_isN0, DD.wc_isN1, DD.wc_isN2, DD.wc_isN3, DD.wc_isN4, DD.wc_isN5, DD.wc_notN0, DD.wc_notN1, DD.wc_notN2, DD.wc_notN3, DD.wc_notN4, DD.wc_notN5, DD.wt_n, DD.wt_b, DD.wt_i, DD.wt_l, DD.wt_t, DD.wi_l, DD.wi_t, DD.wu_len, DD.wu_lenT, DD.wu_int, DD.wu_intb, DD.wu_abs, DD.wu_tup, DD.wu_tupT, DD.wu_lst, DD.wu_lstT, DD.wu_max2, DD.wu_min2, DD.wu_max1, DD.wu_min1, DD.wu_sum, DD.wu_all, DD.wu_any, DD.wu_sorted, DD.ws_l, DD.ws_t, DD.ws_s, DD.wr_l, DD.wr_t, DD.wb_mulT, DD.wst_l, DD.wst_t, DD.wz_l, DD.wz_t, DD.wn_l, DD.wv_l, DD.wv_t, DD.wc_inl, DD.wc_ninl, DD.wc_int, DD.wc_nint, DD.wCh, DD.ev_ii, DD.ev_bb, DD.ev_ss, DD.ev_nn, DD.ev_ni, DD.ev_in, DD.ev_is, DD.ev_si, DD.ev_tt, DD.ev_ll, DD.ea_nn, DD.ea_cc, DD.ea_nc, DD.ea_cn, DD.sh_n, DD.sh_b, DD.sh_i, DD.sh_s, DD.so_told, DD.so_refused, DD.so_missing, DD.so_large, DD.at0, DD.at1, DD.at2, DD.at3, DD.startE, DD.endK, List.map_cons, List.map_nil, List.length_cons, List.length_nil, List.replicate, List.cons_append, List.nil_append, List.append_nil, DD.getS, DD.setS, DD.clrS, DD.deo_c, DD.deo_n, DD.deo1_v, DD.deo1_u, DD.deo1_o, DD.tgs, DD.Sl.v.injEq, DD.Sl.own.injEq, PySem.PyData.int.injEq, PySem.PyData.bool.injEq, PySem.PyData.list.injEq, PySem.PyData.tuple.injEq, PySem.PyData.str.injEq, Option.some.injEq, exists_eq_left', exists_eq_left, exists_and_left, exists_and_right, List.zip_cons_cons, List.zip_nil_right, List.zip_nil_left, List.foldl_cons, List.foldl_nil, List.getD_cons_zero, List.getD_cons_succ, true_and, and_true, Bool.false_eq_true, Bool.true_eq_false, Bool.not_true, Bool.not_false, if_true, if_false, decide_eq_true_eq, decide_eq_false_iff_not, Bool.not_eq_true', Bool.not_eq_false', DD.imp_tt, DD.imp_ff, DD.imp_tf, DD.imp_ft, forall_const, true_implies, false_implies, implies_true, Int.reduceLT, Int.reduceLE, reduceIte, ite_true, ite_false])))
  rw [← List.map_reverse]
  refine forG monoL (I18 b l h r n) ⟨[], r.reverse, .un, rfl, rfl, rfl, rfl⟩ ?_ ?_
  · rintro e n' ⟨done, todo, x, rfl, hd, hr, rfl⟩
    have : todo = [] := by
      cases todo with
      | nil => rfl
      | cons a as => cases hr
    subst this
    (((simp only [DD.wSs, DD.wS, DD.wT, DD.wTs, DD.wE, DD.wEs, DD.wEi, DD.wIt, DD.wBnd, DD.bindT, DD.wb_add, DD.wb_sub, DD.wb_mul, DD.wb_fdiv, DD.wb_mod, DD.wb_pow, DD.wb_shl, DD.wb_shr, DD.wb_addL, DD.wb_addT, DD.wb_mulL, DD.wc_lt, DD.wc_le, DD.wc_gt, DD.wc_ge, DD.wc_eq, DD.wc_ne, DD.wc_isN0, DD.wc_isN1, DD.wc_isN2, DD.wc_isN3, DD.wc_isN4, DD.wc_isN5, DD.wc_notN0, DD.wc_notN1, DD.wc_notN2, DD.wc_notN3, DD.wc_notN4, DD.wc_notN5, DD.wt_n, DD.wt_b, DD.wt_i, DD.wt_l, DD.wt_t, DD.wi_l, DD.wi_t, DD.wu_len, DD.wu_lenT, DD.wu_int, DD.wu_intb, DD.wu_abs, DD.wu_tup, DD.wu_tupT, DD.wu_lst, DD.wu_lstT, DD.wu_max2, DD.wu_min2, DD.wu_max1, DD.wu_min1, DD.wu_sum, DD.wu_all, DD.wu_any, DD.wu_sorted, DD.ws_l, DD.ws_t, DD.ws_s, DD.wr_l, DD.wr_t, DD.wb_mulT, DD.wst_l, DD.wst_t, DD.wz_l, DD.wz_t, DD.wn_l, DD.wv_l, DD.wv_t, DD.wc_inl, DD.wc_ninl, DD.wc_int, DD.wc_nint, DD.wCh, DD.ev_ii, DD.ev_bb, DD.ev_ss, DD.ev_nn, DD.ev_ni, DD.ev_in, DD.ev_is, DD.ev_si, DD.ev_tt, DD.ev_ll, DD.ea_nn, DD.ea_cc, DD.ea_nc, DD.ea_cn, DD.sh_n, DD.sh_b, DD.sh_i, DD.sh_s, DD.so_told, DD.so_refused, DD.so_missing, DD.so_large, DD.at0, DD.at1, DD.at2, DD.at3, DD.startE, DD.endK, List.map_cons, List.map_nil, List.length_cons, List.length_nil, List.replicate, List.cons_append, List.nil_append, List.append_nil, DD.getS, DD.setS, DD.clrS, DD.deo_c, DD.deo_n, DD.deo1_v, DD.deo1_u, DD.deo1_o, DD.tgs, DD.Sl.v.injEq, DD.Sl.own.injEq, PySem.PyData.int.injEq, PySem.PyData.bool.injEq, PySem.PyData.list.injEq, PySem.PyData.tuple.injEq, PySem.PyData.str.injEq, Option.some.injEq, exists_eq_left', exists_eq_left, exists_and_left, exists_and_right, List.zip_cons_cons, List.zip_nil_right, List.zip_nil_left, List.foldl_cons, List.foldl_nil, List.getD_cons_zero, List.getD_cons_succ, true_and, and_true, Bool.false_eq_true, Bool.true_eq_false, Bool.not_true, Bool.not_false, if_true, if_false, decide_eq_true_eq, decide_eq_false_iff_not, Bool.not_eq_true', Bool.not_eq_false', DD.imp_tt, DD.imp_ff, DD.imp_tf, DD.imp_ft, forall_const, true_implies, false_implies, implies_true, Int.reduceLT, Int.reduceLE, reduceIte, ite_true, ite_false]); try simp only [g0, g1, g2, g3, γ0, γ1, γ2, γ3, γ4, γ5, γ6, γ7, γ8, γ9, γ17, γ18, γ19, γ21, γ22, γ23, γ24]; try (simp only [DD.wSs, DD.wS, DD.wT, DD.wTs, DD.wE, DD.wEs, DD.wEi, DD.wIt, DD.wBnd, DD.bindT, DD.wb_add, DD.wb_sub, DD.wb_mul, DD.wb_fdiv, DD.wb_mod, DD.wb_pow, DD.wb_shl, DD.wb_shr, DD.wb_addL, DD.wb_addT, DD.wb_mulL, DD.wc_lt, DD.wc_le, DD.wc_gt, DD.wc_ge, DD.wc_eq, DD.wc_ne, DD.wc_isN0, DD.wc_isN1, DD.wc_isN2, DD.wc_isN3, DD.wc_isN4, DD.wc_isN5, DD.wc_notN0, DD.wc_notN1, DD.wc_notN2, DD.wc_notN3, DD.wc_notN4, DD.wc_notN5, DD.wt_n, DD.wt_b, DD.wt_i, DD.wt_l, DD.wt_t, DD.wi_l, DD.wi_t, DD.wu_len, DD.wu_lenT, DD.wu_int, DD.wu_intb, DD.wu_abs, DD.wu_tup, DD.wu_tupT, DD.wu_lst, DD.wu_lstT, DD.wu_max2, DD.wu_min2, DD.wu_max1, DD.wu_min1, DD.wu_sum, DD.wu_all, DD.wu_any, DD.wu_sorted, DD.ws_l, DD.ws_t, DD.ws_s, DD.wr_l, DD.wr_t, DD.wb_mulT, DD.wst_l, DD.wst_t, DD.wz_l, DD.wz_t, DD.wn_l, DD.wv_l, DD.wv_t, DD.wc_inl, DD.wc_ninl, DD.wc_int, DD.wc_nint, DD.wCh, DD.ev_ii, DD.ev_bb, DD.ev_ss, DD.ev_nn, DD.ev_ni, DD.ev_in, DD.ev_is, DD.ev_si, DD.ev_tt, DD.ev_ll, DD.ea_nn, DD.ea_cc, DD.ea_nc, DD.ea_cn, DD.sh_n, DD.sh_b, DD.sh_i, DD.sh_s, DD.so_told, DD.so_refused, DD.so_missing, DD.so_large, DD.at0, DD.at1, DD.at2, DD.at3, DD.startE, DD.endK, List.map_cons, List.map_nil, List.length_cons, List.length_nil, List.replicate, List.cons_append, List.nil_append, List.append_nil, DD.getS, DD.setS, DD.clrS, DD.deo_c, DD.deo_n, DD.deo1_v, DD.deo1_u, DD.deo1_o, DD.tgs, DD.Sl.v.injEq, DD.Sl.own.injEq, PySem.PyData.int.injEq, PySem.PyData.bool.injEq, PySem.PyData.list.injEq, PySem.PyData.tuple.injEq, PySem.PyData.str.injEq, Option.some.injEq, exists_eq_left', exists_eq_left, exists_and_left, exists_and_right, List.zip_cons_cons, List.zip_nil_right, List.zip_nil_left, List.foldl_cons, List.foldl_nil, List.getD_cons_zero, List.getD_cons_succ, true_and, and_true, Bool.false_eq_true, Bool.true_eq_false, Bool.not_true, Bool.not_false, if_true, if_false, decide_eq_true_eq, decide_eq_false_iff_not, Bool.not_eq_true', Bool.not_eq_false', DD.imp_tt, DD.imp_ff, DD.imp_tf, DD.imp_ft, forall_const, true_implies, false_implies, implies_true, Int.reduceLT, Int.reduceLE, reduceIte, ite_true, ite_false])))
    rw [List.append_nil] at hd
    rw [← hd, List.reverse_reverse]
    exact q
  · rintro z ds e n' ⟨done, todo, x, rfl, hd, hr, rfl⟩
    cases todo with
    | nil => cases hr
    | cons a as =>
      cases hr
      unfold lL_value_1
      (((simp only [DD.wSs, DD.wS, DD.wT, DD.wTs, DD.wE, DD.wEs, DD.wEi, DD.wIt, DD.wBnd, DD.bindT, DD.wb_add, DD.wb_sub, DD.wb_mul, DD.wb_fdiv, DD.wb_mod, DD.wb_pow, DD.wb_shl, DD.wb_shr, DD.wb_addL, DD.wb_addT, DD.wb_mulL, DD.wc_lt, DD.wc_le, DD.wc_gt, DD.wc_ge, DD.wc_eq, DD.wc_ne, DD.wc_isN0, DD.wc_isN1, DD.wc_isN2, DD.wc_isN3, DD.wc_isN4, DD.wc_isN5, DD.wc_notN0, DD.wc_notN1, DD.wc_notN2, DD.wc_notN3, DD.wc_notN4, DD.wc_notN5, DD.wt_n, DD.wt_b, DD.wt_i, DD.wt_l, DD.wt_t, DD.wi_l, DD.wi_t, DD.wu_len, DD.wu_lenT, DD.wu_int, DD.wu_intb, DD.wu_abs, DD.wu_tup, DD.wu_tupT, DD.wu_lst, DD.wu_lstT, DD.wu_max2, DD.wu_min2, DD.wu_max1, DD.wu_min1, DD.wu_sum, DD.wu_all, DD.wu_any, DD.wu_sorted, DD.ws_l, DD.ws_t, DD.ws_s, DD.wr_l, DD.wr_t, DD.wb_mulT, DD.wst_l, DD.wst_t, DD.wz_l, DD.wz_t, DD.wn_l, DD.wv_l, DD.wv_t, DD.wc_inl, DD.wc_ninl, DD.wc_int, DD.wc_nint, DD.wCh, DD.ev_ii, DD.ev_bb, DD.ev_ss, DD.ev_nn, DD.ev_ni, DD.ev_in, DD.ev_is, DD.ev_si, DD.ev_tt, DD.ev_ll, DD.ea_nn, DD.ea_cc, DD.ea_nc, DD.ea_cn, DD.sh_n, DD.sh_b, DD.sh_i, DD.sh_s, DD.so_told, DD.so_refused, DD.so_missing, DD.so_large, DD.at0, DD.at1, DD.at2, DD.at3, DD.startE, DD.endK, List.map_cons, List.map_nil, List.length_cons, List.length_nil, List.replicate, List.cons_append, List.nil_append, List.append_nil, DD.getS, DD.setS, DD.clrS, DD.deo_c, DD.deo_n, DD.deo1_v, DD.deo1_u, DD.deo1_o, DD.tgs, DD.Sl.v.injEq, DD.Sl.own.injEq, PySem.PyData.int.injEq, PySem.PyData.bool.injEq, PySem.PyData.list.injEq, PySem.PyData.tuple.injEq, PySem.PyData.str.injEq, Option.some.injEq, exists_eq_left', exists_eq_left, exists_and_left, exists_and_right, List.zip_cons_cons, List.zip_nil_right, List.zip_nil_left, List.foldl_cons, List.foldl_nil, List.getD_cons_zero, List.getD_cons_succ, true_and, and_true, Bool.false_eq_true, Bool.true_eq_false, Bool.not_true, Bool.not_false, if_true, if_false, decide_eq_true_eq, decide_eq_false_iff_not, Bool.not_eq_true', Bool.not_eq_false', DD.imp_tt, DD.imp_ff, DD.imp_tf, DD.imp_ft, forall_const, true_implies, false_implies, implies_true, Int.reduceLT, Int.reduceLE, reduceIte, ite_true, ite_false]); try simp only [g0, g1, g2, g3, γ0, γ1, γ2, γ3, γ4, γ5, γ6, γ7, γ8, γ9, γ17, γ18, γ19, γ21, γ22, γ23, γ24]; try (simp only [DD.wSs, DD.wS, DD.wT, DD.wTs, DD.wE, DD.wEs, DD.wEi, DD.wIt, DD.wBnd, DD.bindT, DD.wb_add, DD.wb_sub, DD.wb_mul, DD.wb_fdiv, DD.wb_mod, DD.wb_pow, DD.wb_shl, DD.wb_shr, DD.wb_addL, DD.wb_addT, DD.wb_mulL, DD.wc_lt, DD.wc_le, DD.wc_gt, DD.wc_ge, DD.wc_eq, DD.wc_ne, DD.wc_isN0, DD.wc_isN1, DD.wc_isN2, DD.wc_isN3, DD.wc_isN4, DD.wc_isN5, DD.wc_notN0, DD.wc_notN1, DD.wc_notN2, DD.wc_notN3, DD.wc_notN4, DD.wc_notN5, DD.wt_n, DD.wt_b, DD.wt_i, DD.wt_l, DD.wt_t, DD.wi_l, DD.wi_t, DD.wu_len, DD.wu_lenT, DD.wu_int, DD.wu_intb, DD.wu_abs, DD.wu_tup, DD.wu_tupT, DD.wu_lst, DD.wu_lstT, DD.wu_max2, DD.wu_min2, DD.wu_max1, DD.wu_min1, DD.wu_sum, DD.wu_all, DD.wu_any, DD.wu_sorted, DD.ws_l, DD.ws_t, DD.ws_s, DD.wr_l, DD.wr_t, DD.wb_mulT, DD.wst_l, DD.wst_t, DD.wz_l, DD.wz_t, DD.wn_l, DD.wv_l, DD.wv_t, DD.wc_inl, DD.wc_ninl, DD.wc_int, DD.wc_nint, DD.wCh, DD.ev_ii, DD.ev_bb, DD.ev_ss, DD.ev_nn, DD.ev_ni, DD.ev_in, DD.ev_is, DD.ev_si, DD.ev_tt, DD.ev_ll, DD.ea_nn, DD.ea_cc, DD.ea_nc, DD.ea_cn, DD.sh_n, DD.sh_b, DD.sh_i, DD.sh_s, DD.so_told, DD.so_refused, DD.so_missing, DD.so_large, DD.at0, DD.at1, DD.at2, DD.at3, DD.startE, DD.endK, List.map_cons, List.map_nil, List.length_cons, List.length_nil, List.replicate, List.cons_append, List.nil_append, List.append_nil, DD.getS, DD.setS, DD.clrS, DD.deo_c, DD.deo_n, DD.deo1_v, DD.deo1_u, DD.deo1_o, DD.tgs, DD.Sl.v.injEq, DD.Sl.own.injEq, PySem.PyData.int.injEq, PySem.PyData.bool.injEq, PySem.PyData.list.injEq, PySem.PyData.tuple.injEq, PySem.PyData.str.injEq, Option.some.injEq, exists_eq_left', exists_eq_left, exists_and_left, exists_and_right, List.zip_cons_cons, List.zip_nil_right, List.zip_nil_left, List.foldl_cons, List.foldl_nil, List.getD_cons_zero, List.getD_cons_succ, true_and, and_true, Bool.false_eq_true, Bool.true_eq_false, Bool.not_true, Bool.not_false, if_true, if_false, decide_eq_true_eq, decide_eq_false_iff_not, Bool.not_eq_true', Bool.not_eq_false', DD.imp_tt, DD.imp_ff, DD.imp_tf, DD.imp_ft, forall_const, true_implies, false_implies, implies_true, Int.reduceLT, Int.reduceLE, reduceIte, ite_true, ite_false])))
      refine ⟨okMul_r (by omega) (by omega), done ++ [a], as, .v (.int a), rfl, by rw [hd, List.append_assoc]; rfl, rfl, ?_⟩
      rw [List.reverse_append]
      rfl
theorem sem19 : ∀ ds n Qd Xd, sp19 ds n Qd Xd → wSs ΓL GL bL_row (startE nL_row.length ds) n (endK Qd Xd) := by
  rintro ds n Qd Xd ⟨b, l, h, m, rfl, so, m0, m1, hn, q⟩
  unfold bL_row
  (((simp only [DD.wSs, DD.wS, DD.wT, DD.wTs, DD.wE, DD.wEs, DD.wEi, DD.wIt, DD.wBnd, DD.bindT, DD.wb_add, DD.wb_sub, DD.wb_mul, DD.wb_fdiv, DD.wb_mod, DD.wb_pow, DD.wb_shl, DD.wb_shr, DD.wb_addL, DD.wb_addT, DD.wb_mulL, DD.wc_lt, DD.wc_le, DD.wc_gt, DD.wc_ge, DD.wc_eq, DD.wc_ne, DD.wc_isN0, DD.wc_isN1, DD.wc_isN2, DD.wc_isN3, DD.wc_isN4, DD.wc_isN5, DD.wc_notN0, DD.wc_notN1, DD.wc_notN2, DD.wc_notN3, DD.wc_notN4, DD.wc_notN5, DD.wt_n, DD.wt_b, DD.wt_i, DD.wt_l, DD.wt_t, DD.wi_l, DD.wi_t, DD.wu_len, DD.wu_lenT, DD.wu_int, DD.wu_intb, DD.wu_abs, DD.wu_tup, DD.wu_tupT, DD.wu_lst, DD.wu_lstT, DD.wu_max2, DD.wu_min2, DD.wu_max1, DD.wu_min1, DD.wu_sum, DD.wu_all, DD.wu_any, DD.wu_sorted, DD.ws_l, DD.ws_t, DD.ws_s, DD.wr_l, DD.wr_t, DD.wb_mulT, DD.wst_l, DD.wst_t, DD.wz_l, DD.wz_t, DD.wn_l, DD.wv_l, DD.wv_t, DD.wc_inl, DD.wc_ninl, DD.wc_int, DD.wc_nint, DD.wCh, DD.ev_ii, DD.ev_bb, DD.ev_ss, DD.ev_nn, DD.ev_ni, DD.ev_in, DD.ev_is, DD.ev_si, DD.ev_tt, DD.ev_ll, DD.ea_nn, DD.ea_cc, DD.ea_nc, DD.ea_cn, DD.sh_n, DD.sh_b, DD.sh_i, DD.sh_s, DD.so_told, DD.so_refused, DD.so_missing, DD.so_large, DD.at0, DD.at1, DD.at2, DD.at3, DD.startE, DD.endK, List.map_cons, List.map_nil, List.length_cons, List.length_nil, List.replicate, List.cons_append, List.nil_append, List.append_nil, DD.getS, DD.setS, DD.clrS, DD.deo_c, DD.deo_n, DD.deo1_v, DD.deo1_u, DD.deo1_o, DD.tgs, DD.Sl.v.injEq, DD.Sl.own.injEq, PySem.PyData.int.injEq, PySem.PyData.bool.injEq, PySem.PyData.list.injEq, PySem.PyData.tuple.injEq, PySem.PyData.str.injEq, Option.some.injEq, exists_eq_left', exists_eq_left, exists_and_left, exists_and_right, List.zip_cons_cons, List.zip_nil_right, List.zip_nil_left, List.foldl_cons, List.foldl_nil, List.getD_cons_zero, List.getD_cons_succ, true_and, and_true, Bool.false_eq_true, Bool.true_eq_false, Bool.not_true, Bool.not_false, if_true, if_false, decide_eq_true_eq, decide_eq_false_iff_not, Bool.not_eq_true', Bool.not_eq_false', DD.imp_tt, DD.imp_ff, DD.imp_tf, DD.imp_ft, forall_const, true_implies, false_implies, implies_true, Int.reduceLT, Int.reduceLE, reduceIte, ite_true, ite_false]); try simp only [g0, g1, g2, g3, γ0, γ1, γ2, γ3, γ4, γ5, γ6, γ7, γ8, γ9, γ17, γ18, γ19, γ21, γ22, γ23, γ24]; try (simp only [DD.wSs, DD.wS, DD.wT, DD.wTs, DD.wE, DD.wEs, DD.wEi, DD.wIt, DD.wBnd, DD.bindT, DD.wb_add, DD.wb_sub, DD.wb_mul, DD.wb_fdiv, DD.wb_mod, DD.wb_pow, DD.wb_shl, DD.wb_shr, DD.wb_addL, DD.wb_addT, DD.wb_mulL, DD.wc_lt, DD.wc_le, DD.wc_gt, DD.wc_ge, DD.wc_eq, DD.wc_ne, DD.wc_isN0, DD.wc_isN1, DD.wc_isN2, DD.wc_isN3, DD.wc_isN4, DD.wc_isN5, DD.wc_notN0, DD.wc_notN1, DD.wc_notN2, DD.wc_notN3, DD.wc_notN4, DD.wc_notN5, DD.wt_n, DD.wt_b, DD.wt_i, DD.wt_l, DD.wt_t, DD.wi_l, DD.wi_t, DD.wu_len, DD.wu_lenT, DD.wu_int, DD.wu_intb, DD.wu_abs, DD.wu_tup, DD.wu_tupT, DD.wu_lst, DD.wu_lstT, DD.wu_max2, DD.wu_min2, DD.wu_max1, DD.wu_min1, DD.wu_sum, DD.wu_all, DD.wu_any, DD.wu_sorted, DD.ws_l, DD.ws_t, DD.ws_s, DD.wr_l, DD.wr_t, DD.wb_mulT, DD.wst_l, DD.wst_t, DD.wz_l, DD.wz_t, DD.wn_l, DD.wv_l, DD.wv_t, DD.wc_inl, DD.wc_ninl, DD.wc_int, DD.wc_nint, DD.wCh, DD.ev_ii, DD.ev_bb, DD.ev_ss, DD.ev_nn, DD.ev_ni, DD.ev_in, DD.ev_is, DD.ev_si, DD.ev_tt, DD.ev_ll, DD.ea_nn, DD.ea_cc, DD.ea_nc, DD.ea_cn, DD.sh_n, DD.sh_b, DD.sh_i, DD.sh_s, DD.so_told, DD.so_refused, DD.so_missing, DD.so_large, DD.at0, DD.at1, DD.at2, DD.at3, DD.startE, DD.endK, List.map_cons, List.map_nil, List.length_cons, List.length_nil, List.replicate, List.cons_append, List.nil_append, List.append_nil, DD.getS, DD.setS, DD.clrS, DD.deo_c, DD.deo_n, DD.deo1_v, DD.deo1_u, DD.deo1_o, DD.tgs, DD.Sl.v.injEq, DD.Sl.own.injEq, PySem.PyData.int.injEq, PySem.PyData.bool.injEq, PySem.PyData.list.injEq, PySem.PyData.tuple.injEq, PySem.PyData.str.injEq, Option.some.injEq, exists_eq_left', exists_eq_left, exists_and_left, exists_and_right, List.zip_cons_cons, List.zip_nil_right, List.zip_nil_left, List.foldl_cons, List.foldl_nil, List.getD_cons_zero, List.getD_cons_succ, true_and, and_true, Bool.false_eq_true, Bool.true_eq_false, Bool.not_true, Bool.not_false, if_true, if_false, decide_eq_true_eq, decide_eq_false_iff_not, Bool.not_eq_true', Bool.not_eq_false', DD.imp_tt, DD.imp_ff, DD.imp_tf, DD.imp_ft, forall_const, true_implies, false_implies, implies_true, Int.reduceLT, Int.reduceLE, reduceIte, ite_true, ite_false])))
  unfold SysOk at so
  refine spN (by omega) (by omega) fun k k0 k1 => ?_
  (((simp only [DD.wSs, DD.wS, DD.wT, DD.wTs, DD.wE, DD.wEs, DD.wEi, DD.wIt, DD.wBnd, DD.bindT, DD.wb_add, DD.wb_sub, DD.wb_mul, DD.wb_fdiv, DD.wb_mod, DD.wb_pow, DD.wb_shl, DD.wb_shr, DD.wb_addL, DD.wb_addT, DD.wb_mulL, DD.wc_lt, DD.wc_le, DD.wc_gt, DD.wc_ge, DD.wc_eq, DD.wc_ne, DD.wc_isN0, DD.wc_isN1, DD.wc_isN2, DD.wc_isN3, DD.wc_isN4, DD.wc_isN5, DD.wc_notN0, DD.wc_notN1, DD.wc_notN2, DD.wc_notN3, DD.wc_notN4, DD.wc_notN5, DD.wt_n, DD.wt_b, DD.wt_i, DD.wt_l, DD.wt_t, DD.wi_l, DD.wi_t, DD.wu_len, DD.wu_lenT, DD.wu_int, DD.wu_intb, DD.wu_abs, DD.wu_tup, DD.wu_tupT, DD.wu_lst, DD.wu_lstT, DD.wu_max2, DD.wu_min2, DD.wu_max1, DD.wu_min1, DD.wu_sum, DD.wu_all, DD.wu_any, DD.wu_sorted, DD.ws_l, DD.ws_t, DD.ws_s, DD.wr_l, DD.wr_t, DD.wb_mulT, DD.wst_l, DD.wst_t, DD.wz_l, DD.wz_t, DD.wn_l, DD.wv_l, DD.wv_t, DD.wc_inl, DD.wc_ninl, DD.wc_int, DD.wc_nint, DD.wCh, DD.ev_ii, DD.ev_bb, DD.ev_ss, DD.ev_nn, DD.ev_ni, DD.ev_in, DD.ev_is, DD.ev_si, DD.ev_tt, DD.ev_ll, DD.ea_nn, DD.ea_cc, DD.ea_nc, DD.ea_cn, DD.sh_n, DD.sh_b, DD.sh_i, DD.sh_s, DD.so_told, DD.so_refused, DD.so_missing, DD.so_large, DD.at0, DD.at1, DD.at2, DD.at3, DD.startE, DD.endK, List.map_cons, List.map_nil, List.length_cons, List.length_nil, List.replicate, List.cons_append, List.nil_append, List.append_nil, DD.getS, DD.setS, DD.clrS, DD.deo_c, DD.deo_n, DD.deo1_v, DD.deo1_u, DD.deo1_o, DD.tgs, DD.Sl.v.injEq, DD.Sl.own.injEq, PySem.PyData.int.injEq, PySem.PyData.bool.injEq, PySem.PyData.list.injEq, PySem.PyData.tuple.injEq, PySem.PyData.str.injEq, Option.some.injEq, exists_eq_left', exists_eq_left, exists_and_left, exists_and_right, List.zip_cons_cons, List.zip_nil_right, List.zip_nil_left, List.foldl_cons, List.foldl_nil, List.getD_cons_zero, List.getD_cons_succ, true_and, and_true, Bool.false_eq_true, Bool.true_eq_false, Bool.not_true, Bool.not_false, if_true, if_false, decide_eq_true_eq, decide_eq_false_iff_not, Bool.not_eq_true', Bool.not_eq_false', DD.imp_tt, DD.imp_ff, DD.imp_tf, DD.imp_ft, forall_const, true_implies, false_implies, implies_true, Int.reduceLT, Int.reduceLE, reduceIte, ite_true, ite_false]); try simp only [g0, g1, g2, g3, γ0, γ1, γ2, γ3, γ4, γ5, γ6, γ7, γ8, γ9, γ17, γ18, γ19, γ21, γ22, γ23, γ24]; try (simp only [DD.wSs, DD.wS, DD.wT, DD.wTs, DD.wE, DD.wEs, DD.wEi, DD.wIt, DD.wBnd, DD.bindT, DD.wb_add, DD.wb_sub, DD.wb_mul, DD.wb_fdiv, DD.wb_mod, DD.wb_pow, DD.wb_shl, DD.wb_shr, DD.wb_addL, DD.wb_addT, DD.wb_mulL, DD.wc_lt, DD.wc_le, DD.wc_gt, DD.wc_ge, DD.wc_eq, DD.wc_ne, DD.wc_isN0, DD.wc_isN1, DD.wc_isN2, DD.wc_isN3, DD.wc_isN4, DD.wc_isN5, DD.wc_notN0, DD.wc_notN1, DD.wc_notN2, DD.wc_notN3, DD.wc_notN4, DD.wc_notN5, DD.wt_n, DD.wt_b, DD.wt_i, DD.wt_l, DD.wt_t, DD.wi_l, DD.wi_t, DD.wu_len, DD.wu_lenT, DD.wu_int, DD.wu_intb, DD.wu_abs, DD.wu_tup, DD.wu_tupT, DD.wu_lst, DD.wu_lstT, DD.wu_max2, DD.wu_min2, DD.wu_max1, DD.wu_min1, DD.wu_sum, DD.wu_all, DD.wu_any, DD.wu_sorted, DD.ws_l, DD.ws_t, DD.ws_s, DD.wr_l, DD.wr_t, DD.wb_mulT, DD.wst_l, DD.wst_t, DD.wz_l, DD.wz_t, DD.wn_l, DD.wv_l, DD.wv_t, DD.wc_inl, DD.wc_ninl, DD.wc_int, DD.wc_nint, DD.wCh, DD.ev_ii, DD.ev_bb, DD.ev_ss, DD.ev_nn, DD.ev_ni, DD.ev_in, DD.ev_is, DD.ev_si, DD.ev_tt, DD.ev_ll, DD.ea_nn, DD.ea_cc, DD.ea_nc, DD.ea_cn, DD.sh_n, DD.sh_b, DD.sh_i, DD.sh_s, DD.so_told, DD.so_refused, DD.so_missing, DD.so_large, DD.at0, DD.at1, DD.at2, DD.at3, DD.startE, DD.endK, List.map_cons, List.map_nil, List.length_cons, List.length_nil, List.replicate, List.cons_append, List.nil_append, List.append_nil, DD.getS, DD.setS, DD.clrS, DD.deo_c, DD.deo_n, DD.deo1_v, DD.deo1_u, DD.deo1_o, DD.tgs, DD.Sl.v.injEq, DD.Sl.own.injEq, PySem.PyData.int.injEq, PySem.PyData.bool.injEq, PySem.PyData.list.injEq, PySem.PyData.tuple.injEq, PySem.PyData.str.injEq, Option.some.injEq, exists_eq_left', exists_eq_left, exists_and_left, exists_and_right, List.zip_cons_cons, List.zip_nil_right, List.zip_nil_left, List.foldl_cons, List.foldl_nil, List.getD_cons_zero, List.getD_cons_succ, true_and, and_true, Bool.false_eq_true, Bool.true_eq_false, Bool.not_true, Bool.not_false, if_true, if_false, decide_eq_true_eq, decide_eq_false_iff_not, Bool.not_eq_true', Bool.not_eq_false', DD.imp_tt, DD.imp_ff, DD.imp_tf, DD.imp_ft, forall_const, true_implies, false_implies, implies_true, Int.reduceLT, Int.reduceLE, reduceIte, ite_true, ite_false])))
  refine ⟨⟨by omega, by omega, by omega, by omega, by omega⟩, ?_⟩
  refine wTurns_inv (fun rem acc n' => ∃ r : List Int, acc = iL r ∧ InD l h r ∧ r.length + rem.length = k.toNat ∧ n' = n + 1 + r.length) ?_ ?_ _ _ _ ⟨[], rfl, fun d hd => by simp at hd, by rw [rngD_len]; simp, rfl⟩
  · rintro d ds acc n' R ⟨r, rfl, hr, hl, rfl⟩ hR
    simp only [List.length_cons] at hl
    try (((simp only [DD.wSs, DD.wS, DD.wT, DD.wTs, DD.wE, DD.wEs, DD.wEi, DD.wIt, DD.wBnd, DD.bindT, DD.wb_add, DD.wb_sub, DD.wb_mul, DD.wb_fdiv, DD.wb_mod, DD.wb_pow, DD.wb_shl, DD.wb_shr, DD.wb_addL, DD.wb_addT, DD.wb_mulL, DD.wc_lt, DD.wc_le, DD.wc_gt, DD.wc_ge, DD.wc_eq, DD.wc_ne, DD.wc_isN0, DD.wc_isN1, DD.wc_isN2, DD.wc_isN3, DD.wc_isN4, DD.wc_isN5, DD.wc_notN0, DD.wc_notN1, DD.wc_notN2, DD.wc_notN3, DD.wc_notN4, DD.wc_notN5, DD.wt_n, DD.wt_b, DD.wt_i, DD.wt_l, DD.wt_t, DD.wi_l, DD.wi_t, DD.wu_len, DD.wu_lenT, DD.wu_int, DD.wu_intb, DD.wu_abs, DD.wu_tup, DD.wu_tupT, DD.wu_lst, DD.wu_lstT, DD.wu_max2, DD.wu_min2, DD.wu_max1, DD.wu_min1, DD.wu_sum, DD.wu_all, DD.wu_any, DD.wu_sorted, DD.ws_l, DD.ws_t, DD.ws_s, DD.wr_l, DD.wr_t, DD.wb_mulT, DD.wst_l, DD.wst_t, DD.wz_l, DD.wz_t, DD.wn_l, DD.wv_l, DD.wv_t, DD.wc_inl, DD.wc_ninl, DD.wc_int, DD.wc_nint, DD.wCh, DD.ev_ii, DD.ev_bb, DD.ev_ss, DD.ev_nn, DD.ev_ni, DD.ev_in, DD.ev_is, DD.ev_si, DD.ev_tt, DD.ev_ll, DD.ea_nn, DD.ea_cc, DD.ea_nc, DD.ea_cn, DD.sh_n, DD.sh_b, DD.sh_i, DD.sh_s, DD.so_told, DD.so_refused, DD.so_missing, DD.so_large, DD.at0, DD.at1, DD.at2, DD.at3, DD.startE, DD.endK, List.map_cons, List.map_nil, List.length_cons, List.length_nil, List.replicate, List.cons_append, List.nil_append, List.append_nil, DD.getS, DD.setS, DD.clrS, DD.deo_c, DD.deo_n, DD.deo1_v, DD.deo1_u, DD.deo1_o, DD.tgs, DD.Sl.v.injEq, DD.Sl.own.injEq, PySem.PyData.int.injEq, PySem.PyData.bool.injEq, PySem.PyData.list.injEq, PySem.PyData.tuple.injEq, PySem.PyData.str.injEq, Option.some.injEq, exists_eq_left', exists_eq_left, exists_and_left, exists_and_right, List.zip_cons_cons, List.zip_nil_right, List.zip_nil_left, List.foldl_cons, List.foldl_nil, List.getD_cons_zero, List.getD_cons_succ, true_and, and_true, Bool.false_eq_true, Bool.true_eq_false, Bool.not_true, Bool.not_false, if_true, if_false, decide_eq_true_eq, decide_eq_false_iff_not, Bool.not_eq_true', Bool.not_eq_false', DD.imp_tt, DD.imp_ff, DD.imp_tf, DD.imp_ft, forall_const, true_implies, false_implies, implies_true, Int.reduceLT, Int.reduceLE, reduceIte, ite_true, ite_false]); try simp only [g0, g1, g2, g3, γ0, γ1, γ2, γ3, γ4, γ5, γ6, γ7, γ8, γ9, γ17, γ18, γ19, γ21, γ22, γ23, γ24]; try (simp only [DD.wSs, DD.wS, DD.wT, DD.wTs, DD.wE, DD.wEs, DD.wEi, DD.wIt, DD.wBnd, DD.bindT, DD.wb_add, DD.wb_sub, DD.wb_mul, DD.wb_fdiv, DD.wb_mod, DD.wb_pow, DD.wb_shl, DD.wb_shr, DD.wb_addL, DD.wb_addT, DD.wb_mulL, DD.wc_lt, DD.wc_le, DD.wc_gt, DD.wc_ge, DD.wc_eq, DD.wc_ne, DD.wc_isN0, DD.wc_isN1, DD.wc_isN2, DD.wc_isN3, DD.wc_isN4, DD.wc_isN5, DD.wc_notN0, DD.wc_notN1, DD.wc_notN2, DD.wc_notN3, DD.wc_notN4, DD.wc_notN5, DD.wt_n, DD.wt_b, DD.wt_i, DD.wt_l, DD.wt_t, DD.wi_l, DD.wi_t, DD.wu_len, DD.wu_lenT, DD.wu_int, DD.wu_intb, DD.wu_abs, DD.wu_tup, DD.wu_tupT, DD.wu_lst, DD.wu_lstT, DD.wu_max2, DD.wu_min2, DD.wu_max1, DD.wu_min1, DD.wu_sum, DD.wu_all, DD.wu_any, DD.wu_sorted, DD.ws_l, DD.ws_t, DD.ws_s, DD.wr_l, DD.wr_t, DD.wb_mulT, DD.wst_l, DD.wst_t, DD.wz_l, DD.wz_t, DD.wn_l, DD.wv_l, DD.wv_t, DD.wc_inl, DD.wc_ninl, DD.wc_int, DD.wc_nint, DD.wCh, DD.ev_ii, DD.ev_bb, DD.ev_ss, DD.ev_nn, DD.ev_ni, DD.ev_in, DD.ev_is, DD.ev_si, DD.ev_tt, DD.ev_ll, DD.ea_nn, DD.ea_cc, DD.ea_nc, DD.ea_cn, DD.sh_n, DD.sh_b, DD.sh_i, DD.sh_s, DD.so_told, DD.so_refused, DD.so_missing, DD.so_large, DD.at0, DD.at1, DD.at2, DD.at3, DD.startE, DD.endK, List.map_cons, List.map_nil, List.length_cons, List.length_nil, List.replicate, List.cons_append, List.nil_append, List.append_nil, DD.getS, DD.setS, DD.clrS, DD.deo_c, DD.deo_n, DD.deo1_v, DD.deo1_u, DD.deo1_o, DD.tgs, DD.Sl.v.injEq, DD.Sl.own.injEq, PySem.PyData.int.injEq, PySem.PyData.bool.injEq, PySem.PyData.list.injEq, PySem.PyData.tuple.injEq, PySem.PyData.str.injEq, Option.some.injEq, exists_eq_left', exists_eq_left, exists_and_left, exists_and_right, List.zip_cons_cons, List.zip_nil_right, List.zip_nil_left, List.foldl_cons, List.foldl_nil, List.getD_cons_zero, List.getD_cons_succ, true_and, and_true, Bool.false_eq_true, Bool.true_eq_false, Bool.not_true, Bool.not_false, if_true, if_false, decide_eq_true_eq, decide_eq_false_iff_not, Bool.not_eq_true', Bool.not_eq_false', DD.imp_tt, DD.imp_ff, DD.imp_tf, DD.imp_ft, forall_const, true_implies, false_implies, implies_true, Int.reduceLT, Int.reduceLE, reduceIte, ite_true, ite_false])))
    refine spN (by omega) (by omega) fun j j0 j1 => ?_
    (((simp only [DD.wSs, DD.wS, DD.wT, DD.wTs, DD.wE, DD.wEs, DD.wEi, DD.wIt, DD.wBnd, DD.bindT, DD.wb_add, DD.wb_sub, DD.wb_mul, DD.wb_fdiv, DD.wb_mod, DD.wb_pow, DD.wb_shl, DD.wb_shr, DD.wb_addL, DD.wb_addT, DD.wb_mulL, DD.wc_lt, DD.wc_le, DD.wc_gt, DD.wc_ge, DD.wc_eq, DD.wc_ne, DD.wc_isN0, DD.wc_isN1, DD.wc_isN2, DD.wc_isN3, DD.wc_isN4, DD.wc_isN5, DD.wc_notN0, DD.wc_notN1, DD.wc_notN2, DD.wc_notN3, DD.wc_notN4, DD.wc_notN5, DD.wt_n, DD.wt_b, DD.wt_i, DD.wt_l, DD.wt_t, DD.wi_l, DD.wi_t, DD.wu_len, DD.wu_lenT, DD.wu_int, DD.wu_intb, DD.wu_abs, DD.wu_tup, DD.wu_tupT, DD.wu_lst, DD.wu_lstT, DD.wu_max2, DD.wu_min2, DD.wu_max1, DD.wu_min1, DD.wu_sum, DD.wu_all, DD.wu_any, DD.wu_sorted, DD.ws_l, DD.ws_t, DD.ws_s, DD.wr_l, DD.wr_t, DD.wb_mulT, DD.wst_l, DD.wst_t, DD.wz_l, DD.wz_t, DD.wn_l, DD.wv_l, DD.wv_t, DD.wc_inl, DD.wc_ninl, DD.wc_int, DD.wc_nint, DD.wCh, DD.ev_ii, DD.ev_bb, DD.ev_ss, DD.ev_nn, DD.ev_ni, DD.ev_in, DD.ev_is, DD.ev_si, DD.ev_tt, DD.ev_ll, DD.ea_nn, DD.ea_cc, DD.ea_nc, DD.ea_cn, DD.sh_n, DD.sh_b, DD.sh_i, DD.sh_s, DD.so_told, DD.so_refused, DD.so_missing, DD.so_large, DD.at0, DD.at1, DD.at2, DD.at3, DD.startE, DD.endK, List.map_cons, List.map_nil, List.length_cons, List.length_nil, List.replicate, List.cons_append, List.nil_append, List.append_nil, DD.getS, DD.setS, DD.clrS, DD.deo_c, DD.deo_n, DD.deo1_v, DD.deo1_u, DD.deo1_o, DD.tgs, DD.Sl.v.injEq, DD.Sl.own.injEq, PySem.PyData.int.injEq, PySem.PyData.bool.injEq, PySem.PyData.list.injEq, PySem.PyData.tuple.injEq, PySem.PyData.str.injEq, Option.some.injEq, exists_eq_left', exists_eq_left, exists_and_left, exists_and_right, List.zip_cons_cons, List.zip_nil_right, List.zip_nil_left, List.foldl_cons, List.foldl_nil, List.getD_cons_zero, List.getD_cons_succ, true_and, and_true, Bool.false_eq_true, Bool.true_eq_false, Bool.not_true, Bool.not_false, if_true, if_false, decide_eq_true_eq, decide_eq_false_iff_not, Bool.not_eq_true', Bool.not_eq_false', DD.imp_tt, DD.imp_ff, DD.imp_tf, DD.imp_ft, forall_const, true_implies, false_implies, implies_true, Int.reduceLT, Int.reduceLE, reduceIte, ite_true, ite_false]); try simp only [g0, g1, g2, g3, γ0, γ1, γ2, γ3, γ4, γ5, γ6, γ7, γ8, γ9, γ17, γ18, γ19, γ21, γ22, γ23, γ24]; try (simp only [DD.wSs, DD.wS, DD.wT, DD.wTs, DD.wE, DD.wEs, DD.wEi, DD.wIt, DD.wBnd, DD.bindT, DD.wb_add, DD.wb_sub, DD.wb_mul, DD.wb_fdiv, DD.wb_mod, DD.wb_pow, DD.wb_shl, DD.wb_shr, DD.wb_addL, DD.wb_addT, DD.wb_mulL, DD.wc_lt, DD.wc_le, DD.wc_gt, DD.wc_ge, DD.wc_eq, DD.wc_ne, DD.wc_isN0, DD.wc_isN1, DD.wc_isN2, DD.wc_isN3, DD.wc_isN4, DD.wc_isN5, DD.wc_notN0, DD.wc_notN1, DD.wc_notN2, DD.wc_notN3, DD.wc_notN4, DD.wc_notN5, DD.wt_n, DD.wt_b, DD.wt_i, DD.wt_l, DD.wt_t, DD.wi_l, DD.wi_t, DD.wu_len, DD.wu_lenT, DD.wu_int, DD.wu_intb, DD.wu_abs, DD.wu_tup, DD.wu_tupT, DD.wu_lst, DD.wu_lstT, DD.wu_max2, DD.wu_min2, DD.wu_max1, DD.wu_min1, DD.wu_sum, DD.wu_all, DD.wu_any, DD.wu_sorted, DD.ws_l, DD.ws_t, DD.ws_s, DD.wr_l, DD.wr_t, DD.wb_mulT, DD.wst_l, DD.wst_t, DD.wz_l, DD.wz_t, DD.wn_l, DD.wv_l, DD.wv_t, DD.wc_inl, DD.wc_ninl, DD.wc_int, DD.wc_nint, DD.wCh, DD.ev_ii, DD.ev_bb, DD.ev_ss, DD.ev_nn, DD.ev_ni, DD.ev_in, DD.ev_is, DD.ev_si, DD.ev_tt, DD.ev_ll, DD.ea_nn, DD.ea_cc, DD.ea_nc, DD.ea_cn, DD.sh_n, DD.sh_b, DD.sh_i, DD.sh_s, DD.so_told, DD.so_refused, DD.so_missing, DD.so_large, DD.at0, DD.at1, DD.at2, DD.at3, DD.startE, DD.endK, List.map_cons, List.map_nil, List.length_cons, List.length_nil, List.replicate, List.cons_append, List.nil_append, List.append_nil, DD.getS, DD.setS, DD.clrS, DD.deo_c, DD.deo_n, DD.deo1_v, DD.deo1_u, DD.deo1_o, DD.tgs, DD.Sl.v.injEq, DD.Sl.own.injEq, PySem.PyData.int.injEq, PySem.PyData.bool.injEq, PySem.PyData.list.injEq, PySem.PyData.tuple.injEq, PySem.PyData.str.injEq, Option.some.injEq, exists_eq_left', exists_eq_left, exists_and_left, exists_and_right, List.zip_cons_cons, List.zip_nil_right, List.zip_nil_left, List.foldl_cons, List.foldl_nil, List.getD_cons_zero, List.getD_cons_succ, true_and, and_true, Bool.false_eq_true, Bool.true_eq_false, Bool.not_true, Bool.not_false, if_true, if_false, decide_eq_true_eq, decide_eq_false_iff_not, Bool.not_eq_true', Bool.not_eq_false', DD.imp_tt, DD.imp_ff, DD.imp_tf, DD.imp_ft, forall_const, true_implies, false_implies, implies_true, Int.reduceLT, Int.reduceLE, reduceIte, ite_true, ite_false])))
    refine hR _ _ ⟨r ++ [l + j], by simp, fun d hd => ?_, by rw [List.length_append]; simp only [List.length_cons, List.length_nil]; omega, by rw [List.length_append]; simp only [List.length_cons, List.length_nil]; omega⟩
    rcases List.mem_append.mp hd with y | y
    · exact hr d y
    · rw [List.mem_singleton.mp y]; omega
  · rintro acc n' ⟨r, rfl, hr, hl, rfl⟩
    simp only [List.length_nil] at hl
    try (((simp only [DD.wSs, DD.wS, DD.wT, DD.wTs, DD.wE, DD.wEs, DD.wEi, DD.wIt, DD.wBnd, DD.bindT, DD.wb_add, DD.wb_sub, DD.wb_mul, DD.wb_fdiv, DD.wb_mod, DD.wb_pow, DD.wb_shl, DD.wb_shr, DD.wb_addL, DD.wb_addT, DD.wb_mulL, DD.wc_lt, DD.wc_le, DD.wc_gt, DD.wc_ge, DD.wc_eq, DD.wc_ne, DD.wc_isN0, DD.wc_isN1, DD.wc_isN2, DD.wc_isN3, DD.wc_isN4, DD.wc_isN5, DD.wc_notN0, DD.wc_notN1, DD.wc_notN2, DD.wc_notN3, DD.wc_notN4, DD.wc_notN5, DD.wt_n, DD.wt_b, DD.wt_i, DD.wt_l, DD.wt_t, DD.wi_l, DD.wi_t, DD.wu_len, DD.wu_lenT, DD.wu_int, DD.wu_intb, DD.wu_abs, DD.wu_tup, DD.wu_tupT, DD.wu_lst, DD.wu_lstT, DD.wu_max2, DD.wu_min2, DD.wu_max1, DD.wu_min1, DD.wu_sum, DD.wu_all, DD.wu_any, DD.wu_sorted, DD.ws_l, DD.ws_t, DD.ws_s, DD.wr_l, DD.wr_t, DD.wb_mulT, DD.wst_l, DD.wst_t, DD.wz_l, DD.wz_t, DD.wn_l, DD.wv_l, DD.wv_t, DD.wc_inl, DD.wc_ninl, DD.wc_int, DD.wc_nint, DD.wCh, DD.ev_ii, DD.ev_bb, DD.ev_ss, DD.ev_nn, DD.ev_ni, DD.ev_in, DD.ev_is, DD.ev_si, DD.ev_tt, DD.ev_ll, DD.ea_nn, DD.ea_cc, DD.ea_nc, DD.ea_cn, DD.sh_n, DD.sh_b, DD.sh_i, DD.sh_s, DD.so_told, DD.so_refused, DD.so_missing, DD.so_large, DD.at0, DD.at1, DD.at2, DD.at3, DD.startE, DD.endK, List.map_cons, List.map_nil, List.length_cons, List.length_nil, List.replicate, List.cons_append, List.nil_append, List.append_nil, DD.getS, DD.setS, DD.clrS, DD.deo_c, DD.deo_n, DD.deo1_v, DD.deo1_u, DD.deo1_o, DD.tgs, DD.Sl.v.injEq, DD.Sl.own.injEq, PySem.PyData.int.injEq, PySem.PyData.bool.injEq, PySem.PyData.list.injEq, PySem.PyData.tuple.injEq, PySem.PyData.str.injEq, Option.some.injEq, exists_eq_left', exists_eq_left, exists_and_left, exists_and_right, List.zip_cons_cons, List.zip_nil_right, List.zip_nil_left, List.foldl_cons, List.foldl_nil, List.getD_cons_zero, List.getD_cons_succ, true_and, and_true, Bool.false_eq_true, Bool.true_eq_false, Bool.not_true, Bool.not_false, if_true, if_false, decide_eq_true_eq, decide_eq_false_iff_not, Bool.not_eq_true', Bool.not_eq_false', DD.imp_tt, DD.imp_ff, DD.imp_tf, DD.imp_ft, forall_const, true_implies, false_implies, implies_true, Int.reduceLT, Int.reduceLE, reduceIte, ite_true, ite_false]); try simp only [g0, g1, g2, g3, γ0, γ1, γ2, γ3, γ4, γ5, γ6, γ7, γ8, γ9, γ17, γ18, γ19, γ21, γ22, γ23, γ24]; try (simp only [DD.wSs, DD.wS, DD.wT, DD.wTs, DD.wE, DD.wEs, DD.wEi, DD.wIt, DD.wBnd, DD.bindT, DD.wb_add, DD.wb_sub, DD.wb_mul, DD.wb_fdiv, DD.wb_mod, DD.wb_pow, DD.wb_shl, DD.wb_shr, DD.wb_addL, DD.wb_addT, DD.wb_mulL, DD.wc_lt, DD.wc_le, DD.wc_gt, DD.wc_ge, DD.wc_eq, DD.wc_ne, DD.wc_isN0, DD.wc_isN1, DD.wc_isN2, DD.wc_isN3, DD.wc_isN4, DD.wc_isN5, DD.wc_notN0, DD.wc_notN1, DD.wc_notN2, DD.wc_notN3, DD.wc_notN4, DD.wc_notN5, DD.wt_n, DD.wt_b, DD.wt_i, DD.wt_l, DD.wt_t, DD.wi_l, DD.wi_t, DD.wu_len, DD.wu_lenT, DD.wu_int, DD.wu_intb, DD.wu_abs, DD.wu_tup, DD.wu_tupT, DD.wu_lst, DD.wu_lstT, DD.wu_max2, DD.wu_min2, DD.wu_max1, DD.wu_min1, DD.wu_sum, DD.wu_all, DD.wu_any, DD.wu_sorted, DD.ws_l, DD.ws_t, DD.ws_s, DD.wr_l, DD.wr_t, DD.wb_mulT, DD.wst_l, DD.wst_t, DD.wz_l, DD.wz_t, DD.wn_l, DD.wv_l, DD.wv_t, DD.wc_inl, DD.wc_ninl, DD.wc_int, DD.wc_nint, DD.wCh, DD.ev_ii, DD.ev_bb, DD.ev_ss, DD.ev_nn, DD.ev_ni, DD.ev_in, DD.ev_is, DD.ev_si, DD.ev_tt, DD.ev_ll, DD.ea_nn, DD.ea_cc, DD.ea_nc, DD.ea_cn, DD.sh_n, DD.sh_b, DD.sh_i, DD.sh_s, DD.so_told, DD.so_refused, DD.so_missing, DD.so_large, DD.at0, DD.at1, DD.at2, DD.at3, DD.startE, DD.endK, List.map_cons, List.map_nil, List.length_cons, List.length_nil, List.replicate, List.cons_append, List.nil_append, List.append_nil, DD.getS, DD.setS, DD.clrS, DD.deo_c, DD.deo_n, DD.deo1_v, DD.deo1_u, DD.deo1_o, DD.tgs, DD.Sl.v.injEq, DD.Sl.own.injEq, PySem.PyData.int.injEq, PySem.PyData.bool.injEq, PySem.PyData.list.injEq, PySem.PyData.tuple.injEq, PySem.PyData.str.injEq, Option.some.injEq, exists_eq_left', exists_eq_left, exists_and_left, exists_and_right, List.zip_cons_cons, List.zip_nil_right, List.zip_nil_left, List.foldl_cons, List.foldl_nil, List.getD_cons_zero, List.getD_cons_succ, true_and, and_true, Bool.false_eq_true, Bool.true_eq_false, Bool.not_true, Bool.not_false, if_true, if_false, decide_eq_true_eq, decide_eq_false_iff_not, Bool.not_eq_true', Bool.not_eq_false', DD.imp_tt, DD.imp_ff, DD.imp_tf, DD.imp_ft, forall_const, true_implies, false_implies, implies_true, Int.reduceLT, Int.reduceLE, reduceIte, ite_true, ite_false])))
    exact q r _ hr (by omega) (by omega)
theorem sem21 : ∀ ds n Qd Xd, sp21 ds n Qd Xd → wSs ΓL GL bL_wrong_system (startE nL_wrong_system.length ds) n (endK Qd Xd) := by
  rintro ds n Qd Xd ⟨rfl, hn, h⟩
  unfold bL_wrong_system
  (((simp only [DD.wSs, DD.wS, DD.wT, DD.wTs, DD.wE, DD.wEs, DD.wEi, DD.wIt, DD.wBnd, DD.bindT, DD.wb_add, DD.wb_sub, DD.wb_mul, DD.wb_fdiv, DD.wb_mod, DD.wb_pow, DD.wb_shl, DD.wb_shr, DD.wb_addL, DD.wb_addT, DD.wb_mulL, DD.wc_lt, DD.wc_le, DD.wc_gt, DD.wc_ge, DD.wc_eq, DD.wc_ne, DD.wc_isN0, DD.wc_isN1, DD.wc_isN2, DD.wc_isN3, DD.wc_isN4, DD.wc_isN5, DD.wc_notN0, DD.wc_notN1, DD.wc_notN2, DD.wc_notN3, DD.wc_notN4, DD.wc_notN5, DD.wt_n, DD.wt_b, DD.wt_i, DD.wt_l, DD.wt_t, DD.wi_l, DD.wi_t, DD.wu_len, DD.wu_lenT, DD.wu_int, DD.wu_intb, DD.wu_abs, DD.wu_tup, DD.wu_tupT, DD.wu_lst, DD.wu_lstT, DD.wu_max2, DD.wu_min2, DD.wu_max1, DD.wu_min1, DD.wu_sum, DD.wu_all, DD.wu_any, DD.wu_sorted, DD.ws_l, DD.ws_t, DD.ws_s, DD.wr_l, DD.wr_t, DD.wb_mulT, DD.wst_l, DD.wst_t, DD.wz_l, DD.wz_t, DD.wn_l, DD.wv_l, DD.wv_t, DD.wc_inl, DD.wc_ninl, DD.wc_int, DD.wc_nint, DD.wCh, DD.ev_ii, DD.ev_bb, DD.ev_ss, DD.ev_nn, DD.ev_ni, DD.ev_in, DD.ev_is, DD.ev_si, DD.ev_tt, DD.ev_ll, DD.ea_nn, DD.ea_cc, DD.ea_nc, DD.ea_cn, DD.sh_n, DD.sh_b, DD.sh_i, DD.sh_s, DD.so_told, DD.so_refused, DD.so_missing, DD.so_large, DD.at0, DD.at1, DD.at2, DD.at3, DD.startE, DD.endK, List.map_cons, List.map_nil, List.length_cons, List.length_nil, List.replicate, List.cons_append, List.nil_append, List.append_nil, DD.getS, DD.setS, DD.clrS, DD.deo_c, DD.deo_n, DD.deo1_v, DD.deo1_u, DD.deo1_o, DD.tgs, DD.Sl.v.injEq, DD.Sl.own.injEq, PySem.PyData.int.injEq, PySem.PyData.bool.injEq, PySem.PyData.list.injEq, PySem.PyData.tuple.injEq, PySem.PyData.str.injEq, Option.some.injEq, exists_eq_left', exists_eq_left, exists_and_left, exists_and_right, List.zip_cons_cons, List.zip_nil_right, List.zip_nil_left, List.foldl_cons, List.foldl_nil, List.getD_cons_zero, List.getD_cons_succ, true_and, and_true, Bool.false_eq_true, Bool.true_eq_false, Bool.not_true, Bool.not_false, if_true, if_false, decide_eq_true_eq, decide_eq_false_iff_not, Bool.not_eq_true', Bool.not_eq_false', DD.imp_tt, DD.imp_ff, DD.imp_tf, DD.imp_ft, forall_const, true_implies, false_implies, implies_true, Int.reduceLT, Int.reduceLE, reduceIte, ite_true, ite_false]); try simp only [g0, g1, g2, g3, γ0, γ1, γ2, γ3, γ4, γ5, γ6, γ7, γ8, γ9, γ17, γ18, γ19, γ21, γ22, γ23, γ24]; try (simp only [DD.wSs, DD.wS, DD.wT, DD.wTs, DD.wE, DD.wEs, DD.wEi, DD.wIt, DD.wBnd, DD.bindT, DD.wb_add, DD.wb_sub, DD.wb_mul, DD.wb_fdiv, DD.wb_mod, DD.wb_pow, DD.wb_shl, DD.wb_shr, DD.wb_addL, DD.wb_addT, DD.wb_mulL, DD.wc_lt, DD.wc_le, DD.wc_gt, DD.wc_ge, DD.wc_eq, DD.wc_ne, DD.wc_isN0, DD.wc_isN1, DD.wc_isN2, DD.wc_isN3, DD.wc_isN4, DD.wc_isN5, DD.wc_notN0, DD.wc_notN1, DD.wc_notN2, DD.wc_notN3, DD.wc_notN4, DD.wc_notN5, DD.wt_n, DD.wt_b, DD.wt_i, DD.wt_l, DD.wt_t, DD.wi_l, DD.wi_t, DD.wu_len, DD.wu_lenT, DD.wu_int, DD.wu_intb, DD.wu_abs, DD.wu_tup, DD.wu_tupT, DD.wu_lst, DD.wu_lstT, DD.wu_max2, DD.wu_min2, DD.wu_max1, DD.wu_min1, DD.wu_sum, DD.wu_all, DD.wu_any, DD.wu_sorted, DD.ws_l, DD.ws_t, DD.ws_s, DD.wr_l, DD.wr_t, DD.wb_mulT, DD.wst_l, DD.wst_t, DD.wz_l, DD.wz_t, DD.wn_l, DD.wv_l, DD.wv_t, DD.wc_inl, DD.wc_ninl, DD.wc_int, DD.wc_nint, DD.wCh, DD.ev_ii, DD.ev_bb, DD.ev_ss, DD.ev_nn, DD.ev_ni, DD.ev_in, DD.ev_is, DD.ev_si, DD.ev_tt, DD.ev_ll, DD.ea_nn, DD.ea_cc, DD.ea_nc, DD.ea_cn, DD.sh_n, DD.sh_b, DD.sh_i, DD.sh_s, DD.so_told, DD.so_refused, DD.so_missing, DD.so_large, DD.at0, DD.at1, DD.at2, DD.at3, DD.startE, DD.endK, List.map_cons, List.map_nil, List.length_cons, List.length_nil, List.replicate, List.cons_append, List.nil_append, List.append_nil, DD.getS, DD.setS, DD.clrS, DD.deo_c, DD.deo_n, DD.deo1_v, DD.deo1_u, DD.deo1_o, DD.tgs, DD.Sl.v.injEq, DD.Sl.own.injEq, PySem.PyData.int.injEq, PySem.PyData.bool.injEq, PySem.PyData.list.injEq, PySem.PyData.tuple.injEq, PySem.PyData.str.injEq, Option.some.injEq, exists_eq_left', exists_eq_left, exists_and_left, exists_and_right, List.zip_cons_cons, List.zip_nil_right, List.zip_nil_left, List.foldl_cons, List.foldl_nil, List.getD_cons_zero, List.getD_cons_succ, true_and, and_true, Bool.false_eq_true, Bool.true_eq_false, Bool.not_true, Bool.not_false, if_true, if_false, decide_eq_true_eq, decide_eq_false_iff_not, Bool.not_eq_true', Bool.not_eq_false', DD.imp_tt, DD.imp_ff, DD.imp_tf, DD.imp_ft, forall_const, true_implies, false_implies, implies_true, Int.reduceLT, Int.reduceLE, reduceIte, ite_true, ite_false])))
  refine spN (by decide) (by omega) fun r r0 r1 => wIdx_pick r0 (by simpa using r1) fun w hw => ?_
  have bad : ∀ {b l h : Int}, ¬ SysOk b l h → ¬ sysOk (sy b l h) := fun h z => h (sysOk_iff.mp z)
  simp only [List.mem_cons, List.not_mem_nil, or_false] at hw
  rcases hw with rfl | rfl | rfl | rfl | rfl | rfl | rfl | rfl
  · exact h _ sysArg_sy (bad fun z => absurd z.1 (by decide))
  · exact h _ sysArg_sy (bad fun z => absurd z.2.1 (by decide))
  · exact h _ sysArg_sy (bad fun z => absurd z.2.2.2.1 (by decide))
  · exact h _ sysArg_sy (bad fun z => absurd z.2.2.2.2.1 (by decide))
  · exact h _ sysArg_sy (bad fun z => absurd rfl z.2.2.2.2.2.2)
  · exact h _ sysArg_sy (bad fun z => absurd z.2.2.1 (by decide))
  · exact h _ sysArg_sy (bad fun z => absurd z.2.2.2.2.2.1 (by decide))
  · exact h _ (.inl (by decide)) fun ⟨_, _, _, e, _⟩ => by simp at e
end DD



set_option Elab.async false
set_option linter.all false
set_option maxRecDepth 100000
set_option maxHeartbeats 4000000
namespace DD
open PySem PySem.Spec PyProof.Rows L2 D56
theorem cands_rng (m : Int) : rngI (0 - m) (m + 1) = cands m := by
  unfold rngI cands
  rw [Int.zero_sub]
theorem sem22 : ∀ ds n Qd Xd, sp22 ds n Qd Xd → wSs ΓL GL bL_carries (startE nL_carries.length ds) n (endK Qd Xd) := by
  rintro ds n Qd Xd ⟨b, l, h, m, t, rfl, so, m0, m1, hq⟩
  unfold bL_carries
  (((simp only [DD.wSs, DD.wS, DD.wT, DD.wTs, DD.wE, DD.wEs, DD.wEi, DD.wIt, DD.wBnd, DD.bindT, DD.wb_add, DD.wb_sub, DD.wb_mul, DD.wb_fdiv, DD.wb_mod, DD.wb_pow, DD.wb_shl, DD.wb_shr, DD.wb_addL, DD.wb_addT, DD.wb_mulL, DD.wc_lt, DD.wc_le, DD.wc_gt, DD.wc_ge, DD.wc_eq, DD.wc_ne, DD.wc_isN0, DD.wc_isN1, DD.wc_isN2, DD.wc_isN3, DD.wc_isN4, DD.wc_isN5, DD.wc_notN0, DD.wc_notN1, DD.wc_notN2, DD.wc_notN3, DD.wc_notN4, DD.wc_notN5, DD.wt_n, DD.wt_b, DD.wt_i, DD.wt_l, DD.wt_t, DD.wi_l, DD.wi_t, DD.wu_len, DD.wu_lenT, DD.wu_int, DD.wu_intb, DD.wu_abs, DD.wu_tup, DD.wu_tupT, DD.wu_lst, DD.wu_lstT, DD.wu_max2, DD.wu_min2, DD.wu_max1, DD.wu_min1, DD.wu_sum, DD.wu_all, DD.wu_any, DD.wu_sorted, DD.ws_l, DD.ws_t, DD.ws_s, DD.wr_l, DD.wr_t, DD.wb_mulT, DD.wst_l, DD.wst_t, DD.wz_l, DD.wz_t, DD.wn_l, DD.wv_l, DD.wv_t, DD.wc_inl, DD.wc_ninl, DD.wc_int, DD.wc_nint, DD.wCh, DD.ev_ii, DD.ev_bb, DD.ev_ss, DD.ev_nn, DD.ev_ni, DD.ev_in, DD.ev_is, DD.ev_si, DD.ev_tt, DD.ev_ll, DD.ea_nn, DD.ea_cc, DD.ea_nc, DD.ea_cn, DD.sh_n, DD.sh_b, DD.sh_i, DD.sh_s, DD.so_told, DD.so_refused, DD.so_missing, DD.so_large, DD.at0, DD.at1, DD.at2, DD.at3, DD.startE, DD.endK, List.map_cons, List.map_nil, List.length_cons, List.length_nil, List.replicate, List.cons_append, List.nil_append, List.append_nil, DD.getS, DD.setS, DD.clrS, DD.deo_c, DD.deo_n, DD.deo1_v, DD.deo1_u, DD.deo1_o, DD.tgs, DD.Sl.v.injEq, DD.Sl.own.injEq, PySem.PyData.int.injEq, PySem.PyData.bool.injEq, PySem.PyData.list.injEq, PySem.PyData.tuple.injEq, PySem.PyData.str.injEq, Option.some.injEq, exists_eq_left', exists_eq_left, exists_and_left, exists_and_right, List.zip_cons_cons, List.zip_nil_right, List.zip_nil_left, List.foldl_cons, List.foldl_nil, List.getD_cons_zero, List.getD_cons_succ, true_and, and_true, Bool.false_eq_true, Bool.true_eq_false, Bool.not_true, Bool.not_false, if_true, if_false, decide_eq_true_eq, decide_eq_false_iff_not, Bool.not_eq_true', Bool.not_eq_false', DD.imp_tt, DD.imp_ff, DD.imp_tf, DD.imp_ft, forall_const, true_implies, false_implies, implies_true, Int.reduceLT, Int.reduceLE, reduceIte, ite_true, ite_false]); try simp only [g0, g1, g2, g3, γ0, γ1, γ2, γ3, γ4, γ5, γ6, γ7, γ8, γ9, γ17, γ18, γ19, γ21, γ22, γ23, γ24]; try (simp only [DD.wSs, DD.wS, DD.wT, DD.wTs, DD.wE, DD.wEs, DD.wEi, DD.wIt, DD.wBnd, DD.bindT, DD.wb_add, DD.wb_sub, DD.wb_mul, DD.wb_fdiv, DD.wb_mod, DD.wb_pow, DD.wb_shl, DD.wb_shr, DD.wb_addL, DD.wb_addT, DD.wb_mulL, DD.wc_lt, DD.wc_le, DD.wc_gt, DD.wc_ge, DD.wc_eq, DD.wc_ne, DD.wc_isN0, DD.wc_isN1, DD.wc_isN2, DD.wc_isN3, DD.wc_isN4, DD.wc_isN5, DD.wc_notN0, DD.wc_notN1, DD.wc_notN2, DD.wc_notN3, DD.wc_notN4, DD.wc_notN5, DD.wt_n, DD.wt_b, DD.wt_i, DD.wt_l, DD.wt_t, DD.wi_l, DD.wi_t, DD.wu_len, DD.wu_lenT, DD.wu_int, DD.wu_intb, DD.wu_abs, DD.wu_tup, DD.wu_tupT, DD.wu_lst, DD.wu_lstT, DD.wu_max2, DD.wu_min2, DD.wu_max1, DD.wu_min1, DD.wu_sum, DD.wu_all, DD.wu_any, DD.wu_sorted, DD.ws_l, DD.ws_t, DD.ws_s, DD.wr_l, DD.wr_t, DD.wb_mulT, DD.wst_l, DD.wst_t, DD.wz_l, DD.wz_t, DD.wn_l, DD.wv_l, DD.wv_t, DD.wc_inl, DD.wc_ninl, DD.wc_int, DD.wc_nint, DD.wCh, DD.ev_ii, DD.ev_bb, DD.ev_ss, DD.ev_nn, DD.ev_ni, DD.ev_in, DD.ev_is, DD.ev_si, DD.ev_tt, DD.ev_ll, DD.ea_nn, DD.ea_cc, DD.ea_nc, DD.ea_cn, DD.sh_n, DD.sh_b, DD.sh_i, DD.sh_s, DD.so_told, DD.so_refused, DD.so_missing, DD.so_large, DD.at0, DD.at1, DD.at2, DD.at3, DD.startE, DD.endK, List.map_cons, List.map_nil, List.length_cons, List.length_nil, List.replicate, List.cons_append, List.nil_append, List.append_nil, DD.getS, DD.setS, DD.clrS, DD.deo_c, DD.deo_n, DD.deo1_v, DD.deo1_u, DD.deo1_o, DD.tgs, DD.Sl.v.injEq, DD.Sl.own.injEq, PySem.PyData.int.injEq, PySem.PyData.bool.injEq, PySem.PyData.list.injEq, PySem.PyData.tuple.injEq, PySem.PyData.str.injEq, Option.some.injEq, exists_eq_left', exists_eq_left, exists_and_left, exists_and_right, List.zip_cons_cons, List.zip_nil_right, List.zip_nil_left, List.foldl_cons, List.foldl_nil, List.getD_cons_zero, List.getD_cons_succ, true_and, and_true, Bool.false_eq_true, Bool.true_eq_false, Bool.not_true, Bool.not_false, if_true, if_false, decide_eq_true_eq, decide_eq_false_iff_not, Bool.not_eq_true', Bool.not_eq_false', DD.imp_tt, DD.imp_ff, DD.imp_tf, DD.imp_ft, forall_const, true_implies, false_implies, implies_true, Int.reduceLT, Int.reduceLE, reduceIte, ite_true, ite_false])))
  unfold SysOk at so
  refine ⟨⟨by omega, by omega, by omega, by omega, by omega⟩, wTurns_rng (fun c => if fits b l h m t c = true then some (.int c) else none) (fun c i0 i1 R hR => ?_) ?_⟩
  · (((simp only [DD.wSs, DD.wS, DD.wT, DD.wTs, DD.wE, DD.wEs, DD.wEi, DD.wIt, DD.wBnd, DD.bindT, DD.wb_add, DD.wb_sub, DD.wb_mul, DD.wb_fdiv, DD.wb_mod, DD.wb_pow, DD.wb_shl, DD.wb_shr, DD.wb_addL, DD.wb_addT, DD.wb_mulL, DD.wc_lt, DD.wc_le, DD.wc_gt, DD.wc_ge, DD.wc_eq, DD.wc_ne, DD.wc_isN0, DD.wc_isN1, DD.wc_isN2, DD.wc_isN3, DD.wc_isN4, DD.wc_isN5, DD.wc_notN0, DD.wc_notN1, DD.wc_notN2, DD.wc_notN3, DD.wc_notN4, DD.wc_notN5, DD.wt_n, DD.wt_b, DD.wt_i, DD.wt_l, DD.wt_t, DD.wi_l, DD.wi_t, DD.wu_len, DD.wu_lenT, DD.wu_int, DD.wu_intb, DD.wu_abs, DD.wu_tup, DD.wu_tupT, DD.wu_lst, DD.wu_lstT, DD.wu_max2, DD.wu_min2, DD.wu_max1, DD.wu_min1, DD.wu_sum, DD.wu_all, DD.wu_any, DD.wu_sorted, DD.ws_l, DD.ws_t, DD.ws_s, DD.wr_l, DD.wr_t, DD.wb_mulT, DD.wst_l, DD.wst_t, DD.wz_l, DD.wz_t, DD.wn_l, DD.wv_l, DD.wv_t, DD.wc_inl, DD.wc_ninl, DD.wc_int, DD.wc_nint, DD.wCh, DD.ev_ii, DD.ev_bb, DD.ev_ss, DD.ev_nn, DD.ev_ni, DD.ev_in, DD.ev_is, DD.ev_si, DD.ev_tt, DD.ev_ll, DD.ea_nn, DD.ea_cc, DD.ea_nc, DD.ea_cn, DD.sh_n, DD.sh_b, DD.sh_i, DD.sh_s, DD.so_told, DD.so_refused, DD.so_missing, DD.so_large, DD.at0, DD.at1, DD.at2, DD.at3, DD.startE, DD.endK, List.map_cons, List.map_nil, List.length_cons, List.length_nil, List.replicate, List.cons_append, List.nil_append, List.append_nil, DD.getS, DD.setS, DD.clrS, DD.deo_c, DD.deo_n, DD.deo1_v, DD.deo1_u, DD.deo1_o, DD.tgs, DD.Sl.v.injEq, DD.Sl.own.injEq, PySem.PyData.int.injEq, PySem.PyData.bool.injEq, PySem.PyData.list.injEq, PySem.PyData.tuple.injEq, PySem.PyData.str.injEq, Option.some.injEq, exists_eq_left', exists_eq_left, exists_and_left, exists_and_right, List.zip_cons_cons, List.zip_nil_right, List.zip_nil_left, List.foldl_cons, List.foldl_nil, List.getD_cons_zero, List.getD_cons_succ, true_and, and_true, Bool.false_eq_true, Bool.true_eq_false, Bool.not_true, Bool.not_false, if_true, if_false, decide_eq_true_eq, decide_eq_false_iff_not, Bool.not_eq_true', Bool.not_eq_false', DD.imp_tt, DD.imp_ff, DD.imp_tf, DD.imp_ft, forall_const, true_implies, false_implies, implies_true, Int.reduceLT, Int.reduceLE, reduceIte, ite_true, ite_false]); try simp only [g0, g1, g2, g3, γ0, γ1, γ2, γ3, γ4, γ5, γ6, γ7, γ8, γ9, γ17, γ18, γ19, γ21, γ22, γ23, γ24]; try (simp only [DD.wSs, DD.wS, DD.wT, DD.wTs, DD.wE, DD.wEs, DD.wEi, DD.wIt, DD.wBnd, DD.bindT, DD.wb_add, DD.wb_sub, DD.wb_mul, DD.wb_fdiv, DD.wb_mod, DD.wb_pow, DD.wb_shl, DD.wb_shr, DD.wb_addL, DD.wb_addT, DD.wb_mulL, DD.wc_lt, DD.wc_le, DD.wc_gt, DD.wc_ge, DD.wc_eq, DD.wc_ne, DD.wc_isN0, DD.wc_isN1, DD.wc_isN2, DD.wc_isN3, DD.wc_isN4, DD.wc_isN5, DD.wc_notN0, DD.wc_notN1, DD.wc_notN2, DD.wc_notN3, DD.wc_notN4, DD.wc_notN5, DD.wt_n, DD.wt_b, DD.wt_i, DD.wt_l, DD.wt_t, DD.wi_l, DD.wi_t, DD.wu_len, DD.wu_lenT, DD.wu_int, DD.wu_intb, DD.wu_abs, DD.wu_tup, DD.wu_tupT, DD.wu_lst, DD.wu_lstT, DD.wu_max2, DD.wu_min2, DD.wu_max1, DD.wu_min1, DD.wu_sum, DD.wu_all, DD.wu_any, DD.wu_sorted, DD.ws_l, DD.ws_t, DD.ws_s, DD.wr_l, DD.wr_t, DD.wb_mulT, DD.wst_l, DD.wst_t, DD.wz_l, DD.wz_t, DD.wn_l, DD.wv_l, DD.wv_t, DD.wc_inl, DD.wc_ninl, DD.wc_int, DD.wc_nint, DD.wCh, DD.ev_ii, DD.ev_bb, DD.ev_ss, DD.ev_nn, DD.ev_ni, DD.ev_in, DD.ev_is, DD.ev_si, DD.ev_tt, DD.ev_ll, DD.ea_nn, DD.ea_cc, DD.ea_nc, DD.ea_cn, DD.sh_n, DD.sh_b, DD.sh_i, DD.sh_s, DD.so_told, DD.so_refused, DD.so_missing, DD.so_large, DD.at0, DD.at1, DD.at2, DD.at3, DD.startE, DD.endK, List.map_cons, List.map_nil, List.length_cons, List.length_nil, List.replicate, List.cons_append, List.nil_append, List.append_nil, DD.getS, DD.setS, DD.clrS, DD.deo_c, DD.deo_n, DD.deo1_v, DD.deo1_u, DD.deo1_o, DD.tgs, DD.Sl.v.injEq, DD.Sl.own.injEq, PySem.PyData.int.injEq, PySem.PyData.bool.injEq, PySem.PyData.list.injEq, PySem.PyData.tuple.injEq, PySem.PyData.str.injEq, Option.some.injEq, exists_eq_left', exists_eq_left, exists_and_left, exists_and_right, List.zip_cons_cons, List.zip_nil_right, List.zip_nil_left, List.foldl_cons, List.foldl_nil, List.getD_cons_zero, List.getD_cons_succ, true_and, and_true, Bool.false_eq_true, Bool.true_eq_false, Bool.not_true, Bool.not_false, if_true, if_false, decide_eq_true_eq, decide_eq_false_iff_not, Bool.not_eq_true', Bool.not_eq_false', DD.imp_tt, DD.imp_ff, DD.imp_tf, DD.imp_ft, forall_const, true_implies, false_implies, implies_true, Int.reduceLT, Int.reduceLE, reduceIte, ite_true, ite_false])))
    refine ⟨⟨by omega, by omega, by omega, by omega, by omega⟩, wTurns_rng (fun w => some (.bool (decide (l ≤ t - c * b + w) && decide (t - c * b + w ≤ h)))) (fun w w0 w1 S hS => ?_) ?_⟩
    · (((simp only [DD.wSs, DD.wS, DD.wT, DD.wTs, DD.wE, DD.wEs, DD.wEi, DD.wIt, DD.wBnd, DD.bindT, DD.wb_add, DD.wb_sub, DD.wb_mul, DD.wb_fdiv, DD.wb_mod, DD.wb_pow, DD.wb_shl, DD.wb_shr, DD.wb_addL, DD.wb_addT, DD.wb_mulL, DD.wc_lt, DD.wc_le, DD.wc_gt, DD.wc_ge, DD.wc_eq, DD.wc_ne, DD.wc_isN0, DD.wc_isN1, DD.wc_isN2, DD.wc_isN3, DD.wc_isN4, DD.wc_isN5, DD.wc_notN0, DD.wc_notN1, DD.wc_notN2, DD.wc_notN3, DD.wc_notN4, DD.wc_notN5, DD.wt_n, DD.wt_b, DD.wt_i, DD.wt_l, DD.wt_t, DD.wi_l, DD.wi_t, DD.wu_len, DD.wu_lenT, DD.wu_int, DD.wu_intb, DD.wu_abs, DD.wu_tup, DD.wu_tupT, DD.wu_lst, DD.wu_lstT, DD.wu_max2, DD.wu_min2, DD.wu_max1, DD.wu_min1, DD.wu_sum, DD.wu_all, DD.wu_any, DD.wu_sorted, DD.ws_l, DD.ws_t, DD.ws_s, DD.wr_l, DD.wr_t, DD.wb_mulT, DD.wst_l, DD.wst_t, DD.wz_l, DD.wz_t, DD.wn_l, DD.wv_l, DD.wv_t, DD.wc_inl, DD.wc_ninl, DD.wc_int, DD.wc_nint, DD.wCh, DD.ev_ii, DD.ev_bb, DD.ev_ss, DD.ev_nn, DD.ev_ni, DD.ev_in, DD.ev_is, DD.ev_si, DD.ev_tt, DD.ev_ll, DD.ea_nn, DD.ea_cc, DD.ea_nc, DD.ea_cn, DD.sh_n, DD.sh_b, DD.sh_i, DD.sh_s, DD.so_told, DD.so_refused, DD.so_missing, DD.so_large, DD.at0, DD.at1, DD.at2, DD.at3, DD.startE, DD.endK, List.map_cons, List.map_nil, List.length_cons, List.length_nil, List.replicate, List.cons_append, List.nil_append, List.append_nil, DD.getS, DD.setS, DD.clrS, DD.deo_c, DD.deo_n, DD.deo1_v, DD.deo1_u, DD.deo1_o, DD.tgs, DD.Sl.v.injEq, DD.Sl.own.injEq, PySem.PyData.int.injEq, PySem.PyData.bool.injEq, PySem.PyData.list.injEq, PySem.PyData.tuple.injEq, PySem.PyData.str.injEq, Option.some.injEq, exists_eq_left', exists_eq_left, exists_and_left, exists_and_right, List.zip_cons_cons, List.zip_nil_right, List.zip_nil_left, List.foldl_cons, List.foldl_nil, List.getD_cons_zero, List.getD_cons_succ, true_and, and_true, Bool.false_eq_true, Bool.true_eq_false, Bool.not_true, Bool.not_false, if_true, if_false, decide_eq_true_eq, decide_eq_false_iff_not, Bool.not_eq_true', Bool.not_eq_false', DD.imp_tt, DD.imp_ff, DD.imp_tf, DD.imp_ft, forall_const, true_implies, false_implies, implies_true, Int.reduceLT, Int.reduceLE, reduceIte, ite_true, ite_false]); try simp only [g0, g1, g2, g3, γ0, γ1, γ2, γ3, γ4, γ5, γ6, γ7, γ8, γ9, γ17, γ18, γ19, γ21, γ22, γ23, γ24]; try (simp only [DD.wSs, DD.wS, DD.wT, DD.wTs, DD.wE, DD.wEs, DD.wEi, DD.wIt, DD.wBnd, DD.bindT, DD.wb_add, DD.wb_sub, DD.wb_mul, DD.wb_fdiv, DD.wb_mod, DD.wb_pow, DD.wb_shl, DD.wb_shr, DD.wb_addL, DD.wb_addT, DD.wb_mulL, DD.wc_lt, DD.wc_le, DD.wc_gt, DD.wc_ge, DD.wc_eq, DD.wc_ne, DD.wc_isN0, DD.wc_isN1, DD.wc_isN2, DD.wc_isN3, DD.wc_isN4, DD.wc_isN5, DD.wc_notN0, DD.wc_notN1, DD.wc_notN2, DD.wc_notN3, DD.wc_notN4, DD.wc_notN5, DD.wt_n, DD.wt_b, DD.wt_i, DD.wt_l, DD.wt_t, DD.wi_l, DD.wi_t, DD.wu_len, DD.wu_lenT, DD.wu_int, DD.wu_intb, DD.wu_abs, DD.wu_tup, DD.wu_tupT, DD.wu_lst, DD.wu_lstT, DD.wu_max2, DD.wu_min2, DD.wu_max1, DD.wu_min1, DD.wu_sum, DD.wu_all, DD.wu_any, DD.wu_sorted, DD.ws_l, DD.ws_t, DD.ws_s, DD.wr_l, DD.wr_t, DD.wb_mulT, DD.wst_l, DD.wst_t, DD.wz_l, DD.wz_t, DD.wn_l, DD.wv_l, DD.wv_t, DD.wc_inl, DD.wc_ninl, DD.wc_int, DD.wc_nint, DD.wCh, DD.ev_ii, DD.ev_bb, DD.ev_ss, DD.ev_nn, DD.ev_ni, DD.ev_in, DD.ev_is, DD.ev_si, DD.ev_tt, DD.ev_ll, DD.ea_nn, DD.ea_cc, DD.ea_nc, DD.ea_cn, DD.sh_n, DD.sh_b, DD.sh_i, DD.sh_s, DD.so_told, DD.so_refused, DD.so_missing, DD.so_large, DD.at0, DD.at1, DD.at2, DD.at3, DD.startE, DD.endK, List.map_cons, List.map_nil, List.length_cons, List.length_nil, List.replicate, List.cons_append, List.nil_append, List.append_nil, DD.getS, DD.setS, DD.clrS, DD.deo_c, DD.deo_n, DD.deo1_v, DD.deo1_u, DD.deo1_o, DD.tgs, DD.Sl.v.injEq, DD.Sl.own.injEq, PySem.PyData.int.injEq, PySem.PyData.bool.injEq, PySem.PyData.list.injEq, PySem.PyData.tuple.injEq, PySem.PyData.str.injEq, Option.some.injEq, exists_eq_left', exists_eq_left, exists_and_left, exists_and_right, List.zip_cons_cons, List.zip_nil_right, List.zip_nil_left, List.foldl_cons, List.foldl_nil, List.getD_cons_zero, List.getD_cons_succ, true_and, and_true, Bool.false_eq_true, Bool.true_eq_false, Bool.not_true, Bool.not_false, if_true, if_false, decide_eq_true_eq, decide_eq_false_iff_not, Bool.not_eq_true', Bool.not_eq_false', DD.imp_tt, DD.imp_ff, DD.imp_tf, DD.imp_ft, forall_const, true_implies, false_implies, implies_true, Int.reduceLT, Int.reduceLE, reduceIte, ite_true, ite_false])))
      refine ⟨okMul_l (by omega) (by omega), fun z => ?_, fun z => ?_⟩
      · simp only [z, decide_true, Bool.true_and] at hS; exact hS
      · simp only [z, decide_false, Bool.false_and] at hS; exact hS
    · rw [List.nil_append, fm_some]
      refine ⟨_, blsOf_map _ _, ?_⟩
      rw [all_id, cands_rng, law_fits (by omega)]
      exact ⟨fun z => by rw [if_pos z] at hR; exact hR, fun z => by rw [if_neg (by rw [z]; decide)] at hR; exact hR⟩
  · rw [List.nil_append, fm_if, cands_rng]
    exact hq
theorem good_law {b l h m : Int} : ((rngI (2 * l) (2 * h + 1)).all fun t => !(carr b l h m t).isEmpty) = true ↔ Free b l h m := by
  rw [List.all_eq_true]
  constructor
  · intro q t a c
    have := q t (mem_rngI.mpr ⟨a, by omega⟩)
    intro e; rw [e] at this; cases this
  · intro q t ht
    have := mem_rngI.mp ht
    have := q t this.1 (by omega)
    cases e : carr b l h m t with
    | nil => exact absurd e this
    | cons x y => rfl
theorem eqv_nil (r : List Int) : PyData.eqvAll (iL r) [] = r.isEmpty := by cases r <;> rfl
def I23 (b l h : Int) (n : Nat) (rem : List D) (e : Env) (n' : Nat) : Prop := ∃ (j : Nat) (x y : Sl), n' = n ∧ rem = (rngD 1 4).drop j ∧ (∀ y : Int, 1 ≤ y → y < 1 + j → ¬ Good b l h y) ∧ e = [.v (.tuple (sy b l h)), .v (.int b), .v (.int l), .v (.int h), x, y]
theorem sem23 : ∀ ds n Qd Xd, sp23 ds n Qd Xd → wSs ΓL GL bL_most (startE nL_most.length ds) n (endK Qd Xd) := by
  rintro ds n Qd Xd ⟨b, lo, hi, rfl, so, q⟩
  have so' := so
  unfold bL_most
  (((simp only [DD.wSs, DD.wS, DD.wT, DD.wTs, DD.wE, DD.wEs, DD.wEi, DD.wIt, DD.wBnd, DD.bindT, DD.wb_add, DD.wb_sub, DD.wb_mul, DD.wb_fdiv, DD.wb_mod, DD.wb_pow, DD.wb_shl, DD.wb_shr, DD.wb_addL, DD.wb_addT, DD.wb_mulL, DD.wc_lt, DD.wc_le, DD.wc_gt, DD.wc_ge, DD.wc_eq, DD.wc_ne, DD.wc_isN0, DD.wc_isN1, DD.wc_isN2, DD.wc_isN3, DD.wc_isN4, DD.wc_isN5, DD.wc_notN0, DD.wc_notN1, DD.wc_notN2, DD.wc_notN3, DD.wc_notN4, DD.wc_notN5, DD.wt_n, DD.wt_b, DD.wt_i, DD.wt_l, DD.wt_t, DD.wi_l, DD.wi_t, DD.wu_len, DD.wu_lenT, DD.wu_int, DD.wu_intb, DD.wu_abs, DD.wu_tup, DD.wu_tupT, DD.wu_lst, DD.wu_lstT, DD.wu_max2, DD.wu_min2, DD.wu_max1, DD.wu_min1, DD.wu_sum, DD.wu_all, DD.wu_any, DD.wu_sorted, DD.ws_l, DD.ws_t, DD.ws_s, DD.wr_l, DD.wr_t, DD.wb_mulT, DD.wst_l, DD.wst_t, DD.wz_l, DD.wz_t, DD.wn_l, DD.wv_l, DD.wv_t, DD.wc_inl, DD.wc_ninl, DD.wc_int, DD.wc_nint, DD.wCh, DD.ev_ii, DD.ev_bb, DD.ev_ss, DD.ev_nn, DD.ev_ni, DD.ev_in, DD.ev_is, DD.ev_si, DD.ev_tt, DD.ev_ll, DD.ea_nn, DD.ea_cc, DD.ea_nc, DD.ea_cn, DD.sh_n, DD.sh_b, DD.sh_i, DD.sh_s, DD.so_told, DD.so_refused, DD.so_missing, DD.so_large, DD.at0, DD.at1, DD.at2, DD.at3, DD.startE, DD.endK, List.map_cons, List.map_nil, List.length_cons, List.length_nil, List.replicate, List.cons_append, List.nil_append, List.append_nil, DD.getS, DD.setS, DD.clrS, DD.deo_c, DD.deo_n, DD.deo1_v, DD.deo1_u, DD.deo1_o, DD.tgs, DD.Sl.v.injEq, DD.Sl.own.injEq, PySem.PyData.int.injEq, PySem.PyData.bool.injEq, PySem.PyData.list.injEq, PySem.PyData.tuple.injEq, PySem.PyData.str.injEq, Option.some.injEq, exists_eq_left', exists_eq_left, exists_and_left, exists_and_right, List.zip_cons_cons, List.zip_nil_right, List.zip_nil_left, List.foldl_cons, List.foldl_nil, List.getD_cons_zero, List.getD_cons_succ, true_and, and_true, Bool.false_eq_true, Bool.true_eq_false, Bool.not_true, Bool.not_false, if_true, if_false, decide_eq_true_eq, decide_eq_false_iff_not, Bool.not_eq_true', Bool.not_eq_false', DD.imp_tt, DD.imp_ff, DD.imp_tf, DD.imp_ft, forall_const, true_implies, false_implies, implies_true, Int.reduceLT, Int.reduceLE, reduceIte, ite_true, ite_false]); try simp only [g0, g1, g2, g3, γ0, γ1, γ2, γ3, γ4, γ5, γ6, γ7, γ8, γ9, γ17, γ18, γ19, γ21, γ22, γ23, γ24]; try (simp only [DD.wSs, DD.wS, DD.wT, DD.wTs, DD.wE, DD.wEs, DD.wEi, DD.wIt, DD.wBnd, DD.bindT, DD.wb_add, DD.wb_sub, DD.wb_mul, DD.wb_fdiv, DD.wb_mod, DD.wb_pow, DD.wb_shl, DD.wb_shr, DD.wb_addL, DD.wb_addT, DD.wb_mulL, DD.wc_lt, DD.wc_le, DD.wc_gt, DD.wc_ge, DD.wc_eq, DD.wc_ne, DD.wc_isN0, DD.wc_isN1, DD.wc_isN2, DD.wc_isN3, DD.wc_isN4, DD.wc_isN5, DD.wc_notN0, DD.wc_notN1, DD.wc_notN2, DD.wc_notN3, DD.wc_notN4, DD.wc_notN5, DD.wt_n, DD.wt_b, DD.wt_i, DD.wt_l, DD.wt_t, DD.wi_l, DD.wi_t, DD.wu_len, DD.wu_lenT, DD.wu_int, DD.wu_intb, DD.wu_abs, DD.wu_tup, DD.wu_tupT, DD.wu_lst, DD.wu_lstT, DD.wu_max2, DD.wu_min2, DD.wu_max1, DD.wu_min1, DD.wu_sum, DD.wu_all, DD.wu_any, DD.wu_sorted, DD.ws_l, DD.ws_t, DD.ws_s, DD.wr_l, DD.wr_t, DD.wb_mulT, DD.wst_l, DD.wst_t, DD.wz_l, DD.wz_t, DD.wn_l, DD.wv_l, DD.wv_t, DD.wc_inl, DD.wc_ninl, DD.wc_int, DD.wc_nint, DD.wCh, DD.ev_ii, DD.ev_bb, DD.ev_ss, DD.ev_nn, DD.ev_ni, DD.ev_in, DD.ev_is, DD.ev_si, DD.ev_tt, DD.ev_ll, DD.ea_nn, DD.ea_cc, DD.ea_nc, DD.ea_cn, DD.sh_n, DD.sh_b, DD.sh_i, DD.sh_s, DD.so_told, DD.so_refused, DD.so_missing, DD.so_large, DD.at0, DD.at1, DD.at2, DD.at3, DD.startE, DD.endK, List.map_cons, List.map_nil, List.length_cons, List.length_nil, List.replicate, List.cons_append, List.nil_append, List.append_nil, DD.getS, DD.setS, DD.clrS, DD.deo_c, DD.deo_n, DD.deo1_v, DD.deo1_u, DD.deo1_o, DD.tgs, DD.Sl.v.injEq, DD.Sl.own.injEq, PySem.PyData.int.injEq, PySem.PyData.bool.injEq, PySem.PyData.list.injEq, PySem.PyData.tuple.injEq, PySem.PyData.str.injEq, Option.some.injEq, exists_eq_left', exists_eq_left, exists_and_left, exists_and_right, List.zip_cons_cons, List.zip_nil_right, List.zip_nil_left, List.foldl_cons, List.foldl_nil, List.getD_cons_zero, List.getD_cons_succ, true_and, and_true, Bool.false_eq_true, Bool.true_eq_false, Bool.not_true, Bool.not_false, if_true, if_false, decide_eq_true_eq, decide_eq_false_iff_not, Bool.not_eq_true', Bool.not_eq_false', DD.imp_tt, DD.imp_ff, DD.imp_tf, DD.imp_ft, forall_const, true_implies, false_implies, implies_true, Int.reduceLT, Int.reduceLE, reduceIte, ite_true, ite_false])))
  unfold SysOk at so
  refine ⟨⟨by decide, by decide, by decide, by decide, by decide⟩, ?_⟩
  refine forG monoL (I23 b lo hi n) ⟨0, .un, .un, rfl, rfl, fun y a b => by omega, rfl⟩ ?_ ?_
  · rintro e n' ⟨j, x, y, rfl, hr, hy, rfl⟩
    (((simp only [DD.wSs, DD.wS, DD.wT, DD.wTs, DD.wE, DD.wEs, DD.wEi, DD.wIt, DD.wBnd, DD.bindT, DD.wb_add, DD.wb_sub, DD.wb_mul, DD.wb_fdiv, DD.wb_mod, DD.wb_pow, DD.wb_shl, DD.wb_shr, DD.wb_addL, DD.wb_addT, DD.wb_mulL, DD.wc_lt, DD.wc_le, DD.wc_gt, DD.wc_ge, DD.wc_eq, DD.wc_ne, DD.wc_isN0, DD.wc_isN1, DD.wc_isN2, DD.wc_isN3, DD.wc_isN4, DD.wc_isN5, DD.wc_notN0, DD.wc_notN1, DD.wc_notN2, DD.wc_notN3, DD.wc_notN4, DD.wc_notN5, DD.wt_n, DD.wt_b, DD.wt_i, DD.wt_l, DD.wt_t, DD.wi_l, DD.wi_t, DD.wu_len, DD.wu_lenT, DD.wu_int, DD.wu_intb, DD.wu_abs, DD.wu_tup, DD.wu_tupT, DD.wu_lst, DD.wu_lstT, DD.wu_max2, DD.wu_min2, DD.wu_max1, DD.wu_min1, DD.wu_sum, DD.wu_all, DD.wu_any, DD.wu_sorted, DD.ws_l, DD.ws_t, DD.ws_s, DD.wr_l, DD.wr_t, DD.wb_mulT, DD.wst_l, DD.wst_t, DD.wz_l, DD.wz_t, DD.wn_l, DD.wv_l, DD.wv_t, DD.wc_inl, DD.wc_ninl, DD.wc_int, DD.wc_nint, DD.wCh, DD.ev_ii, DD.ev_bb, DD.ev_ss, DD.ev_nn, DD.ev_ni, DD.ev_in, DD.ev_is, DD.ev_si, DD.ev_tt, DD.ev_ll, DD.ea_nn, DD.ea_cc, DD.ea_nc, DD.ea_cn, DD.sh_n, DD.sh_b, DD.sh_i, DD.sh_s, DD.so_told, DD.so_refused, DD.so_missing, DD.so_large, DD.at0, DD.at1, DD.at2, DD.at3, DD.startE, DD.endK, List.map_cons, List.map_nil, List.length_cons, List.length_nil, List.replicate, List.cons_append, List.nil_append, List.append_nil, DD.getS, DD.setS, DD.clrS, DD.deo_c, DD.deo_n, DD.deo1_v, DD.deo1_u, DD.deo1_o, DD.tgs, DD.Sl.v.injEq, DD.Sl.own.injEq, PySem.PyData.int.injEq, PySem.PyData.bool.injEq, PySem.PyData.list.injEq, PySem.PyData.tuple.injEq, PySem.PyData.str.injEq, Option.some.injEq, exists_eq_left', exists_eq_left, exists_and_left, exists_and_right, List.zip_cons_cons, List.zip_nil_right, List.zip_nil_left, List.foldl_cons, List.foldl_nil, List.getD_cons_zero, List.getD_cons_succ, true_and, and_true, Bool.false_eq_true, Bool.true_eq_false, Bool.not_true, Bool.not_false, if_true, if_false, decide_eq_true_eq, decide_eq_false_iff_not, Bool.not_eq_true', Bool.not_eq_false', DD.imp_tt, DD.imp_ff, DD.imp_tf, DD.imp_ft, forall_const, true_implies, false_implies, implies_true, Int.reduceLT, Int.reduceLE, reduceIte, ite_true, ite_false]); try simp only [g0, g1, g2, g3, γ0, γ1, γ2, γ3, γ4, γ5, γ6, γ7, γ8, γ9, γ17, γ18, γ19, γ21, γ22, γ23, γ24]; try (simp only [DD.wSs, DD.wS, DD.wT, DD.wTs, DD.wE, DD.wEs, DD.wEi, DD.wIt, DD.wBnd, DD.bindT, DD.wb_add, DD.wb_sub, DD.wb_mul, DD.wb_fdiv, DD.wb_mod, DD.wb_pow, DD.wb_shl, DD.wb_shr, DD.wb_addL, DD.wb_addT, DD.wb_mulL, DD.wc_lt, DD.wc_le, DD.wc_gt, DD.wc_ge, DD.wc_eq, DD.wc_ne, DD.wc_isN0, DD.wc_isN1, DD.wc_isN2, DD.wc_isN3, DD.wc_isN4, DD.wc_isN5, DD.wc_notN0, DD.wc_notN1, DD.wc_notN2, DD.wc_notN3, DD.wc_notN4, DD.wc_notN5, DD.wt_n, DD.wt_b, DD.wt_i, DD.wt_l, DD.wt_t, DD.wi_l, DD.wi_t, DD.wu_len, DD.wu_lenT, DD.wu_int, DD.wu_intb, DD.wu_abs, DD.wu_tup, DD.wu_tupT, DD.wu_lst, DD.wu_lstT, DD.wu_max2, DD.wu_min2, DD.wu_max1, DD.wu_min1, DD.wu_sum, DD.wu_all, DD.wu_any, DD.wu_sorted, DD.ws_l, DD.ws_t, DD.ws_s, DD.wr_l, DD.wr_t, DD.wb_mulT, DD.wst_l, DD.wst_t, DD.wz_l, DD.wz_t, DD.wn_l, DD.wv_l, DD.wv_t, DD.wc_inl, DD.wc_ninl, DD.wc_int, DD.wc_nint, DD.wCh, DD.ev_ii, DD.ev_bb, DD.ev_ss, DD.ev_nn, DD.ev_ni, DD.ev_in, DD.ev_is, DD.ev_si, DD.ev_tt, DD.ev_ll, DD.ea_nn, DD.ea_cc, DD.ea_nc, DD.ea_cn, DD.sh_n, DD.sh_b, DD.sh_i, DD.sh_s, DD.so_told, DD.so_refused, DD.so_missing, DD.so_large, DD.at0, DD.at1, DD.at2, DD.at3, DD.startE, DD.endK, List.map_cons, List.map_nil, List.length_cons, List.length_nil, List.replicate, List.cons_append, List.nil_append, List.append_nil, DD.getS, DD.setS, DD.clrS, DD.deo_c, DD.deo_n, DD.deo1_v, DD.deo1_u, DD.deo1_o, DD.tgs, DD.Sl.v.injEq, DD.Sl.own.injEq, PySem.PyData.int.injEq, PySem.PyData.bool.injEq, PySem.PyData.list.injEq, PySem.PyData.tuple.injEq, PySem.PyData.str.injEq, Option.some.injEq, exists_eq_left', exists_eq_left, exists_and_left, exists_and_right, List.zip_cons_cons, List.zip_nil_right, List.zip_nil_left, List.foldl_cons, List.foldl_nil, List.getD_cons_zero, List.getD_cons_succ, true_and, and_true, Bool.false_eq_true, Bool.true_eq_false, Bool.not_true, Bool.not_false, if_true, if_false, decide_eq_true_eq, decide_eq_false_iff_not, Bool.not_eq_true', Bool.not_eq_false', DD.imp_tt, DD.imp_ff, DD.imp_tf, DD.imp_ft, forall_const, true_implies, false_implies, implies_true, Int.reduceLT, Int.reduceLE, reduceIte, ite_true, ite_false])))
    have := rngD_end hr
    exact q none fun m a c => hy m a (by omega)
  · rintro z ds e n' ⟨j, x, y, rfl, hr, hy, rfl⟩
    obtain ⟨rfl, hr2, hlt⟩ := rngD_drop hr
    unfold lL_most_1
    (((simp only [DD.wSs, DD.wS, DD.wT, DD.wTs, DD.wE, DD.wEs, DD.wEi, DD.wIt, DD.wBnd, DD.bindT, DD.wb_add, DD.wb_sub, DD.wb_mul, DD.wb_fdiv, DD.wb_mod, DD.wb_pow, DD.wb_shl, DD.wb_shr, DD.wb_addL, DD.wb_addT, DD.wb_mulL, DD.wc_lt, DD.wc_le, DD.wc_gt, DD.wc_ge, DD.wc_eq, DD.wc_ne, DD.wc_isN0, DD.wc_isN1, DD.wc_isN2, DD.wc_isN3, DD.wc_isN4, DD.wc_isN5, DD.wc_notN0, DD.wc_notN1, DD.wc_notN2, DD.wc_notN3, DD.wc_notN4, DD.wc_notN5, DD.wt_n, DD.wt_b, DD.wt_i, DD.wt_l, DD.wt_t, DD.wi_l, DD.wi_t, DD.wu_len, DD.wu_lenT, DD.wu_int, DD.wu_intb, DD.wu_abs, DD.wu_tup, DD.wu_tupT, DD.wu_lst, DD.wu_lstT, DD.wu_max2, DD.wu_min2, DD.wu_max1, DD.wu_min1, DD.wu_sum, DD.wu_all, DD.wu_any, DD.wu_sorted, DD.ws_l, DD.ws_t, DD.ws_s, DD.wr_l, DD.wr_t, DD.wb_mulT, DD.wst_l, DD.wst_t, DD.wz_l, DD.wz_t, DD.wn_l, DD.wv_l, DD.wv_t, DD.wc_inl, DD.wc_ninl, DD.wc_int, DD.wc_nint, DD.wCh, DD.ev_ii, DD.ev_bb, DD.ev_ss, DD.ev_nn, DD.ev_ni, DD.ev_in, DD.ev_is, DD.ev_si, DD.ev_tt, DD.ev_ll, DD.ea_nn, DD.ea_cc, DD.ea_nc, DD.ea_cn, DD.sh_n, DD.sh_b, DD.sh_i, DD.sh_s, DD.so_told, DD.so_refused, DD.so_missing, DD.so_large, DD.at0, DD.at1, DD.at2, DD.at3, DD.startE, DD.endK, List.map_cons, List.map_nil, List.length_cons, List.length_nil, List.replicate, List.cons_append, List.nil_append, List.append_nil, DD.getS, DD.setS, DD.clrS, DD.deo_c, DD.deo_n, DD.deo1_v, DD.deo1_u, DD.deo1_o, DD.tgs, DD.Sl.v.injEq, DD.Sl.own.injEq, PySem.PyData.int.injEq, PySem.PyData.bool.injEq, PySem.PyData.list.injEq, PySem.PyData.tuple.injEq, PySem.PyData.str.injEq, Option.some.injEq, exists_eq_left', exists_eq_left, exists_and_left, exists_and_right, List.zip_cons_cons, List.zip_nil_right, List.zip_nil_left, List.foldl_cons, List.foldl_nil, List.getD_cons_zero, List.getD_cons_succ, true_and, and_true, Bool.false_eq_true, Bool.true_eq_false, Bool.not_true, Bool.not_false, if_true, if_false, decide_eq_true_eq, decide_eq_false_iff_not, Bool.not_eq_true', Bool.not_eq_false', DD.imp_tt, DD.imp_ff, DD.imp_tf, DD.imp_ft, forall_const, true_implies, false_implies, implies_true, Int.reduceLT, Int.reduceLE, reduceIte, ite_true, ite_false]); try simp only [g0, g1, g2, g3, γ0, γ1, γ2, γ3, γ4, γ5, γ6, γ7, γ8, γ9, γ17, γ18, γ19, γ21, γ22, γ23, γ24]; try (simp only [DD.wSs, DD.wS, DD.wT, DD.wTs, DD.wE, DD.wEs, DD.wEi, DD.wIt, DD.wBnd, DD.bindT, DD.wb_add, DD.wb_sub, DD.wb_mul, DD.wb_fdiv, DD.wb_mod, DD.wb_pow, DD.wb_shl, DD.wb_shr, DD.wb_addL, DD.wb_addT, DD.wb_mulL, DD.wc_lt, DD.wc_le, DD.wc_gt, DD.wc_ge, DD.wc_eq, DD.wc_ne, DD.wc_isN0, DD.wc_isN1, DD.wc_isN2, DD.wc_isN3, DD.wc_isN4, DD.wc_isN5, DD.wc_notN0, DD.wc_notN1, DD.wc_notN2, DD.wc_notN3, DD.wc_notN4, DD.wc_notN5, DD.wt_n, DD.wt_b, DD.wt_i, DD.wt_l, DD.wt_t, DD.wi_l, DD.wi_t, DD.wu_len, DD.wu_lenT, DD.wu_int, DD.wu_intb, DD.wu_abs, DD.wu_tup, DD.wu_tupT, DD.wu_lst, DD.wu_lstT, DD.wu_max2, DD.wu_min2, DD.wu_max1, DD.wu_min1, DD.wu_sum, DD.wu_all, DD.wu_any, DD.wu_sorted, DD.ws_l, DD.ws_t, DD.ws_s, DD.wr_l, DD.wr_t, DD.wb_mulT, DD.wst_l, DD.wst_t, DD.wz_l, DD.wz_t, DD.wn_l, DD.wv_l, DD.wv_t, DD.wc_inl, DD.wc_ninl, DD.wc_int, DD.wc_nint, DD.wCh, DD.ev_ii, DD.ev_bb, DD.ev_ss, DD.ev_nn, DD.ev_ni, DD.ev_in, DD.ev_is, DD.ev_si, DD.ev_tt, DD.ev_ll, DD.ea_nn, DD.ea_cc, DD.ea_nc, DD.ea_cn, DD.sh_n, DD.sh_b, DD.sh_i, DD.sh_s, DD.so_told, DD.so_refused, DD.so_missing, DD.so_large, DD.at0, DD.at1, DD.at2, DD.at3, DD.startE, DD.endK, List.map_cons, List.map_nil, List.length_cons, List.length_nil, List.replicate, List.cons_append, List.nil_append, List.append_nil, DD.getS, DD.setS, DD.clrS, DD.deo_c, DD.deo_n, DD.deo1_v, DD.deo1_u, DD.deo1_o, DD.tgs, DD.Sl.v.injEq, DD.Sl.own.injEq, PySem.PyData.int.injEq, PySem.PyData.bool.injEq, PySem.PyData.list.injEq, PySem.PyData.tuple.injEq, PySem.PyData.str.injEq, Option.some.injEq, exists_eq_left', exists_eq_left, exists_and_left, exists_and_right, List.zip_cons_cons, List.zip_nil_right, List.zip_nil_left, List.foldl_cons, List.foldl_nil, List.getD_cons_zero, List.getD_cons_succ, true_and, and_true, Bool.false_eq_true, Bool.true_eq_false, Bool.not_true, Bool.not_false, if_true, if_false, decide_eq_true_eq, decide_eq_false_iff_not, Bool.not_eq_true', Bool.not_eq_false', DD.imp_tt, DD.imp_ff, DD.imp_tf, DD.imp_ft, forall_const, true_implies, false_implies, implies_true, Int.reduceLT, Int.reduceLE, reduceIte, ite_true, ite_false])))
    have nx : ¬ Good b lo hi (1 + (j : Int)) → I23 b lo hi n' ds [.v (.tuple (sy b lo hi)), .v (.int b), .v (.int lo), .v (.int hi), .v (.int (1 + (j : Int))), y] n' := fun ng => ⟨j + 1, _, _, rfl, hr2, fun y a c => by
      by_cases q : y = 1 + j
      · rw [q]; exact ng
      · exact hy y a (by omega), rfl⟩
    refine ⟨fun z => ⟨fun y => ⟨okMul_l (by decide) (by decide), okMul_l (by decide) (by decide), ⟨by omega, by omega, by omega, by omega, by omega⟩, ?_⟩, fun y => nx fun g => y g.2.1⟩, fun z => nx fun g => z (by have := g.1; omega)⟩
    refine wTurns_rng (fun t => some (.bool (!(carr b lo hi (1 + (j : Int)) t).isEmpty))) (fun t t0 t1 R hR => ?_) ?_
    · refine ⟨b, lo, hi, _, t, rfl, so', by omega, by omega, ?_⟩
      try ((((simp only [DD.wSs, DD.wS, DD.wT, DD.wTs, DD.wE, DD.wEs, DD.wEi, DD.wIt, DD.wBnd, DD.bindT, DD.wb_add, DD.wb_sub, DD.wb_mul, DD.wb_fdiv, DD.wb_mod, DD.wb_pow, DD.wb_shl, DD.wb_shr, DD.wb_addL, DD.wb_addT, DD.wb_mulL, DD.wc_lt, DD.wc_le, DD.wc_gt, DD.wc_ge, DD.wc_eq, DD.wc_ne, DD.wc_isN0, DD.wc_isN1, DD.wc_isN2, DD.wc_isN3, DD.wc_isN4, DD.wc_isN5, DD.wc_notN0, DD.wc_notN1, DD.wc_notN2, DD.wc_notN3, DD.wc_notN4, DD.wc_notN5, DD.wt_n, DD.wt_b, DD.wt_i, DD.wt_l, DD.wt_t, DD.wi_l, DD.wi_t, DD.wu_len, DD.wu_lenT, DD.wu_int, DD.wu_intb, DD.wu_abs, DD.wu_tup, DD.wu_tupT, DD.wu_lst, DD.wu_lstT, DD.wu_max2, DD.wu_min2, DD.wu_max1, DD.wu_min1, DD.wu_sum, DD.wu_all, DD.wu_any, DD.wu_sorted, DD.ws_l, DD.ws_t, DD.ws_s, DD.wr_l, DD.wr_t, DD.wb_mulT, DD.wst_l, DD.wst_t, DD.wz_l, DD.wz_t, DD.wn_l, DD.wv_l, DD.wv_t, DD.wc_inl, DD.wc_ninl, DD.wc_int, DD.wc_nint, DD.wCh, DD.ev_ii, DD.ev_bb, DD.ev_ss, DD.ev_nn, DD.ev_ni, DD.ev_in, DD.ev_is, DD.ev_si, DD.ev_tt, DD.ev_ll, DD.ea_nn, DD.ea_cc, DD.ea_nc, DD.ea_cn, DD.sh_n, DD.sh_b, DD.sh_i, DD.sh_s, DD.so_told, DD.so_refused, DD.so_missing, DD.so_large, DD.at0, DD.at1, DD.at2, DD.at3, DD.startE, DD.endK, List.map_cons, List.map_nil, List.length_cons, List.length_nil, List.replicate, List.cons_append, List.nil_append, List.append_nil, DD.getS, DD.setS, DD.clrS, DD.deo_c, DD.deo_n, DD.deo1_v, DD.deo1_u, DD.deo1_o, DD.tgs, DD.Sl.v.injEq, DD.Sl.own.injEq, PySem.PyData.int.injEq, PySem.PyData.bool.injEq, PySem.PyData.list.injEq, PySem.PyData.tuple.injEq, PySem.PyData.str.injEq, Option.some.injEq, exists_eq_left', exists_eq_left, exists_and_left, exists_and_right, List.zip_cons_cons, List.zip_nil_right, List.zip_nil_left, List.foldl_cons, List.foldl_nil, List.getD_cons_zero, List.getD_cons_succ, true_and, and_true, Bool.false_eq_true, Bool.true_eq_false, Bool.not_true, Bool.not_false, if_true, if_false, decide_eq_true_eq, decide_eq_false_iff_not, Bool.not_eq_true', Bool.not_eq_false', DD.imp_tt, DD.imp_ff, DD.imp_tf, DD.imp_ft, forall_const, true_implies, false_implies, implies_true, Int.reduceLT, Int.reduceLE, reduceIte, ite_true, ite_false]); try simp only [g0, g1, g2, g3, γ0, γ1, γ2, γ3, γ4, γ5, γ6, γ7, γ8, γ9, γ17, γ18, γ19, γ21, γ22, γ23, γ24]; try (simp only [DD.wSs, DD.wS, DD.wT, DD.wTs, DD.wE, DD.wEs, DD.wEi, DD.wIt, DD.wBnd, DD.bindT, DD.wb_add, DD.wb_sub, DD.wb_mul, DD.wb_fdiv, DD.wb_mod, DD.wb_pow, DD.wb_shl, DD.wb_shr, DD.wb_addL, DD.wb_addT, DD.wb_mulL, DD.wc_lt, DD.wc_le, DD.wc_gt, DD.wc_ge, DD.wc_eq, DD.wc_ne, DD.wc_isN0, DD.wc_isN1, DD.wc_isN2, DD.wc_isN3, DD.wc_isN4, DD.wc_isN5, DD.wc_notN0, DD.wc_notN1, DD.wc_notN2, DD.wc_notN3, DD.wc_notN4, DD.wc_notN5, DD.wt_n, DD.wt_b, DD.wt_i, DD.wt_l, DD.wt_t, DD.wi_l, DD.wi_t, DD.wu_len, DD.wu_lenT, DD.wu_int, DD.wu_intb, DD.wu_abs, DD.wu_tup, DD.wu_tupT, DD.wu_lst, DD.wu_lstT, DD.wu_max2, DD.wu_min2, DD.wu_max1, DD.wu_min1, DD.wu_sum, DD.wu_all, DD.wu_any, DD.wu_sorted, DD.ws_l, DD.ws_t, DD.ws_s, DD.wr_l, DD.wr_t, DD.wb_mulT, DD.wst_l, DD.wst_t, DD.wz_l, DD.wz_t, DD.wn_l, DD.wv_l, DD.wv_t, DD.wc_inl, DD.wc_ninl, DD.wc_int, DD.wc_nint, DD.wCh, DD.ev_ii, DD.ev_bb, DD.ev_ss, DD.ev_nn, DD.ev_ni, DD.ev_in, DD.ev_is, DD.ev_si, DD.ev_tt, DD.ev_ll, DD.ea_nn, DD.ea_cc, DD.ea_nc, DD.ea_cn, DD.sh_n, DD.sh_b, DD.sh_i, DD.sh_s, DD.so_told, DD.so_refused, DD.so_missing, DD.so_large, DD.at0, DD.at1, DD.at2, DD.at3, DD.startE, DD.endK, List.map_cons, List.map_nil, List.length_cons, List.length_nil, List.replicate, List.cons_append, List.nil_append, List.append_nil, DD.getS, DD.setS, DD.clrS, DD.deo_c, DD.deo_n, DD.deo1_v, DD.deo1_u, DD.deo1_o, DD.tgs, DD.Sl.v.injEq, DD.Sl.own.injEq, PySem.PyData.int.injEq, PySem.PyData.bool.injEq, PySem.PyData.list.injEq, PySem.PyData.tuple.injEq, PySem.PyData.str.injEq, Option.some.injEq, exists_eq_left', exists_eq_left, exists_and_left, exists_and_right, List.zip_cons_cons, List.zip_nil_right, List.zip_nil_left, List.foldl_cons, List.foldl_nil, List.getD_cons_zero, List.getD_cons_succ, true_and, and_true, Bool.false_eq_true, Bool.true_eq_false, Bool.not_true, Bool.not_false, if_true, if_false, decide_eq_true_eq, decide_eq_false_iff_not, Bool.not_eq_true', Bool.not_eq_false', DD.imp_tt, DD.imp_ff, DD.imp_tf, DD.imp_ft, forall_const, true_implies, false_implies, implies_true, Int.reduceLT, Int.reduceLE, reduceIte, ite_true, ite_false]))); done)
      simp only [wc_ne, ev_ll, eqv_nil]
      exact ⟨⟨shpL _, by (simp [Shp, SeqAt.shaped, PyData.canLay0, PyData.canLayAll0, PyData.depth, PyData.depthAll, nm0, nm1, nm2, so_told, so_refused, so_missing, so_large])⟩, hR⟩
    · rw [List.nil_append, fm_some]
      refine ⟨_, blsOf_map _ _, ?_⟩
      rw [all_id]
      refine ⟨fun w1 => ?_, fun w1 => nx fun g => ?_⟩
      · exact q (some (1 + (j : Int))) ⟨by omega, by omega, ⟨by omega, y, good_law.mp w1⟩, fun k a c => hy k a (by omega)⟩
      · have := good_law.mpr g.2.2; rw [w1] at this; cases this
theorem pad_eqT (r : List Int) (n : Nat) : iL r ++ (List.replicate ((n : Int) - (r.length : Int)).toNat [PyData.int 0]).flatten = iL (padd n r) := pad_eq r n
/-- the sums made so far -/
def IB (b l h m : Int) (W X Y : List Int) (x2 x3 x4 : Sl) (n : Nat) (rem : List D) (e : Env) (n' : Nat) : Prop :=
  ∃ (acc : List Int) (c : Int) (x9 x10 : Sl), n' = n ∧ rem = (rngD 0 X.length).drop acc.length ∧ acc.length ≤ X.length ∧ -m ≤ c ∧ c ≤ m ∧ acc ++ addGo b l h m c (X.drop acc.length) (Y.drop acc.length) = W ∧
    e = [.v (.tuple (sy b l h)), .v (.int m), x2, x3, x4, .v (.tuple (iL X)), .v (.tuple (iL Y)), .own (iL acc), .v (.int c), x9, x10]
theorem getI {X : List Int} {j : Nat} (h : j < X.length) : atD (iL X) (j : Int) = some (.int X[j]) := by
  refine atD_nat ?_
  show (X.map PyData.int)[j]? = _
  rw [List.getElem?_map, List.getElem?_eq_getElem h]; rfl
theorem sem24 : ∀ ds n Qd Xd, sp24 ds n Qd Xd → wSs ΓL GL bL_added (startE nL_added.length ds) n (endK Qd Xd) := by
  rintro ds n Qd Xd ⟨b, lo, hi, m, r, s, rfl, so, m0, m1, g, hr, hs, q⟩
  have so' := so
  unfold bL_added
  (((simp only [DD.wSs, DD.wS, DD.wT, DD.wTs, DD.wE, DD.wEs, DD.wEi, DD.wIt, DD.wBnd, DD.bindT, DD.wb_add, DD.wb_sub, DD.wb_mul, DD.wb_fdiv, DD.wb_mod, DD.wb_pow, DD.wb_shl, DD.wb_shr, DD.wb_addL, DD.wb_addT, DD.wb_mulL, DD.wc_lt, DD.wc_le, DD.wc_gt, DD.wc_ge, DD.wc_eq, DD.wc_ne, DD.wc_isN0, DD.wc_isN1, DD.wc_isN2, DD.wc_isN3, DD.wc_isN4, DD.wc_isN5, DD.wc_notN0, DD.wc_notN1, DD.wc_notN2, DD.wc_notN3, DD.wc_notN4, DD.wc_notN5, DD.wt_n, DD.wt_b, DD.wt_i, DD.wt_l, DD.wt_t, DD.wi_l, DD.wi_t, DD.wu_len, DD.wu_lenT, DD.wu_int, DD.wu_intb, DD.wu_abs, DD.wu_tup, DD.wu_tupT, DD.wu_lst, DD.wu_lstT, DD.wu_max2, DD.wu_min2, DD.wu_max1, DD.wu_min1, DD.wu_sum, DD.wu_all, DD.wu_any, DD.wu_sorted, DD.ws_l, DD.ws_t, DD.ws_s, DD.wr_l, DD.wr_t, DD.wb_mulT, DD.wst_l, DD.wst_t, DD.wz_l, DD.wz_t, DD.wn_l, DD.wv_l, DD.wv_t, DD.wc_inl, DD.wc_ninl, DD.wc_int, DD.wc_nint, DD.wCh, DD.ev_ii, DD.ev_bb, DD.ev_ss, DD.ev_nn, DD.ev_ni, DD.ev_in, DD.ev_is, DD.ev_si, DD.ev_tt, DD.ev_ll, DD.ea_nn, DD.ea_cc, DD.ea_nc, DD.ea_cn, DD.sh_n, DD.sh_b, DD.sh_i, DD.sh_s, DD.so_told, DD.so_refused, DD.so_missing, DD.so_large, DD.at0, DD.at1, DD.at2, DD.at3, DD.startE, DD.endK, List.map_cons, List.map_nil, List.length_cons, List.length_nil, List.replicate, List.cons_append, List.nil_append, List.append_nil, DD.getS, DD.setS, DD.clrS, DD.deo_c, DD.deo_n, DD.deo1_v, DD.deo1_u, DD.deo1_o, DD.tgs, DD.Sl.v.injEq, DD.Sl.own.injEq, PySem.PyData.int.injEq, PySem.PyData.bool.injEq, PySem.PyData.list.injEq, PySem.PyData.tuple.injEq, PySem.PyData.str.injEq, Option.some.injEq, exists_eq_left', exists_eq_left, exists_and_left, exists_and_right, List.zip_cons_cons, List.zip_nil_right, List.zip_nil_left, List.foldl_cons, List.foldl_nil, List.getD_cons_zero, List.getD_cons_succ, true_and, and_true, Bool.false_eq_true, Bool.true_eq_false, Bool.not_true, Bool.not_false, if_true, if_false, decide_eq_true_eq, decide_eq_false_iff_not, Bool.not_eq_true', Bool.not_eq_false', DD.imp_tt, DD.imp_ff, DD.imp_tf, DD.imp_ft, forall_const, true_implies, false_implies, implies_true, Int.reduceLT, Int.reduceLE, reduceIte, ite_true, ite_false]); try simp only [g0, g1, g2, g3, γ0, γ1, γ2, γ3, γ4, γ5, γ6, γ7, γ8, γ9, γ17, γ18, γ19, γ21, γ22, γ23, γ24]; try (simp only [DD.wSs, DD.wS, DD.wT, DD.wTs, DD.wE, DD.wEs, DD.wEi, DD.wIt, DD.wBnd, DD.bindT, DD.wb_add, DD.wb_sub, DD.wb_mul, DD.wb_fdiv, DD.wb_mod, DD.wb_pow, DD.wb_shl, DD.wb_shr, DD.wb_addL, DD.wb_addT, DD.wb_mulL, DD.wc_lt, DD.wc_le, DD.wc_gt, DD.wc_ge, DD.wc_eq, DD.wc_ne, DD.wc_isN0, DD.wc_isN1, DD.wc_isN2, DD.wc_isN3, DD.wc_isN4, DD.wc_isN5, DD.wc_notN0, DD.wc_notN1, DD.wc_notN2, DD.wc_notN3, DD.wc_notN4, DD.wc_notN5, DD.wt_n, DD.wt_b, DD.wt_i, DD.wt_l, DD.wt_t, DD.wi_l, DD.wi_t, DD.wu_len, DD.wu_lenT, DD.wu_int, DD.wu_intb, DD.wu_abs, DD.wu_tup, DD.wu_tupT, DD.wu_lst, DD.wu_lstT, DD.wu_max2, DD.wu_min2, DD.wu_max1, DD.wu_min1, DD.wu_sum, DD.wu_all, DD.wu_any, DD.wu_sorted, DD.ws_l, DD.ws_t, DD.ws_s, DD.wr_l, DD.wr_t, DD.wb_mulT, DD.wst_l, DD.wst_t, DD.wz_l, DD.wz_t, DD.wn_l, DD.wv_l, DD.wv_t, DD.wc_inl, DD.wc_ninl, DD.wc_int, DD.wc_nint, DD.wCh, DD.ev_ii, DD.ev_bb, DD.ev_ss, DD.ev_nn, DD.ev_ni, DD.ev_in, DD.ev_is, DD.ev_si, DD.ev_tt, DD.ev_ll, DD.ea_nn, DD.ea_cc, DD.ea_nc, DD.ea_cn, DD.sh_n, DD.sh_b, DD.sh_i, DD.sh_s, DD.so_told, DD.so_refused, DD.so_missing, DD.so_large, DD.at0, DD.at1, DD.at2, DD.at3, DD.startE, DD.endK, List.map_cons, List.map_nil, List.length_cons, List.length_nil, List.replicate, List.cons_append, List.nil_append, List.append_nil, DD.getS, DD.setS, DD.clrS, DD.deo_c, DD.deo_n, DD.deo1_v, DD.deo1_u, DD.deo1_o, DD.tgs, DD.Sl.v.injEq, DD.Sl.own.injEq, PySem.PyData.int.injEq, PySem.PyData.bool.injEq, PySem.PyData.list.injEq, PySem.PyData.tuple.injEq, PySem.PyData.str.injEq, Option.some.injEq, exists_eq_left', exists_eq_left, exists_and_left, exists_and_right, List.zip_cons_cons, List.zip_nil_right, List.zip_nil_left, List.foldl_cons, List.foldl_nil, List.getD_cons_zero, List.getD_cons_succ, true_and, and_true, Bool.false_eq_true, Bool.true_eq_false, Bool.not_true, Bool.not_false, if_true, if_false, decide_eq_true_eq, decide_eq_false_iff_not, Bool.not_eq_true', Bool.not_eq_false', DD.imp_tt, DD.imp_ff, DD.imp_tf, DD.imp_ft, forall_const, true_implies, false_implies, implies_true, Int.reduceLT, Int.reduceLE, reduceIte, ite_true, ite_false])))
  unfold SysOk at so
  rw [mapInt_len, mapInt_len, max_eq]
  have l1 := hr.1
  have l2 := hs.1
  have hm : max r.length s.length ≤ 24 := by omega
  rw [pad_eqT, pad_eqT]
  have p1 : (padd (max r.length s.length) r).length = max r.length s.length := padd_len (by omega)
  have p2 : (padd (max r.length s.length) s).length = max r.length s.length := padd_len (by omega)
  have i1 : InD lo hi (padd (max r.length s.length) r) := in_padd (by omega) (by omega) hr.2 _
  have i2 : InD lo hi (padd (max r.length s.length) s) := in_padd (by omega) (by omega) hs.2 _
  have w0 : ∀ z : List Int, z.length ≤ 24 → (List.replicate ((max r.length s.length : Nat) - (z.length : Int)).toNat [PyData.int 0]).flatten.length ≤ 24 := fun z hz => by
    rw [rep0, mapInt_len, List.length_replicate]; omega
  refine ⟨⟨by omega, by omega, by decide⟩, by have := w0 r l1; unfold okLen; omega, ⟨by omega, by omega, by decide⟩, by have := w0 s l2; unfold okLen; omega, ⟨by omega, by omega, by omega, by omega, by omega⟩, ?_⟩
  generalize hX : padd (max r.length s.length) r = X at p1 i1 ⊢
  generalize hY : padd (max r.length s.length) s = Y at p2 i2 ⊢
  have hW : added b lo hi m r s = addGo b lo hi m 0 X Y := by rw [← hX, ← hY]; rfl
  rw [hW] at q
  rw [← p1]
  refine forG monoL (IB b lo hi m (addGo b lo hi m 0 X Y) X Y (.v (.tuple (iL r))) (.v (.tuple (iL s))) (.v (.int X.length)) n) ⟨[], 0, .un, .un, rfl, rfl, Nat.zero_le _, by omega, by omega, rfl, rfl⟩ ?_ ?_
  · rintro e n' ⟨acc, c, x9, x10, rfl, hrem, hl, c0, c1, hw, rfl⟩
    have := rngD_end hrem
    (((simp only [DD.wSs, DD.wS, DD.wT, DD.wTs, DD.wE, DD.wEs, DD.wEi, DD.wIt, DD.wBnd, DD.bindT, DD.wb_add, DD.wb_sub, DD.wb_mul, DD.wb_fdiv, DD.wb_mod, DD.wb_pow, DD.wb_shl, DD.wb_shr, DD.wb_addL, DD.wb_addT, DD.wb_mulL, DD.wc_lt, DD.wc_le, DD.wc_gt, DD.wc_ge, DD.wc_eq, DD.wc_ne, DD.wc_isN0, DD.wc_isN1, DD.wc_isN2, DD.wc_isN3, DD.wc_isN4, DD.wc_isN5, DD.wc_notN0, DD.wc_notN1, DD.wc_notN2, DD.wc_notN3, DD.wc_notN4, DD.wc_notN5, DD.wt_n, DD.wt_b, DD.wt_i, DD.wt_l, DD.wt_t, DD.wi_l, DD.wi_t, DD.wu_len, DD.wu_lenT, DD.wu_int, DD.wu_intb, DD.wu_abs, DD.wu_tup, DD.wu_tupT, DD.wu_lst, DD.wu_lstT, DD.wu_max2, DD.wu_min2, DD.wu_max1, DD.wu_min1, DD.wu_sum, DD.wu_all, DD.wu_any, DD.wu_sorted, DD.ws_l, DD.ws_t, DD.ws_s, DD.wr_l, DD.wr_t, DD.wb_mulT, DD.wst_l, DD.wst_t, DD.wz_l, DD.wz_t, DD.wn_l, DD.wv_l, DD.wv_t, DD.wc_inl, DD.wc_ninl, DD.wc_int, DD.wc_nint, DD.wCh, DD.ev_ii, DD.ev_bb, DD.ev_ss, DD.ev_nn, DD.ev_ni, DD.ev_in, DD.ev_is, DD.ev_si, DD.ev_tt, DD.ev_ll, DD.ea_nn, DD.ea_cc, DD.ea_nc, DD.ea_cn, DD.sh_n, DD.sh_b, DD.sh_i, DD.sh_s, DD.so_told, DD.so_refused, DD.so_missing, DD.so_large, DD.at0, DD.at1, DD.at2, DD.at3, DD.startE, DD.endK, List.map_cons, List.map_nil, List.length_cons, List.length_nil, List.replicate, List.cons_append, List.nil_append, List.append_nil, DD.getS, DD.setS, DD.clrS, DD.deo_c, DD.deo_n, DD.deo1_v, DD.deo1_u, DD.deo1_o, DD.tgs, DD.Sl.v.injEq, DD.Sl.own.injEq, PySem.PyData.int.injEq, PySem.PyData.bool.injEq, PySem.PyData.list.injEq, PySem.PyData.tuple.injEq, PySem.PyData.str.injEq, Option.some.injEq, exists_eq_left', exists_eq_left, exists_and_left, exists_and_right, List.zip_cons_cons, List.zip_nil_right, List.zip_nil_left, List.foldl_cons, List.foldl_nil, List.getD_cons_zero, List.getD_cons_succ, true_and, and_true, Bool.false_eq_true, Bool.true_eq_false, Bool.not_true, Bool.not_false, if_true, if_false, decide_eq_true_eq, decide_eq_false_iff_not, Bool.not_eq_true', Bool.not_eq_false', DD.imp_tt, DD.imp_ff, DD.imp_tf, DD.imp_ft, forall_const, true_implies, false_implies, implies_true, Int.reduceLT, Int.reduceLE, reduceIte, ite_true, ite_false]); try simp only [g0, g1, g2, g3, γ0, γ1, γ2, γ3, γ4, γ5, γ6, γ7, γ8, γ9, γ17, γ18, γ19, γ21, γ22, γ23, γ24]; try (simp only [DD.wSs, DD.wS, DD.wT, DD.wTs, DD.wE, DD.wEs, DD.wEi, DD.wIt, DD.wBnd, DD.bindT, DD.wb_add, DD.wb_sub, DD.wb_mul, DD.wb_fdiv, DD.wb_mod, DD.wb_pow, DD.wb_shl, DD.wb_shr, DD.wb_addL, DD.wb_addT, DD.wb_mulL, DD.wc_lt, DD.wc_le, DD.wc_gt, DD.wc_ge, DD.wc_eq, DD.wc_ne, DD.wc_isN0, DD.wc_isN1, DD.wc_isN2, DD.wc_isN3, DD.wc_isN4, DD.wc_isN5, DD.wc_notN0, DD.wc_notN1, DD.wc_notN2, DD.wc_notN3, DD.wc_notN4, DD.wc_notN5, DD.wt_n, DD.wt_b, DD.wt_i, DD.wt_l, DD.wt_t, DD.wi_l, DD.wi_t, DD.wu_len, DD.wu_lenT, DD.wu_int, DD.wu_intb, DD.wu_abs, DD.wu_tup, DD.wu_tupT, DD.wu_lst, DD.wu_lstT, DD.wu_max2, DD.wu_min2, DD.wu_max1, DD.wu_min1, DD.wu_sum, DD.wu_all, DD.wu_any, DD.wu_sorted, DD.ws_l, DD.ws_t, DD.ws_s, DD.wr_l, DD.wr_t, DD.wb_mulT, DD.wst_l, DD.wst_t, DD.wz_l, DD.wz_t, DD.wn_l, DD.wv_l, DD.wv_t, DD.wc_inl, DD.wc_ninl, DD.wc_int, DD.wc_nint, DD.wCh, DD.ev_ii, DD.ev_bb, DD.ev_ss, DD.ev_nn, DD.ev_ni, DD.ev_in, DD.ev_is, DD.ev_si, DD.ev_tt, DD.ev_ll, DD.ea_nn, DD.ea_cc, DD.ea_nc, DD.ea_cn, DD.sh_n, DD.sh_b, DD.sh_i, DD.sh_s, DD.so_told, DD.so_refused, DD.so_missing, DD.so_large, DD.at0, DD.at1, DD.at2, DD.at3, DD.startE, DD.endK, List.map_cons, List.map_nil, List.length_cons, List.length_nil, List.replicate, List.cons_append, List.nil_append, List.append_nil, DD.getS, DD.setS, DD.clrS, DD.deo_c, DD.deo_n, DD.deo1_v, DD.deo1_u, DD.deo1_o, DD.tgs, DD.Sl.v.injEq, DD.Sl.own.injEq, PySem.PyData.int.injEq, PySem.PyData.bool.injEq, PySem.PyData.list.injEq, PySem.PyData.tuple.injEq, PySem.PyData.str.injEq, Option.some.injEq, exists_eq_left', exists_eq_left, exists_and_left, exists_and_right, List.zip_cons_cons, List.zip_nil_right, List.zip_nil_left, List.foldl_cons, List.foldl_nil, List.getD_cons_zero, List.getD_cons_succ, true_and, and_true, Bool.false_eq_true, Bool.true_eq_false, Bool.not_true, Bool.not_false, if_true, if_false, decide_eq_true_eq, decide_eq_false_iff_not, Bool.not_eq_true', Bool.not_eq_false', DD.imp_tt, DD.imp_ff, DD.imp_tf, DD.imp_ft, forall_const, true_implies, false_implies, implies_true, Int.reduceLT, Int.reduceLE, reduceIte, ite_true, ite_false])))
    have e1 : X.drop acc.length = [] := List.drop_eq_nil_of_le (by omega)
    rw [e1] at hw
    rw [mapInt_len]
    refine ⟨by unfold okLen; omega, ?_⟩
    rw [show iL acc ++ [PyData.int c] = iL (addGo b lo hi m 0 X Y) by rw [← hw]; simp [addGo]]
    exact q
  · rintro z ds e n' ⟨acc, c, x9, x10, rfl, hrem, hl, c0, c1, hw, rfl⟩
    obtain ⟨rfl, hr2, hlt⟩ := rngD_drop hrem
    have hX' : acc.length < X.length := by omega
    have hY' : acc.length < Y.length := by omega
    rw [List.drop_eq_getElem_cons hX', List.drop_eq_getElem_cons hY'] at hw
    have bx := i1 _ (List.getElem_mem hX')
    have by' := i2 _ (List.getElem_mem hY')
    have a1 := getI hX'
    have a2 := getI hY'
    generalize X[acc.length] = x at hw bx a1
    generalize Y[acc.length] = y at hw by' a2
    have km := mem_carr.mp (one0_mem (t := x + y) g.2.2 (by omega) (by omega))
    rw [Int.zero_add] at *
    unfold lL_added_1
    (((simp only [DD.wSs, DD.wS, DD.wT, DD.wTs, DD.wE, DD.wEs, DD.wEi, DD.wIt, DD.wBnd, DD.bindT, DD.wb_add, DD.wb_sub, DD.wb_mul, DD.wb_fdiv, DD.wb_mod, DD.wb_pow, DD.wb_shl, DD.wb_shr, DD.wb_addL, DD.wb_addT, DD.wb_mulL, DD.wc_lt, DD.wc_le, DD.wc_gt, DD.wc_ge, DD.wc_eq, DD.wc_ne, DD.wc_isN0, DD.wc_isN1, DD.wc_isN2, DD.wc_isN3, DD.wc_isN4, DD.wc_isN5, DD.wc_notN0, DD.wc_notN1, DD.wc_notN2, DD.wc_notN3, DD.wc_notN4, DD.wc_notN5, DD.wt_n, DD.wt_b, DD.wt_i, DD.wt_l, DD.wt_t, DD.wi_l, DD.wi_t, DD.wu_len, DD.wu_lenT, DD.wu_int, DD.wu_intb, DD.wu_abs, DD.wu_tup, DD.wu_tupT, DD.wu_lst, DD.wu_lstT, DD.wu_max2, DD.wu_min2, DD.wu_max1, DD.wu_min1, DD.wu_sum, DD.wu_all, DD.wu_any, DD.wu_sorted, DD.ws_l, DD.ws_t, DD.ws_s, DD.wr_l, DD.wr_t, DD.wb_mulT, DD.wst_l, DD.wst_t, DD.wz_l, DD.wz_t, DD.wn_l, DD.wv_l, DD.wv_t, DD.wc_inl, DD.wc_ninl, DD.wc_int, DD.wc_nint, DD.wCh, DD.ev_ii, DD.ev_bb, DD.ev_ss, DD.ev_nn, DD.ev_ni, DD.ev_in, DD.ev_is, DD.ev_si, DD.ev_tt, DD.ev_ll, DD.ea_nn, DD.ea_cc, DD.ea_nc, DD.ea_cn, DD.sh_n, DD.sh_b, DD.sh_i, DD.sh_s, DD.so_told, DD.so_refused, DD.so_missing, DD.so_large, DD.at0, DD.at1, DD.at2, DD.at3, DD.startE, DD.endK, List.map_cons, List.map_nil, List.length_cons, List.length_nil, List.replicate, List.cons_append, List.nil_append, List.append_nil, DD.getS, DD.setS, DD.clrS, DD.deo_c, DD.deo_n, DD.deo1_v, DD.deo1_u, DD.deo1_o, DD.tgs, DD.Sl.v.injEq, DD.Sl.own.injEq, PySem.PyData.int.injEq, PySem.PyData.bool.injEq, PySem.PyData.list.injEq, PySem.PyData.tuple.injEq, PySem.PyData.str.injEq, Option.some.injEq, exists_eq_left', exists_eq_left, exists_and_left, exists_and_right, List.zip_cons_cons, List.zip_nil_right, List.zip_nil_left, List.foldl_cons, List.foldl_nil, List.getD_cons_zero, List.getD_cons_succ, true_and, and_true, Bool.false_eq_true, Bool.true_eq_false, Bool.not_true, Bool.not_false, if_true, if_false, decide_eq_true_eq, decide_eq_false_iff_not, Bool.not_eq_true', Bool.not_eq_false', DD.imp_tt, DD.imp_ff, DD.imp_tf, DD.imp_ft, forall_const, true_implies, false_implies, implies_true, Int.reduceLT, Int.reduceLE, reduceIte, ite_true, ite_false]); try simp only [g0, g1, g2, g3, γ0, γ1, γ2, γ3, γ4, γ5, γ6, γ7, γ8, γ9, γ17, γ18, γ19, γ21, γ22, γ23, γ24]; try (simp only [DD.wSs, DD.wS, DD.wT, DD.wTs, DD.wE, DD.wEs, DD.wEi, DD.wIt, DD.wBnd, DD.bindT, DD.wb_add, DD.wb_sub, DD.wb_mul, DD.wb_fdiv, DD.wb_mod, DD.wb_pow, DD.wb_shl, DD.wb_shr, DD.wb_addL, DD.wb_addT, DD.wb_mulL, DD.wc_lt, DD.wc_le, DD.wc_gt, DD.wc_ge, DD.wc_eq, DD.wc_ne, DD.wc_isN0, DD.wc_isN1, DD.wc_isN2, DD.wc_isN3, DD.wc_isN4, DD.wc_isN5, DD.wc_notN0, DD.wc_notN1, DD.wc_notN2, DD.wc_notN3, DD.wc_notN4, DD.wc_notN5, DD.wt_n, DD.wt_b, DD.wt_i, DD.wt_l, DD.wt_t, DD.wi_l, DD.wi_t, DD.wu_len, DD.wu_lenT, DD.wu_int, DD.wu_intb, DD.wu_abs, DD.wu_tup, DD.wu_tupT, DD.wu_lst, DD.wu_lstT, DD.wu_max2, DD.wu_min2, DD.wu_max1, DD.wu_min1, DD.wu_sum, DD.wu_all, DD.wu_any, DD.wu_sorted, DD.ws_l, DD.ws_t, DD.ws_s, DD.wr_l, DD.wr_t, DD.wb_mulT, DD.wst_l, DD.wst_t, DD.wz_l, DD.wz_t, DD.wn_l, DD.wv_l, DD.wv_t, DD.wc_inl, DD.wc_ninl, DD.wc_int, DD.wc_nint, DD.wCh, DD.ev_ii, DD.ev_bb, DD.ev_ss, DD.ev_nn, DD.ev_ni, DD.ev_in, DD.ev_is, DD.ev_si, DD.ev_tt, DD.ev_ll, DD.ea_nn, DD.ea_cc, DD.ea_nc, DD.ea_cn, DD.sh_n, DD.sh_b, DD.sh_i, DD.sh_s, DD.so_told, DD.so_refused, DD.so_missing, DD.so_large, DD.at0, DD.at1, DD.at2, DD.at3, DD.startE, DD.endK, List.map_cons, List.map_nil, List.length_cons, List.length_nil, List.replicate, List.cons_append, List.nil_append, List.append_nil, DD.getS, DD.setS, DD.clrS, DD.deo_c, DD.deo_n, DD.deo1_v, DD.deo1_u, DD.deo1_o, DD.tgs, DD.Sl.v.injEq, DD.Sl.own.injEq, PySem.PyData.int.injEq, PySem.PyData.bool.injEq, PySem.PyData.list.injEq, PySem.PyData.tuple.injEq, PySem.PyData.str.injEq, Option.some.injEq, exists_eq_left', exists_eq_left, exists_and_left, exists_and_right, List.zip_cons_cons, List.zip_nil_right, List.zip_nil_left, List.foldl_cons, List.foldl_nil, List.getD_cons_zero, List.getD_cons_succ, true_and, and_true, Bool.false_eq_true, Bool.true_eq_false, Bool.not_true, Bool.not_false, if_true, if_false, decide_eq_true_eq, decide_eq_false_iff_not, Bool.not_eq_true', Bool.not_eq_false', DD.imp_tt, DD.imp_ff, DD.imp_tf, DD.imp_ft, forall_const, true_implies, false_implies, implies_true, Int.reduceLT, Int.reduceLE, reduceIte, ite_true, ite_false])))
    refine ⟨.int x, a1, .int y, a2, ?_⟩
    (((simp only [DD.wSs, DD.wS, DD.wT, DD.wTs, DD.wE, DD.wEs, DD.wEi, DD.wIt, DD.wBnd, DD.bindT, DD.wb_add, DD.wb_sub, DD.wb_mul, DD.wb_fdiv, DD.wb_mod, DD.wb_pow, DD.wb_shl, DD.wb_shr, DD.wb_addL, DD.wb_addT, DD.wb_mulL, DD.wc_lt, DD.wc_le, DD.wc_gt, DD.wc_ge, DD.wc_eq, DD.wc_ne, DD.wc_isN0, DD.wc_isN1, DD.wc_isN2, DD.wc_isN3, DD.wc_isN4, DD.wc_isN5, DD.wc_notN0, DD.wc_notN1, DD.wc_notN2, DD.wc_notN3, DD.wc_notN4, DD.wc_notN5, DD.wt_n, DD.wt_b, DD.wt_i, DD.wt_l, DD.wt_t, DD.wi_l, DD.wi_t, DD.wu_len, DD.wu_lenT, DD.wu_int, DD.wu_intb, DD.wu_abs, DD.wu_tup, DD.wu_tupT, DD.wu_lst, DD.wu_lstT, DD.wu_max2, DD.wu_min2, DD.wu_max1, DD.wu_min1, DD.wu_sum, DD.wu_all, DD.wu_any, DD.wu_sorted, DD.ws_l, DD.ws_t, DD.ws_s, DD.wr_l, DD.wr_t, DD.wb_mulT, DD.wst_l, DD.wst_t, DD.wz_l, DD.wz_t, DD.wn_l, DD.wv_l, DD.wv_t, DD.wc_inl, DD.wc_ninl, DD.wc_int, DD.wc_nint, DD.wCh, DD.ev_ii, DD.ev_bb, DD.ev_ss, DD.ev_nn, DD.ev_ni, DD.ev_in, DD.ev_is, DD.ev_si, DD.ev_tt, DD.ev_ll, DD.ea_nn, DD.ea_cc, DD.ea_nc, DD.ea_cn, DD.sh_n, DD.sh_b, DD.sh_i, DD.sh_s, DD.so_told, DD.so_refused, DD.so_missing, DD.so_large, DD.at0, DD.at1, DD.at2, DD.at3, DD.startE, DD.endK, List.map_cons, List.map_nil, List.length_cons, List.length_nil, List.replicate, List.cons_append, List.nil_append, List.append_nil, DD.getS, DD.setS, DD.clrS, DD.deo_c, DD.deo_n, DD.deo1_v, DD.deo1_u, DD.deo1_o, DD.tgs, DD.Sl.v.injEq, DD.Sl.own.injEq, PySem.PyData.int.injEq, PySem.PyData.bool.injEq, PySem.PyData.list.injEq, PySem.PyData.tuple.injEq, PySem.PyData.str.injEq, Option.some.injEq, exists_eq_left', exists_eq_left, exists_and_left, exists_and_right, List.zip_cons_cons, List.zip_nil_right, List.zip_nil_left, List.foldl_cons, List.foldl_nil, List.getD_cons_zero, List.getD_cons_succ, true_and, and_true, Bool.false_eq_true, Bool.true_eq_false, Bool.not_true, Bool.not_false, if_true, if_false, decide_eq_true_eq, decide_eq_false_iff_not, Bool.not_eq_true', Bool.not_eq_false', DD.imp_tt, DD.imp_ff, DD.imp_tf, DD.imp_ft, forall_const, true_implies, false_implies, implies_true, Int.reduceLT, Int.reduceLE, reduceIte, ite_true, ite_false]); try simp only [g0, g1, g2, g3, γ0, γ1, γ2, γ3, γ4, γ5, γ6, γ7, γ8, γ9, γ17, γ18, γ19, γ21, γ22, γ23, γ24]; try (simp only [DD.wSs, DD.wS, DD.wT, DD.wTs, DD.wE, DD.wEs, DD.wEi, DD.wIt, DD.wBnd, DD.bindT, DD.wb_add, DD.wb_sub, DD.wb_mul, DD.wb_fdiv, DD.wb_mod, DD.wb_pow, DD.wb_shl, DD.wb_shr, DD.wb_addL, DD.wb_addT, DD.wb_mulL, DD.wc_lt, DD.wc_le, DD.wc_gt, DD.wc_ge, DD.wc_eq, DD.wc_ne, DD.wc_isN0, DD.wc_isN1, DD.wc_isN2, DD.wc_isN3, DD.wc_isN4, DD.wc_isN5, DD.wc_notN0, DD.wc_notN1, DD.wc_notN2, DD.wc_notN3, DD.wc_notN4, DD.wc_notN5, DD.wt_n, DD.wt_b, DD.wt_i, DD.wt_l, DD.wt_t, DD.wi_l, DD.wi_t, DD.wu_len, DD.wu_lenT, DD.wu_int, DD.wu_intb, DD.wu_abs, DD.wu_tup, DD.wu_tupT, DD.wu_lst, DD.wu_lstT, DD.wu_max2, DD.wu_min2, DD.wu_max1, DD.wu_min1, DD.wu_sum, DD.wu_all, DD.wu_any, DD.wu_sorted, DD.ws_l, DD.ws_t, DD.ws_s, DD.wr_l, DD.wr_t, DD.wb_mulT, DD.wst_l, DD.wst_t, DD.wz_l, DD.wz_t, DD.wn_l, DD.wv_l, DD.wv_t, DD.wc_inl, DD.wc_ninl, DD.wc_int, DD.wc_nint, DD.wCh, DD.ev_ii, DD.ev_bb, DD.ev_ss, DD.ev_nn, DD.ev_ni, DD.ev_in, DD.ev_is, DD.ev_si, DD.ev_tt, DD.ev_ll, DD.ea_nn, DD.ea_cc, DD.ea_nc, DD.ea_cn, DD.sh_n, DD.sh_b, DD.sh_i, DD.sh_s, DD.so_told, DD.so_refused, DD.so_missing, DD.so_large, DD.at0, DD.at1, DD.at2, DD.at3, DD.startE, DD.endK, List.map_cons, List.map_nil, List.length_cons, List.length_nil, List.replicate, List.cons_append, List.nil_append, List.append_nil, DD.getS, DD.setS, DD.clrS, DD.deo_c, DD.deo_n, DD.deo1_v, DD.deo1_u, DD.deo1_o, DD.tgs, DD.Sl.v.injEq, DD.Sl.own.injEq, PySem.PyData.int.injEq, PySem.PyData.bool.injEq, PySem.PyData.list.injEq, PySem.PyData.tuple.injEq, PySem.PyData.str.injEq, Option.some.injEq, exists_eq_left', exists_eq_left, exists_and_left, exists_and_right, List.zip_cons_cons, List.zip_nil_right, List.zip_nil_left, List.foldl_cons, List.foldl_nil, List.getD_cons_zero, List.getD_cons_succ, true_and, and_true, Bool.false_eq_true, Bool.true_eq_false, Bool.not_true, Bool.not_false, if_true, if_false, decide_eq_true_eq, decide_eq_false_iff_not, Bool.not_eq_true', Bool.not_eq_false', DD.imp_tt, DD.imp_ff, DD.imp_tf, DD.imp_ft, forall_const, true_implies, false_implies, implies_true, Int.reduceLT, Int.reduceLE, reduceIte, ite_true, ite_false])))
    refine ⟨b, lo, hi, m, x + y, rfl, so', m0, m1, ?_⟩
    refine head_of g.2.2 (by omega) (by omega) ?_
    (((simp only [DD.wSs, DD.wS, DD.wT, DD.wTs, DD.wE, DD.wEs, DD.wEi, DD.wIt, DD.wBnd, DD.bindT, DD.wb_add, DD.wb_sub, DD.wb_mul, DD.wb_fdiv, DD.wb_mod, DD.wb_pow, DD.wb_shl, DD.wb_shr, DD.wb_addL, DD.wb_addT, DD.wb_mulL, DD.wc_lt, DD.wc_le, DD.wc_gt, DD.wc_ge, DD.wc_eq, DD.wc_ne, DD.wc_isN0, DD.wc_isN1, DD.wc_isN2, DD.wc_isN3, DD.wc_isN4, DD.wc_isN5, DD.wc_notN0, DD.wc_notN1, DD.wc_notN2, DD.wc_notN3, DD.wc_notN4, DD.wc_notN5, DD.wt_n, DD.wt_b, DD.wt_i, DD.wt_l, DD.wt_t, DD.wi_l, DD.wi_t, DD.wu_len, DD.wu_lenT, DD.wu_int, DD.wu_intb, DD.wu_abs, DD.wu_tup, DD.wu_tupT, DD.wu_lst, DD.wu_lstT, DD.wu_max2, DD.wu_min2, DD.wu_max1, DD.wu_min1, DD.wu_sum, DD.wu_all, DD.wu_any, DD.wu_sorted, DD.ws_l, DD.ws_t, DD.ws_s, DD.wr_l, DD.wr_t, DD.wb_mulT, DD.wst_l, DD.wst_t, DD.wz_l, DD.wz_t, DD.wn_l, DD.wv_l, DD.wv_t, DD.wc_inl, DD.wc_ninl, DD.wc_int, DD.wc_nint, DD.wCh, DD.ev_ii, DD.ev_bb, DD.ev_ss, DD.ev_nn, DD.ev_ni, DD.ev_in, DD.ev_is, DD.ev_si, DD.ev_tt, DD.ev_ll, DD.ea_nn, DD.ea_cc, DD.ea_nc, DD.ea_cn, DD.sh_n, DD.sh_b, DD.sh_i, DD.sh_s, DD.so_told, DD.so_refused, DD.so_missing, DD.so_large, DD.at0, DD.at1, DD.at2, DD.at3, DD.startE, DD.endK, List.map_cons, List.map_nil, List.length_cons, List.length_nil, List.replicate, List.cons_append, List.nil_append, List.append_nil, DD.getS, DD.setS, DD.clrS, DD.deo_c, DD.deo_n, DD.deo1_v, DD.deo1_u, DD.deo1_o, DD.tgs, DD.Sl.v.injEq, DD.Sl.own.injEq, PySem.PyData.int.injEq, PySem.PyData.bool.injEq, PySem.PyData.list.injEq, PySem.PyData.tuple.injEq, PySem.PyData.str.injEq, Option.some.injEq, exists_eq_left', exists_eq_left, exists_and_left, exists_and_right, List.zip_cons_cons, List.zip_nil_right, List.zip_nil_left, List.foldl_cons, List.foldl_nil, List.getD_cons_zero, List.getD_cons_succ, true_and, and_true, Bool.false_eq_true, Bool.true_eq_false, Bool.not_true, Bool.not_false, if_true, if_false, decide_eq_true_eq, decide_eq_false_iff_not, Bool.not_eq_true', Bool.not_eq_false', DD.imp_tt, DD.imp_ff, DD.imp_tf, DD.imp_ft, forall_const, true_implies, false_implies, implies_true, Int.reduceLT, Int.reduceLE, reduceIte, ite_true, ite_false]); try simp only [g0, g1, g2, g3, γ0, γ1, γ2, γ3, γ4, γ5, γ6, γ7, γ8, γ9, γ17, γ18, γ19, γ21, γ22, γ23, γ24]; try (simp only [DD.wSs, DD.wS, DD.wT, DD.wTs, DD.wE, DD.wEs, DD.wEi, DD.wIt, DD.wBnd, DD.bindT, DD.wb_add, DD.wb_sub, DD.wb_mul, DD.wb_fdiv, DD.wb_mod, DD.wb_pow, DD.wb_shl, DD.wb_shr, DD.wb_addL, DD.wb_addT, DD.wb_mulL, DD.wc_lt, DD.wc_le, DD.wc_gt, DD.wc_ge, DD.wc_eq, DD.wc_ne, DD.wc_isN0, DD.wc_isN1, DD.wc_isN2, DD.wc_isN3, DD.wc_isN4, DD.wc_isN5, DD.wc_notN0, DD.wc_notN1, DD.wc_notN2, DD.wc_notN3, DD.wc_notN4, DD.wc_notN5, DD.wt_n, DD.wt_b, DD.wt_i, DD.wt_l, DD.wt_t, DD.wi_l, DD.wi_t, DD.wu_len, DD.wu_lenT, DD.wu_int, DD.wu_intb, DD.wu_abs, DD.wu_tup, DD.wu_tupT, DD.wu_lst, DD.wu_lstT, DD.wu_max2, DD.wu_min2, DD.wu_max1, DD.wu_min1, DD.wu_sum, DD.wu_all, DD.wu_any, DD.wu_sorted, DD.ws_l, DD.ws_t, DD.ws_s, DD.wr_l, DD.wr_t, DD.wb_mulT, DD.wst_l, DD.wst_t, DD.wz_l, DD.wz_t, DD.wn_l, DD.wv_l, DD.wv_t, DD.wc_inl, DD.wc_ninl, DD.wc_int, DD.wc_nint, DD.wCh, DD.ev_ii, DD.ev_bb, DD.ev_ss, DD.ev_nn, DD.ev_ni, DD.ev_in, DD.ev_is, DD.ev_si, DD.ev_tt, DD.ev_ll, DD.ea_nn, DD.ea_cc, DD.ea_nc, DD.ea_cn, DD.sh_n, DD.sh_b, DD.sh_i, DD.sh_s, DD.so_told, DD.so_refused, DD.so_missing, DD.so_large, DD.at0, DD.at1, DD.at2, DD.at3, DD.startE, DD.endK, List.map_cons, List.map_nil, List.length_cons, List.length_nil, List.replicate, List.cons_append, List.nil_append, List.append_nil, DD.getS, DD.setS, DD.clrS, DD.deo_c, DD.deo_n, DD.deo1_v, DD.deo1_u, DD.deo1_o, DD.tgs, DD.Sl.v.injEq, DD.Sl.own.injEq, PySem.PyData.int.injEq, PySem.PyData.bool.injEq, PySem.PyData.list.injEq, PySem.PyData.tuple.injEq, PySem.PyData.str.injEq, Option.some.injEq, exists_eq_left', exists_eq_left, exists_and_left, exists_and_right, List.zip_cons_cons, List.zip_nil_right, List.zip_nil_left, List.foldl_cons, List.foldl_nil, List.getD_cons_zero, List.getD_cons_succ, true_and, and_true, Bool.false_eq_true, Bool.true_eq_false, Bool.not_true, Bool.not_false, if_true, if_false, decide_eq_true_eq, decide_eq_false_iff_not, Bool.not_eq_true', Bool.not_eq_false', DD.imp_tt, DD.imp_ff, DD.imp_tf, DD.imp_ft, forall_const, true_implies, false_implies, implies_true, Int.reduceLT, Int.reduceLE, reduceIte, ite_true, ite_false])))
    refine ⟨.int x, a1, .int y, a2, ?_⟩
    (((simp only [DD.wSs, DD.wS, DD.wT, DD.wTs, DD.wE, DD.wEs, DD.wEi, DD.wIt, DD.wBnd, DD.bindT, DD.wb_add, DD.wb_sub, DD.wb_mul, DD.wb_fdiv, DD.wb_mod, DD.wb_pow, DD.wb_shl, DD.wb_shr, DD.wb_addL, DD.wb_addT, DD.wb_mulL, DD.wc_lt, DD.wc_le, DD.wc_gt, DD.wc_ge, DD.wc_eq, DD.wc_ne, DD.wc_isN0, DD.wc_isN1, DD.wc_isN2, DD.wc_isN3, DD.wc_isN4, DD.wc_isN5, DD.wc_notN0, DD.wc_notN1, DD.wc_notN2, DD.wc_notN3, DD.wc_notN4, DD.wc_notN5, DD.wt_n, DD.wt_b, DD.wt_i, DD.wt_l, DD.wt_t, DD.wi_l, DD.wi_t, DD.wu_len, DD.wu_lenT, DD.wu_int, DD.wu_intb, DD.wu_abs, DD.wu_tup, DD.wu_tupT, DD.wu_lst, DD.wu_lstT, DD.wu_max2, DD.wu_min2, DD.wu_max1, DD.wu_min1, DD.wu_sum, DD.wu_all, DD.wu_any, DD.wu_sorted, DD.ws_l, DD.ws_t, DD.ws_s, DD.wr_l, DD.wr_t, DD.wb_mulT, DD.wst_l, DD.wst_t, DD.wz_l, DD.wz_t, DD.wn_l, DD.wv_l, DD.wv_t, DD.wc_inl, DD.wc_ninl, DD.wc_int, DD.wc_nint, DD.wCh, DD.ev_ii, DD.ev_bb, DD.ev_ss, DD.ev_nn, DD.ev_ni, DD.ev_in, DD.ev_is, DD.ev_si, DD.ev_tt, DD.ev_ll, DD.ea_nn, DD.ea_cc, DD.ea_nc, DD.ea_cn, DD.sh_n, DD.sh_b, DD.sh_i, DD.sh_s, DD.so_told, DD.so_refused, DD.so_missing, DD.so_large, DD.at0, DD.at1, DD.at2, DD.at3, DD.startE, DD.endK, List.map_cons, List.map_nil, List.length_cons, List.length_nil, List.replicate, List.cons_append, List.nil_append, List.append_nil, DD.getS, DD.setS, DD.clrS, DD.deo_c, DD.deo_n, DD.deo1_v, DD.deo1_u, DD.deo1_o, DD.tgs, DD.Sl.v.injEq, DD.Sl.own.injEq, PySem.PyData.int.injEq, PySem.PyData.bool.injEq, PySem.PyData.list.injEq, PySem.PyData.tuple.injEq, PySem.PyData.str.injEq, Option.some.injEq, exists_eq_left', exists_eq_left, exists_and_left, exists_and_right, List.zip_cons_cons, List.zip_nil_right, List.zip_nil_left, List.foldl_cons, List.foldl_nil, List.getD_cons_zero, List.getD_cons_succ, true_and, and_true, Bool.false_eq_true, Bool.true_eq_false, Bool.not_true, Bool.not_false, if_true, if_false, decide_eq_true_eq, decide_eq_false_iff_not, Bool.not_eq_true', Bool.not_eq_false', DD.imp_tt, DD.imp_ff, DD.imp_tf, DD.imp_ft, forall_const, true_implies, false_implies, implies_true, Int.reduceLT, Int.reduceLE, reduceIte, ite_true, ite_false]); try simp only [g0, g1, g2, g3, γ0, γ1, γ2, γ3, γ4, γ5, γ6, γ7, γ8, γ9, γ17, γ18, γ19, γ21, γ22, γ23, γ24]; try (simp only [DD.wSs, DD.wS, DD.wT, DD.wTs, DD.wE, DD.wEs, DD.wEi, DD.wIt, DD.wBnd, DD.bindT, DD.wb_add, DD.wb_sub, DD.wb_mul, DD.wb_fdiv, DD.wb_mod, DD.wb_pow, DD.wb_shl, DD.wb_shr, DD.wb_addL, DD.wb_addT, DD.wb_mulL, DD.wc_lt, DD.wc_le, DD.wc_gt, DD.wc_ge, DD.wc_eq, DD.wc_ne, DD.wc_isN0, DD.wc_isN1, DD.wc_isN2, DD.wc_isN3, DD.wc_isN4, DD.wc_isN5, DD.wc_notN0, DD.wc_notN1, DD.wc_notN2, DD.wc_notN3, DD.wc_notN4, DD.wc_notN5, DD.wt_n, DD.wt_b, DD.wt_i, DD.wt_l, DD.wt_t, DD.wi_l, DD.wi_t, DD.wu_len, DD.wu_lenT, DD.wu_int, DD.wu_intb, DD.wu_abs, DD.wu_tup, DD.wu_tupT, DD.wu_lst, DD.wu_lstT, DD.wu_max2, DD.wu_min2, DD.wu_max1, DD.wu_min1, DD.wu_sum, DD.wu_all, DD.wu_any, DD.wu_sorted, DD.ws_l, DD.ws_t, DD.ws_s, DD.wr_l, DD.wr_t, DD.wb_mulT, DD.wst_l, DD.wst_t, DD.wz_l, DD.wz_t, DD.wn_l, DD.wv_l, DD.wv_t, DD.wc_inl, DD.wc_ninl, DD.wc_int, DD.wc_nint, DD.wCh, DD.ev_ii, DD.ev_bb, DD.ev_ss, DD.ev_nn, DD.ev_ni, DD.ev_in, DD.ev_is, DD.ev_si, DD.ev_tt, DD.ev_ll, DD.ea_nn, DD.ea_cc, DD.ea_nc, DD.ea_cn, DD.sh_n, DD.sh_b, DD.sh_i, DD.sh_s, DD.so_told, DD.so_refused, DD.so_missing, DD.so_large, DD.at0, DD.at1, DD.at2, DD.at3, DD.startE, DD.endK, List.map_cons, List.map_nil, List.length_cons, List.length_nil, List.replicate, List.cons_append, List.nil_append, List.append_nil, DD.getS, DD.setS, DD.clrS, DD.deo_c, DD.deo_n, DD.deo1_v, DD.deo1_u, DD.deo1_o, DD.tgs, DD.Sl.v.injEq, DD.Sl.own.injEq, PySem.PyData.int.injEq, PySem.PyData.bool.injEq, PySem.PyData.list.injEq, PySem.PyData.tuple.injEq, PySem.PyData.str.injEq, Option.some.injEq, exists_eq_left', exists_eq_left, exists_and_left, exists_and_right, List.zip_cons_cons, List.zip_nil_right, List.zip_nil_left, List.foldl_cons, List.foldl_nil, List.getD_cons_zero, List.getD_cons_succ, true_and, and_true, Bool.false_eq_true, Bool.true_eq_false, Bool.not_true, Bool.not_false, if_true, if_false, decide_eq_true_eq, decide_eq_false_iff_not, Bool.not_eq_true', Bool.not_eq_false', DD.imp_tt, DD.imp_ff, DD.imp_tf, DD.imp_ft, forall_const, true_implies, false_implies, implies_true, Int.reduceLT, Int.reduceLE, reduceIte, ite_true, ite_false])))
    rw [mapInt_len]
    refine ⟨okMul_l (by omega) (by omega), by omega, acc ++ [x + y - one0 b lo hi m (x + y) * b + c], _, .v (.int acc.length), .v (.int (one0 b lo hi m (x + y))), rfl, ?_, ?_, km.1, km.2.1, ?_, ?_⟩
    · rw [List.length_append]; exact hr2
    · rw [List.length_append]; simp only [List.length_cons, List.length_nil]; omega
    · rw [← hw, List.append_assoc, List.length_append]; rfl
    · rw [show iL (acc ++ [x + y - one0 b lo hi m (x + y) * b + c]) = iL acc ++ [PyData.int (x + y - one0 b lo hi m (x + y) * b + c)] by simp]
end DD



set_option Elab.async false
set_option linter.all false
set_option maxRecDepth 100000
set_option maxHeartbeats 4000000
namespace DD
open PySem PySem.Spec PyProof.Rows L2 D56
def I5 (rem : List D) (e : Env) (n : Nat) : Prop := n + 150 * rem.length ≤ 1000 ∧ ∃ x0 y2 y3 y4 y5 y6 y7 y8 y9 y10 y11 y12 y13 y14 y15 y16 y17, e = [x0, .v sttD, y2, y3, y4, y5, y6, y7, y8, y9, y10, y11, y12, y13, y14, y15, y16, y17]
def Qt : K1 := fun d _ => d = .bool true
def K5 (ds : List D) : Kn := ⟨fun e n => I5 ds e n, Qt, fun e n => Qt (.bool true) n, fun e n => I5 ds e n, fun _ _ => False⟩
theorem rep4 {a : D} : (List.replicate (Int.toNat 4) [a]).flatten = [a, a, a, a] := rfl
section
variable {ds : List D} {n : Nat} {b l h : Int} {x0 y2 y3 y4 y5 y6 y7 y8 y9 y10 y11 y12 y13 y14 y15 y16 y17 : Sl}
theorem t203 (hn : n + 150 * ds.length ≤ 1000) :
    wSs ΓL GL c_law_203 [x0, .v sttD, y2, y3, y4, y5, y6, y7, y8, y9, y10, y11, y12, y13, y14, y15, y16, .v (.list [.tuple [.str "refused"], .tuple [.str "refused"], .tuple [.str "refused"], .tuple [.str "refused"]])] n (K5 ds) := by
  unfold c_law_203
  (((simp only [DD.wSs, DD.wS, DD.wT, DD.wTs, DD.wE, DD.wEs, DD.wEi, DD.wIt, DD.wBnd, DD.bindT, DD.wb_add, DD.wb_sub, DD.wb_mul, DD.wb_fdiv, DD.wb_mod, DD.wb_pow, DD.wb_shl, DD.wb_shr, DD.wb_addL, DD.wb_addT, DD.wb_mulL, DD.wc_lt, DD.wc_le, DD.wc_gt, DD.wc_ge, DD.wc_eq, DD.wc_ne, DD.wc_isN0, DD.wc_isN1, DD.wc_isN2, DD.wc_isN3, DD.wc_isN4, DD.wc_isN5, DD.wc_notN0, DD.wc_notN1, DD.wc_notN2, DD.wc_notN3, DD.wc_notN4, DD.wc_notN5, DD.wt_n, DD.wt_b, DD.wt_i, DD.wt_l, DD.wt_t, DD.wi_l, DD.wi_t, DD.wu_len, DD.wu_lenT, DD.wu_int, DD.wu_intb, DD.wu_abs, DD.wu_tup, DD.wu_tupT, DD.wu_lst, DD.wu_lstT, DD.wu_max2, DD.wu_min2, DD.wu_max1, DD.wu_min1, DD.wu_sum, DD.wu_all, DD.wu_any, DD.wu_sorted, DD.ws_l, DD.ws_t, DD.ws_s, DD.wr_l, DD.wr_t, DD.wb_mulT, DD.wst_l, DD.wst_t, DD.wz_l, DD.wz_t, DD.wn_l, DD.wv_l, DD.wv_t, DD.wc_inl, DD.wc_ninl, DD.wc_int, DD.wc_nint, DD.wCh, DD.ev_ii, DD.ev_bb, DD.ev_ss, DD.ev_nn, DD.ev_ni, DD.ev_in, DD.ev_is, DD.ev_si, DD.ev_tt, DD.ev_ll, DD.ea_nn, DD.ea_cc, DD.ea_nc, DD.ea_cn, DD.sh_n, DD.sh_b, DD.sh_i, DD.sh_s, DD.so_told, DD.so_refused, DD.so_missing, DD.so_large, DD.at0, DD.at1, DD.at2, DD.at3, DD.startE, DD.endK, List.map_cons, List.map_nil, List.length_cons, List.length_nil, List.replicate, List.cons_append, List.nil_append, List.append_nil, DD.getS, DD.setS, DD.clrS, DD.deo_c, DD.deo_n, DD.deo1_v, DD.deo1_u, DD.deo1_o, DD.tgs, DD.Sl.v.injEq, DD.Sl.own.injEq, PySem.PyData.int.injEq, PySem.PyData.bool.injEq, PySem.PyData.list.injEq, PySem.PyData.tuple.injEq, PySem.PyData.str.injEq, Option.some.injEq, exists_eq_left', exists_eq_left, exists_and_left, exists_and_right, List.zip_cons_cons, List.zip_nil_right, List.zip_nil_left, List.foldl_cons, List.foldl_nil, List.getD_cons_zero, List.getD_cons_succ, true_and, and_true, Bool.false_eq_true, Bool.true_eq_false, Bool.not_true, Bool.not_false, if_true, if_false, decide_eq_true_eq, decide_eq_false_iff_not, Bool.not_eq_true', Bool.not_eq_false', DD.imp_tt, DD.imp_ff, DD.imp_tf, DD.imp_ft, forall_const, true_implies, false_implies, implies_true, Int.reduceLT, Int.reduceLE, reduceIte, ite_true, ite_false]); try simp only [g0, g1, g2, g3, γ0, γ1, γ2, γ3, γ4, γ5, γ6, γ7, γ8, γ9, γ17, γ18, γ19, γ21, γ22, γ23, γ24]; try (simp only [DD.wSs, DD.wS, DD.wT, DD.wTs, DD.wE, DD.wEs, DD.wEi, DD.wIt, DD.wBnd, DD.bindT, DD.wb_add, DD.wb_sub, DD.wb_mul, DD.wb_fdiv, DD.wb_mod, DD.wb_pow, DD.wb_shl, DD.wb_shr, DD.wb_addL, DD.wb_addT, DD.wb_mulL, DD.wc_lt, DD.wc_le, DD.wc_gt, DD.wc_ge, DD.wc_eq, DD.wc_ne, DD.wc_isN0, DD.wc_isN1, DD.wc_isN2, DD.wc_isN3, DD.wc_isN4, DD.wc_isN5, DD.wc_notN0, DD.wc_notN1, DD.wc_notN2, DD.wc_notN3, DD.wc_notN4, DD.wc_notN5, DD.wt_n, DD.wt_b, DD.wt_i, DD.wt_l, DD.wt_t, DD.wi_l, DD.wi_t, DD.wu_len, DD.wu_lenT, DD.wu_int, DD.wu_intb, DD.wu_abs, DD.wu_tup, DD.wu_tupT, DD.wu_lst, DD.wu_lstT, DD.wu_max2, DD.wu_min2, DD.wu_max1, DD.wu_min1, DD.wu_sum, DD.wu_all, DD.wu_any, DD.wu_sorted, DD.ws_l, DD.ws_t, DD.ws_s, DD.wr_l, DD.wr_t, DD.wb_mulT, DD.wst_l, DD.wst_t, DD.wz_l, DD.wz_t, DD.wn_l, DD.wv_l, DD.wv_t, DD.wc_inl, DD.wc_ninl, DD.wc_int, DD.wc_nint, DD.wCh, DD.ev_ii, DD.ev_bb, DD.ev_ss, DD.ev_nn, DD.ev_ni, DD.ev_in, DD.ev_is, DD.ev_si, DD.ev_tt, DD.ev_ll, DD.ea_nn, DD.ea_cc, DD.ea_nc, DD.ea_cn, DD.sh_n, DD.sh_b, DD.sh_i, DD.sh_s, DD.so_told, DD.so_refused, DD.so_missing, DD.so_large, DD.at0, DD.at1, DD.at2, DD.at3, DD.startE, DD.endK, List.map_cons, List.map_nil, List.length_cons, List.length_nil, List.replicate, List.cons_append, List.nil_append, List.append_nil, DD.getS, DD.setS, DD.clrS, DD.deo_c, DD.deo_n, DD.deo1_v, DD.deo1_u, DD.deo1_o, DD.tgs, DD.Sl.v.injEq, DD.Sl.own.injEq, PySem.PyData.int.injEq, PySem.PyData.bool.injEq, PySem.PyData.list.injEq, PySem.PyData.tuple.injEq, PySem.PyData.str.injEq, Option.some.injEq, exists_eq_left', exists_eq_left, exists_and_left, exists_and_right, List.zip_cons_cons, List.zip_nil_right, List.zip_nil_left, List.foldl_cons, List.foldl_nil, List.getD_cons_zero, List.getD_cons_succ, true_and, and_true, Bool.false_eq_true, Bool.true_eq_false, Bool.not_true, Bool.not_false, if_true, if_false, decide_eq_true_eq, decide_eq_false_iff_not, Bool.not_eq_true', Bool.not_eq_false', DD.imp_tt, DD.imp_ff, DD.imp_tf, DD.imp_ft, forall_const, true_implies, false_implies, implies_true, Int.reduceLT, Int.reduceLE, reduceIte, ite_true, ite_false])))
  rw [rep4]
  (((simp only [DD.wSs, DD.wS, DD.wT, DD.wTs, DD.wE, DD.wEs, DD.wEi, DD.wIt, DD.wBnd, DD.bindT, DD.wb_add, DD.wb_sub, DD.wb_mul, DD.wb_fdiv, DD.wb_mod, DD.wb_pow, DD.wb_shl, DD.wb_shr, DD.wb_addL, DD.wb_addT, DD.wb_mulL, DD.wc_lt, DD.wc_le, DD.wc_gt, DD.wc_ge, DD.wc_eq, DD.wc_ne, DD.wc_isN0, DD.wc_isN1, DD.wc_isN2, DD.wc_isN3, DD.wc_isN4, DD.wc_isN5, DD.wc_notN0, DD.wc_notN1, DD.wc_notN2, DD.wc_notN3, DD.wc_notN4, DD.wc_notN5, DD.wt_n, DD.wt_b, DD.wt_i, DD.wt_l, DD.wt_t, DD.wi_l, DD.wi_t, DD.wu_len, DD.wu_lenT, DD.wu_int, DD.wu_intb, DD.wu_abs, DD.wu_tup, DD.wu_tupT, DD.wu_lst, DD.wu_lstT, DD.wu_max2, DD.wu_min2, DD.wu_max1, DD.wu_min1, DD.wu_sum, DD.wu_all, DD.wu_any, DD.wu_sorted, DD.ws_l, DD.ws_t, DD.ws_s, DD.wr_l, DD.wr_t, DD.wb_mulT, DD.wst_l, DD.wst_t, DD.wz_l, DD.wz_t, DD.wn_l, DD.wv_l, DD.wv_t, DD.wc_inl, DD.wc_ninl, DD.wc_int, DD.wc_nint, DD.wCh, DD.ev_ii, DD.ev_bb, DD.ev_ss, DD.ev_nn, DD.ev_ni, DD.ev_in, DD.ev_is, DD.ev_si, DD.ev_tt, DD.ev_ll, DD.ea_nn, DD.ea_cc, DD.ea_nc, DD.ea_cn, DD.sh_n, DD.sh_b, DD.sh_i, DD.sh_s, DD.so_told, DD.so_refused, DD.so_missing, DD.so_large, DD.at0, DD.at1, DD.at2, DD.at3, DD.startE, DD.endK, List.map_cons, List.map_nil, List.length_cons, List.length_nil, List.replicate, List.cons_append, List.nil_append, List.append_nil, DD.getS, DD.setS, DD.clrS, DD.deo_c, DD.deo_n, DD.deo1_v, DD.deo1_u, DD.deo1_o, DD.tgs, DD.Sl.v.injEq, DD.Sl.own.injEq, PySem.PyData.int.injEq, PySem.PyData.bool.injEq, PySem.PyData.list.injEq, PySem.PyData.tuple.injEq, PySem.PyData.str.injEq, Option.some.injEq, exists_eq_left', exists_eq_left, exists_and_left, exists_and_right, List.zip_cons_cons, List.zip_nil_right, List.zip_nil_left, List.foldl_cons, List.foldl_nil, List.getD_cons_zero, List.getD_cons_succ, true_and, and_true, Bool.false_eq_true, Bool.true_eq_false, Bool.not_true, Bool.not_false, if_true, if_false, decide_eq_true_eq, decide_eq_false_iff_not, Bool.not_eq_true', Bool.not_eq_false', DD.imp_tt, DD.imp_ff, DD.imp_tf, DD.imp_ft, forall_const, true_implies, false_implies, implies_true, Int.reduceLT, Int.reduceLE, reduceIte, ite_true, ite_false]); try simp only [g0, g1, g2, g3, γ0, γ1, γ2, γ3, γ4, γ5, γ6, γ7, γ8, γ9, γ17, γ18, γ19, γ21, γ22, γ23, γ24]; try (simp only [DD.wSs, DD.wS, DD.wT, DD.wTs, DD.wE, DD.wEs, DD.wEi, DD.wIt, DD.wBnd, DD.bindT, DD.wb_add, DD.wb_sub, DD.wb_mul, DD.wb_fdiv, DD.wb_mod, DD.wb_pow, DD.wb_shl, DD.wb_shr, DD.wb_addL, DD.wb_addT, DD.wb_mulL, DD.wc_lt, DD.wc_le, DD.wc_gt, DD.wc_ge, DD.wc_eq, DD.wc_ne, DD.wc_isN0, DD.wc_isN1, DD.wc_isN2, DD.wc_isN3, DD.wc_isN4, DD.wc_isN5, DD.wc_notN0, DD.wc_notN1, DD.wc_notN2, DD.wc_notN3, DD.wc_notN4, DD.wc_notN5, DD.wt_n, DD.wt_b, DD.wt_i, DD.wt_l, DD.wt_t, DD.wi_l, DD.wi_t, DD.wu_len, DD.wu_lenT, DD.wu_int, DD.wu_intb, DD.wu_abs, DD.wu_tup, DD.wu_tupT, DD.wu_lst, DD.wu_lstT, DD.wu_max2, DD.wu_min2, DD.wu_max1, DD.wu_min1, DD.wu_sum, DD.wu_all, DD.wu_any, DD.wu_sorted, DD.ws_l, DD.ws_t, DD.ws_s, DD.wr_l, DD.wr_t, DD.wb_mulT, DD.wst_l, DD.wst_t, DD.wz_l, DD.wz_t, DD.wn_l, DD.wv_l, DD.wv_t, DD.wc_inl, DD.wc_ninl, DD.wc_int, DD.wc_nint, DD.wCh, DD.ev_ii, DD.ev_bb, DD.ev_ss, DD.ev_nn, DD.ev_ni, DD.ev_in, DD.ev_is, DD.ev_si, DD.ev_tt, DD.ev_ll, DD.ea_nn, DD.ea_cc, DD.ea_nc, DD.ea_cn, DD.sh_n, DD.sh_b, DD.sh_i, DD.sh_s, DD.so_told, DD.so_refused, DD.so_missing, DD.so_large, DD.at0, DD.at1, DD.at2, DD.at3, DD.startE, DD.endK, List.map_cons, List.map_nil, List.length_cons, List.length_nil, List.replicate, List.cons_append, List.nil_append, List.append_nil, DD.getS, DD.setS, DD.clrS, DD.deo_c, DD.deo_n, DD.deo1_v, DD.deo1_u, DD.deo1_o, DD.tgs, DD.Sl.v.injEq, DD.Sl.own.injEq, PySem.PyData.int.injEq, PySem.PyData.bool.injEq, PySem.PyData.list.injEq, PySem.PyData.tuple.injEq, PySem.PyData.str.injEq, Option.some.injEq, exists_eq_left', exists_eq_left, exists_and_left, exists_and_right, List.zip_cons_cons, List.zip_nil_right, List.zip_nil_left, List.foldl_cons, List.foldl_nil, List.getD_cons_zero, List.getD_cons_succ, true_and, and_true, Bool.false_eq_true, Bool.true_eq_false, Bool.not_true, Bool.not_false, if_true, if_false, decide_eq_true_eq, decide_eq_false_iff_not, Bool.not_eq_true', Bool.not_eq_false', DD.imp_tt, DD.imp_ff, DD.imp_tf, DD.imp_ft, forall_const, true_implies, false_implies, implies_true, Int.reduceLT, Int.reduceLE, reduceIte, ite_true, ite_false])))
  refine ⟨⟨by decide, by decide, by unfold okLen; decide⟩, ⟨by (simp [Shp, SeqAt.shaped, PyData.canLay0, PyData.canLayAll0, PyData.depth, PyData.depthAll, nm0, nm1, nm2, so_told, so_refused, so_missing, so_large]), by (simp [Shp, SeqAt.shaped, PyData.canLay0, PyData.canLayAll0, PyData.depth, PyData.depthAll, nm0, nm1, nm2, so_told, so_refused, so_missing, so_large])⟩, fun h => ?_, fun h => ⟨hn, _, _, _, _, _, _, _, _, _, _, _, _, _, _, _, _, _, rfl⟩⟩
  simp at h
theorem t201 (hn : n + 1 + 150 * ds.length ≤ 1000) (so : SysOk b l h) :
    wSs ΓL GL c_law_201 [x0, .v sttD, y2, .v (.tuple (sy b l h)), y4, y5, y6, y7, y8, y9, y10, y11, y12, y13, y14, y15, y16, y17] n (K5 ds) := by
  unfold c_law_201
  (((simp only [DD.wSs, DD.wS, DD.wT, DD.wTs, DD.wE, DD.wEs, DD.wEi, DD.wIt, DD.wBnd, DD.bindT, DD.wb_add, DD.wb_sub, DD.wb_mul, DD.wb_fdiv, DD.wb_mod, DD.wb_pow, DD.wb_shl, DD.wb_shr, DD.wb_addL, DD.wb_addT, DD.wb_mulL, DD.wc_lt, DD.wc_le, DD.wc_gt, DD.wc_ge, DD.wc_eq, DD.wc_ne, DD.wc_isN0, DD.wc_isN1, DD.wc_isN2, DD.wc_isN3, DD.wc_isN4, DD.wc_isN5, DD.wc_notN0, DD.wc_notN1, DD.wc_notN2, DD.wc_notN3, DD.wc_notN4, DD.wc_notN5, DD.wt_n, DD.wt_b, DD.wt_i, DD.wt_l, DD.wt_t, DD.wi_l, DD.wi_t, DD.wu_len, DD.wu_lenT, DD.wu_int, DD.wu_intb, DD.wu_abs, DD.wu_tup, DD.wu_tupT, DD.wu_lst, DD.wu_lstT, DD.wu_max2, DD.wu_min2, DD.wu_max1, DD.wu_min1, DD.wu_sum, DD.wu_all, DD.wu_any, DD.wu_sorted, DD.ws_l, DD.ws_t, DD.ws_s, DD.wr_l, DD.wr_t, DD.wb_mulT, DD.wst_l, DD.wst_t, DD.wz_l, DD.wz_t, DD.wn_l, DD.wv_l, DD.wv_t, DD.wc_inl, DD.wc_ninl, DD.wc_int, DD.wc_nint, DD.wCh, DD.ev_ii, DD.ev_bb, DD.ev_ss, DD.ev_nn, DD.ev_ni, DD.ev_in, DD.ev_is, DD.ev_si, DD.ev_tt, DD.ev_ll, DD.ea_nn, DD.ea_cc, DD.ea_nc, DD.ea_cn, DD.sh_n, DD.sh_b, DD.sh_i, DD.sh_s, DD.so_told, DD.so_refused, DD.so_missing, DD.so_large, DD.at0, DD.at1, DD.at2, DD.at3, DD.startE, DD.endK, List.map_cons, List.map_nil, List.length_cons, List.length_nil, List.replicate, List.cons_append, List.nil_append, List.append_nil, DD.getS, DD.setS, DD.clrS, DD.deo_c, DD.deo_n, DD.deo1_v, DD.deo1_u, DD.deo1_o, DD.tgs, DD.Sl.v.injEq, DD.Sl.own.injEq, PySem.PyData.int.injEq, PySem.PyData.bool.injEq, PySem.PyData.list.injEq, PySem.PyData.tuple.injEq, PySem.PyData.str.injEq, Option.some.injEq, exists_eq_left', exists_eq_left, exists_and_left, exists_and_right, List.zip_cons_cons, List.zip_nil_right, List.zip_nil_left, List.foldl_cons, List.foldl_nil, List.getD_cons_zero, List.getD_cons_succ, true_and, and_true, Bool.false_eq_true, Bool.true_eq_false, Bool.not_true, Bool.not_false, if_true, if_false, decide_eq_true_eq, decide_eq_false_iff_not, Bool.not_eq_true', Bool.not_eq_false', DD.imp_tt, DD.imp_ff, DD.imp_tf, DD.imp_ft, forall_const, true_implies, false_implies, implies_true, Int.reduceLT, Int.reduceLE, reduceIte, ite_true, ite_false]); try simp only [g0, g1, g2, g3, γ0, γ1, γ2, γ3, γ4, γ5, γ6, γ7, γ8, γ9, γ17, γ18, γ19, γ21, γ22, γ23, γ24]; try (simp only [DD.wSs, DD.wS, DD.wT, DD.wTs, DD.wE, DD.wEs, DD.wEi, DD.wIt, DD.wBnd, DD.bindT, DD.wb_add, DD.wb_sub, DD.wb_mul, DD.wb_fdiv, DD.wb_mod, DD.wb_pow, DD.wb_shl, DD.wb_shr, DD.wb_addL, DD.wb_addT, DD.wb_mulL, DD.wc_lt, DD.wc_le, DD.wc_gt, DD.wc_ge, DD.wc_eq, DD.wc_ne, DD.wc_isN0, DD.wc_isN1, DD.wc_isN2, DD.wc_isN3, DD.wc_isN4, DD.wc_isN5, DD.wc_notN0, DD.wc_notN1, DD.wc_notN2, DD.wc_notN3, DD.wc_notN4, DD.wc_notN5, DD.wt_n, DD.wt_b, DD.wt_i, DD.wt_l, DD.wt_t, DD.wi_l, DD.wi_t, DD.wu_len, DD.wu_lenT, DD.wu_int, DD.wu_intb, DD.wu_abs, DD.wu_tup, DD.wu_tupT, DD.wu_lst, DD.wu_lstT, DD.wu_max2, DD.wu_min2, DD.wu_max1, DD.wu_min1, DD.wu_sum, DD.wu_all, DD.wu_any, DD.wu_sorted, DD.ws_l, DD.ws_t, DD.ws_s, DD.wr_l, DD.wr_t, DD.wb_mulT, DD.wst_l, DD.wst_t, DD.wz_l, DD.wz_t, DD.wn_l, DD.wv_l, DD.wv_t, DD.wc_inl, DD.wc_ninl, DD.wc_int, DD.wc_nint, DD.wCh, DD.ev_ii, DD.ev_bb, DD.ev_ss, DD.ev_nn, DD.ev_ni, DD.ev_in, DD.ev_is, DD.ev_si, DD.ev_tt, DD.ev_ll, DD.ea_nn, DD.ea_cc, DD.ea_nc, DD.ea_cn, DD.sh_n, DD.sh_b, DD.sh_i, DD.sh_s, DD.so_told, DD.so_refused, DD.so_missing, DD.so_large, DD.at0, DD.at1, DD.at2, DD.at3, DD.startE, DD.endK, List.map_cons, List.map_nil, List.length_cons, List.length_nil, List.replicate, List.cons_append, List.nil_append, List.append_nil, DD.getS, DD.setS, DD.clrS, DD.deo_c, DD.deo_n, DD.deo1_v, DD.deo1_u, DD.deo1_o, DD.tgs, DD.Sl.v.injEq, DD.Sl.own.injEq, PySem.PyData.int.injEq, PySem.PyData.bool.injEq, PySem.PyData.list.injEq, PySem.PyData.tuple.injEq, PySem.PyData.str.injEq, Option.some.injEq, exists_eq_left', exists_eq_left, exists_and_left, exists_and_right, List.zip_cons_cons, List.zip_nil_right, List.zip_nil_left, List.foldl_cons, List.foldl_nil, List.getD_cons_zero, List.getD_cons_succ, true_and, and_true, Bool.false_eq_true, Bool.true_eq_false, Bool.not_true, Bool.not_false, if_true, if_false, decide_eq_true_eq, decide_eq_false_iff_not, Bool.not_eq_true', Bool.not_eq_false', DD.imp_tt, DD.imp_ff, DD.imp_tf, DD.imp_ft, forall_const, true_implies, false_implies, implies_true, Int.reduceLT, Int.reduceLE, reduceIte, ite_true, ite_false])))
  refine ⟨rfl, by omega, fun w wa wn => ?_⟩
  unfold c_law_202
  (((simp only [DD.wSs, DD.wS, DD.wT, DD.wTs, DD.wE, DD.wEs, DD.wEi, DD.wIt, DD.wBnd, DD.bindT, DD.wb_add, DD.wb_sub, DD.wb_mul, DD.wb_fdiv, DD.wb_mod, DD.wb_pow, DD.wb_shl, DD.wb_shr, DD.wb_addL, DD.wb_addT, DD.wb_mulL, DD.wc_lt, DD.wc_le, DD.wc_gt, DD.wc_ge, DD.wc_eq, DD.wc_ne, DD.wc_isN0, DD.wc_isN1, DD.wc_isN2, DD.wc_isN3, DD.wc_isN4, DD.wc_isN5, DD.wc_notN0, DD.wc_notN1, DD.wc_notN2, DD.wc_notN3, DD.wc_notN4, DD.wc_notN5, DD.wt_n, DD.wt_b, DD.wt_i, DD.wt_l, DD.wt_t, DD.wi_l, DD.wi_t, DD.wu_len, DD.wu_lenT, DD.wu_int, DD.wu_intb, DD.wu_abs, DD.wu_tup, DD.wu_tupT, DD.wu_lst, DD.wu_lstT, DD.wu_max2, DD.wu_min2, DD.wu_max1, DD.wu_min1, DD.wu_sum, DD.wu_all, DD.wu_any, DD.wu_sorted, DD.ws_l, DD.ws_t, DD.ws_s, DD.wr_l, DD.wr_t, DD.wb_mulT, DD.wst_l, DD.wst_t, DD.wz_l, DD.wz_t, DD.wn_l, DD.wv_l, DD.wv_t, DD.wc_inl, DD.wc_ninl, DD.wc_int, DD.wc_nint, DD.wCh, DD.ev_ii, DD.ev_bb, DD.ev_ss, DD.ev_nn, DD.ev_ni, DD.ev_in, DD.ev_is, DD.ev_si, DD.ev_tt, DD.ev_ll, DD.ea_nn, DD.ea_cc, DD.ea_nc, DD.ea_cn, DD.sh_n, DD.sh_b, DD.sh_i, DD.sh_s, DD.so_told, DD.so_refused, DD.so_missing, DD.so_large, DD.at0, DD.at1, DD.at2, DD.at3, DD.startE, DD.endK, List.map_cons, List.map_nil, List.length_cons, List.length_nil, List.replicate, List.cons_append, List.nil_append, List.append_nil, DD.getS, DD.setS, DD.clrS, DD.deo_c, DD.deo_n, DD.deo1_v, DD.deo1_u, DD.deo1_o, DD.tgs, DD.Sl.v.injEq, DD.Sl.own.injEq, PySem.PyData.int.injEq, PySem.PyData.bool.injEq, PySem.PyData.list.injEq, PySem.PyData.tuple.injEq, PySem.PyData.str.injEq, Option.some.injEq, exists_eq_left', exists_eq_left, exists_and_left, exists_and_right, List.zip_cons_cons, List.zip_nil_right, List.zip_nil_left, List.foldl_cons, List.foldl_nil, List.getD_cons_zero, List.getD_cons_succ, true_and, and_true, Bool.false_eq_true, Bool.true_eq_false, Bool.not_true, Bool.not_false, if_true, if_false, decide_eq_true_eq, decide_eq_false_iff_not, Bool.not_eq_true', Bool.not_eq_false', DD.imp_tt, DD.imp_ff, DD.imp_tf, DD.imp_ft, forall_const, true_implies, false_implies, implies_true, Int.reduceLT, Int.reduceLE, reduceIte, ite_true, ite_false]); try simp only [g0, g1, g2, g3, γ0, γ1, γ2, γ3, γ4, γ5, γ6, γ7, γ8, γ9, γ17, γ18, γ19, γ21, γ22, γ23, γ24]; try (simp only [DD.wSs, DD.wS, DD.wT, DD.wTs, DD.wE, DD.wEs, DD.wEi, DD.wIt, DD.wBnd, DD.bindT, DD.wb_add, DD.wb_sub, DD.wb_mul, DD.wb_fdiv, DD.wb_mod, DD.wb_pow, DD.wb_shl, DD.wb_shr, DD.wb_addL, DD.wb_addT, DD.wb_mulL, DD.wc_lt, DD.wc_le, DD.wc_gt, DD.wc_ge, DD.wc_eq, DD.wc_ne, DD.wc_isN0, DD.wc_isN1, DD.wc_isN2, DD.wc_isN3, DD.wc_isN4, DD.wc_isN5, DD.wc_notN0, DD.wc_notN1, DD.wc_notN2, DD.wc_notN3, DD.wc_notN4, DD.wc_notN5, DD.wt_n, DD.wt_b, DD.wt_i, DD.wt_l, DD.wt_t, DD.wi_l, DD.wi_t, DD.wu_len, DD.wu_lenT, DD.wu_int, DD.wu_intb, DD.wu_abs, DD.wu_tup, DD.wu_tupT, DD.wu_lst, DD.wu_lstT, DD.wu_max2, DD.wu_min2, DD.wu_max1, DD.wu_min1, DD.wu_sum, DD.wu_all, DD.wu_any, DD.wu_sorted, DD.ws_l, DD.ws_t, DD.ws_s, DD.wr_l, DD.wr_t, DD.wb_mulT, DD.wst_l, DD.wst_t, DD.wz_l, DD.wz_t, DD.wn_l, DD.wv_l, DD.wv_t, DD.wc_inl, DD.wc_ninl, DD.wc_int, DD.wc_nint, DD.wCh, DD.ev_ii, DD.ev_bb, DD.ev_ss, DD.ev_nn, DD.ev_ni, DD.ev_in, DD.ev_is, DD.ev_si, DD.ev_tt, DD.ev_ll, DD.ea_nn, DD.ea_cc, DD.ea_nc, DD.ea_cn, DD.sh_n, DD.sh_b, DD.sh_i, DD.sh_s, DD.so_told, DD.so_refused, DD.so_missing, DD.so_large, DD.at0, DD.at1, DD.at2, DD.at3, DD.startE, DD.endK, List.map_cons, List.map_nil, List.length_cons, List.length_nil, List.replicate, List.cons_append, List.nil_append, List.append_nil, DD.getS, DD.setS, DD.clrS, DD.deo_c, DD.deo_n, DD.deo1_v, DD.deo1_u, DD.deo1_o, DD.tgs, DD.Sl.v.injEq, DD.Sl.own.injEq, PySem.PyData.int.injEq, PySem.PyData.bool.injEq, PySem.PyData.list.injEq, PySem.PyData.tuple.injEq, PySem.PyData.str.injEq, Option.some.injEq, exists_eq_left', exists_eq_left, exists_and_left, exists_and_right, List.zip_cons_cons, List.zip_nil_right, List.zip_nil_left, List.foldl_cons, List.foldl_nil, List.getD_cons_zero, List.getD_cons_succ, true_and, and_true, Bool.false_eq_true, Bool.true_eq_false, Bool.not_true, Bool.not_false, if_true, if_false, decide_eq_true_eq, decide_eq_false_iff_not, Bool.not_eq_true', Bool.not_eq_false', DD.imp_tt, DD.imp_ff, DD.imp_tf, DD.imp_ft, forall_const, true_implies, false_implies, implies_true, Int.reduceLT, Int.reduceLE, reduceIte, ite_true, ite_false])))
  refine ⟨w, rfl, wa, fun b lo hi e s => absurd ⟨b, lo, hi, e, s⟩ wn, fun _ => ⟨by decide, ?_⟩⟩
  refine ⟨w, rfl, wa, fun b lo hi e s => absurd ⟨b, lo, hi, e, s⟩ wn, fun _ => ⟨by decide, ?_⟩⟩
  refine ⟨sy b l h, [h + 1], [], rfl, sysArg_sy, fun b lo hi e s => ?_, fun z => absurd (sysOk_iff.mpr so) z⟩
  cases e
  refine ⟨fun r1 => absurd (r1.2 (h + 1) (List.mem_cons_self ..)).2 (by omega), fun _ => ⟨by decide, ?_⟩⟩
  refine ⟨⟨by decide, by decide⟩, sy b l h, [], List.replicate (Int.toNat 25) 0, by rw [rep0]; rfl, sysArg_sy, fun b lo hi e s => ?_, fun z => absurd (sysOk_iff.mpr so) z⟩
  cases e
  refine ⟨fun r1 r2 => absurd r2.1 (by decide), fun _ => ⟨by decide, ?_⟩⟩
  exact t203 (by omega)
theorem cut_to (l : List D) (k : Nat) : cutD l none (some (k : Int)) = l.take k := by
  unfold cutD
  rw [HT.sIx_none, HT.sIx_nat, List.drop_zero, Nat.sub_zero]
  rcases Nat.le_total k l.length with q | q
  · rw [Nat.min_eq_left q]
  · rw [Nat.min_eq_right q, List.take_length, List.take_of_length_le q]
theorem cut_from (l : List D) (k : Nat) : cutD l (some (k : Int)) none = l.drop k := by
  unfold cutD
  rw [HT.sIx_none, HT.sIx_nat]
  rcases Nat.le_total k l.length with q | q
  · rw [Nat.min_eq_left q, List.take_of_length_le (by rw [List.length_drop]; omega)]
  · rw [Nat.min_eq_right q, List.drop_length, List.drop_eq_nil_of_le q]; simp
theorem dec_beq (a i : Int) : decide (a = i) = (i == a) := by
  rw [Bool.eq_iff_iff, decide_eq_true_eq, beq_iff_eq]; exact eq_comm
theorem small_log {lo hi : Int} (h0 : -20 ≤ lo) (h1 : hi ≤ 20) {r : List Int} (h : InD lo hi r) : ∀ i ∈ r, i.natAbs.log2 < 1920 := fun i hi => by
  have := h i hi
  exact log_ok (by omega) (by omega)
theorem t186 {o : Option Int} {r s : List Int} (hn : n + 3 + 150 * ds.length ≤ 1000) (so : SysOk b l h) (ho : TrIs b l h o) (hr : RowOk l h r) (hs : RowOk l h s) :
    wSs ΓL GL c_law_186 [x0, .v sttD, y2, .v (.tuple (sy b l h)), y4, y5, .v (optD o), .v (.tuple (iL r)), .v (.tuple (iL s)), .v (match o with | none => .tuple [.str "missing"] | some m => .tuple [.str "told", .tuple (iL (added b l h m r s))]), y10, y11, y12, y13, y14, y15, y16, y17] n (K5 ds) := by
  unfold c_law_186
  cases o with
  | none =>
    simp only [optD]
    (((simp only [DD.wSs, DD.wS, DD.wT, DD.wTs, DD.wE, DD.wEs, DD.wEi, DD.wIt, DD.wBnd, DD.bindT, DD.wb_add, DD.wb_sub, DD.wb_mul, DD.wb_fdiv, DD.wb_mod, DD.wb_pow, DD.wb_shl, DD.wb_shr, DD.wb_addL, DD.wb_addT, DD.wb_mulL, DD.wc_lt, DD.wc_le, DD.wc_gt, DD.wc_ge, DD.wc_eq, DD.wc_ne, DD.wc_isN0, DD.wc_isN1, DD.wc_isN2, DD.wc_isN3, DD.wc_isN4, DD.wc_isN5, DD.wc_notN0, DD.wc_notN1, DD.wc_notN2, DD.wc_notN3, DD.wc_notN4, DD.wc_notN5, DD.wt_n, DD.wt_b, DD.wt_i, DD.wt_l, DD.wt_t, DD.wi_l, DD.wi_t, DD.wu_len, DD.wu_lenT, DD.wu_int, DD.wu_intb, DD.wu_abs, DD.wu_tup, DD.wu_tupT, DD.wu_lst, DD.wu_lstT, DD.wu_max2, DD.wu_min2, DD.wu_max1, DD.wu_min1, DD.wu_sum, DD.wu_all, DD.wu_any, DD.wu_sorted, DD.ws_l, DD.ws_t, DD.ws_s, DD.wr_l, DD.wr_t, DD.wb_mulT, DD.wst_l, DD.wst_t, DD.wz_l, DD.wz_t, DD.wn_l, DD.wv_l, DD.wv_t, DD.wc_inl, DD.wc_ninl, DD.wc_int, DD.wc_nint, DD.wCh, DD.ev_ii, DD.ev_bb, DD.ev_ss, DD.ev_nn, DD.ev_ni, DD.ev_in, DD.ev_is, DD.ev_si, DD.ev_tt, DD.ev_ll, DD.ea_nn, DD.ea_cc, DD.ea_nc, DD.ea_cn, DD.sh_n, DD.sh_b, DD.sh_i, DD.sh_s, DD.so_told, DD.so_refused, DD.so_missing, DD.so_large, DD.at0, DD.at1, DD.at2, DD.at3, DD.startE, DD.endK, List.map_cons, List.map_nil, List.length_cons, List.length_nil, List.replicate, List.cons_append, List.nil_append, List.append_nil, DD.getS, DD.setS, DD.clrS, DD.deo_c, DD.deo_n, DD.deo1_v, DD.deo1_u, DD.deo1_o, DD.tgs, DD.Sl.v.injEq, DD.Sl.own.injEq, PySem.PyData.int.injEq, PySem.PyData.bool.injEq, PySem.PyData.list.injEq, PySem.PyData.tuple.injEq, PySem.PyData.str.injEq, Option.some.injEq, exists_eq_left', exists_eq_left, exists_and_left, exists_and_right, List.zip_cons_cons, List.zip_nil_right, List.zip_nil_left, List.foldl_cons, List.foldl_nil, List.getD_cons_zero, List.getD_cons_succ, true_and, and_true, Bool.false_eq_true, Bool.true_eq_false, Bool.not_true, Bool.not_false, if_true, if_false, decide_eq_true_eq, decide_eq_false_iff_not, Bool.not_eq_true', Bool.not_eq_false', DD.imp_tt, DD.imp_ff, DD.imp_tf, DD.imp_ft, forall_const, true_implies, false_implies, implies_true, Int.reduceLT, Int.reduceLE, reduceIte, ite_true, ite_false]); try simp only [g0, g1, g2, g3, γ0, γ1, γ2, γ3, γ4, γ5, γ6, γ7, γ8, γ9, γ17, γ18, γ19, γ21, γ22, γ23, γ24]; try (simp only [DD.wSs, DD.wS, DD.wT, DD.wTs, DD.wE, DD.wEs, DD.wEi, DD.wIt, DD.wBnd, DD.bindT, DD.wb_add, DD.wb_sub, DD.wb_mul, DD.wb_fdiv, DD.wb_mod, DD.wb_pow, DD.wb_shl, DD.wb_shr, DD.wb_addL, DD.wb_addT, DD.wb_mulL, DD.wc_lt, DD.wc_le, DD.wc_gt, DD.wc_ge, DD.wc_eq, DD.wc_ne, DD.wc_isN0, DD.wc_isN1, DD.wc_isN2, DD.wc_isN3, DD.wc_isN4, DD.wc_isN5, DD.wc_notN0, DD.wc_notN1, DD.wc_notN2, DD.wc_notN3, DD.wc_notN4, DD.wc_notN5, DD.wt_n, DD.wt_b, DD.wt_i, DD.wt_l, DD.wt_t, DD.wi_l, DD.wi_t, DD.wu_len, DD.wu_lenT, DD.wu_int, DD.wu_intb, DD.wu_abs, DD.wu_tup, DD.wu_tupT, DD.wu_lst, DD.wu_lstT, DD.wu_max2, DD.wu_min2, DD.wu_max1, DD.wu_min1, DD.wu_sum, DD.wu_all, DD.wu_any, DD.wu_sorted, DD.ws_l, DD.ws_t, DD.ws_s, DD.wr_l, DD.wr_t, DD.wb_mulT, DD.wst_l, DD.wst_t, DD.wz_l, DD.wz_t, DD.wn_l, DD.wv_l, DD.wv_t, DD.wc_inl, DD.wc_ninl, DD.wc_int, DD.wc_nint, DD.wCh, DD.ev_ii, DD.ev_bb, DD.ev_ss, DD.ev_nn, DD.ev_ni, DD.ev_in, DD.ev_is, DD.ev_si, DD.ev_tt, DD.ev_ll, DD.ea_nn, DD.ea_cc, DD.ea_nc, DD.ea_cn, DD.sh_n, DD.sh_b, DD.sh_i, DD.sh_s, DD.so_told, DD.so_refused, DD.so_missing, DD.so_large, DD.at0, DD.at1, DD.at2, DD.at3, DD.startE, DD.endK, List.map_cons, List.map_nil, List.length_cons, List.length_nil, List.replicate, List.cons_append, List.nil_append, List.append_nil, DD.getS, DD.setS, DD.clrS, DD.deo_c, DD.deo_n, DD.deo1_v, DD.deo1_u, DD.deo1_o, DD.tgs, DD.Sl.v.injEq, DD.Sl.own.injEq, PySem.PyData.int.injEq, PySem.PyData.bool.injEq, PySem.PyData.list.injEq, PySem.PyData.tuple.injEq, PySem.PyData.str.injEq, Option.some.injEq, exists_eq_left', exists_eq_left, exists_and_left, exists_and_right, List.zip_cons_cons, List.zip_nil_right, List.zip_nil_left, List.foldl_cons, List.foldl_nil, List.getD_cons_zero, List.getD_cons_succ, true_and, and_true, Bool.false_eq_true, Bool.true_eq_false, Bool.not_true, Bool.not_false, if_true, if_false, decide_eq_true_eq, decide_eq_false_iff_not, Bool.not_eq_true', Bool.not_eq_false', DD.imp_tt, DD.imp_ff, DD.imp_tf, DD.imp_ft, forall_const, true_implies, false_implies, implies_true, Int.reduceLT, Int.reduceLE, reduceIte, ite_true, ite_false])))
    refine ⟨⟨by (simp [Shp, SeqAt.shaped, PyData.canLay0, PyData.canLayAll0, PyData.depth, PyData.depthAll, nm0, nm1, nm2, so_told, so_refused, so_missing, so_large]), by (simp [Shp, SeqAt.shaped, PyData.canLay0, PyData.canLayAll0, PyData.depth, PyData.depthAll, nm0, nm1, nm2, so_told, so_refused, so_missing, so_large])⟩, fun q => by simp at q, fun _ => t201 (by omega) so⟩
  | some m =>
    simp only [optD]
    (((simp only [DD.wSs, DD.wS, DD.wT, DD.wTs, DD.wE, DD.wEs, DD.wEi, DD.wIt, DD.wBnd, DD.bindT, DD.wb_add, DD.wb_sub, DD.wb_mul, DD.wb_fdiv, DD.wb_mod, DD.wb_pow, DD.wb_shl, DD.wb_shr, DD.wb_addL, DD.wb_addT, DD.wb_mulL, DD.wc_lt, DD.wc_le, DD.wc_gt, DD.wc_ge, DD.wc_eq, DD.wc_ne, DD.wc_isN0, DD.wc_isN1, DD.wc_isN2, DD.wc_isN3, DD.wc_isN4, DD.wc_isN5, DD.wc_notN0, DD.wc_notN1, DD.wc_notN2, DD.wc_notN3, DD.wc_notN4, DD.wc_notN5, DD.wt_n, DD.wt_b, DD.wt_i, DD.wt_l, DD.wt_t, DD.wi_l, DD.wi_t, DD.wu_len, DD.wu_lenT, DD.wu_int, DD.wu_intb, DD.wu_abs, DD.wu_tup, DD.wu_tupT, DD.wu_lst, DD.wu_lstT, DD.wu_max2, DD.wu_min2, DD.wu_max1, DD.wu_min1, DD.wu_sum, DD.wu_all, DD.wu_any, DD.wu_sorted, DD.ws_l, DD.ws_t, DD.ws_s, DD.wr_l, DD.wr_t, DD.wb_mulT, DD.wst_l, DD.wst_t, DD.wz_l, DD.wz_t, DD.wn_l, DD.wv_l, DD.wv_t, DD.wc_inl, DD.wc_ninl, DD.wc_int, DD.wc_nint, DD.wCh, DD.ev_ii, DD.ev_bb, DD.ev_ss, DD.ev_nn, DD.ev_ni, DD.ev_in, DD.ev_is, DD.ev_si, DD.ev_tt, DD.ev_ll, DD.ea_nn, DD.ea_cc, DD.ea_nc, DD.ea_cn, DD.sh_n, DD.sh_b, DD.sh_i, DD.sh_s, DD.so_told, DD.so_refused, DD.so_missing, DD.so_large, DD.at0, DD.at1, DD.at2, DD.at3, DD.startE, DD.endK, List.map_cons, List.map_nil, List.length_cons, List.length_nil, List.replicate, List.cons_append, List.nil_append, List.append_nil, DD.getS, DD.setS, DD.clrS, DD.deo_c, DD.deo_n, DD.deo1_v, DD.deo1_u, DD.deo1_o, DD.tgs, DD.Sl.v.injEq, DD.Sl.own.injEq, PySem.PyData.int.injEq, PySem.PyData.bool.injEq, PySem.PyData.list.injEq, PySem.PyData.tuple.injEq, PySem.PyData.str.injEq, Option.some.injEq, exists_eq_left', exists_eq_left, exists_and_left, exists_and_right, List.zip_cons_cons, List.zip_nil_right, List.zip_nil_left, List.foldl_cons, List.foldl_nil, List.getD_cons_zero, List.getD_cons_succ, true_and, and_true, Bool.false_eq_true, Bool.true_eq_false, Bool.not_true, Bool.not_false, if_true, if_false, decide_eq_true_eq, decide_eq_false_iff_not, Bool.not_eq_true', Bool.not_eq_false', DD.imp_tt, DD.imp_ff, DD.imp_tf, DD.imp_ft, forall_const, true_implies, false_implies, implies_true, Int.reduceLT, Int.reduceLE, reduceIte, ite_true, ite_false]); try simp only [g0, g1, g2, g3, γ0, γ1, γ2, γ3, γ4, γ5, γ6, γ7, γ8, γ9, γ17, γ18, γ19, γ21, γ22, γ23, γ24]; try (simp only [DD.wSs, DD.wS, DD.wT, DD.wTs, DD.wE, DD.wEs, DD.wEi, DD.wIt, DD.wBnd, DD.bindT, DD.wb_add, DD.wb_sub, DD.wb_mul, DD.wb_fdiv, DD.wb_mod, DD.wb_pow, DD.wb_shl, DD.wb_shr, DD.wb_addL, DD.wb_addT, DD.wb_mulL, DD.wc_lt, DD.wc_le, DD.wc_gt, DD.wc_ge, DD.wc_eq, DD.wc_ne, DD.wc_isN0, DD.wc_isN1, DD.wc_isN2, DD.wc_isN3, DD.wc_isN4, DD.wc_isN5, DD.wc_notN0, DD.wc_notN1, DD.wc_notN2, DD.wc_notN3, DD.wc_notN4, DD.wc_notN5, DD.wt_n, DD.wt_b, DD.wt_i, DD.wt_l, DD.wt_t, DD.wi_l, DD.wi_t, DD.wu_len, DD.wu_lenT, DD.wu_int, DD.wu_intb, DD.wu_abs, DD.wu_tup, DD.wu_tupT, DD.wu_lst, DD.wu_lstT, DD.wu_max2, DD.wu_min2, DD.wu_max1, DD.wu_min1, DD.wu_sum, DD.wu_all, DD.wu_any, DD.wu_sorted, DD.ws_l, DD.ws_t, DD.ws_s, DD.wr_l, DD.wr_t, DD.wb_mulT, DD.wst_l, DD.wst_t, DD.wz_l, DD.wz_t, DD.wn_l, DD.wv_l, DD.wv_t, DD.wc_inl, DD.wc_ninl, DD.wc_int, DD.wc_nint, DD.wCh, DD.ev_ii, DD.ev_bb, DD.ev_ss, DD.ev_nn, DD.ev_ni, DD.ev_in, DD.ev_is, DD.ev_si, DD.ev_tt, DD.ev_ll, DD.ea_nn, DD.ea_cc, DD.ea_nc, DD.ea_cn, DD.sh_n, DD.sh_b, DD.sh_i, DD.sh_s, DD.so_told, DD.so_refused, DD.so_missing, DD.so_large, DD.at0, DD.at1, DD.at2, DD.at3, DD.startE, DD.endK, List.map_cons, List.map_nil, List.length_cons, List.length_nil, List.replicate, List.cons_append, List.nil_append, List.append_nil, DD.getS, DD.setS, DD.clrS, DD.deo_c, DD.deo_n, DD.deo1_v, DD.deo1_u, DD.deo1_o, DD.tgs, DD.Sl.v.injEq, DD.Sl.own.injEq, PySem.PyData.int.injEq, PySem.PyData.bool.injEq, PySem.PyData.list.injEq, PySem.PyData.tuple.injEq, PySem.PyData.str.injEq, Option.some.injEq, exists_eq_left', exists_eq_left, exists_and_left, exists_and_right, List.zip_cons_cons, List.zip_nil_right, List.zip_nil_left, List.foldl_cons, List.foldl_nil, List.getD_cons_zero, List.getD_cons_succ, true_and, and_true, Bool.false_eq_true, Bool.true_eq_false, Bool.not_true, Bool.not_false, if_true, if_false, decide_eq_true_eq, decide_eq_false_iff_not, Bool.not_eq_true', Bool.not_eq_false', DD.imp_tt, DD.imp_ff, DD.imp_tf, DD.imp_ft, forall_const, true_implies, false_implies, implies_true, Int.reduceLT, Int.reduceLE, reduceIte, ite_true, ite_false])))
    obtain ⟨m0, m1, g, _⟩ := id ho
    have so' := so
    unfold SysOk at so'
    have ind : InD l h (added b l h m r s) := in_added g (by omega) hr.2 hs.2
    have len : (added b l h m r s).length ≤ 25 := by rw [len_added]; have := hr.1; have := hs.1; omega
    refine ⟨b, l, h, m, r, s, rfl, so, m0, m1, g, hr, hs, ?_⟩
    (((simp only [DD.wSs, DD.wS, DD.wT, DD.wTs, DD.wE, DD.wEs, DD.wEi, DD.wIt, DD.wBnd, DD.bindT, DD.wb_add, DD.wb_sub, DD.wb_mul, DD.wb_fdiv, DD.wb_mod, DD.wb_pow, DD.wb_shl, DD.wb_shr, DD.wb_addL, DD.wb_addT, DD.wb_mulL, DD.wc_lt, DD.wc_le, DD.wc_gt, DD.wc_ge, DD.wc_eq, DD.wc_ne, DD.wc_isN0, DD.wc_isN1, DD.wc_isN2, DD.wc_isN3, DD.wc_isN4, DD.wc_isN5, DD.wc_notN0, DD.wc_notN1, DD.wc_notN2, DD.wc_notN3, DD.wc_notN4, DD.wc_notN5, DD.wt_n, DD.wt_b, DD.wt_i, DD.wt_l, DD.wt_t, DD.wi_l, DD.wi_t, DD.wu_len, DD.wu_lenT, DD.wu_int, DD.wu_intb, DD.wu_abs, DD.wu_tup, DD.wu_tupT, DD.wu_lst, DD.wu_lstT, DD.wu_max2, DD.wu_min2, DD.wu_max1, DD.wu_min1, DD.wu_sum, DD.wu_all, DD.wu_any, DD.wu_sorted, DD.ws_l, DD.ws_t, DD.ws_s, DD.wr_l, DD.wr_t, DD.wb_mulT, DD.wst_l, DD.wst_t, DD.wz_l, DD.wz_t, DD.wn_l, DD.wv_l, DD.wv_t, DD.wc_inl, DD.wc_ninl, DD.wc_int, DD.wc_nint, DD.wCh, DD.ev_ii, DD.ev_bb, DD.ev_ss, DD.ev_nn, DD.ev_ni, DD.ev_in, DD.ev_is, DD.ev_si, DD.ev_tt, DD.ev_ll, DD.ea_nn, DD.ea_cc, DD.ea_nc, DD.ea_cn, DD.sh_n, DD.sh_b, DD.sh_i, DD.sh_s, DD.so_told, DD.so_refused, DD.so_missing, DD.so_large, DD.at0, DD.at1, DD.at2, DD.at3, DD.startE, DD.endK, List.map_cons, List.map_nil, List.length_cons, List.length_nil, List.replicate, List.cons_append, List.nil_append, List.append_nil, DD.getS, DD.setS, DD.clrS, DD.deo_c, DD.deo_n, DD.deo1_v, DD.deo1_u, DD.deo1_o, DD.tgs, DD.Sl.v.injEq, DD.Sl.own.injEq, PySem.PyData.int.injEq, PySem.PyData.bool.injEq, PySem.PyData.list.injEq, PySem.PyData.tuple.injEq, PySem.PyData.str.injEq, Option.some.injEq, exists_eq_left', exists_eq_left, exists_and_left, exists_and_right, List.zip_cons_cons, List.zip_nil_right, List.zip_nil_left, List.foldl_cons, List.foldl_nil, List.getD_cons_zero, List.getD_cons_succ, true_and, and_true, Bool.false_eq_true, Bool.true_eq_false, Bool.not_true, Bool.not_false, if_true, if_false, decide_eq_true_eq, decide_eq_false_iff_not, Bool.not_eq_true', Bool.not_eq_false', DD.imp_tt, DD.imp_ff, DD.imp_tf, DD.imp_ft, forall_const, true_implies, false_implies, implies_true, Int.reduceLT, Int.reduceLE, reduceIte, ite_true, ite_false]); try simp only [g0, g1, g2, g3, γ0, γ1, γ2, γ3, γ4, γ5, γ6, γ7, γ8, γ9, γ17, γ18, γ19, γ21, γ22, γ23, γ24]; try (simp only [DD.wSs, DD.wS, DD.wT, DD.wTs, DD.wE, DD.wEs, DD.wEi, DD.wIt, DD.wBnd, DD.bindT, DD.wb_add, DD.wb_sub, DD.wb_mul, DD.wb_fdiv, DD.wb_mod, DD.wb_pow, DD.wb_shl, DD.wb_shr, DD.wb_addL, DD.wb_addT, DD.wb_mulL, DD.wc_lt, DD.wc_le, DD.wc_gt, DD.wc_ge, DD.wc_eq, DD.wc_ne, DD.wc_isN0, DD.wc_isN1, DD.wc_isN2, DD.wc_isN3, DD.wc_isN4, DD.wc_isN5, DD.wc_notN0, DD.wc_notN1, DD.wc_notN2, DD.wc_notN3, DD.wc_notN4, DD.wc_notN5, DD.wt_n, DD.wt_b, DD.wt_i, DD.wt_l, DD.wt_t, DD.wi_l, DD.wi_t, DD.wu_len, DD.wu_lenT, DD.wu_int, DD.wu_intb, DD.wu_abs, DD.wu_tup, DD.wu_tupT, DD.wu_lst, DD.wu_lstT, DD.wu_max2, DD.wu_min2, DD.wu_max1, DD.wu_min1, DD.wu_sum, DD.wu_all, DD.wu_any, DD.wu_sorted, DD.ws_l, DD.ws_t, DD.ws_s, DD.wr_l, DD.wr_t, DD.wb_mulT, DD.wst_l, DD.wst_t, DD.wz_l, DD.wz_t, DD.wn_l, DD.wv_l, DD.wv_t, DD.wc_inl, DD.wc_ninl, DD.wc_int, DD.wc_nint, DD.wCh, DD.ev_ii, DD.ev_bb, DD.ev_ss, DD.ev_nn, DD.ev_ni, DD.ev_in, DD.ev_is, DD.ev_si, DD.ev_tt, DD.ev_ll, DD.ea_nn, DD.ea_cc, DD.ea_nc, DD.ea_cn, DD.sh_n, DD.sh_b, DD.sh_i, DD.sh_s, DD.so_told, DD.so_refused, DD.so_missing, DD.so_large, DD.at0, DD.at1, DD.at2, DD.at3, DD.startE, DD.endK, List.map_cons, List.map_nil, List.length_cons, List.length_nil, List.replicate, List.cons_append, List.nil_append, List.append_nil, DD.getS, DD.setS, DD.clrS, DD.deo_c, DD.deo_n, DD.deo1_v, DD.deo1_u, DD.deo1_o, DD.tgs, DD.Sl.v.injEq, DD.Sl.own.injEq, PySem.PyData.int.injEq, PySem.PyData.bool.injEq, PySem.PyData.list.injEq, PySem.PyData.tuple.injEq, PySem.PyData.str.injEq, Option.some.injEq, exists_eq_left', exists_eq_left, exists_and_left, exists_and_right, List.zip_cons_cons, List.zip_nil_right, List.zip_nil_left, List.foldl_cons, List.foldl_nil, List.getD_cons_zero, List.getD_cons_succ, true_and, and_true, Bool.false_eq_true, Bool.true_eq_false, Bool.not_true, Bool.not_false, if_true, if_false, decide_eq_true_eq, decide_eq_false_iff_not, Bool.not_eq_true', Bool.not_eq_false', DD.imp_tt, DD.imp_ff, DD.imp_tf, DD.imp_ft, forall_const, true_implies, false_implies, implies_true, Int.reduceLT, Int.reduceLE, reduceIte, ite_true, ite_false])))
    refine ⟨_, rfl, ?_, ?_⟩
    · have a := (NcA.ints (small_log (by omega) (by omega) ind)).tup
      have a2 : Nc 2 60000 (.tuple (iL (added b l h m r s))) := a.mono (by omega) (by omega)
      exact (NcA.cons (Nc.told.mono (k' := 2) (s' := 60000) (by omega) (by omega)) (NcA.cons a2 .nil)).tup.sho (by omega) (by omega)
    refine ⟨fun q => absurd q (by decide), fun _ => ⟨b, l, h, _, rfl, by omega, by omega, ?_⟩⟩
    refine ⟨b, l, h, _, rfl, by omega, by omega, b, l, h, _, rfl, by omega, by omega, ?_⟩
    (((simp only [DD.wSs, DD.wS, DD.wT, DD.wTs, DD.wE, DD.wEs, DD.wEi, DD.wIt, DD.wBnd, DD.bindT, DD.wb_add, DD.wb_sub, DD.wb_mul, DD.wb_fdiv, DD.wb_mod, DD.wb_pow, DD.wb_shl, DD.wb_shr, DD.wb_addL, DD.wb_addT, DD.wb_mulL, DD.wc_lt, DD.wc_le, DD.wc_gt, DD.wc_ge, DD.wc_eq, DD.wc_ne, DD.wc_isN0, DD.wc_isN1, DD.wc_isN2, DD.wc_isN3, DD.wc_isN4, DD.wc_isN5, DD.wc_notN0, DD.wc_notN1, DD.wc_notN2, DD.wc_notN3, DD.wc_notN4, DD.wc_notN5, DD.wt_n, DD.wt_b, DD.wt_i, DD.wt_l, DD.wt_t, DD.wi_l, DD.wi_t, DD.wu_len, DD.wu_lenT, DD.wu_int, DD.wu_intb, DD.wu_abs, DD.wu_tup, DD.wu_tupT, DD.wu_lst, DD.wu_lstT, DD.wu_max2, DD.wu_min2, DD.wu_max1, DD.wu_min1, DD.wu_sum, DD.wu_all, DD.wu_any, DD.wu_sorted, DD.ws_l, DD.ws_t, DD.ws_s, DD.wr_l, DD.wr_t, DD.wb_mulT, DD.wst_l, DD.wst_t, DD.wz_l, DD.wz_t, DD.wn_l, DD.wv_l, DD.wv_t, DD.wc_inl, DD.wc_ninl, DD.wc_int, DD.wc_nint, DD.wCh, DD.ev_ii, DD.ev_bb, DD.ev_ss, DD.ev_nn, DD.ev_ni, DD.ev_in, DD.ev_is, DD.ev_si, DD.ev_tt, DD.ev_ll, DD.ea_nn, DD.ea_cc, DD.ea_nc, DD.ea_cn, DD.sh_n, DD.sh_b, DD.sh_i, DD.sh_s, DD.so_told, DD.so_refused, DD.so_missing, DD.so_large, DD.at0, DD.at1, DD.at2, DD.at3, DD.startE, DD.endK, List.map_cons, List.map_nil, List.length_cons, List.length_nil, List.replicate, List.cons_append, List.nil_append, List.append_nil, DD.getS, DD.setS, DD.clrS, DD.deo_c, DD.deo_n, DD.deo1_v, DD.deo1_u, DD.deo1_o, DD.tgs, DD.Sl.v.injEq, DD.Sl.own.injEq, PySem.PyData.int.injEq, PySem.PyData.bool.injEq, PySem.PyData.list.injEq, PySem.PyData.tuple.injEq, PySem.PyData.str.injEq, Option.some.injEq, exists_eq_left', exists_eq_left, exists_and_left, exists_and_right, List.zip_cons_cons, List.zip_nil_right, List.zip_nil_left, List.foldl_cons, List.foldl_nil, List.getD_cons_zero, List.getD_cons_succ, true_and, and_true, Bool.false_eq_true, Bool.true_eq_false, Bool.not_true, Bool.not_false, if_true, if_false, decide_eq_true_eq, decide_eq_false_iff_not, Bool.not_eq_true', Bool.not_eq_false', DD.imp_tt, DD.imp_ff, DD.imp_tf, DD.imp_ft, forall_const, true_implies, false_implies, implies_true, Int.reduceLT, Int.reduceLE, reduceIte, ite_true, ite_false]); try simp only [g0, g1, g2, g3, γ0, γ1, γ2, γ3, γ4, γ5, γ6, γ7, γ8, γ9, γ17, γ18, γ19, γ21, γ22, γ23, γ24]; try (simp only [DD.wSs, DD.wS, DD.wT, DD.wTs, DD.wE, DD.wEs, DD.wEi, DD.wIt, DD.wBnd, DD.bindT, DD.wb_add, DD.wb_sub, DD.wb_mul, DD.wb_fdiv, DD.wb_mod, DD.wb_pow, DD.wb_shl, DD.wb_shr, DD.wb_addL, DD.wb_addT, DD.wb_mulL, DD.wc_lt, DD.wc_le, DD.wc_gt, DD.wc_ge, DD.wc_eq, DD.wc_ne, DD.wc_isN0, DD.wc_isN1, DD.wc_isN2, DD.wc_isN3, DD.wc_isN4, DD.wc_isN5, DD.wc_notN0, DD.wc_notN1, DD.wc_notN2, DD.wc_notN3, DD.wc_notN4, DD.wc_notN5, DD.wt_n, DD.wt_b, DD.wt_i, DD.wt_l, DD.wt_t, DD.wi_l, DD.wi_t, DD.wu_len, DD.wu_lenT, DD.wu_int, DD.wu_intb, DD.wu_abs, DD.wu_tup, DD.wu_tupT, DD.wu_lst, DD.wu_lstT, DD.wu_max2, DD.wu_min2, DD.wu_max1, DD.wu_min1, DD.wu_sum, DD.wu_all, DD.wu_any, DD.wu_sorted, DD.ws_l, DD.ws_t, DD.ws_s, DD.wr_l, DD.wr_t, DD.wb_mulT, DD.wst_l, DD.wst_t, DD.wz_l, DD.wz_t, DD.wn_l, DD.wv_l, DD.wv_t, DD.wc_inl, DD.wc_ninl, DD.wc_int, DD.wc_nint, DD.wCh, DD.ev_ii, DD.ev_bb, DD.ev_ss, DD.ev_nn, DD.ev_ni, DD.ev_in, DD.ev_is, DD.ev_si, DD.ev_tt, DD.ev_ll, DD.ea_nn, DD.ea_cc, DD.ea_nc, DD.ea_cn, DD.sh_n, DD.sh_b, DD.sh_i, DD.sh_s, DD.so_told, DD.so_refused, DD.so_missing, DD.so_large, DD.at0, DD.at1, DD.at2, DD.at3, DD.startE, DD.endK, List.map_cons, List.map_nil, List.length_cons, List.length_nil, List.replicate, List.cons_append, List.nil_append, List.append_nil, DD.getS, DD.setS, DD.clrS, DD.deo_c, DD.deo_n, DD.deo1_v, DD.deo1_u, DD.deo1_o, DD.tgs, DD.Sl.v.injEq, DD.Sl.own.injEq, PySem.PyData.int.injEq, PySem.PyData.bool.injEq, PySem.PyData.list.injEq, PySem.PyData.tuple.injEq, PySem.PyData.str.injEq, Option.some.injEq, exists_eq_left', exists_eq_left, exists_and_left, exists_and_right, List.zip_cons_cons, List.zip_nil_right, List.zip_nil_left, List.foldl_cons, List.foldl_nil, List.getD_cons_zero, List.getD_cons_succ, true_and, and_true, Bool.false_eq_true, Bool.true_eq_false, Bool.not_true, Bool.not_false, if_true, if_false, decide_eq_true_eq, decide_eq_false_iff_not, Bool.not_eq_true', Bool.not_eq_false', DD.imp_tt, DD.imp_ff, DD.imp_tf, DD.imp_ft, forall_const, true_implies, false_implies, implies_true, Int.reduceLT, Int.reduceLE, reduceIte, ite_true, ite_false])))
    refine ⟨fun q => absurd (val_added r s) q, fun _ => ?_⟩
    refine wTurns_mem PyData.int (fun i => some (.bool (decide (l ≤ i) && decide (i ≤ h)))) (added b l h m r s) (fun i hi' R hR => ?_) ?_
    · have := ind i hi'
      (((simp only [DD.wSs, DD.wS, DD.wT, DD.wTs, DD.wE, DD.wEs, DD.wEi, DD.wIt, DD.wBnd, DD.bindT, DD.wb_add, DD.wb_sub, DD.wb_mul, DD.wb_fdiv, DD.wb_mod, DD.wb_pow, DD.wb_shl, DD.wb_shr, DD.wb_addL, DD.wb_addT, DD.wb_mulL, DD.wc_lt, DD.wc_le, DD.wc_gt, DD.wc_ge, DD.wc_eq, DD.wc_ne, DD.wc_isN0, DD.wc_isN1, DD.wc_isN2, DD.wc_isN3, DD.wc_isN4, DD.wc_isN5, DD.wc_notN0, DD.wc_notN1, DD.wc_notN2, DD.wc_notN3, DD.wc_notN4, DD.wc_notN5, DD.wt_n, DD.wt_b, DD.wt_i, DD.wt_l, DD.wt_t, DD.wi_l, DD.wi_t, DD.wu_len, DD.wu_lenT, DD.wu_int, DD.wu_intb, DD.wu_abs, DD.wu_tup, DD.wu_tupT, DD.wu_lst, DD.wu_lstT, DD.wu_max2, DD.wu_min2, DD.wu_max1, DD.wu_min1, DD.wu_sum, DD.wu_all, DD.wu_any, DD.wu_sorted, DD.ws_l, DD.ws_t, DD.ws_s, DD.wr_l, DD.wr_t, DD.wb_mulT, DD.wst_l, DD.wst_t, DD.wz_l, DD.wz_t, DD.wn_l, DD.wv_l, DD.wv_t, DD.wc_inl, DD.wc_ninl, DD.wc_int, DD.wc_nint, DD.wCh, DD.ev_ii, DD.ev_bb, DD.ev_ss, DD.ev_nn, DD.ev_ni, DD.ev_in, DD.ev_is, DD.ev_si, DD.ev_tt, DD.ev_ll, DD.ea_nn, DD.ea_cc, DD.ea_nc, DD.ea_cn, DD.sh_n, DD.sh_b, DD.sh_i, DD.sh_s, DD.so_told, DD.so_refused, DD.so_missing, DD.so_large, DD.at0, DD.at1, DD.at2, DD.at3, DD.startE, DD.endK, List.map_cons, List.map_nil, List.length_cons, List.length_nil, List.replicate, List.cons_append, List.nil_append, List.append_nil, DD.getS, DD.setS, DD.clrS, DD.deo_c, DD.deo_n, DD.deo1_v, DD.deo1_u, DD.deo1_o, DD.tgs, DD.Sl.v.injEq, DD.Sl.own.injEq, PySem.PyData.int.injEq, PySem.PyData.bool.injEq, PySem.PyData.list.injEq, PySem.PyData.tuple.injEq, PySem.PyData.str.injEq, Option.some.injEq, exists_eq_left', exists_eq_left, exists_and_left, exists_and_right, List.zip_cons_cons, List.zip_nil_right, List.zip_nil_left, List.foldl_cons, List.foldl_nil, List.getD_cons_zero, List.getD_cons_succ, true_and, and_true, Bool.false_eq_true, Bool.true_eq_false, Bool.not_true, Bool.not_false, if_true, if_false, decide_eq_true_eq, decide_eq_false_iff_not, Bool.not_eq_true', Bool.not_eq_false', DD.imp_tt, DD.imp_ff, DD.imp_tf, DD.imp_ft, forall_const, true_implies, false_implies, implies_true, Int.reduceLT, Int.reduceLE, reduceIte, ite_true, ite_false]); try simp only [g0, g1, g2, g3, γ0, γ1, γ2, γ3, γ4, γ5, γ6, γ7, γ8, γ9, γ17, γ18, γ19, γ21, γ22, γ23, γ24]; try (simp only [DD.wSs, DD.wS, DD.wT, DD.wTs, DD.wE, DD.wEs, DD.wEi, DD.wIt, DD.wBnd, DD.bindT, DD.wb_add, DD.wb_sub, DD.wb_mul, DD.wb_fdiv, DD.wb_mod, DD.wb_pow, DD.wb_shl, DD.wb_shr, DD.wb_addL, DD.wb_addT, DD.wb_mulL, DD.wc_lt, DD.wc_le, DD.wc_gt, DD.wc_ge, DD.wc_eq, DD.wc_ne, DD.wc_isN0, DD.wc_isN1, DD.wc_isN2, DD.wc_isN3, DD.wc_isN4, DD.wc_isN5, DD.wc_notN0, DD.wc_notN1, DD.wc_notN2, DD.wc_notN3, DD.wc_notN4, DD.wc_notN5, DD.wt_n, DD.wt_b, DD.wt_i, DD.wt_l, DD.wt_t, DD.wi_l, DD.wi_t, DD.wu_len, DD.wu_lenT, DD.wu_int, DD.wu_intb, DD.wu_abs, DD.wu_tup, DD.wu_tupT, DD.wu_lst, DD.wu_lstT, DD.wu_max2, DD.wu_min2, DD.wu_max1, DD.wu_min1, DD.wu_sum, DD.wu_all, DD.wu_any, DD.wu_sorted, DD.ws_l, DD.ws_t, DD.ws_s, DD.wr_l, DD.wr_t, DD.wb_mulT, DD.wst_l, DD.wst_t, DD.wz_l, DD.wz_t, DD.wn_l, DD.wv_l, DD.wv_t, DD.wc_inl, DD.wc_ninl, DD.wc_int, DD.wc_nint, DD.wCh, DD.ev_ii, DD.ev_bb, DD.ev_ss, DD.ev_nn, DD.ev_ni, DD.ev_in, DD.ev_is, DD.ev_si, DD.ev_tt, DD.ev_ll, DD.ea_nn, DD.ea_cc, DD.ea_nc, DD.ea_cn, DD.sh_n, DD.sh_b, DD.sh_i, DD.sh_s, DD.so_told, DD.so_refused, DD.so_missing, DD.so_large, DD.at0, DD.at1, DD.at2, DD.at3, DD.startE, DD.endK, List.map_cons, List.map_nil, List.length_cons, List.length_nil, List.replicate, List.cons_append, List.nil_append, List.append_nil, DD.getS, DD.setS, DD.clrS, DD.deo_c, DD.deo_n, DD.deo1_v, DD.deo1_u, DD.deo1_o, DD.tgs, DD.Sl.v.injEq, DD.Sl.own.injEq, PySem.PyData.int.injEq, PySem.PyData.bool.injEq, PySem.PyData.list.injEq, PySem.PyData.tuple.injEq, PySem.PyData.str.injEq, Option.some.injEq, exists_eq_left', exists_eq_left, exists_and_left, exists_and_right, List.zip_cons_cons, List.zip_nil_right, List.zip_nil_left, List.foldl_cons, List.foldl_nil, List.getD_cons_zero, List.getD_cons_succ, true_and, and_true, Bool.false_eq_true, Bool.true_eq_false, Bool.not_true, Bool.not_false, if_true, if_false, decide_eq_true_eq, decide_eq_false_iff_not, Bool.not_eq_true', Bool.not_eq_false', DD.imp_tt, DD.imp_ff, DD.imp_tf, DD.imp_ft, forall_const, true_implies, false_implies, implies_true, Int.reduceLT, Int.reduceLE, reduceIte, ite_true, ite_false])))
      simp only [this.1, this.2, decide_true, Bool.true_and] at hR ⊢
      exact ⟨fun _ => hR, fun z => absurd z (by decide)⟩
    · rw [List.nil_append, fm_some]
      refine ⟨_, blsOf_map _ _, ?_⟩
      rw [all_id]
      refine ⟨fun z => ?_, fun _ => ?_⟩
      · rw [List.all_eq_false] at z
        obtain ⟨x, hx, hb⟩ := z
        have := ind x hx
        simp [this.1, this.2] at hb
      rw [mapInt_len]
      refine ⟨fun z => ?_, fun _ => t201 (by omega) so⟩
      refine spN (by omega) (by omega) fun a a0 a1 => ?_
      try (((simp only [DD.wSs, DD.wS, DD.wT, DD.wTs, DD.wE, DD.wEs, DD.wEi, DD.wIt, DD.wBnd, DD.bindT, DD.wb_add, DD.wb_sub, DD.wb_mul, DD.wb_fdiv, DD.wb_mod, DD.wb_pow, DD.wb_shl, DD.wb_shr, DD.wb_addL, DD.wb_addT, DD.wb_mulL, DD.wc_lt, DD.wc_le, DD.wc_gt, DD.wc_ge, DD.wc_eq, DD.wc_ne, DD.wc_isN0, DD.wc_isN1, DD.wc_isN2, DD.wc_isN3, DD.wc_isN4, DD.wc_isN5, DD.wc_notN0, DD.wc_notN1, DD.wc_notN2, DD.wc_notN3, DD.wc_notN4, DD.wc_notN5, DD.wt_n, DD.wt_b, DD.wt_i, DD.wt_l, DD.wt_t, DD.wi_l, DD.wi_t, DD.wu_len, DD.wu_lenT, DD.wu_int, DD.wu_intb, DD.wu_abs, DD.wu_tup, DD.wu_tupT, DD.wu_lst, DD.wu_lstT, DD.wu_max2, DD.wu_min2, DD.wu_max1, DD.wu_min1, DD.wu_sum, DD.wu_all, DD.wu_any, DD.wu_sorted, DD.ws_l, DD.ws_t, DD.ws_s, DD.wr_l, DD.wr_t, DD.wb_mulT, DD.wst_l, DD.wst_t, DD.wz_l, DD.wz_t, DD.wn_l, DD.wv_l, DD.wv_t, DD.wc_inl, DD.wc_ninl, DD.wc_int, DD.wc_nint, DD.wCh, DD.ev_ii, DD.ev_bb, DD.ev_ss, DD.ev_nn, DD.ev_ni, DD.ev_in, DD.ev_is, DD.ev_si, DD.ev_tt, DD.ev_ll, DD.ea_nn, DD.ea_cc, DD.ea_nc, DD.ea_cn, DD.sh_n, DD.sh_b, DD.sh_i, DD.sh_s, DD.so_told, DD.so_refused, DD.so_missing, DD.so_large, DD.at0, DD.at1, DD.at2, DD.at3, DD.startE, DD.endK, List.map_cons, List.map_nil, List.length_cons, List.length_nil, List.replicate, List.cons_append, List.nil_append, List.append_nil, DD.getS, DD.setS, DD.clrS, DD.deo_c, DD.deo_n, DD.deo1_v, DD.deo1_u, DD.deo1_o, DD.tgs, DD.Sl.v.injEq, DD.Sl.own.injEq, PySem.PyData.int.injEq, PySem.PyData.bool.injEq, PySem.PyData.list.injEq, PySem.PyData.tuple.injEq, PySem.PyData.str.injEq, Option.some.injEq, exists_eq_left', exists_eq_left, exists_and_left, exists_and_right, List.zip_cons_cons, List.zip_nil_right, List.zip_nil_left, List.foldl_cons, List.foldl_nil, List.getD_cons_zero, List.getD_cons_succ, true_and, and_true, Bool.false_eq_true, Bool.true_eq_false, Bool.not_true, Bool.not_false, if_true, if_false, decide_eq_true_eq, decide_eq_false_iff_not, Bool.not_eq_true', Bool.not_eq_false', DD.imp_tt, DD.imp_ff, DD.imp_tf, DD.imp_ft, forall_const, true_implies, false_implies, implies_true, Int.reduceLT, Int.reduceLE, reduceIte, ite_true, ite_false]); try simp only [g0, g1, g2, g3, γ0, γ1, γ2, γ3, γ4, γ5, γ6, γ7, γ8, γ9, γ17, γ18, γ19, γ21, γ22, γ23, γ24]; try (simp only [DD.wSs, DD.wS, DD.wT, DD.wTs, DD.wE, DD.wEs, DD.wEi, DD.wIt, DD.wBnd, DD.bindT, DD.wb_add, DD.wb_sub, DD.wb_mul, DD.wb_fdiv, DD.wb_mod, DD.wb_pow, DD.wb_shl, DD.wb_shr, DD.wb_addL, DD.wb_addT, DD.wb_mulL, DD.wc_lt, DD.wc_le, DD.wc_gt, DD.wc_ge, DD.wc_eq, DD.wc_ne, DD.wc_isN0, DD.wc_isN1, DD.wc_isN2, DD.wc_isN3, DD.wc_isN4, DD.wc_isN5, DD.wc_notN0, DD.wc_notN1, DD.wc_notN2, DD.wc_notN3, DD.wc_notN4, DD.wc_notN5, DD.wt_n, DD.wt_b, DD.wt_i, DD.wt_l, DD.wt_t, DD.wi_l, DD.wi_t, DD.wu_len, DD.wu_lenT, DD.wu_int, DD.wu_intb, DD.wu_abs, DD.wu_tup, DD.wu_tupT, DD.wu_lst, DD.wu_lstT, DD.wu_max2, DD.wu_min2, DD.wu_max1, DD.wu_min1, DD.wu_sum, DD.wu_all, DD.wu_any, DD.wu_sorted, DD.ws_l, DD.ws_t, DD.ws_s, DD.wr_l, DD.wr_t, DD.wb_mulT, DD.wst_l, DD.wst_t, DD.wz_l, DD.wz_t, DD.wn_l, DD.wv_l, DD.wv_t, DD.wc_inl, DD.wc_ninl, DD.wc_int, DD.wc_nint, DD.wCh, DD.ev_ii, DD.ev_bb, DD.ev_ss, DD.ev_nn, DD.ev_ni, DD.ev_in, DD.ev_is, DD.ev_si, DD.ev_tt, DD.ev_ll, DD.ea_nn, DD.ea_cc, DD.ea_nc, DD.ea_cn, DD.sh_n, DD.sh_b, DD.sh_i, DD.sh_s, DD.so_told, DD.so_refused, DD.so_missing, DD.so_large, DD.at0, DD.at1, DD.at2, DD.at3, DD.startE, DD.endK, List.map_cons, List.map_nil, List.length_cons, List.length_nil, List.replicate, List.cons_append, List.nil_append, List.append_nil, DD.getS, DD.setS, DD.clrS, DD.deo_c, DD.deo_n, DD.deo1_v, DD.deo1_u, DD.deo1_o, DD.tgs, DD.Sl.v.injEq, DD.Sl.own.injEq, PySem.PyData.int.injEq, PySem.PyData.bool.injEq, PySem.PyData.list.injEq, PySem.PyData.tuple.injEq, PySem.PyData.str.injEq, Option.some.injEq, exists_eq_left', exists_eq_left, exists_and_left, exists_and_right, List.zip_cons_cons, List.zip_nil_right, List.zip_nil_left, List.foldl_cons, List.foldl_nil, List.getD_cons_zero, List.getD_cons_succ, true_and, and_true, Bool.false_eq_true, Bool.true_eq_false, Bool.not_true, Bool.not_false, if_true, if_false, decide_eq_true_eq, decide_eq_false_iff_not, Bool.not_eq_true', Bool.not_eq_false', DD.imp_tt, DD.imp_ff, DD.imp_tf, DD.imp_ft, forall_const, true_implies, false_implies, implies_true, Int.reduceLT, Int.reduceLE, reduceIte, ite_true, ite_false])))
      refine spN (by omega) (by omega) fun v v0 v1 => ?_
      try (((simp only [DD.wSs, DD.wS, DD.wT, DD.wTs, DD.wE, DD.wEs, DD.wEi, DD.wIt, DD.wBnd, DD.bindT, DD.wb_add, DD.wb_sub, DD.wb_mul, DD.wb_fdiv, DD.wb_mod, DD.wb_pow, DD.wb_shl, DD.wb_shr, DD.wb_addL, DD.wb_addT, DD.wb_mulL, DD.wc_lt, DD.wc_le, DD.wc_gt, DD.wc_ge, DD.wc_eq, DD.wc_ne, DD.wc_isN0, DD.wc_isN1, DD.wc_isN2, DD.wc_isN3, DD.wc_isN4, DD.wc_isN5, DD.wc_notN0, DD.wc_notN1, DD.wc_notN2, DD.wc_notN3, DD.wc_notN4, DD.wc_notN5, DD.wt_n, DD.wt_b, DD.wt_i, DD.wt_l, DD.wt_t, DD.wi_l, DD.wi_t, DD.wu_len, DD.wu_lenT, DD.wu_int, DD.wu_intb, DD.wu_abs, DD.wu_tup, DD.wu_tupT, DD.wu_lst, DD.wu_lstT, DD.wu_max2, DD.wu_min2, DD.wu_max1, DD.wu_min1, DD.wu_sum, DD.wu_all, DD.wu_any, DD.wu_sorted, DD.ws_l, DD.ws_t, DD.ws_s, DD.wr_l, DD.wr_t, DD.wb_mulT, DD.wst_l, DD.wst_t, DD.wz_l, DD.wz_t, DD.wn_l, DD.wv_l, DD.wv_t, DD.wc_inl, DD.wc_ninl, DD.wc_int, DD.wc_nint, DD.wCh, DD.ev_ii, DD.ev_bb, DD.ev_ss, DD.ev_nn, DD.ev_ni, DD.ev_in, DD.ev_is, DD.ev_si, DD.ev_tt, DD.ev_ll, DD.ea_nn, DD.ea_cc, DD.ea_nc, DD.ea_cn, DD.sh_n, DD.sh_b, DD.sh_i, DD.sh_s, DD.so_told, DD.so_refused, DD.so_missing, DD.so_large, DD.at0, DD.at1, DD.at2, DD.at3, DD.startE, DD.endK, List.map_cons, List.map_nil, List.length_cons, List.length_nil, List.replicate, List.cons_append, List.nil_append, List.append_nil, DD.getS, DD.setS, DD.clrS, DD.deo_c, DD.deo_n, DD.deo1_v, DD.deo1_u, DD.deo1_o, DD.tgs, DD.Sl.v.injEq, DD.Sl.own.injEq, PySem.PyData.int.injEq, PySem.PyData.bool.injEq, PySem.PyData.list.injEq, PySem.PyData.tuple.injEq, PySem.PyData.str.injEq, Option.some.injEq, exists_eq_left', exists_eq_left, exists_and_left, exists_and_right, List.zip_cons_cons, List.zip_nil_right, List.zip_nil_left, List.foldl_cons, List.foldl_nil, List.getD_cons_zero, List.getD_cons_succ, true_and, and_true, Bool.false_eq_true, Bool.true_eq_false, Bool.not_true, Bool.not_false, if_true, if_false, decide_eq_true_eq, decide_eq_false_iff_not, Bool.not_eq_true', Bool.not_eq_false', DD.imp_tt, DD.imp_ff, DD.imp_tf, DD.imp_ft, forall_const, true_implies, false_implies, implies_true, Int.reduceLT, Int.reduceLE, reduceIte, ite_true, ite_false]); try simp only [g0, g1, g2, g3, γ0, γ1, γ2, γ3, γ4, γ5, γ6, γ7, γ8, γ9, γ17, γ18, γ19, γ21, γ22, γ23, γ24]; try (simp only [DD.wSs, DD.wS, DD.wT, DD.wTs, DD.wE, DD.wEs, DD.wEi, DD.wIt, DD.wBnd, DD.bindT, DD.wb_add, DD.wb_sub, DD.wb_mul, DD.wb_fdiv, DD.wb_mod, DD.wb_pow, DD.wb_shl, DD.wb_shr, DD.wb_addL, DD.wb_addT, DD.wb_mulL, DD.wc_lt, DD.wc_le, DD.wc_gt, DD.wc_ge, DD.wc_eq, DD.wc_ne, DD.wc_isN0, DD.wc_isN1, DD.wc_isN2, DD.wc_isN3, DD.wc_isN4, DD.wc_isN5, DD.wc_notN0, DD.wc_notN1, DD.wc_notN2, DD.wc_notN3, DD.wc_notN4, DD.wc_notN5, DD.wt_n, DD.wt_b, DD.wt_i, DD.wt_l, DD.wt_t, DD.wi_l, DD.wi_t, DD.wu_len, DD.wu_lenT, DD.wu_int, DD.wu_intb, DD.wu_abs, DD.wu_tup, DD.wu_tupT, DD.wu_lst, DD.wu_lstT, DD.wu_max2, DD.wu_min2, DD.wu_max1, DD.wu_min1, DD.wu_sum, DD.wu_all, DD.wu_any, DD.wu_sorted, DD.ws_l, DD.ws_t, DD.ws_s, DD.wr_l, DD.wr_t, DD.wb_mulT, DD.wst_l, DD.wst_t, DD.wz_l, DD.wz_t, DD.wn_l, DD.wv_l, DD.wv_t, DD.wc_inl, DD.wc_ninl, DD.wc_int, DD.wc_nint, DD.wCh, DD.ev_ii, DD.ev_bb, DD.ev_ss, DD.ev_nn, DD.ev_ni, DD.ev_in, DD.ev_is, DD.ev_si, DD.ev_tt, DD.ev_ll, DD.ea_nn, DD.ea_cc, DD.ea_nc, DD.ea_cn, DD.sh_n, DD.sh_b, DD.sh_i, DD.sh_s, DD.so_told, DD.so_refused, DD.so_missing, DD.so_large, DD.at0, DD.at1, DD.at2, DD.at3, DD.startE, DD.endK, List.map_cons, List.map_nil, List.length_cons, List.length_nil, List.replicate, List.cons_append, List.nil_append, List.append_nil, DD.getS, DD.setS, DD.clrS, DD.deo_c, DD.deo_n, DD.deo1_v, DD.deo1_u, DD.deo1_o, DD.tgs, DD.Sl.v.injEq, DD.Sl.own.injEq, PySem.PyData.int.injEq, PySem.PyData.bool.injEq, PySem.PyData.list.injEq, PySem.PyData.tuple.injEq, PySem.PyData.str.injEq, Option.some.injEq, exists_eq_left', exists_eq_left, exists_and_left, exists_and_right, List.zip_cons_cons, List.zip_nil_right, List.zip_nil_left, List.foldl_cons, List.foldl_nil, List.getD_cons_zero, List.getD_cons_succ, true_and, and_true, Bool.false_eq_true, Bool.true_eq_false, Bool.not_true, Bool.not_false, if_true, if_false, decide_eq_true_eq, decide_eq_false_iff_not, Bool.not_eq_true', Bool.not_eq_false', DD.imp_tt, DD.imp_ff, DD.imp_tf, DD.imp_ft, forall_const, true_implies, false_implies, implies_true, Int.reduceLT, Int.reduceLE, reduceIte, ite_true, ite_false])))
      obtain ⟨k, rfl⟩ : ∃ k : Nat, a = (k : Int) := ⟨a.toNat, by omega⟩
      have hk : k < r.length := by omega
      have ek : (k : Int) + 1 = ((k + 1 : Nat) : Int) := by omega
      rw [ek, cut_to, cut_from]
      have lr := hr.1
      have eset : iL r = iL r := rfl
      have e1 : (iL r).take k ++ [PyData.int (l + v)] ++ (iL r).drop (k + 1) = iL (r.set k (l + v)) := by
        rw [List.set_eq_take_append_cons_drop, if_pos hk]
        simp
      rw [e1]
      have hr' : RowOk l h (r.set k (l + v)) := ⟨by rw [List.length_set]; exact hr.1, fun d hd => by
        rcases List.mem_or_eq_of_mem_set hd with y | y
        · exact hr.2 d y
        · rw [y]; omega⟩
      have lt1 : ((iL r).take k).length ≤ 24 := by rw [List.length_take, mapInt_len]; omega
      have lt2 : ((iL r).drop (k + 1)).length ≤ 24 := by rw [List.length_drop, mapInt_len]; omega
      refine ⟨by unfold okLen; omega, by rw [List.length_append]; unfold okLen; simp only [List.length_cons, List.length_nil]; omega, ?_⟩
      refine ⟨sy b l h, r.set k (l + v), s, rfl, sysArg_sy, fun b' l' h' e _ => ?_, fun z => absurd (sysOk_iff.mpr so) z⟩
      cases e
      refine ⟨fun _ _ o' ho' => ?_, fun z => absurd ⟨hr', hs⟩ z⟩
      cases ho'.uniq ho
      refine ⟨fun z => absurd trivial z, ⟨by decide, by decide, by rw [mapInt_len]; omega, by rw [mapInt_len]; omega, by rw [mapInt_len]; omega⟩, ?_⟩
      rw [mapInt_len]
      refine wTurns_rng (fun i => if (!([(k : Int), (k : Int) + 1].contains i)) = true then some (.bool false) else none) (fun i i0 i1 R hR => ?_) ?_
      · (((simp only [DD.wSs, DD.wS, DD.wT, DD.wTs, DD.wE, DD.wEs, DD.wEi, DD.wIt, DD.wBnd, DD.bindT, DD.wb_add, DD.wb_sub, DD.wb_mul, DD.wb_fdiv, DD.wb_mod, DD.wb_pow, DD.wb_shl, DD.wb_shr, DD.wb_addL, DD.wb_addT, DD.wb_mulL, DD.wc_lt, DD.wc_le, DD.wc_gt, DD.wc_ge, DD.wc_eq, DD.wc_ne, DD.wc_isN0, DD.wc_isN1, DD.wc_isN2, DD.wc_isN3, DD.wc_isN4, DD.wc_isN5, DD.wc_notN0, DD.wc_notN1, DD.wc_notN2, DD.wc_notN3, DD.wc_notN4, DD.wc_notN5, DD.wt_n, DD.wt_b, DD.wt_i, DD.wt_l, DD.wt_t, DD.wi_l, DD.wi_t, DD.wu_len, DD.wu_lenT, DD.wu_int, DD.wu_intb, DD.wu_abs, DD.wu_tup, DD.wu_tupT, DD.wu_lst, DD.wu_lstT, DD.wu_max2, DD.wu_min2, DD.wu_max1, DD.wu_min1, DD.wu_sum, DD.wu_all, DD.wu_any, DD.wu_sorted, DD.ws_l, DD.ws_t, DD.ws_s, DD.wr_l, DD.wr_t, DD.wb_mulT, DD.wst_l, DD.wst_t, DD.wz_l, DD.wz_t, DD.wn_l, DD.wv_l, DD.wv_t, DD.wc_inl, DD.wc_ninl, DD.wc_int, DD.wc_nint, DD.wCh, DD.ev_ii, DD.ev_bb, DD.ev_ss, DD.ev_nn, DD.ev_ni, DD.ev_in, DD.ev_is, DD.ev_si, DD.ev_tt, DD.ev_ll, DD.ea_nn, DD.ea_cc, DD.ea_nc, DD.ea_cn, DD.sh_n, DD.sh_b, DD.sh_i, DD.sh_s, DD.so_told, DD.so_refused, DD.so_missing, DD.so_large, DD.at0, DD.at1, DD.at2, DD.at3, DD.startE, DD.endK, List.map_cons, List.map_nil, List.length_cons, List.length_nil, List.replicate, List.cons_append, List.nil_append, List.append_nil, DD.getS, DD.setS, DD.clrS, DD.deo_c, DD.deo_n, DD.deo1_v, DD.deo1_u, DD.deo1_o, DD.tgs, DD.Sl.v.injEq, DD.Sl.own.injEq, PySem.PyData.int.injEq, PySem.PyData.bool.injEq, PySem.PyData.list.injEq, PySem.PyData.tuple.injEq, PySem.PyData.str.injEq, Option.some.injEq, exists_eq_left', exists_eq_left, exists_and_left, exists_and_right, List.zip_cons_cons, List.zip_nil_right, List.zip_nil_left, List.foldl_cons, List.foldl_nil, List.getD_cons_zero, List.getD_cons_succ, true_and, and_true, Bool.false_eq_true, Bool.true_eq_false, Bool.not_true, Bool.not_false, if_true, if_false, decide_eq_true_eq, decide_eq_false_iff_not, Bool.not_eq_true', Bool.not_eq_false', DD.imp_tt, DD.imp_ff, DD.imp_tf, DD.imp_ft, forall_const, true_implies, false_implies, implies_true, Int.reduceLT, Int.reduceLE, reduceIte, ite_true, ite_false]); try simp only [g0, g1, g2, g3, γ0, γ1, γ2, γ3, γ4, γ5, γ6, γ7, γ8, γ9, γ17, γ18, γ19, γ21, γ22, γ23, γ24]; try (simp only [DD.wSs, DD.wS, DD.wT, DD.wTs, DD.wE, DD.wEs, DD.wEi, DD.wIt, DD.wBnd, DD.bindT, DD.wb_add, DD.wb_sub, DD.wb_mul, DD.wb_fdiv, DD.wb_mod, DD.wb_pow, DD.wb_shl, DD.wb_shr, DD.wb_addL, DD.wb_addT, DD.wb_mulL, DD.wc_lt, DD.wc_le, DD.wc_gt, DD.wc_ge, DD.wc_eq, DD.wc_ne, DD.wc_isN0, DD.wc_isN1, DD.wc_isN2, DD.wc_isN3, DD.wc_isN4, DD.wc_isN5, DD.wc_notN0, DD.wc_notN1, DD.wc_notN2, DD.wc_notN3, DD.wc_notN4, DD.wc_notN5, DD.wt_n, DD.wt_b, DD.wt_i, DD.wt_l, DD.wt_t, DD.wi_l, DD.wi_t, DD.wu_len, DD.wu_lenT, DD.wu_int, DD.wu_intb, DD.wu_abs, DD.wu_tup, DD.wu_tupT, DD.wu_lst, DD.wu_lstT, DD.wu_max2, DD.wu_min2, DD.wu_max1, DD.wu_min1, DD.wu_sum, DD.wu_all, DD.wu_any, DD.wu_sorted, DD.ws_l, DD.ws_t, DD.ws_s, DD.wr_l, DD.wr_t, DD.wb_mulT, DD.wst_l, DD.wst_t, DD.wz_l, DD.wz_t, DD.wn_l, DD.wv_l, DD.wv_t, DD.wc_inl, DD.wc_ninl, DD.wc_int, DD.wc_nint, DD.wCh, DD.ev_ii, DD.ev_bb, DD.ev_ss, DD.ev_nn, DD.ev_ni, DD.ev_in, DD.ev_is, DD.ev_si, DD.ev_tt, DD.ev_ll, DD.ea_nn, DD.ea_cc, DD.ea_nc, DD.ea_cn, DD.sh_n, DD.sh_b, DD.sh_i, DD.sh_s, DD.so_told, DD.so_refused, DD.so_missing, DD.so_large, DD.at0, DD.at1, DD.at2, DD.at3, DD.startE, DD.endK, List.map_cons, List.map_nil, List.length_cons, List.length_nil, List.replicate, List.cons_append, List.nil_append, List.append_nil, DD.getS, DD.setS, DD.clrS, DD.deo_c, DD.deo_n, DD.deo1_v, DD.deo1_u, DD.deo1_o, DD.tgs, DD.Sl.v.injEq, DD.Sl.own.injEq, PySem.PyData.int.injEq, PySem.PyData.bool.injEq, PySem.PyData.list.injEq, PySem.PyData.tuple.injEq, PySem.PyData.str.injEq, Option.some.injEq, exists_eq_left', exists_eq_left, exists_and_left, exists_and_right, List.zip_cons_cons, List.zip_nil_right, List.zip_nil_left, List.foldl_cons, List.foldl_nil, List.getD_cons_zero, List.getD_cons_succ, true_and, and_true, Bool.false_eq_true, Bool.true_eq_false, Bool.not_true, Bool.not_false, if_true, if_false, decide_eq_true_eq, decide_eq_false_iff_not, Bool.not_eq_true', Bool.not_eq_false', DD.imp_tt, DD.imp_ff, DD.imp_tf, DD.imp_ft, forall_const, true_implies, false_implies, implies_true, Int.reduceLT, Int.reduceLE, reduceIte, ite_true, ite_false])))
        have ea : (([PyData.int (k : Int), PyData.int ((k + 1 : Nat) : Int)].any fun z => PyData.eqv z (PyData.int i)) = [(k : Int), (k : Int) + 1].contains i) := by
          rw [← ek]
          simp only [List.any_cons, List.any_nil, ev_ii, List.contains_cons, List.contains_nil, Bool.or_false]
          rw [dec_beq, dec_beq]
        rw [ea]
        refine ⟨shpL [_, _], fun z => ?_, fun z => ?_⟩
        · rw [z] at hR
          have hi : i.toNat < (added b l h m r s).length := by omega
          have la : (added b l h m (r.set k (l + v)) s).length = (added b l h m r s).length := by rw [len_added, len_added, List.length_set]
          have ei : ((i.toNat : Nat) : Int) = i := by omega
          have g1 := getI hi
          have g2 := getI (X := added b l h m (r.set k (l + v)) s) (j := i.toNat) (by omega)
          have hne : i.toNat ≠ k ∧ i.toNat ≠ k + 1 := by
            simp only [List.contains_cons, List.contains_nil, Bool.or_false, Bool.or_eq_false_iff, beq_eq_false_iff_ne] at z
            omega
          have gg : (added b l h m (r.set k (l + v)) s)[i.toNat]? = (added b l h m r s)[i.toNat]? := get_added (at_ := k) (List.length_set ..) (fun j hj => List.getElem?_set_ne (Ne.symm hj)) hne.1 hne.2
          rw [List.getElem?_eq_getElem hi, List.getElem?_eq_getElem (by omega)] at gg
          rw [Option.some.inj gg] at g2
          rw [ei] at g1 g2
          refine ⟨_, g2, _, g1, ⟨by (simp [Shp, SeqAt.shaped, PyData.canLay0, PyData.canLayAll0, PyData.depth, PyData.depthAll, nm0, nm1, nm2, so_told, so_refused, so_missing, so_large]), by (simp [Shp, SeqAt.shaped, PyData.canLay0, PyData.canLayAll0, PyData.depth, PyData.depthAll, nm0, nm1, nm2, so_told, so_refused, so_missing, so_large])⟩, ?_⟩
          rw [ev_ii, decide_eq_true rfl]
          exact hR
        · rw [z] at hR; exact hR
      · rw [List.nil_append, fm_if]
        refine ⟨_, blsOf_map _ _, ?_⟩
        rw [any_id]
        refine ⟨fun z => ?_, fun _ => t201 (by omega) so⟩
        rw [List.any_eq_true] at z
        obtain ⟨x, _, hx⟩ := z
        cases hx
theorem t181 {o : Option Int} (hn : n + 60 + 150 * ds.length ≤ 1000) (so : SysOk b l h) (ho : TrIs b l h o) :
    wSs ΓL GL c_law_181 [x0, .v sttD, y2, .v (.tuple (sy b l h)), y4, y5, .v (optD o), y7, y8, y9, y10, y11, y12, y13, y14, y15, y16, y17] n (K5 ds) := by
  unfold c_law_181
  have ok : sysOk (sy b l h) := sysOk_iff.mpr so
  have fin : ∀ {n' : Nat}, n' ≤ n → wSs ΓL GL c_law_183 [x0, .v sttD, y2, .v (.tuple (sy b l h)), y4, y5, .v (optD o), y7, y8, y9, y10, y11, y12, y13, y14, y15, y16, y17] n' (K5 ds) := fun hn' => by
    unfold c_law_183
    (((simp only [DD.wSs, DD.wS, DD.wT, DD.wTs, DD.wE, DD.wEs, DD.wEi, DD.wIt, DD.wBnd, DD.bindT, DD.wb_add, DD.wb_sub, DD.wb_mul, DD.wb_fdiv, DD.wb_mod, DD.wb_pow, DD.wb_shl, DD.wb_shr, DD.wb_addL, DD.wb_addT, DD.wb_mulL, DD.wc_lt, DD.wc_le, DD.wc_gt, DD.wc_ge, DD.wc_eq, DD.wc_ne, DD.wc_isN0, DD.wc_isN1, DD.wc_isN2, DD.wc_isN3, DD.wc_isN4, DD.wc_isN5, DD.wc_notN0, DD.wc_notN1, DD.wc_notN2, DD.wc_notN3, DD.wc_notN4, DD.wc_notN5, DD.wt_n, DD.wt_b, DD.wt_i, DD.wt_l, DD.wt_t, DD.wi_l, DD.wi_t, DD.wu_len, DD.wu_lenT, DD.wu_int, DD.wu_intb, DD.wu_abs, DD.wu_tup, DD.wu_tupT, DD.wu_lst, DD.wu_lstT, DD.wu_max2, DD.wu_min2, DD.wu_max1, DD.wu_min1, DD.wu_sum, DD.wu_all, DD.wu_any, DD.wu_sorted, DD.ws_l, DD.ws_t, DD.ws_s, DD.wr_l, DD.wr_t, DD.wb_mulT, DD.wst_l, DD.wst_t, DD.wz_l, DD.wz_t, DD.wn_l, DD.wv_l, DD.wv_t, DD.wc_inl, DD.wc_ninl, DD.wc_int, DD.wc_nint, DD.wCh, DD.ev_ii, DD.ev_bb, DD.ev_ss, DD.ev_nn, DD.ev_ni, DD.ev_in, DD.ev_is, DD.ev_si, DD.ev_tt, DD.ev_ll, DD.ea_nn, DD.ea_cc, DD.ea_nc, DD.ea_cn, DD.sh_n, DD.sh_b, DD.sh_i, DD.sh_s, DD.so_told, DD.so_refused, DD.so_missing, DD.so_large, DD.at0, DD.at1, DD.at2, DD.at3, DD.startE, DD.endK, List.map_cons, List.map_nil, List.length_cons, List.length_nil, List.replicate, List.cons_append, List.nil_append, List.append_nil, DD.getS, DD.setS, DD.clrS, DD.deo_c, DD.deo_n, DD.deo1_v, DD.deo1_u, DD.deo1_o, DD.tgs, DD.Sl.v.injEq, DD.Sl.own.injEq, PySem.PyData.int.injEq, PySem.PyData.bool.injEq, PySem.PyData.list.injEq, PySem.PyData.tuple.injEq, PySem.PyData.str.injEq, Option.some.injEq, exists_eq_left', exists_eq_left, exists_and_left, exists_and_right, List.zip_cons_cons, List.zip_nil_right, List.zip_nil_left, List.foldl_cons, List.foldl_nil, List.getD_cons_zero, List.getD_cons_succ, true_and, and_true, Bool.false_eq_true, Bool.true_eq_false, Bool.not_true, Bool.not_false, if_true, if_false, decide_eq_true_eq, decide_eq_false_iff_not, Bool.not_eq_true', Bool.not_eq_false', DD.imp_tt, DD.imp_ff, DD.imp_tf, DD.imp_ft, forall_const, true_implies, false_implies, implies_true, Int.reduceLT, Int.reduceLE, reduceIte, ite_true, ite_false]); try simp only [g0, g1, g2, g3, γ0, γ1, γ2, γ3, γ4, γ5, γ6, γ7, γ8, γ9, γ17, γ18, γ19, γ21, γ22, γ23, γ24]; try (simp only [DD.wSs, DD.wS, DD.wT, DD.wTs, DD.wE, DD.wEs, DD.wEi, DD.wIt, DD.wBnd, DD.bindT, DD.wb_add, DD.wb_sub, DD.wb_mul, DD.wb_fdiv, DD.wb_mod, DD.wb_pow, DD.wb_shl, DD.wb_shr, DD.wb_addL, DD.wb_addT, DD.wb_mulL, DD.wc_lt, DD.wc_le, DD.wc_gt, DD.wc_ge, DD.wc_eq, DD.wc_ne, DD.wc_isN0, DD.wc_isN1, DD.wc_isN2, DD.wc_isN3, DD.wc_isN4, DD.wc_isN5, DD.wc_notN0, DD.wc_notN1, DD.wc_notN2, DD.wc_notN3, DD.wc_notN4, DD.wc_notN5, DD.wt_n, DD.wt_b, DD.wt_i, DD.wt_l, DD.wt_t, DD.wi_l, DD.wi_t, DD.wu_len, DD.wu_lenT, DD.wu_int, DD.wu_intb, DD.wu_abs, DD.wu_tup, DD.wu_tupT, DD.wu_lst, DD.wu_lstT, DD.wu_max2, DD.wu_min2, DD.wu_max1, DD.wu_min1, DD.wu_sum, DD.wu_all, DD.wu_any, DD.wu_sorted, DD.ws_l, DD.ws_t, DD.ws_s, DD.wr_l, DD.wr_t, DD.wb_mulT, DD.wst_l, DD.wst_t, DD.wz_l, DD.wz_t, DD.wn_l, DD.wv_l, DD.wv_t, DD.wc_inl, DD.wc_ninl, DD.wc_int, DD.wc_nint, DD.wCh, DD.ev_ii, DD.ev_bb, DD.ev_ss, DD.ev_nn, DD.ev_ni, DD.ev_in, DD.ev_is, DD.ev_si, DD.ev_tt, DD.ev_ll, DD.ea_nn, DD.ea_cc, DD.ea_nc, DD.ea_cn, DD.sh_n, DD.sh_b, DD.sh_i, DD.sh_s, DD.so_told, DD.so_refused, DD.so_missing, DD.so_large, DD.at0, DD.at1, DD.at2, DD.at3, DD.startE, DD.endK, List.map_cons, List.map_nil, List.length_cons, List.length_nil, List.replicate, List.cons_append, List.nil_append, List.append_nil, DD.getS, DD.setS, DD.clrS, DD.deo_c, DD.deo_n, DD.deo1_v, DD.deo1_u, DD.deo1_o, DD.tgs, DD.Sl.v.injEq, DD.Sl.own.injEq, PySem.PyData.int.injEq, PySem.PyData.bool.injEq, PySem.PyData.list.injEq, PySem.PyData.tuple.injEq, PySem.PyData.str.injEq, Option.some.injEq, exists_eq_left', exists_eq_left, exists_and_left, exists_and_right, List.zip_cons_cons, List.zip_nil_right, List.zip_nil_left, List.foldl_cons, List.foldl_nil, List.getD_cons_zero, List.getD_cons_succ, true_and, and_true, Bool.false_eq_true, Bool.true_eq_false, Bool.not_true, Bool.not_false, if_true, if_false, decide_eq_true_eq, decide_eq_false_iff_not, Bool.not_eq_true', Bool.not_eq_false', DD.imp_tt, DD.imp_ff, DD.imp_tf, DD.imp_ft, forall_const, true_implies, false_implies, implies_true, Int.reduceLT, Int.reduceLE, reduceIte, ite_true, ite_false])))
    refine ⟨b, l, h, 25, rfl, so, by decide, by decide, by omega, fun r n1 hr lr n1' => ?_⟩
    unfold c_law_184
    (((simp only [DD.wSs, DD.wS, DD.wT, DD.wTs, DD.wE, DD.wEs, DD.wEi, DD.wIt, DD.wBnd, DD.bindT, DD.wb_add, DD.wb_sub, DD.wb_mul, DD.wb_fdiv, DD.wb_mod, DD.wb_pow, DD.wb_shl, DD.wb_shr, DD.wb_addL, DD.wb_addT, DD.wb_mulL, DD.wc_lt, DD.wc_le, DD.wc_gt, DD.wc_ge, DD.wc_eq, DD.wc_ne, DD.wc_isN0, DD.wc_isN1, DD.wc_isN2, DD.wc_isN3, DD.wc_isN4, DD.wc_isN5, DD.wc_notN0, DD.wc_notN1, DD.wc_notN2, DD.wc_notN3, DD.wc_notN4, DD.wc_notN5, DD.wt_n, DD.wt_b, DD.wt_i, DD.wt_l, DD.wt_t, DD.wi_l, DD.wi_t, DD.wu_len, DD.wu_lenT, DD.wu_int, DD.wu_intb, DD.wu_abs, DD.wu_tup, DD.wu_tupT, DD.wu_lst, DD.wu_lstT, DD.wu_max2, DD.wu_min2, DD.wu_max1, DD.wu_min1, DD.wu_sum, DD.wu_all, DD.wu_any, DD.wu_sorted, DD.ws_l, DD.ws_t, DD.ws_s, DD.wr_l, DD.wr_t, DD.wb_mulT, DD.wst_l, DD.wst_t, DD.wz_l, DD.wz_t, DD.wn_l, DD.wv_l, DD.wv_t, DD.wc_inl, DD.wc_ninl, DD.wc_int, DD.wc_nint, DD.wCh, DD.ev_ii, DD.ev_bb, DD.ev_ss, DD.ev_nn, DD.ev_ni, DD.ev_in, DD.ev_is, DD.ev_si, DD.ev_tt, DD.ev_ll, DD.ea_nn, DD.ea_cc, DD.ea_nc, DD.ea_cn, DD.sh_n, DD.sh_b, DD.sh_i, DD.sh_s, DD.so_told, DD.so_refused, DD.so_missing, DD.so_large, DD.at0, DD.at1, DD.at2, DD.at3, DD.startE, DD.endK, List.map_cons, List.map_nil, List.length_cons, List.length_nil, List.replicate, List.cons_append, List.nil_append, List.append_nil, DD.getS, DD.setS, DD.clrS, DD.deo_c, DD.deo_n, DD.deo1_v, DD.deo1_u, DD.deo1_o, DD.tgs, DD.Sl.v.injEq, DD.Sl.own.injEq, PySem.PyData.int.injEq, PySem.PyData.bool.injEq, PySem.PyData.list.injEq, PySem.PyData.tuple.injEq, PySem.PyData.str.injEq, Option.some.injEq, exists_eq_left', exists_eq_left, exists_and_left, exists_and_right, List.zip_cons_cons, List.zip_nil_right, List.zip_nil_left, List.foldl_cons, List.foldl_nil, List.getD_cons_zero, List.getD_cons_succ, true_and, and_true, Bool.false_eq_true, Bool.true_eq_false, Bool.not_true, Bool.not_false, if_true, if_false, decide_eq_true_eq, decide_eq_false_iff_not, Bool.not_eq_true', Bool.not_eq_false', DD.imp_tt, DD.imp_ff, DD.imp_tf, DD.imp_ft, forall_const, true_implies, false_implies, implies_true, Int.reduceLT, Int.reduceLE, reduceIte, ite_true, ite_false]); try simp only [g0, g1, g2, g3, γ0, γ1, γ2, γ3, γ4, γ5, γ6, γ7, γ8, γ9, γ17, γ18, γ19, γ21, γ22, γ23, γ24]; try (simp only [DD.wSs, DD.wS, DD.wT, DD.wTs, DD.wE, DD.wEs, DD.wEi, DD.wIt, DD.wBnd, DD.bindT, DD.wb_add, DD.wb_sub, DD.wb_mul, DD.wb_fdiv, DD.wb_mod, DD.wb_pow, DD.wb_shl, DD.wb_shr, DD.wb_addL, DD.wb_addT, DD.wb_mulL, DD.wc_lt, DD.wc_le, DD.wc_gt, DD.wc_ge, DD.wc_eq, DD.wc_ne, DD.wc_isN0, DD.wc_isN1, DD.wc_isN2, DD.wc_isN3, DD.wc_isN4, DD.wc_isN5, DD.wc_notN0, DD.wc_notN1, DD.wc_notN2, DD.wc_notN3, DD.wc_notN4, DD.wc_notN5, DD.wt_n, DD.wt_b, DD.wt_i, DD.wt_l, DD.wt_t, DD.wi_l, DD.wi_t, DD.wu_len, DD.wu_lenT, DD.wu_int, DD.wu_intb, DD.wu_abs, DD.wu_tup, DD.wu_tupT, DD.wu_lst, DD.wu_lstT, DD.wu_max2, DD.wu_min2, DD.wu_max1, DD.wu_min1, DD.wu_sum, DD.wu_all, DD.wu_any, DD.wu_sorted, DD.ws_l, DD.ws_t, DD.ws_s, DD.wr_l, DD.wr_t, DD.wb_mulT, DD.wst_l, DD.wst_t, DD.wz_l, DD.wz_t, DD.wn_l, DD.wv_l, DD.wv_t, DD.wc_inl, DD.wc_ninl, DD.wc_int, DD.wc_nint, DD.wCh, DD.ev_ii, DD.ev_bb, DD.ev_ss, DD.ev_nn, DD.ev_ni, DD.ev_in, DD.ev_is, DD.ev_si, DD.ev_tt, DD.ev_ll, DD.ea_nn, DD.ea_cc, DD.ea_nc, DD.ea_cn, DD.sh_n, DD.sh_b, DD.sh_i, DD.sh_s, DD.so_told, DD.so_refused, DD.so_missing, DD.so_large, DD.at0, DD.at1, DD.at2, DD.at3, DD.startE, DD.endK, List.map_cons, List.map_nil, List.length_cons, List.length_nil, List.replicate, List.cons_append, List.nil_append, List.append_nil, DD.getS, DD.setS, DD.clrS, DD.deo_c, DD.deo_n, DD.deo1_v, DD.deo1_u, DD.deo1_o, DD.tgs, DD.Sl.v.injEq, DD.Sl.own.injEq, PySem.PyData.int.injEq, PySem.PyData.bool.injEq, PySem.PyData.list.injEq, PySem.PyData.tuple.injEq, PySem.PyData.str.injEq, Option.some.injEq, exists_eq_left', exists_eq_left, exists_and_left, exists_and_right, List.zip_cons_cons, List.zip_nil_right, List.zip_nil_left, List.foldl_cons, List.foldl_nil, List.getD_cons_zero, List.getD_cons_succ, true_and, and_true, Bool.false_eq_true, Bool.true_eq_false, Bool.not_true, Bool.not_false, if_true, if_false, decide_eq_true_eq, decide_eq_false_iff_not, Bool.not_eq_true', Bool.not_eq_false', DD.imp_tt, DD.imp_ff, DD.imp_tf, DD.imp_ft, forall_const, true_implies, false_implies, implies_true, Int.reduceLT, Int.reduceLE, reduceIte, ite_true, ite_false])))
    refine ⟨b, l, h, 25, rfl, so, by decide, by decide, by omega, fun s n2 hs ls n2' => ?_⟩
    unfold c_law_185
    (((simp only [DD.wSs, DD.wS, DD.wT, DD.wTs, DD.wE, DD.wEs, DD.wEi, DD.wIt, DD.wBnd, DD.bindT, DD.wb_add, DD.wb_sub, DD.wb_mul, DD.wb_fdiv, DD.wb_mod, DD.wb_pow, DD.wb_shl, DD.wb_shr, DD.wb_addL, DD.wb_addT, DD.wb_mulL, DD.wc_lt, DD.wc_le, DD.wc_gt, DD.wc_ge, DD.wc_eq, DD.wc_ne, DD.wc_isN0, DD.wc_isN1, DD.wc_isN2, DD.wc_isN3, DD.wc_isN4, DD.wc_isN5, DD.wc_notN0, DD.wc_notN1, DD.wc_notN2, DD.wc_notN3, DD.wc_notN4, DD.wc_notN5, DD.wt_n, DD.wt_b, DD.wt_i, DD.wt_l, DD.wt_t, DD.wi_l, DD.wi_t, DD.wu_len, DD.wu_lenT, DD.wu_int, DD.wu_intb, DD.wu_abs, DD.wu_tup, DD.wu_tupT, DD.wu_lst, DD.wu_lstT, DD.wu_max2, DD.wu_min2, DD.wu_max1, DD.wu_min1, DD.wu_sum, DD.wu_all, DD.wu_any, DD.wu_sorted, DD.ws_l, DD.ws_t, DD.ws_s, DD.wr_l, DD.wr_t, DD.wb_mulT, DD.wst_l, DD.wst_t, DD.wz_l, DD.wz_t, DD.wn_l, DD.wv_l, DD.wv_t, DD.wc_inl, DD.wc_ninl, DD.wc_int, DD.wc_nint, DD.wCh, DD.ev_ii, DD.ev_bb, DD.ev_ss, DD.ev_nn, DD.ev_ni, DD.ev_in, DD.ev_is, DD.ev_si, DD.ev_tt, DD.ev_ll, DD.ea_nn, DD.ea_cc, DD.ea_nc, DD.ea_cn, DD.sh_n, DD.sh_b, DD.sh_i, DD.sh_s, DD.so_told, DD.so_refused, DD.so_missing, DD.so_large, DD.at0, DD.at1, DD.at2, DD.at3, DD.startE, DD.endK, List.map_cons, List.map_nil, List.length_cons, List.length_nil, List.replicate, List.cons_append, List.nil_append, List.append_nil, DD.getS, DD.setS, DD.clrS, DD.deo_c, DD.deo_n, DD.deo1_v, DD.deo1_u, DD.deo1_o, DD.tgs, DD.Sl.v.injEq, DD.Sl.own.injEq, PySem.PyData.int.injEq, PySem.PyData.bool.injEq, PySem.PyData.list.injEq, PySem.PyData.tuple.injEq, PySem.PyData.str.injEq, Option.some.injEq, exists_eq_left', exists_eq_left, exists_and_left, exists_and_right, List.zip_cons_cons, List.zip_nil_right, List.zip_nil_left, List.foldl_cons, List.foldl_nil, List.getD_cons_zero, List.getD_cons_succ, true_and, and_true, Bool.false_eq_true, Bool.true_eq_false, Bool.not_true, Bool.not_false, if_true, if_false, decide_eq_true_eq, decide_eq_false_iff_not, Bool.not_eq_true', Bool.not_eq_false', DD.imp_tt, DD.imp_ff, DD.imp_tf, DD.imp_ft, forall_const, true_implies, false_implies, implies_true, Int.reduceLT, Int.reduceLE, reduceIte, ite_true, ite_false]); try simp only [g0, g1, g2, g3, γ0, γ1, γ2, γ3, γ4, γ5, γ6, γ7, γ8, γ9, γ17, γ18, γ19, γ21, γ22, γ23, γ24]; try (simp only [DD.wSs, DD.wS, DD.wT, DD.wTs, DD.wE, DD.wEs, DD.wEi, DD.wIt, DD.wBnd, DD.bindT, DD.wb_add, DD.wb_sub, DD.wb_mul, DD.wb_fdiv, DD.wb_mod, DD.wb_pow, DD.wb_shl, DD.wb_shr, DD.wb_addL, DD.wb_addT, DD.wb_mulL, DD.wc_lt, DD.wc_le, DD.wc_gt, DD.wc_ge, DD.wc_eq, DD.wc_ne, DD.wc_isN0, DD.wc_isN1, DD.wc_isN2, DD.wc_isN3, DD.wc_isN4, DD.wc_isN5, DD.wc_notN0, DD.wc_notN1, DD.wc_notN2, DD.wc_notN3, DD.wc_notN4, DD.wc_notN5, DD.wt_n, DD.wt_b, DD.wt_i, DD.wt_l, DD.wt_t, DD.wi_l, DD.wi_t, DD.wu_len, DD.wu_lenT, DD.wu_int, DD.wu_intb, DD.wu_abs, DD.wu_tup, DD.wu_tupT, DD.wu_lst, DD.wu_lstT, DD.wu_max2, DD.wu_min2, DD.wu_max1, DD.wu_min1, DD.wu_sum, DD.wu_all, DD.wu_any, DD.wu_sorted, DD.ws_l, DD.ws_t, DD.ws_s, DD.wr_l, DD.wr_t, DD.wb_mulT, DD.wst_l, DD.wst_t, DD.wz_l, DD.wz_t, DD.wn_l, DD.wv_l, DD.wv_t, DD.wc_inl, DD.wc_ninl, DD.wc_int, DD.wc_nint, DD.wCh, DD.ev_ii, DD.ev_bb, DD.ev_ss, DD.ev_nn, DD.ev_ni, DD.ev_in, DD.ev_is, DD.ev_si, DD.ev_tt, DD.ev_ll, DD.ea_nn, DD.ea_cc, DD.ea_nc, DD.ea_cn, DD.sh_n, DD.sh_b, DD.sh_i, DD.sh_s, DD.so_told, DD.so_refused, DD.so_missing, DD.so_large, DD.at0, DD.at1, DD.at2, DD.at3, DD.startE, DD.endK, List.map_cons, List.map_nil, List.length_cons, List.length_nil, List.replicate, List.cons_append, List.nil_append, List.append_nil, DD.getS, DD.setS, DD.clrS, DD.deo_c, DD.deo_n, DD.deo1_v, DD.deo1_u, DD.deo1_o, DD.tgs, DD.Sl.v.injEq, DD.Sl.own.injEq, PySem.PyData.int.injEq, PySem.PyData.bool.injEq, PySem.PyData.list.injEq, PySem.PyData.tuple.injEq, PySem.PyData.str.injEq, Option.some.injEq, exists_eq_left', exists_eq_left, exists_and_left, exists_and_right, List.zip_cons_cons, List.zip_nil_right, List.zip_nil_left, List.foldl_cons, List.foldl_nil, List.getD_cons_zero, List.getD_cons_succ, true_and, and_true, Bool.false_eq_true, Bool.true_eq_false, Bool.not_true, Bool.not_false, if_true, if_false, decide_eq_true_eq, decide_eq_false_iff_not, Bool.not_eq_true', Bool.not_eq_false', DD.imp_tt, DD.imp_ff, DD.imp_tf, DD.imp_ft, forall_const, true_implies, false_implies, implies_true, Int.reduceLT, Int.reduceLE, reduceIte, ite_true, ite_false])))
    have r1 : RowOk l h r := ⟨by omega, hr⟩
    have r2 : RowOk l h s := ⟨by omega, hs⟩
    refine ⟨sy b l h, r, s, rfl, sysArg_sy, fun b' l' h' e _ => ?_, fun z => absurd ok z⟩
    cases e
    refine ⟨fun _ _ o' ho' => ?_, fun z => absurd ⟨r1, r2⟩ z⟩
    cases ho'.uniq ho
    have := t186 (n := n2) (ds := ds) (x0 := x0) (y2 := y2) (y4 := y4) (y5 := y5) (y10 := y10) (y11 := y11) (y12 := y12) (y13 := y13) (y14 := y14) (y15 := y15) (y16 := y16) (y17 := y17) (by omega) so ho r1 r2
    cases o with
    | none => exact ⟨by decide, this⟩
    | some m => exact this
  (((simp only [DD.wSs, DD.wS, DD.wT, DD.wTs, DD.wE, DD.wEs, DD.wEi, DD.wIt, DD.wBnd, DD.bindT, DD.wb_add, DD.wb_sub, DD.wb_mul, DD.wb_fdiv, DD.wb_mod, DD.wb_pow, DD.wb_shl, DD.wb_shr, DD.wb_addL, DD.wb_addT, DD.wb_mulL, DD.wc_lt, DD.wc_le, DD.wc_gt, DD.wc_ge, DD.wc_eq, DD.wc_ne, DD.wc_isN0, DD.wc_isN1, DD.wc_isN2, DD.wc_isN3, DD.wc_isN4, DD.wc_isN5, DD.wc_notN0, DD.wc_notN1, DD.wc_notN2, DD.wc_notN3, DD.wc_notN4, DD.wc_notN5, DD.wt_n, DD.wt_b, DD.wt_i, DD.wt_l, DD.wt_t, DD.wi_l, DD.wi_t, DD.wu_len, DD.wu_lenT, DD.wu_int, DD.wu_intb, DD.wu_abs, DD.wu_tup, DD.wu_tupT, DD.wu_lst, DD.wu_lstT, DD.wu_max2, DD.wu_min2, DD.wu_max1, DD.wu_min1, DD.wu_sum, DD.wu_all, DD.wu_any, DD.wu_sorted, DD.ws_l, DD.ws_t, DD.ws_s, DD.wr_l, DD.wr_t, DD.wb_mulT, DD.wst_l, DD.wst_t, DD.wz_l, DD.wz_t, DD.wn_l, DD.wv_l, DD.wv_t, DD.wc_inl, DD.wc_ninl, DD.wc_int, DD.wc_nint, DD.wCh, DD.ev_ii, DD.ev_bb, DD.ev_ss, DD.ev_nn, DD.ev_ni, DD.ev_in, DD.ev_is, DD.ev_si, DD.ev_tt, DD.ev_ll, DD.ea_nn, DD.ea_cc, DD.ea_nc, DD.ea_cn, DD.sh_n, DD.sh_b, DD.sh_i, DD.sh_s, DD.so_told, DD.so_refused, DD.so_missing, DD.so_large, DD.at0, DD.at1, DD.at2, DD.at3, DD.startE, DD.endK, List.map_cons, List.map_nil, List.length_cons, List.length_nil, List.replicate, List.cons_append, List.nil_append, List.append_nil, DD.getS, DD.setS, DD.clrS, DD.deo_c, DD.deo_n, DD.deo1_v, DD.deo1_u, DD.deo1_o, DD.tgs, DD.Sl.v.injEq, DD.Sl.own.injEq, PySem.PyData.int.injEq, PySem.PyData.bool.injEq, PySem.PyData.list.injEq, PySem.PyData.tuple.injEq, PySem.PyData.str.injEq, Option.some.injEq, exists_eq_left', exists_eq_left, exists_and_left, exists_and_right, List.zip_cons_cons, List.zip_nil_right, List.zip_nil_left, List.foldl_cons, List.foldl_nil, List.getD_cons_zero, List.getD_cons_succ, true_and, and_true, Bool.false_eq_true, Bool.true_eq_false, Bool.not_true, Bool.not_false, if_true, if_false, decide_eq_true_eq, decide_eq_false_iff_not, Bool.not_eq_true', Bool.not_eq_false', DD.imp_tt, DD.imp_ff, DD.imp_tf, DD.imp_ft, forall_const, true_implies, false_implies, implies_true, Int.reduceLT, Int.reduceLE, reduceIte, ite_true, ite_false]); try simp only [g0, g1, g2, g3, γ0, γ1, γ2, γ3, γ4, γ5, γ6, γ7, γ8, γ9, γ17, γ18, γ19, γ21, γ22, γ23, γ24]; try (simp only [DD.wSs, DD.wS, DD.wT, DD.wTs, DD.wE, DD.wEs, DD.wEi, DD.wIt, DD.wBnd, DD.bindT, DD.wb_add, DD.wb_sub, DD.wb_mul, DD.wb_fdiv, DD.wb_mod, DD.wb_pow, DD.wb_shl, DD.wb_shr, DD.wb_addL, DD.wb_addT, DD.wb_mulL, DD.wc_lt, DD.wc_le, DD.wc_gt, DD.wc_ge, DD.wc_eq, DD.wc_ne, DD.wc_isN0, DD.wc_isN1, DD.wc_isN2, DD.wc_isN3, DD.wc_isN4, DD.wc_isN5, DD.wc_notN0, DD.wc_notN1, DD.wc_notN2, DD.wc_notN3, DD.wc_notN4, DD.wc_notN5, DD.wt_n, DD.wt_b, DD.wt_i, DD.wt_l, DD.wt_t, DD.wi_l, DD.wi_t, DD.wu_len, DD.wu_lenT, DD.wu_int, DD.wu_intb, DD.wu_abs, DD.wu_tup, DD.wu_tupT, DD.wu_lst, DD.wu_lstT, DD.wu_max2, DD.wu_min2, DD.wu_max1, DD.wu_min1, DD.wu_sum, DD.wu_all, DD.wu_any, DD.wu_sorted, DD.ws_l, DD.ws_t, DD.ws_s, DD.wr_l, DD.wr_t, DD.wb_mulT, DD.wst_l, DD.wst_t, DD.wz_l, DD.wz_t, DD.wn_l, DD.wv_l, DD.wv_t, DD.wc_inl, DD.wc_ninl, DD.wc_int, DD.wc_nint, DD.wCh, DD.ev_ii, DD.ev_bb, DD.ev_ss, DD.ev_nn, DD.ev_ni, DD.ev_in, DD.ev_is, DD.ev_si, DD.ev_tt, DD.ev_ll, DD.ea_nn, DD.ea_cc, DD.ea_nc, DD.ea_cn, DD.sh_n, DD.sh_b, DD.sh_i, DD.sh_s, DD.so_told, DD.so_refused, DD.so_missing, DD.so_large, DD.at0, DD.at1, DD.at2, DD.at3, DD.startE, DD.endK, List.map_cons, List.map_nil, List.length_cons, List.length_nil, List.replicate, List.cons_append, List.nil_append, List.append_nil, DD.getS, DD.setS, DD.clrS, DD.deo_c, DD.deo_n, DD.deo1_v, DD.deo1_u, DD.deo1_o, DD.tgs, DD.Sl.v.injEq, DD.Sl.own.injEq, PySem.PyData.int.injEq, PySem.PyData.bool.injEq, PySem.PyData.list.injEq, PySem.PyData.tuple.injEq, PySem.PyData.str.injEq, Option.some.injEq, exists_eq_left', exists_eq_left, exists_and_left, exists_and_right, List.zip_cons_cons, List.zip_nil_right, List.zip_nil_left, List.foldl_cons, List.foldl_nil, List.getD_cons_zero, List.getD_cons_succ, true_and, and_true, Bool.false_eq_true, Bool.true_eq_false, Bool.not_true, Bool.not_false, if_true, if_false, decide_eq_true_eq, decide_eq_false_iff_not, Bool.not_eq_true', Bool.not_eq_false', DD.imp_tt, DD.imp_ff, DD.imp_tf, DD.imp_ft, forall_const, true_implies, false_implies, implies_true, Int.reduceLT, Int.reduceLE, reduceIte, ite_true, ite_false])))
  refine ⟨sy b l h, rfl, sysArg_sy, fun b' l' h' e _ o' ho' => ?_, fun z => absurd ok z⟩
  cases e
  cases ho'.uniq ho
  refine ⟨sy b l h, rfl, sysArg_sy, fun b' l' h' e _ o' ho' => ?_, fun z => absurd ok z⟩
  cases e
  cases ho'.uniq ho
  cases o with
  | none =>
    simp only [optD]
    (((simp only [DD.wSs, DD.wS, DD.wT, DD.wTs, DD.wE, DD.wEs, DD.wEi, DD.wIt, DD.wBnd, DD.bindT, DD.wb_add, DD.wb_sub, DD.wb_mul, DD.wb_fdiv, DD.wb_mod, DD.wb_pow, DD.wb_shl, DD.wb_shr, DD.wb_addL, DD.wb_addT, DD.wb_mulL, DD.wc_lt, DD.wc_le, DD.wc_gt, DD.wc_ge, DD.wc_eq, DD.wc_ne, DD.wc_isN0, DD.wc_isN1, DD.wc_isN2, DD.wc_isN3, DD.wc_isN4, DD.wc_isN5, DD.wc_notN0, DD.wc_notN1, DD.wc_notN2, DD.wc_notN3, DD.wc_notN4, DD.wc_notN5, DD.wt_n, DD.wt_b, DD.wt_i, DD.wt_l, DD.wt_t, DD.wi_l, DD.wi_t, DD.wu_len, DD.wu_lenT, DD.wu_int, DD.wu_intb, DD.wu_abs, DD.wu_tup, DD.wu_tupT, DD.wu_lst, DD.wu_lstT, DD.wu_max2, DD.wu_min2, DD.wu_max1, DD.wu_min1, DD.wu_sum, DD.wu_all, DD.wu_any, DD.wu_sorted, DD.ws_l, DD.ws_t, DD.ws_s, DD.wr_l, DD.wr_t, DD.wb_mulT, DD.wst_l, DD.wst_t, DD.wz_l, DD.wz_t, DD.wn_l, DD.wv_l, DD.wv_t, DD.wc_inl, DD.wc_ninl, DD.wc_int, DD.wc_nint, DD.wCh, DD.ev_ii, DD.ev_bb, DD.ev_ss, DD.ev_nn, DD.ev_ni, DD.ev_in, DD.ev_is, DD.ev_si, DD.ev_tt, DD.ev_ll, DD.ea_nn, DD.ea_cc, DD.ea_nc, DD.ea_cn, DD.sh_n, DD.sh_b, DD.sh_i, DD.sh_s, DD.so_told, DD.so_refused, DD.so_missing, DD.so_large, DD.at0, DD.at1, DD.at2, DD.at3, DD.startE, DD.endK, List.map_cons, List.map_nil, List.length_cons, List.length_nil, List.replicate, List.cons_append, List.nil_append, List.append_nil, DD.getS, DD.setS, DD.clrS, DD.deo_c, DD.deo_n, DD.deo1_v, DD.deo1_u, DD.deo1_o, DD.tgs, DD.Sl.v.injEq, DD.Sl.own.injEq, PySem.PyData.int.injEq, PySem.PyData.bool.injEq, PySem.PyData.list.injEq, PySem.PyData.tuple.injEq, PySem.PyData.str.injEq, Option.some.injEq, exists_eq_left', exists_eq_left, exists_and_left, exists_and_right, List.zip_cons_cons, List.zip_nil_right, List.zip_nil_left, List.foldl_cons, List.foldl_nil, List.getD_cons_zero, List.getD_cons_succ, true_and, and_true, Bool.false_eq_true, Bool.true_eq_false, Bool.not_true, Bool.not_false, if_true, if_false, decide_eq_true_eq, decide_eq_false_iff_not, Bool.not_eq_true', Bool.not_eq_false', DD.imp_tt, DD.imp_ff, DD.imp_tf, DD.imp_ft, forall_const, true_implies, false_implies, implies_true, Int.reduceLT, Int.reduceLE, reduceIte, ite_true, ite_false]); try simp only [g0, g1, g2, g3, γ0, γ1, γ2, γ3, γ4, γ5, γ6, γ7, γ8, γ9, γ17, γ18, γ19, γ21, γ22, γ23, γ24]; try (simp only [DD.wSs, DD.wS, DD.wT, DD.wTs, DD.wE, DD.wEs, DD.wEi, DD.wIt, DD.wBnd, DD.bindT, DD.wb_add, DD.wb_sub, DD.wb_mul, DD.wb_fdiv, DD.wb_mod, DD.wb_pow, DD.wb_shl, DD.wb_shr, DD.wb_addL, DD.wb_addT, DD.wb_mulL, DD.wc_lt, DD.wc_le, DD.wc_gt, DD.wc_ge, DD.wc_eq, DD.wc_ne, DD.wc_isN0, DD.wc_isN1, DD.wc_isN2, DD.wc_isN3, DD.wc_isN4, DD.wc_isN5, DD.wc_notN0, DD.wc_notN1, DD.wc_notN2, DD.wc_notN3, DD.wc_notN4, DD.wc_notN5, DD.wt_n, DD.wt_b, DD.wt_i, DD.wt_l, DD.wt_t, DD.wi_l, DD.wi_t, DD.wu_len, DD.wu_lenT, DD.wu_int, DD.wu_intb, DD.wu_abs, DD.wu_tup, DD.wu_tupT, DD.wu_lst, DD.wu_lstT, DD.wu_max2, DD.wu_min2, DD.wu_max1, DD.wu_min1, DD.wu_sum, DD.wu_all, DD.wu_any, DD.wu_sorted, DD.ws_l, DD.ws_t, DD.ws_s, DD.wr_l, DD.wr_t, DD.wb_mulT, DD.wst_l, DD.wst_t, DD.wz_l, DD.wz_t, DD.wn_l, DD.wv_l, DD.wv_t, DD.wc_inl, DD.wc_ninl, DD.wc_int, DD.wc_nint, DD.wCh, DD.ev_ii, DD.ev_bb, DD.ev_ss, DD.ev_nn, DD.ev_ni, DD.ev_in, DD.ev_is, DD.ev_si, DD.ev_tt, DD.ev_ll, DD.ea_nn, DD.ea_cc, DD.ea_nc, DD.ea_cn, DD.sh_n, DD.sh_b, DD.sh_i, DD.sh_s, DD.so_told, DD.so_refused, DD.so_missing, DD.so_large, DD.at0, DD.at1, DD.at2, DD.at3, DD.startE, DD.endK, List.map_cons, List.map_nil, List.length_cons, List.length_nil, List.replicate, List.cons_append, List.nil_append, List.append_nil, DD.getS, DD.setS, DD.clrS, DD.deo_c, DD.deo_n, DD.deo1_v, DD.deo1_u, DD.deo1_o, DD.tgs, DD.Sl.v.injEq, DD.Sl.own.injEq, PySem.PyData.int.injEq, PySem.PyData.bool.injEq, PySem.PyData.list.injEq, PySem.PyData.tuple.injEq, PySem.PyData.str.injEq, Option.some.injEq, exists_eq_left', exists_eq_left, exists_and_left, exists_and_right, List.zip_cons_cons, List.zip_nil_right, List.zip_nil_left, List.foldl_cons, List.foldl_nil, List.getD_cons_zero, List.getD_cons_succ, true_and, and_true, Bool.false_eq_true, Bool.true_eq_false, Bool.not_true, Bool.not_false, if_true, if_false, decide_eq_true_eq, decide_eq_false_iff_not, Bool.not_eq_true', Bool.not_eq_false', DD.imp_tt, DD.imp_ff, DD.imp_tf, DD.imp_ft, forall_const, true_implies, false_implies, implies_true, Int.reduceLT, Int.reduceLE, reduceIte, ite_true, ite_false])))
    exact ⟨_, rfl, by ((refine sho_mk ?_ ?_ ?_ ?_ ?_ <;> simp [PyData.showable, PyData.showableAll, PyData.hasDict, PyData.hasDictAll, PyData.depth, PyData.depthAll, szD, szAll, PyData.canLay0, PyData.canLayAll0, nm0, nm1, nm2, so_told, so_refused, so_missing, so_large, rt_told, rt_missing, rt_refused, rt_large, *])), fun q => absurd q (by decide), fun _ => fin (Nat.le_refl _)⟩
  | some m =>
    have lm : m.natAbs.log2 < 1920 := log_ok (by have := ho.1; omega) (by have := ho.2.1; omega)
    simp only [optD]
    (((simp only [DD.wSs, DD.wS, DD.wT, DD.wTs, DD.wE, DD.wEs, DD.wEi, DD.wIt, DD.wBnd, DD.bindT, DD.wb_add, DD.wb_sub, DD.wb_mul, DD.wb_fdiv, DD.wb_mod, DD.wb_pow, DD.wb_shl, DD.wb_shr, DD.wb_addL, DD.wb_addT, DD.wb_mulL, DD.wc_lt, DD.wc_le, DD.wc_gt, DD.wc_ge, DD.wc_eq, DD.wc_ne, DD.wc_isN0, DD.wc_isN1, DD.wc_isN2, DD.wc_isN3, DD.wc_isN4, DD.wc_isN5, DD.wc_notN0, DD.wc_notN1, DD.wc_notN2, DD.wc_notN3, DD.wc_notN4, DD.wc_notN5, DD.wt_n, DD.wt_b, DD.wt_i, DD.wt_l, DD.wt_t, DD.wi_l, DD.wi_t, DD.wu_len, DD.wu_lenT, DD.wu_int, DD.wu_intb, DD.wu_abs, DD.wu_tup, DD.wu_tupT, DD.wu_lst, DD.wu_lstT, DD.wu_max2, DD.wu_min2, DD.wu_max1, DD.wu_min1, DD.wu_sum, DD.wu_all, DD.wu_any, DD.wu_sorted, DD.ws_l, DD.ws_t, DD.ws_s, DD.wr_l, DD.wr_t, DD.wb_mulT, DD.wst_l, DD.wst_t, DD.wz_l, DD.wz_t, DD.wn_l, DD.wv_l, DD.wv_t, DD.wc_inl, DD.wc_ninl, DD.wc_int, DD.wc_nint, DD.wCh, DD.ev_ii, DD.ev_bb, DD.ev_ss, DD.ev_nn, DD.ev_ni, DD.ev_in, DD.ev_is, DD.ev_si, DD.ev_tt, DD.ev_ll, DD.ea_nn, DD.ea_cc, DD.ea_nc, DD.ea_cn, DD.sh_n, DD.sh_b, DD.sh_i, DD.sh_s, DD.so_told, DD.so_refused, DD.so_missing, DD.so_large, DD.at0, DD.at1, DD.at2, DD.at3, DD.startE, DD.endK, List.map_cons, List.map_nil, List.length_cons, List.length_nil, List.replicate, List.cons_append, List.nil_append, List.append_nil, DD.getS, DD.setS, DD.clrS, DD.deo_c, DD.deo_n, DD.deo1_v, DD.deo1_u, DD.deo1_o, DD.tgs, DD.Sl.v.injEq, DD.Sl.own.injEq, PySem.PyData.int.injEq, PySem.PyData.bool.injEq, PySem.PyData.list.injEq, PySem.PyData.tuple.injEq, PySem.PyData.str.injEq, Option.some.injEq, exists_eq_left', exists_eq_left, exists_and_left, exists_and_right, List.zip_cons_cons, List.zip_nil_right, List.zip_nil_left, List.foldl_cons, List.foldl_nil, List.getD_cons_zero, List.getD_cons_succ, true_and, and_true, Bool.false_eq_true, Bool.true_eq_false, Bool.not_true, Bool.not_false, if_true, if_false, decide_eq_true_eq, decide_eq_false_iff_not, Bool.not_eq_true', Bool.not_eq_false', DD.imp_tt, DD.imp_ff, DD.imp_tf, DD.imp_ft, forall_const, true_implies, false_implies, implies_true, Int.reduceLT, Int.reduceLE, reduceIte, ite_true, ite_false]); try simp only [g0, g1, g2, g3, γ0, γ1, γ2, γ3, γ4, γ5, γ6, γ7, γ8, γ9, γ17, γ18, γ19, γ21, γ22, γ23, γ24]; try (simp only [DD.wSs, DD.wS, DD.wT, DD.wTs, DD.wE, DD.wEs, DD.wEi, DD.wIt, DD.wBnd, DD.bindT, DD.wb_add, DD.wb_sub, DD.wb_mul, DD.wb_fdiv, DD.wb_mod, DD.wb_pow, DD.wb_shl, DD.wb_shr, DD.wb_addL, DD.wb_addT, DD.wb_mulL, DD.wc_lt, DD.wc_le, DD.wc_gt, DD.wc_ge, DD.wc_eq, DD.wc_ne, DD.wc_isN0, DD.wc_isN1, DD.wc_isN2, DD.wc_isN3, DD.wc_isN4, DD.wc_isN5, DD.wc_notN0, DD.wc_notN1, DD.wc_notN2, DD.wc_notN3, DD.wc_notN4, DD.wc_notN5, DD.wt_n, DD.wt_b, DD.wt_i, DD.wt_l, DD.wt_t, DD.wi_l, DD.wi_t, DD.wu_len, DD.wu_lenT, DD.wu_int, DD.wu_intb, DD.wu_abs, DD.wu_tup, DD.wu_tupT, DD.wu_lst, DD.wu_lstT, DD.wu_max2, DD.wu_min2, DD.wu_max1, DD.wu_min1, DD.wu_sum, DD.wu_all, DD.wu_any, DD.wu_sorted, DD.ws_l, DD.ws_t, DD.ws_s, DD.wr_l, DD.wr_t, DD.wb_mulT, DD.wst_l, DD.wst_t, DD.wz_l, DD.wz_t, DD.wn_l, DD.wv_l, DD.wv_t, DD.wc_inl, DD.wc_ninl, DD.wc_int, DD.wc_nint, DD.wCh, DD.ev_ii, DD.ev_bb, DD.ev_ss, DD.ev_nn, DD.ev_ni, DD.ev_in, DD.ev_is, DD.ev_si, DD.ev_tt, DD.ev_ll, DD.ea_nn, DD.ea_cc, DD.ea_nc, DD.ea_cn, DD.sh_n, DD.sh_b, DD.sh_i, DD.sh_s, DD.so_told, DD.so_refused, DD.so_missing, DD.so_large, DD.at0, DD.at1, DD.at2, DD.at3, DD.startE, DD.endK, List.map_cons, List.map_nil, List.length_cons, List.length_nil, List.replicate, List.cons_append, List.nil_append, List.append_nil, DD.getS, DD.setS, DD.clrS, DD.deo_c, DD.deo_n, DD.deo1_v, DD.deo1_u, DD.deo1_o, DD.tgs, DD.Sl.v.injEq, DD.Sl.own.injEq, PySem.PyData.int.injEq, PySem.PyData.bool.injEq, PySem.PyData.list.injEq, PySem.PyData.tuple.injEq, PySem.PyData.str.injEq, Option.some.injEq, exists_eq_left', exists_eq_left, exists_and_left, exists_and_right, List.zip_cons_cons, List.zip_nil_right, List.zip_nil_left, List.foldl_cons, List.foldl_nil, List.getD_cons_zero, List.getD_cons_succ, true_and, and_true, Bool.false_eq_true, Bool.true_eq_false, Bool.not_true, Bool.not_false, if_true, if_false, decide_eq_true_eq, decide_eq_false_iff_not, Bool.not_eq_true', Bool.not_eq_false', DD.imp_tt, DD.imp_ff, DD.imp_tf, DD.imp_ft, forall_const, true_implies, false_implies, implies_true, Int.reduceLT, Int.reduceLE, reduceIte, ite_true, ite_false])))
    exact ⟨_, rfl, by ((refine sho_mk ?_ ?_ ?_ ?_ ?_ <;> simp [PyData.showable, PyData.showableAll, PyData.hasDict, PyData.hasDictAll, PyData.depth, PyData.depthAll, szD, szAll, PyData.canLay0, PyData.canLayAll0, nm0, nm1, nm2, so_told, so_refused, so_missing, so_large, rt_told, rt_missing, rt_refused, rt_large, *])), fun q => absurd q (by decide), fun _ => fin (Nat.le_refl _)⟩
theorem t176 (hn : n + 80 + 150 * ds.length ≤ 1000) (so : SysOk b l h) :
    wSs ΓL GL c_law_176 [x0, .v sttD, y2, .v (.tuple (sy b l h)), y4, y5, y6, y7, y8, y9, y10, y11, y12, y13, y14, y15, y16, y17] n (K5 ds) := by
  have fin : ∀ {b l h : Int} {n' : Nat} {y4 y5 : Sl}, SysOk b l h → n' ≤ n + 3 → wSs ΓL GL c_law_180 [x0, .v sttD, y2, .v (.tuple (sy b l h)), y4, y5, y6, y7, y8, y9, y10, y11, y12, y13, y14, y15, y16, y17] n' (K5 ds) := fun so hn' => by
    unfold c_law_180
    (((simp only [DD.wSs, DD.wS, DD.wT, DD.wTs, DD.wE, DD.wEs, DD.wEi, DD.wIt, DD.wBnd, DD.bindT, DD.wb_add, DD.wb_sub, DD.wb_mul, DD.wb_fdiv, DD.wb_mod, DD.wb_pow, DD.wb_shl, DD.wb_shr, DD.wb_addL, DD.wb_addT, DD.wb_mulL, DD.wc_lt, DD.wc_le, DD.wc_gt, DD.wc_ge, DD.wc_eq, DD.wc_ne, DD.wc_isN0, DD.wc_isN1, DD.wc_isN2, DD.wc_isN3, DD.wc_isN4, DD.wc_isN5, DD.wc_notN0, DD.wc_notN1, DD.wc_notN2, DD.wc_notN3, DD.wc_notN4, DD.wc_notN5, DD.wt_n, DD.wt_b, DD.wt_i, DD.wt_l, DD.wt_t, DD.wi_l, DD.wi_t, DD.wu_len, DD.wu_lenT, DD.wu_int, DD.wu_intb, DD.wu_abs, DD.wu_tup, DD.wu_tupT, DD.wu_lst, DD.wu_lstT, DD.wu_max2, DD.wu_min2, DD.wu_max1, DD.wu_min1, DD.wu_sum, DD.wu_all, DD.wu_any, DD.wu_sorted, DD.ws_l, DD.ws_t, DD.ws_s, DD.wr_l, DD.wr_t, DD.wb_mulT, DD.wst_l, DD.wst_t, DD.wz_l, DD.wz_t, DD.wn_l, DD.wv_l, DD.wv_t, DD.wc_inl, DD.wc_ninl, DD.wc_int, DD.wc_nint, DD.wCh, DD.ev_ii, DD.ev_bb, DD.ev_ss, DD.ev_nn, DD.ev_ni, DD.ev_in, DD.ev_is, DD.ev_si, DD.ev_tt, DD.ev_ll, DD.ea_nn, DD.ea_cc, DD.ea_nc, DD.ea_cn, DD.sh_n, DD.sh_b, DD.sh_i, DD.sh_s, DD.so_told, DD.so_refused, DD.so_missing, DD.so_large, DD.at0, DD.at1, DD.at2, DD.at3, DD.startE, DD.endK, List.map_cons, List.map_nil, List.length_cons, List.length_nil, List.replicate, List.cons_append, List.nil_append, List.append_nil, DD.getS, DD.setS, DD.clrS, DD.deo_c, DD.deo_n, DD.deo1_v, DD.deo1_u, DD.deo1_o, DD.tgs, DD.Sl.v.injEq, DD.Sl.own.injEq, PySem.PyData.int.injEq, PySem.PyData.bool.injEq, PySem.PyData.list.injEq, PySem.PyData.tuple.injEq, PySem.PyData.str.injEq, Option.some.injEq, exists_eq_left', exists_eq_left, exists_and_left, exists_and_right, List.zip_cons_cons, List.zip_nil_right, List.zip_nil_left, List.foldl_cons, List.foldl_nil, List.getD_cons_zero, List.getD_cons_succ, true_and, and_true, Bool.false_eq_true, Bool.true_eq_false, Bool.not_true, Bool.not_false, if_true, if_false, decide_eq_true_eq, decide_eq_false_iff_not, Bool.not_eq_true', Bool.not_eq_false', DD.imp_tt, DD.imp_ff, DD.imp_tf, DD.imp_ft, forall_const, true_implies, false_implies, implies_true, Int.reduceLT, Int.reduceLE, reduceIte, ite_true, ite_false]); try simp only [g0, g1, g2, g3, γ0, γ1, γ2, γ3, γ4, γ5, γ6, γ7, γ8, γ9, γ17, γ18, γ19, γ21, γ22, γ23, γ24]; try (simp only [DD.wSs, DD.wS, DD.wT, DD.wTs, DD.wE, DD.wEs, DD.wEi, DD.wIt, DD.wBnd, DD.bindT, DD.wb_add, DD.wb_sub, DD.wb_mul, DD.wb_fdiv, DD.wb_mod, DD.wb_pow, DD.wb_shl, DD.wb_shr, DD.wb_addL, DD.wb_addT, DD.wb_mulL, DD.wc_lt, DD.wc_le, DD.wc_gt, DD.wc_ge, DD.wc_eq, DD.wc_ne, DD.wc_isN0, DD.wc_isN1, DD.wc_isN2, DD.wc_isN3, DD.wc_isN4, DD.wc_isN5, DD.wc_notN0, DD.wc_notN1, DD.wc_notN2, DD.wc_notN3, DD.wc_notN4, DD.wc_notN5, DD.wt_n, DD.wt_b, DD.wt_i, DD.wt_l, DD.wt_t, DD.wi_l, DD.wi_t, DD.wu_len, DD.wu_lenT, DD.wu_int, DD.wu_intb, DD.wu_abs, DD.wu_tup, DD.wu_tupT, DD.wu_lst, DD.wu_lstT, DD.wu_max2, DD.wu_min2, DD.wu_max1, DD.wu_min1, DD.wu_sum, DD.wu_all, DD.wu_any, DD.wu_sorted, DD.ws_l, DD.ws_t, DD.ws_s, DD.wr_l, DD.wr_t, DD.wb_mulT, DD.wst_l, DD.wst_t, DD.wz_l, DD.wz_t, DD.wn_l, DD.wv_l, DD.wv_t, DD.wc_inl, DD.wc_ninl, DD.wc_int, DD.wc_nint, DD.wCh, DD.ev_ii, DD.ev_bb, DD.ev_ss, DD.ev_nn, DD.ev_ni, DD.ev_in, DD.ev_is, DD.ev_si, DD.ev_tt, DD.ev_ll, DD.ea_nn, DD.ea_cc, DD.ea_nc, DD.ea_cn, DD.sh_n, DD.sh_b, DD.sh_i, DD.sh_s, DD.so_told, DD.so_refused, DD.so_missing, DD.so_large, DD.at0, DD.at1, DD.at2, DD.at3, DD.startE, DD.endK, List.map_cons, List.map_nil, List.length_cons, List.length_nil, List.replicate, List.cons_append, List.nil_append, List.append_nil, DD.getS, DD.setS, DD.clrS, DD.deo_c, DD.deo_n, DD.deo1_v, DD.deo1_u, DD.deo1_o, DD.tgs, DD.Sl.v.injEq, DD.Sl.own.injEq, PySem.PyData.int.injEq, PySem.PyData.bool.injEq, PySem.PyData.list.injEq, PySem.PyData.tuple.injEq, PySem.PyData.str.injEq, Option.some.injEq, exists_eq_left', exists_eq_left, exists_and_left, exists_and_right, List.zip_cons_cons, List.zip_nil_right, List.zip_nil_left, List.foldl_cons, List.foldl_nil, List.getD_cons_zero, List.getD_cons_succ, true_and, and_true, Bool.false_eq_true, Bool.true_eq_false, Bool.not_true, Bool.not_false, if_true, if_false, decide_eq_true_eq, decide_eq_false_iff_not, Bool.not_eq_true', Bool.not_eq_false', DD.imp_tt, DD.imp_ff, DD.imp_tf, DD.imp_ft, forall_const, true_implies, false_implies, implies_true, Int.reduceLT, Int.reduceLE, reduceIte, ite_true, ite_false])))
    exact ⟨_, _, _, rfl, so, fun o ho => t181 (by omega) so ho⟩
  unfold c_law_176
  (((simp only [DD.wSs, DD.wS, DD.wT, DD.wTs, DD.wE, DD.wEs, DD.wEi, DD.wIt, DD.wBnd, DD.bindT, DD.wb_add, DD.wb_sub, DD.wb_mul, DD.wb_fdiv, DD.wb_mod, DD.wb_pow, DD.wb_shl, DD.wb_shr, DD.wb_addL, DD.wb_addT, DD.wb_mulL, DD.wc_lt, DD.wc_le, DD.wc_gt, DD.wc_ge, DD.wc_eq, DD.wc_ne, DD.wc_isN0, DD.wc_isN1, DD.wc_isN2, DD.wc_isN3, DD.wc_isN4, DD.wc_isN5, DD.wc_notN0, DD.wc_notN1, DD.wc_notN2, DD.wc_notN3, DD.wc_notN4, DD.wc_notN5, DD.wt_n, DD.wt_b, DD.wt_i, DD.wt_l, DD.wt_t, DD.wi_l, DD.wi_t, DD.wu_len, DD.wu_lenT, DD.wu_int, DD.wu_intb, DD.wu_abs, DD.wu_tup, DD.wu_tupT, DD.wu_lst, DD.wu_lstT, DD.wu_max2, DD.wu_min2, DD.wu_max1, DD.wu_min1, DD.wu_sum, DD.wu_all, DD.wu_any, DD.wu_sorted, DD.ws_l, DD.ws_t, DD.ws_s, DD.wr_l, DD.wr_t, DD.wb_mulT, DD.wst_l, DD.wst_t, DD.wz_l, DD.wz_t, DD.wn_l, DD.wv_l, DD.wv_t, DD.wc_inl, DD.wc_ninl, DD.wc_int, DD.wc_nint, DD.wCh, DD.ev_ii, DD.ev_bb, DD.ev_ss, DD.ev_nn, DD.ev_ni, DD.ev_in, DD.ev_is, DD.ev_si, DD.ev_tt, DD.ev_ll, DD.ea_nn, DD.ea_cc, DD.ea_nc, DD.ea_cn, DD.sh_n, DD.sh_b, DD.sh_i, DD.sh_s, DD.so_told, DD.so_refused, DD.so_missing, DD.so_large, DD.at0, DD.at1, DD.at2, DD.at3, DD.startE, DD.endK, List.map_cons, List.map_nil, List.length_cons, List.length_nil, List.replicate, List.cons_append, List.nil_append, List.append_nil, DD.getS, DD.setS, DD.clrS, DD.deo_c, DD.deo_n, DD.deo1_v, DD.deo1_u, DD.deo1_o, DD.tgs, DD.Sl.v.injEq, DD.Sl.own.injEq, PySem.PyData.int.injEq, PySem.PyData.bool.injEq, PySem.PyData.list.injEq, PySem.PyData.tuple.injEq, PySem.PyData.str.injEq, Option.some.injEq, exists_eq_left', exists_eq_left, exists_and_left, exists_and_right, List.zip_cons_cons, List.zip_nil_right, List.zip_nil_left, List.foldl_cons, List.foldl_nil, List.getD_cons_zero, List.getD_cons_succ, true_and, and_true, Bool.false_eq_true, Bool.true_eq_false, Bool.not_true, Bool.not_false, if_true, if_false, decide_eq_true_eq, decide_eq_false_iff_not, Bool.not_eq_true', Bool.not_eq_false', DD.imp_tt, DD.imp_ff, DD.imp_tf, DD.imp_ft, forall_const, true_implies, false_implies, implies_true, Int.reduceLT, Int.reduceLE, reduceIte, ite_true, ite_false]); try simp only [g0, g1, g2, g3, γ0, γ1, γ2, γ3, γ4, γ5, γ6, γ7, γ8, γ9, γ17, γ18, γ19, γ21, γ22, γ23, γ24]; try (simp only [DD.wSs, DD.wS, DD.wT, DD.wTs, DD.wE, DD.wEs, DD.wEi, DD.wIt, DD.wBnd, DD.bindT, DD.wb_add, DD.wb_sub, DD.wb_mul, DD.wb_fdiv, DD.wb_mod, DD.wb_pow, DD.wb_shl, DD.wb_shr, DD.wb_addL, DD.wb_addT, DD.wb_mulL, DD.wc_lt, DD.wc_le, DD.wc_gt, DD.wc_ge, DD.wc_eq, DD.wc_ne, DD.wc_isN0, DD.wc_isN1, DD.wc_isN2, DD.wc_isN3, DD.wc_isN4, DD.wc_isN5, DD.wc_notN0, DD.wc_notN1, DD.wc_notN2, DD.wc_notN3, DD.wc_notN4, DD.wc_notN5, DD.wt_n, DD.wt_b, DD.wt_i, DD.wt_l, DD.wt_t, DD.wi_l, DD.wi_t, DD.wu_len, DD.wu_lenT, DD.wu_int, DD.wu_intb, DD.wu_abs, DD.wu_tup, DD.wu_tupT, DD.wu_lst, DD.wu_lstT, DD.wu_max2, DD.wu_min2, DD.wu_max1, DD.wu_min1, DD.wu_sum, DD.wu_all, DD.wu_any, DD.wu_sorted, DD.ws_l, DD.ws_t, DD.ws_s, DD.wr_l, DD.wr_t, DD.wb_mulT, DD.wst_l, DD.wst_t, DD.wz_l, DD.wz_t, DD.wn_l, DD.wv_l, DD.wv_t, DD.wc_inl, DD.wc_ninl, DD.wc_int, DD.wc_nint, DD.wCh, DD.ev_ii, DD.ev_bb, DD.ev_ss, DD.ev_nn, DD.ev_ni, DD.ev_in, DD.ev_is, DD.ev_si, DD.ev_tt, DD.ev_ll, DD.ea_nn, DD.ea_cc, DD.ea_nc, DD.ea_cn, DD.sh_n, DD.sh_b, DD.sh_i, DD.sh_s, DD.so_told, DD.so_refused, DD.so_missing, DD.so_large, DD.at0, DD.at1, DD.at2, DD.at3, DD.startE, DD.endK, List.map_cons, List.map_nil, List.length_cons, List.length_nil, List.replicate, List.cons_append, List.nil_append, List.append_nil, DD.getS, DD.setS, DD.clrS, DD.deo_c, DD.deo_n, DD.deo1_v, DD.deo1_u, DD.deo1_o, DD.tgs, DD.Sl.v.injEq, DD.Sl.own.injEq, PySem.PyData.int.injEq, PySem.PyData.bool.injEq, PySem.PyData.list.injEq, PySem.PyData.tuple.injEq, PySem.PyData.str.injEq, Option.some.injEq, exists_eq_left', exists_eq_left, exists_and_left, exists_and_right, List.zip_cons_cons, List.zip_nil_right, List.zip_nil_left, List.foldl_cons, List.foldl_nil, List.getD_cons_zero, List.getD_cons_succ, true_and, and_true, Bool.false_eq_true, Bool.true_eq_false, Bool.not_true, Bool.not_false, if_true, if_false, decide_eq_true_eq, decide_eq_false_iff_not, Bool.not_eq_true', Bool.not_eq_false', DD.imp_tt, DD.imp_ff, DD.imp_tf, DD.imp_ft, forall_const, true_implies, false_implies, implies_true, Int.reduceLT, Int.reduceLE, reduceIte, ite_true, ite_false])))
  refine spN (by decide) (by omega) fun r r0 r1 => ?_
  (((simp only [DD.wSs, DD.wS, DD.wT, DD.wTs, DD.wE, DD.wEs, DD.wEi, DD.wIt, DD.wBnd, DD.bindT, DD.wb_add, DD.wb_sub, DD.wb_mul, DD.wb_fdiv, DD.wb_mod, DD.wb_pow, DD.wb_shl, DD.wb_shr, DD.wb_addL, DD.wb_addT, DD.wb_mulL, DD.wc_lt, DD.wc_le, DD.wc_gt, DD.wc_ge, DD.wc_eq, DD.wc_ne, DD.wc_isN0, DD.wc_isN1, DD.wc_isN2, DD.wc_isN3, DD.wc_isN4, DD.wc_isN5, DD.wc_notN0, DD.wc_notN1, DD.wc_notN2, DD.wc_notN3, DD.wc_notN4, DD.wc_notN5, DD.wt_n, DD.wt_b, DD.wt_i, DD.wt_l, DD.wt_t, DD.wi_l, DD.wi_t, DD.wu_len, DD.wu_lenT, DD.wu_int, DD.wu_intb, DD.wu_abs, DD.wu_tup, DD.wu_tupT, DD.wu_lst, DD.wu_lstT, DD.wu_max2, DD.wu_min2, DD.wu_max1, DD.wu_min1, DD.wu_sum, DD.wu_all, DD.wu_any, DD.wu_sorted, DD.ws_l, DD.ws_t, DD.ws_s, DD.wr_l, DD.wr_t, DD.wb_mulT, DD.wst_l, DD.wst_t, DD.wz_l, DD.wz_t, DD.wn_l, DD.wv_l, DD.wv_t, DD.wc_inl, DD.wc_ninl, DD.wc_int, DD.wc_nint, DD.wCh, DD.ev_ii, DD.ev_bb, DD.ev_ss, DD.ev_nn, DD.ev_ni, DD.ev_in, DD.ev_is, DD.ev_si, DD.ev_tt, DD.ev_ll, DD.ea_nn, DD.ea_cc, DD.ea_nc, DD.ea_cn, DD.sh_n, DD.sh_b, DD.sh_i, DD.sh_s, DD.so_told, DD.so_refused, DD.so_missing, DD.so_large, DD.at0, DD.at1, DD.at2, DD.at3, DD.startE, DD.endK, List.map_cons, List.map_nil, List.length_cons, List.length_nil, List.replicate, List.cons_append, List.nil_append, List.append_nil, DD.getS, DD.setS, DD.clrS, DD.deo_c, DD.deo_n, DD.deo1_v, DD.deo1_u, DD.deo1_o, DD.tgs, DD.Sl.v.injEq, DD.Sl.own.injEq, PySem.PyData.int.injEq, PySem.PyData.bool.injEq, PySem.PyData.list.injEq, PySem.PyData.tuple.injEq, PySem.PyData.str.injEq, Option.some.injEq, exists_eq_left', exists_eq_left, exists_and_left, exists_and_right, List.zip_cons_cons, List.zip_nil_right, List.zip_nil_left, List.foldl_cons, List.foldl_nil, List.getD_cons_zero, List.getD_cons_succ, true_and, and_true, Bool.false_eq_true, Bool.true_eq_false, Bool.not_true, Bool.not_false, if_true, if_false, decide_eq_true_eq, decide_eq_false_iff_not, Bool.not_eq_true', Bool.not_eq_false', DD.imp_tt, DD.imp_ff, DD.imp_tf, DD.imp_ft, forall_const, true_implies, false_implies, implies_true, Int.reduceLT, Int.reduceLE, reduceIte, ite_true, ite_false]); try simp only [g0, g1, g2, g3, γ0, γ1, γ2, γ3, γ4, γ5, γ6, γ7, γ8, γ9, γ17, γ18, γ19, γ21, γ22, γ23, γ24]; try (simp only [DD.wSs, DD.wS, DD.wT, DD.wTs, DD.wE, DD.wEs, DD.wEi, DD.wIt, DD.wBnd, DD.bindT, DD.wb_add, DD.wb_sub, DD.wb_mul, DD.wb_fdiv, DD.wb_mod, DD.wb_pow, DD.wb_shl, DD.wb_shr, DD.wb_addL, DD.wb_addT, DD.wb_mulL, DD.wc_lt, DD.wc_le, DD.wc_gt, DD.wc_ge, DD.wc_eq, DD.wc_ne, DD.wc_isN0, DD.wc_isN1, DD.wc_isN2, DD.wc_isN3, DD.wc_isN4, DD.wc_isN5, DD.wc_notN0, DD.wc_notN1, DD.wc_notN2, DD.wc_notN3, DD.wc_notN4, DD.wc_notN5, DD.wt_n, DD.wt_b, DD.wt_i, DD.wt_l, DD.wt_t, DD.wi_l, DD.wi_t, DD.wu_len, DD.wu_lenT, DD.wu_int, DD.wu_intb, DD.wu_abs, DD.wu_tup, DD.wu_tupT, DD.wu_lst, DD.wu_lstT, DD.wu_max2, DD.wu_min2, DD.wu_max1, DD.wu_min1, DD.wu_sum, DD.wu_all, DD.wu_any, DD.wu_sorted, DD.ws_l, DD.ws_t, DD.ws_s, DD.wr_l, DD.wr_t, DD.wb_mulT, DD.wst_l, DD.wst_t, DD.wz_l, DD.wz_t, DD.wn_l, DD.wv_l, DD.wv_t, DD.wc_inl, DD.wc_ninl, DD.wc_int, DD.wc_nint, DD.wCh, DD.ev_ii, DD.ev_bb, DD.ev_ss, DD.ev_nn, DD.ev_ni, DD.ev_in, DD.ev_is, DD.ev_si, DD.ev_tt, DD.ev_ll, DD.ea_nn, DD.ea_cc, DD.ea_nc, DD.ea_cn, DD.sh_n, DD.sh_b, DD.sh_i, DD.sh_s, DD.so_told, DD.so_refused, DD.so_missing, DD.so_large, DD.at0, DD.at1, DD.at2, DD.at3, DD.startE, DD.endK, List.map_cons, List.map_nil, List.length_cons, List.length_nil, List.replicate, List.cons_append, List.nil_append, List.append_nil, DD.getS, DD.setS, DD.clrS, DD.deo_c, DD.deo_n, DD.deo1_v, DD.deo1_u, DD.deo1_o, DD.tgs, DD.Sl.v.injEq, DD.Sl.own.injEq, PySem.PyData.int.injEq, PySem.PyData.bool.injEq, PySem.PyData.list.injEq, PySem.PyData.tuple.injEq, PySem.PyData.str.injEq, Option.some.injEq, exists_eq_left', exists_eq_left, exists_and_left, exists_and_right, List.zip_cons_cons, List.zip_nil_right, List.zip_nil_left, List.foldl_cons, List.foldl_nil, List.getD_cons_zero, List.getD_cons_succ, true_and, and_true, Bool.false_eq_true, Bool.true_eq_false, Bool.not_true, Bool.not_false, if_true, if_false, decide_eq_true_eq, decide_eq_false_iff_not, Bool.not_eq_true', Bool.not_eq_false', DD.imp_tt, DD.imp_ff, DD.imp_tf, DD.imp_ft, forall_const, true_implies, false_implies, implies_true, Int.reduceLT, Int.reduceLE, reduceIte, ite_true, ite_false])))
  refine ⟨fun _ => ?_, fun _ => fin so (by omega)⟩
  refine spN (by decide) (by omega) fun u u0 u1 => ?_
  try (((simp only [DD.wSs, DD.wS, DD.wT, DD.wTs, DD.wE, DD.wEs, DD.wEi, DD.wIt, DD.wBnd, DD.bindT, DD.wb_add, DD.wb_sub, DD.wb_mul, DD.wb_fdiv, DD.wb_mod, DD.wb_pow, DD.wb_shl, DD.wb_shr, DD.wb_addL, DD.wb_addT, DD.wb_mulL, DD.wc_lt, DD.wc_le, DD.wc_gt, DD.wc_ge, DD.wc_eq, DD.wc_ne, DD.wc_isN0, DD.wc_isN1, DD.wc_isN2, DD.wc_isN3, DD.wc_isN4, DD.wc_isN5, DD.wc_notN0, DD.wc_notN1, DD.wc_notN2, DD.wc_notN3, DD.wc_notN4, DD.wc_notN5, DD.wt_n, DD.wt_b, DD.wt_i, DD.wt_l, DD.wt_t, DD.wi_l, DD.wi_t, DD.wu_len, DD.wu_lenT, DD.wu_int, DD.wu_intb, DD.wu_abs, DD.wu_tup, DD.wu_tupT, DD.wu_lst, DD.wu_lstT, DD.wu_max2, DD.wu_min2, DD.wu_max1, DD.wu_min1, DD.wu_sum, DD.wu_all, DD.wu_any, DD.wu_sorted, DD.ws_l, DD.ws_t, DD.ws_s, DD.wr_l, DD.wr_t, DD.wb_mulT, DD.wst_l, DD.wst_t, DD.wz_l, DD.wz_t, DD.wn_l, DD.wv_l, DD.wv_t, DD.wc_inl, DD.wc_ninl, DD.wc_int, DD.wc_nint, DD.wCh, DD.ev_ii, DD.ev_bb, DD.ev_ss, DD.ev_nn, DD.ev_ni, DD.ev_in, DD.ev_is, DD.ev_si, DD.ev_tt, DD.ev_ll, DD.ea_nn, DD.ea_cc, DD.ea_nc, DD.ea_cn, DD.sh_n, DD.sh_b, DD.sh_i, DD.sh_s, DD.so_told, DD.so_refused, DD.so_missing, DD.so_large, DD.at0, DD.at1, DD.at2, DD.at3, DD.startE, DD.endK, List.map_cons, List.map_nil, List.length_cons, List.length_nil, List.replicate, List.cons_append, List.nil_append, List.append_nil, DD.getS, DD.setS, DD.clrS, DD.deo_c, DD.deo_n, DD.deo1_v, DD.deo1_u, DD.deo1_o, DD.tgs, DD.Sl.v.injEq, DD.Sl.own.injEq, PySem.PyData.int.injEq, PySem.PyData.bool.injEq, PySem.PyData.list.injEq, PySem.PyData.tuple.injEq, PySem.PyData.str.injEq, Option.some.injEq, exists_eq_left', exists_eq_left, exists_and_left, exists_and_right, List.zip_cons_cons, List.zip_nil_right, List.zip_nil_left, List.foldl_cons, List.foldl_nil, List.getD_cons_zero, List.getD_cons_succ, true_and, and_true, Bool.false_eq_true, Bool.true_eq_false, Bool.not_true, Bool.not_false, if_true, if_false, decide_eq_true_eq, decide_eq_false_iff_not, Bool.not_eq_true', Bool.not_eq_false', DD.imp_tt, DD.imp_ff, DD.imp_tf, DD.imp_ft, forall_const, true_implies, false_implies, implies_true, Int.reduceLT, Int.reduceLE, reduceIte, ite_true, ite_false]); try simp only [g0, g1, g2, g3, γ0, γ1, γ2, γ3, γ4, γ5, γ6, γ7, γ8, γ9, γ17, γ18, γ19, γ21, γ22, γ23, γ24]; try (simp only [DD.wSs, DD.wS, DD.wT, DD.wTs, DD.wE, DD.wEs, DD.wEi, DD.wIt, DD.wBnd, DD.bindT, DD.wb_add, DD.wb_sub, DD.wb_mul, DD.wb_fdiv, DD.wb_mod, DD.wb_pow, DD.wb_shl, DD.wb_shr, DD.wb_addL, DD.wb_addT, DD.wb_mulL, DD.wc_lt, DD.wc_le, DD.wc_gt, DD.wc_ge, DD.wc_eq, DD.wc_ne, DD.wc_isN0, DD.wc_isN1, DD.wc_isN2, DD.wc_isN3, DD.wc_isN4, DD.wc_isN5, DD.wc_notN0, DD.wc_notN1, DD.wc_notN2, DD.wc_notN3, DD.wc_notN4, DD.wc_notN5, DD.wt_n, DD.wt_b, DD.wt_i, DD.wt_l, DD.wt_t, DD.wi_l, DD.wi_t, DD.wu_len, DD.wu_lenT, DD.wu_int, DD.wu_intb, DD.wu_abs, DD.wu_tup, DD.wu_tupT, DD.wu_lst, DD.wu_lstT, DD.wu_max2, DD.wu_min2, DD.wu_max1, DD.wu_min1, DD.wu_sum, DD.wu_all, DD.wu_any, DD.wu_sorted, DD.ws_l, DD.ws_t, DD.ws_s, DD.wr_l, DD.wr_t, DD.wb_mulT, DD.wst_l, DD.wst_t, DD.wz_l, DD.wz_t, DD.wn_l, DD.wv_l, DD.wv_t, DD.wc_inl, DD.wc_ninl, DD.wc_int, DD.wc_nint, DD.wCh, DD.ev_ii, DD.ev_bb, DD.ev_ss, DD.ev_nn, DD.ev_ni, DD.ev_in, DD.ev_is, DD.ev_si, DD.ev_tt, DD.ev_ll, DD.ea_nn, DD.ea_cc, DD.ea_nc, DD.ea_cn, DD.sh_n, DD.sh_b, DD.sh_i, DD.sh_s, DD.so_told, DD.so_refused, DD.so_missing, DD.so_large, DD.at0, DD.at1, DD.at2, DD.at3, DD.startE, DD.endK, List.map_cons, List.map_nil, List.length_cons, List.length_nil, List.replicate, List.cons_append, List.nil_append, List.append_nil, DD.getS, DD.setS, DD.clrS, DD.deo_c, DD.deo_n, DD.deo1_v, DD.deo1_u, DD.deo1_o, DD.tgs, DD.Sl.v.injEq, DD.Sl.own.injEq, PySem.PyData.int.injEq, PySem.PyData.bool.injEq, PySem.PyData.list.injEq, PySem.PyData.tuple.injEq, PySem.PyData.str.injEq, Option.some.injEq, exists_eq_left', exists_eq_left, exists_and_left, exists_and_right, List.zip_cons_cons, List.zip_nil_right, List.zip_nil_left, List.foldl_cons, List.foldl_nil, List.getD_cons_zero, List.getD_cons_succ, true_and, and_true, Bool.false_eq_true, Bool.true_eq_false, Bool.not_true, Bool.not_false, if_true, if_false, decide_eq_true_eq, decide_eq_false_iff_not, Bool.not_eq_true', Bool.not_eq_false', DD.imp_tt, DD.imp_ff, DD.imp_tf, DD.imp_ft, forall_const, true_implies, false_implies, implies_true, Int.reduceLT, Int.reduceLE, reduceIte, ite_true, ite_false])))
  refine ⟨.inl ⟨by decide, by decide⟩, ?_⟩
  refine spN (by decide) (by omega) fun v v0 v1 => ?_
  try (((simp only [DD.wSs, DD.wS, DD.wT, DD.wTs, DD.wE, DD.wEs, DD.wEi, DD.wIt, DD.wBnd, DD.bindT, DD.wb_add, DD.wb_sub, DD.wb_mul, DD.wb_fdiv, DD.wb_mod, DD.wb_pow, DD.wb_shl, DD.wb_shr, DD.wb_addL, DD.wb_addT, DD.wb_mulL, DD.wc_lt, DD.wc_le, DD.wc_gt, DD.wc_ge, DD.wc_eq, DD.wc_ne, DD.wc_isN0, DD.wc_isN1, DD.wc_isN2, DD.wc_isN3, DD.wc_isN4, DD.wc_isN5, DD.wc_notN0, DD.wc_notN1, DD.wc_notN2, DD.wc_notN3, DD.wc_notN4, DD.wc_notN5, DD.wt_n, DD.wt_b, DD.wt_i, DD.wt_l, DD.wt_t, DD.wi_l, DD.wi_t, DD.wu_len, DD.wu_lenT, DD.wu_int, DD.wu_intb, DD.wu_abs, DD.wu_tup, DD.wu_tupT, DD.wu_lst, DD.wu_lstT, DD.wu_max2, DD.wu_min2, DD.wu_max1, DD.wu_min1, DD.wu_sum, DD.wu_all, DD.wu_any, DD.wu_sorted, DD.ws_l, DD.ws_t, DD.ws_s, DD.wr_l, DD.wr_t, DD.wb_mulT, DD.wst_l, DD.wst_t, DD.wz_l, DD.wz_t, DD.wn_l, DD.wv_l, DD.wv_t, DD.wc_inl, DD.wc_ninl, DD.wc_int, DD.wc_nint, DD.wCh, DD.ev_ii, DD.ev_bb, DD.ev_ss, DD.ev_nn, DD.ev_ni, DD.ev_in, DD.ev_is, DD.ev_si, DD.ev_tt, DD.ev_ll, DD.ea_nn, DD.ea_cc, DD.ea_nc, DD.ea_cn, DD.sh_n, DD.sh_b, DD.sh_i, DD.sh_s, DD.so_told, DD.so_refused, DD.so_missing, DD.so_large, DD.at0, DD.at1, DD.at2, DD.at3, DD.startE, DD.endK, List.map_cons, List.map_nil, List.length_cons, List.length_nil, List.replicate, List.cons_append, List.nil_append, List.append_nil, DD.getS, DD.setS, DD.clrS, DD.deo_c, DD.deo_n, DD.deo1_v, DD.deo1_u, DD.deo1_o, DD.tgs, DD.Sl.v.injEq, DD.Sl.own.injEq, PySem.PyData.int.injEq, PySem.PyData.bool.injEq, PySem.PyData.list.injEq, PySem.PyData.tuple.injEq, PySem.PyData.str.injEq, Option.some.injEq, exists_eq_left', exists_eq_left, exists_and_left, exists_and_right, List.zip_cons_cons, List.zip_nil_right, List.zip_nil_left, List.foldl_cons, List.foldl_nil, List.getD_cons_zero, List.getD_cons_succ, true_and, and_true, Bool.false_eq_true, Bool.true_eq_false, Bool.not_true, Bool.not_false, if_true, if_false, decide_eq_true_eq, decide_eq_false_iff_not, Bool.not_eq_true', Bool.not_eq_false', DD.imp_tt, DD.imp_ff, DD.imp_tf, DD.imp_ft, forall_const, true_implies, false_implies, implies_true, Int.reduceLT, Int.reduceLE, reduceIte, ite_true, ite_false]); try simp only [g0, g1, g2, g3, γ0, γ1, γ2, γ3, γ4, γ5, γ6, γ7, γ8, γ9, γ17, γ18, γ19, γ21, γ22, γ23, γ24]; try (simp only [DD.wSs, DD.wS, DD.wT, DD.wTs, DD.wE, DD.wEs, DD.wEi, DD.wIt, DD.wBnd, DD.bindT, DD.wb_add, DD.wb_sub, DD.wb_mul, DD.wb_fdiv, DD.wb_mod, DD.wb_pow, DD.wb_shl, DD.wb_shr, DD.wb_addL, DD.wb_addT, DD.wb_mulL, DD.wc_lt, DD.wc_le, DD.wc_gt, DD.wc_ge, DD.wc_eq, DD.wc_ne, DD.wc_isN0, DD.wc_isN1, DD.wc_isN2, DD.wc_isN3, DD.wc_isN4, DD.wc_isN5, DD.wc_notN0, DD.wc_notN1, DD.wc_notN2, DD.wc_notN3, DD.wc_notN4, DD.wc_notN5, DD.wt_n, DD.wt_b, DD.wt_i, DD.wt_l, DD.wt_t, DD.wi_l, DD.wi_t, DD.wu_len, DD.wu_lenT, DD.wu_int, DD.wu_intb, DD.wu_abs, DD.wu_tup, DD.wu_tupT, DD.wu_lst, DD.wu_lstT, DD.wu_max2, DD.wu_min2, DD.wu_max1, DD.wu_min1, DD.wu_sum, DD.wu_all, DD.wu_any, DD.wu_sorted, DD.ws_l, DD.ws_t, DD.ws_s, DD.wr_l, DD.wr_t, DD.wb_mulT, DD.wst_l, DD.wst_t, DD.wz_l, DD.wz_t, DD.wn_l, DD.wv_l, DD.wv_t, DD.wc_inl, DD.wc_ninl, DD.wc_int, DD.wc_nint, DD.wCh, DD.ev_ii, DD.ev_bb, DD.ev_ss, DD.ev_nn, DD.ev_ni, DD.ev_in, DD.ev_is, DD.ev_si, DD.ev_tt, DD.ev_ll, DD.ea_nn, DD.ea_cc, DD.ea_nc, DD.ea_cn, DD.sh_n, DD.sh_b, DD.sh_i, DD.sh_s, DD.so_told, DD.so_refused, DD.so_missing, DD.so_large, DD.at0, DD.at1, DD.at2, DD.at3, DD.startE, DD.endK, List.map_cons, List.map_nil, List.length_cons, List.length_nil, List.replicate, List.cons_append, List.nil_append, List.append_nil, DD.getS, DD.setS, DD.clrS, DD.deo_c, DD.deo_n, DD.deo1_v, DD.deo1_u, DD.deo1_o, DD.tgs, DD.Sl.v.injEq, DD.Sl.own.injEq, PySem.PyData.int.injEq, PySem.PyData.bool.injEq, PySem.PyData.list.injEq, PySem.PyData.tuple.injEq, PySem.PyData.str.injEq, Option.some.injEq, exists_eq_left', exists_eq_left, exists_and_left, exists_and_right, List.zip_cons_cons, List.zip_nil_right, List.zip_nil_left, List.foldl_cons, List.foldl_nil, List.getD_cons_zero, List.getD_cons_succ, true_and, and_true, Bool.false_eq_true, Bool.true_eq_false, Bool.not_true, Bool.not_false, if_true, if_false, decide_eq_true_eq, decide_eq_false_iff_not, Bool.not_eq_true', Bool.not_eq_false', DD.imp_tt, DD.imp_ff, DD.imp_tf, DD.imp_ft, forall_const, true_implies, false_implies, implies_true, Int.reduceLT, Int.reduceLE, reduceIte, ite_true, ite_false])))
  rw [Int.fdiv_eq_ediv_of_nonneg _ (by decide)]
  exact fin ⟨by omega, by omega, by omega, by omega, by omega, by omega, by omega⟩ (by omega)
end
theorem semLaw (x0 : Sl) : wSs ΓL GL b_law [x0, .v sttD, .un, .un, .un, .un, .un, .un, .un, .un, .un, .un, .un, .un, .un, .un, .un, .un] 0 (endK Qt fun _ _ => False) := by
  unfold b_law
  (((simp only [DD.wSs, DD.wS, DD.wT, DD.wTs, DD.wE, DD.wEs, DD.wEi, DD.wIt, DD.wBnd, DD.bindT, DD.wb_add, DD.wb_sub, DD.wb_mul, DD.wb_fdiv, DD.wb_mod, DD.wb_pow, DD.wb_shl, DD.wb_shr, DD.wb_addL, DD.wb_addT, DD.wb_mulL, DD.wc_lt, DD.wc_le, DD.wc_gt, DD.wc_ge, DD.wc_eq, DD.wc_ne, DD.wc_isN0, DD.wc_isN1, DD.wc_isN2, DD.wc_isN3, DD.wc_isN4, DD.wc_isN5, DD.wc_notN0, DD.wc_notN1, DD.wc_notN2, DD.wc_notN3, DD.wc_notN4, DD.wc_notN5, DD.wt_n, DD.wt_b, DD.wt_i, DD.wt_l, DD.wt_t, DD.wi_l, DD.wi_t, DD.wu_len, DD.wu_lenT, DD.wu_int, DD.wu_intb, DD.wu_abs, DD.wu_tup, DD.wu_tupT, DD.wu_lst, DD.wu_lstT, DD.wu_max2, DD.wu_min2, DD.wu_max1, DD.wu_min1, DD.wu_sum, DD.wu_all, DD.wu_any, DD.wu_sorted, DD.ws_l, DD.ws_t, DD.ws_s, DD.wr_l, DD.wr_t, DD.wb_mulT, DD.wst_l, DD.wst_t, DD.wz_l, DD.wz_t, DD.wn_l, DD.wv_l, DD.wv_t, DD.wc_inl, DD.wc_ninl, DD.wc_int, DD.wc_nint, DD.wCh, DD.ev_ii, DD.ev_bb, DD.ev_ss, DD.ev_nn, DD.ev_ni, DD.ev_in, DD.ev_is, DD.ev_si, DD.ev_tt, DD.ev_ll, DD.ea_nn, DD.ea_cc, DD.ea_nc, DD.ea_cn, DD.sh_n, DD.sh_b, DD.sh_i, DD.sh_s, DD.so_told, DD.so_refused, DD.so_missing, DD.so_large, DD.at0, DD.at1, DD.at2, DD.at3, DD.startE, DD.endK, List.map_cons, List.map_nil, List.length_cons, List.length_nil, List.replicate, List.cons_append, List.nil_append, List.append_nil, DD.getS, DD.setS, DD.clrS, DD.deo_c, DD.deo_n, DD.deo1_v, DD.deo1_u, DD.deo1_o, DD.tgs, DD.Sl.v.injEq, DD.Sl.own.injEq, PySem.PyData.int.injEq, PySem.PyData.bool.injEq, PySem.PyData.list.injEq, PySem.PyData.tuple.injEq, PySem.PyData.str.injEq, Option.some.injEq, exists_eq_left', exists_eq_left, exists_and_left, exists_and_right, List.zip_cons_cons, List.zip_nil_right, List.zip_nil_left, List.foldl_cons, List.foldl_nil, List.getD_cons_zero, List.getD_cons_succ, true_and, and_true, Bool.false_eq_true, Bool.true_eq_false, Bool.not_true, Bool.not_false, if_true, if_false, decide_eq_true_eq, decide_eq_false_iff_not, Bool.not_eq_true', Bool.not_eq_false', DD.imp_tt, DD.imp_ff, DD.imp_tf, DD.imp_ft, forall_const, true_implies, false_implies, implies_true, Int.reduceLT, Int.reduceLE, reduceIte, ite_true, ite_false]); try simp only [g0, g1, g2, g3, γ0, γ1, γ2, γ3, γ4, γ5, γ6, γ7, γ8, γ9, γ17, γ18, γ19, γ21, γ22, γ23, γ24]; try (simp only [DD.wSs, DD.wS, DD.wT, DD.wTs, DD.wE, DD.wEs, DD.wEi, DD.wIt, DD.wBnd, DD.bindT, DD.wb_add, DD.wb_sub, DD.wb_mul, DD.wb_fdiv, DD.wb_mod, DD.wb_pow, DD.wb_shl, DD.wb_shr, DD.wb_addL, DD.wb_addT, DD.wb_mulL, DD.wc_lt, DD.wc_le, DD.wc_gt, DD.wc_ge, DD.wc_eq, DD.wc_ne, DD.wc_isN0, DD.wc_isN1, DD.wc_isN2, DD.wc_isN3, DD.wc_isN4, DD.wc_isN5, DD.wc_notN0, DD.wc_notN1, DD.wc_notN2, DD.wc_notN3, DD.wc_notN4, DD.wc_notN5, DD.wt_n, DD.wt_b, DD.wt_i, DD.wt_l, DD.wt_t, DD.wi_l, DD.wi_t, DD.wu_len, DD.wu_lenT, DD.wu_int, DD.wu_intb, DD.wu_abs, DD.wu_tup, DD.wu_tupT, DD.wu_lst, DD.wu_lstT, DD.wu_max2, DD.wu_min2, DD.wu_max1, DD.wu_min1, DD.wu_sum, DD.wu_all, DD.wu_any, DD.wu_sorted, DD.ws_l, DD.ws_t, DD.ws_s, DD.wr_l, DD.wr_t, DD.wb_mulT, DD.wst_l, DD.wst_t, DD.wz_l, DD.wz_t, DD.wn_l, DD.wv_l, DD.wv_t, DD.wc_inl, DD.wc_ninl, DD.wc_int, DD.wc_nint, DD.wCh, DD.ev_ii, DD.ev_bb, DD.ev_ss, DD.ev_nn, DD.ev_ni, DD.ev_in, DD.ev_is, DD.ev_si, DD.ev_tt, DD.ev_ll, DD.ea_nn, DD.ea_cc, DD.ea_nc, DD.ea_cn, DD.sh_n, DD.sh_b, DD.sh_i, DD.sh_s, DD.so_told, DD.so_refused, DD.so_missing, DD.so_large, DD.at0, DD.at1, DD.at2, DD.at3, DD.startE, DD.endK, List.map_cons, List.map_nil, List.length_cons, List.length_nil, List.replicate, List.cons_append, List.nil_append, List.append_nil, DD.getS, DD.setS, DD.clrS, DD.deo_c, DD.deo_n, DD.deo1_v, DD.deo1_u, DD.deo1_o, DD.tgs, DD.Sl.v.injEq, DD.Sl.own.injEq, PySem.PyData.int.injEq, PySem.PyData.bool.injEq, PySem.PyData.list.injEq, PySem.PyData.tuple.injEq, PySem.PyData.str.injEq, Option.some.injEq, exists_eq_left', exists_eq_left, exists_and_left, exists_and_right, List.zip_cons_cons, List.zip_nil_right, List.zip_nil_left, List.foldl_cons, List.foldl_nil, List.getD_cons_zero, List.getD_cons_succ, true_and, and_true, Bool.false_eq_true, Bool.true_eq_false, Bool.not_true, Bool.not_false, if_true, if_false, decide_eq_true_eq, decide_eq_false_iff_not, Bool.not_eq_true', Bool.not_eq_false', DD.imp_tt, DD.imp_ff, DD.imp_tf, DD.imp_ft, forall_const, true_implies, false_implies, implies_true, Int.reduceLT, Int.reduceLE, reduceIte, ite_true, ite_false])))
  refine ⟨⟨by decide, by decide, by decide, by decide, by decide⟩, ?_⟩
  refine forG monoL I5 ⟨by rw [rngD_len]; decide, _, _, _, _, _, _, _, _, _, _, _, _, _, _, _, _, _, rfl⟩ ?_ ?_
  · rintro e n' ⟨_, x0, y2, y3, y4, y5, y6, y7, y8, y9, y10, y11, y12, y13, y14, y15, y16, y17, rfl⟩
    (((simp only [DD.wSs, DD.wS, DD.wT, DD.wTs, DD.wE, DD.wEs, DD.wEi, DD.wIt, DD.wBnd, DD.bindT, DD.wb_add, DD.wb_sub, DD.wb_mul, DD.wb_fdiv, DD.wb_mod, DD.wb_pow, DD.wb_shl, DD.wb_shr, DD.wb_addL, DD.wb_addT, DD.wb_mulL, DD.wc_lt, DD.wc_le, DD.wc_gt, DD.wc_ge, DD.wc_eq, DD.wc_ne, DD.wc_isN0, DD.wc_isN1, DD.wc_isN2, DD.wc_isN3, DD.wc_isN4, DD.wc_isN5, DD.wc_notN0, DD.wc_notN1, DD.wc_notN2, DD.wc_notN3, DD.wc_notN4, DD.wc_notN5, DD.wt_n, DD.wt_b, DD.wt_i, DD.wt_l, DD.wt_t, DD.wi_l, DD.wi_t, DD.wu_len, DD.wu_lenT, DD.wu_int, DD.wu_intb, DD.wu_abs, DD.wu_tup, DD.wu_tupT, DD.wu_lst, DD.wu_lstT, DD.wu_max2, DD.wu_min2, DD.wu_max1, DD.wu_min1, DD.wu_sum, DD.wu_all, DD.wu_any, DD.wu_sorted, DD.ws_l, DD.ws_t, DD.ws_s, DD.wr_l, DD.wr_t, DD.wb_mulT, DD.wst_l, DD.wst_t, DD.wz_l, DD.wz_t, DD.wn_l, DD.wv_l, DD.wv_t, DD.wc_inl, DD.wc_ninl, DD.wc_int, DD.wc_nint, DD.wCh, DD.ev_ii, DD.ev_bb, DD.ev_ss, DD.ev_nn, DD.ev_ni, DD.ev_in, DD.ev_is, DD.ev_si, DD.ev_tt, DD.ev_ll, DD.ea_nn, DD.ea_cc, DD.ea_nc, DD.ea_cn, DD.sh_n, DD.sh_b, DD.sh_i, DD.sh_s, DD.so_told, DD.so_refused, DD.so_missing, DD.so_large, DD.at0, DD.at1, DD.at2, DD.at3, DD.startE, DD.endK, List.map_cons, List.map_nil, List.length_cons, List.length_nil, List.replicate, List.cons_append, List.nil_append, List.append_nil, DD.getS, DD.setS, DD.clrS, DD.deo_c, DD.deo_n, DD.deo1_v, DD.deo1_u, DD.deo1_o, DD.tgs, DD.Sl.v.injEq, DD.Sl.own.injEq, PySem.PyData.int.injEq, PySem.PyData.bool.injEq, PySem.PyData.list.injEq, PySem.PyData.tuple.injEq, PySem.PyData.str.injEq, Option.some.injEq, exists_eq_left', exists_eq_left, exists_and_left, exists_and_right, List.zip_cons_cons, List.zip_nil_right, List.zip_nil_left, List.foldl_cons, List.foldl_nil, List.getD_cons_zero, List.getD_cons_succ, true_and, and_true, Bool.false_eq_true, Bool.true_eq_false, Bool.not_true, Bool.not_false, if_true, if_false, decide_eq_true_eq, decide_eq_false_iff_not, Bool.not_eq_true', Bool.not_eq_false', DD.imp_tt, DD.imp_ff, DD.imp_tf, DD.imp_ft, forall_const, true_implies, false_implies, implies_true, Int.reduceLT, Int.reduceLE, reduceIte, ite_true, ite_false]); try simp only [g0, g1, g2, g3, γ0, γ1, γ2, γ3, γ4, γ5, γ6, γ7, γ8, γ9, γ17, γ18, γ19, γ21, γ22, γ23, γ24]; try (simp only [DD.wSs, DD.wS, DD.wT, DD.wTs, DD.wE, DD.wEs, DD.wEi, DD.wIt, DD.wBnd, DD.bindT, DD.wb_add, DD.wb_sub, DD.wb_mul, DD.wb_fdiv, DD.wb_mod, DD.wb_pow, DD.wb_shl, DD.wb_shr, DD.wb_addL, DD.wb_addT, DD.wb_mulL, DD.wc_lt, DD.wc_le, DD.wc_gt, DD.wc_ge, DD.wc_eq, DD.wc_ne, DD.wc_isN0, DD.wc_isN1, DD.wc_isN2, DD.wc_isN3, DD.wc_isN4, DD.wc_isN5, DD.wc_notN0, DD.wc_notN1, DD.wc_notN2, DD.wc_notN3, DD.wc_notN4, DD.wc_notN5, DD.wt_n, DD.wt_b, DD.wt_i, DD.wt_l, DD.wt_t, DD.wi_l, DD.wi_t, DD.wu_len, DD.wu_lenT, DD.wu_int, DD.wu_intb, DD.wu_abs, DD.wu_tup, DD.wu_tupT, DD.wu_lst, DD.wu_lstT, DD.wu_max2, DD.wu_min2, DD.wu_max1, DD.wu_min1, DD.wu_sum, DD.wu_all, DD.wu_any, DD.wu_sorted, DD.ws_l, DD.ws_t, DD.ws_s, DD.wr_l, DD.wr_t, DD.wb_mulT, DD.wst_l, DD.wst_t, DD.wz_l, DD.wz_t, DD.wn_l, DD.wv_l, DD.wv_t, DD.wc_inl, DD.wc_ninl, DD.wc_int, DD.wc_nint, DD.wCh, DD.ev_ii, DD.ev_bb, DD.ev_ss, DD.ev_nn, DD.ev_ni, DD.ev_in, DD.ev_is, DD.ev_si, DD.ev_tt, DD.ev_ll, DD.ea_nn, DD.ea_cc, DD.ea_nc, DD.ea_cn, DD.sh_n, DD.sh_b, DD.sh_i, DD.sh_s, DD.so_told, DD.so_refused, DD.so_missing, DD.so_large, DD.at0, DD.at1, DD.at2, DD.at3, DD.startE, DD.endK, List.map_cons, List.map_nil, List.length_cons, List.length_nil, List.replicate, List.cons_append, List.nil_append, List.append_nil, DD.getS, DD.setS, DD.clrS, DD.deo_c, DD.deo_n, DD.deo1_v, DD.deo1_u, DD.deo1_o, DD.tgs, DD.Sl.v.injEq, DD.Sl.own.injEq, PySem.PyData.int.injEq, PySem.PyData.bool.injEq, PySem.PyData.list.injEq, PySem.PyData.tuple.injEq, PySem.PyData.str.injEq, Option.some.injEq, exists_eq_left', exists_eq_left, exists_and_left, exists_and_right, List.zip_cons_cons, List.zip_nil_right, List.zip_nil_left, List.foldl_cons, List.foldl_nil, List.getD_cons_zero, List.getD_cons_succ, true_and, and_true, Bool.false_eq_true, Bool.true_eq_false, Bool.not_true, Bool.not_false, if_true, if_false, decide_eq_true_eq, decide_eq_false_iff_not, Bool.not_eq_true', Bool.not_eq_false', DD.imp_tt, DD.imp_ff, DD.imp_tf, DD.imp_ft, forall_const, true_implies, false_implies, implies_true, Int.reduceLT, Int.reduceLE, reduceIte, ite_true, ite_false])))
    rfl
  · rintro z ds e n ⟨hn, x0, y2, y3, y4, y5, y6, y7, y8, y9, y10, y11, y12, y13, y14, y15, y16, y17, rfl⟩
    simp only [List.length_cons] at hn
    unfold l_law_11
    (((simp only [DD.wSs, DD.wS, DD.wT, DD.wTs, DD.wE, DD.wEs, DD.wEi, DD.wIt, DD.wBnd, DD.bindT, DD.wb_add, DD.wb_sub, DD.wb_mul, DD.wb_fdiv, DD.wb_mod, DD.wb_pow, DD.wb_shl, DD.wb_shr, DD.wb_addL, DD.wb_addT, DD.wb_mulL, DD.wc_lt, DD.wc_le, DD.wc_gt, DD.wc_ge, DD.wc_eq, DD.wc_ne, DD.wc_isN0, DD.wc_isN1, DD.wc_isN2, DD.wc_isN3, DD.wc_isN4, DD.wc_isN5, DD.wc_notN0, DD.wc_notN1, DD.wc_notN2, DD.wc_notN3, DD.wc_notN4, DD.wc_notN5, DD.wt_n, DD.wt_b, DD.wt_i, DD.wt_l, DD.wt_t, DD.wi_l, DD.wi_t, DD.wu_len, DD.wu_lenT, DD.wu_int, DD.wu_intb, DD.wu_abs, DD.wu_tup, DD.wu_tupT, DD.wu_lst, DD.wu_lstT, DD.wu_max2, DD.wu_min2, DD.wu_max1, DD.wu_min1, DD.wu_sum, DD.wu_all, DD.wu_any, DD.wu_sorted, DD.ws_l, DD.ws_t, DD.ws_s, DD.wr_l, DD.wr_t, DD.wb_mulT, DD.wst_l, DD.wst_t, DD.wz_l, DD.wz_t, DD.wn_l, DD.wv_l, DD.wv_t, DD.wc_inl, DD.wc_ninl, DD.wc_int, DD.wc_nint, DD.wCh, DD.ev_ii, DD.ev_bb, DD.ev_ss, DD.ev_nn, DD.ev_ni, DD.ev_in, DD.ev_is, DD.ev_si, DD.ev_tt, DD.ev_ll, DD.ea_nn, DD.ea_cc, DD.ea_nc, DD.ea_cn, DD.sh_n, DD.sh_b, DD.sh_i, DD.sh_s, DD.so_told, DD.so_refused, DD.so_missing, DD.so_large, DD.at0, DD.at1, DD.at2, DD.at3, DD.startE, DD.endK, List.map_cons, List.map_nil, List.length_cons, List.length_nil, List.replicate, List.cons_append, List.nil_append, List.append_nil, DD.getS, DD.setS, DD.clrS, DD.deo_c, DD.deo_n, DD.deo1_v, DD.deo1_u, DD.deo1_o, DD.tgs, DD.Sl.v.injEq, DD.Sl.own.injEq, PySem.PyData.int.injEq, PySem.PyData.bool.injEq, PySem.PyData.list.injEq, PySem.PyData.tuple.injEq, PySem.PyData.str.injEq, Option.some.injEq, exists_eq_left', exists_eq_left, exists_and_left, exists_and_right, List.zip_cons_cons, List.zip_nil_right, List.zip_nil_left, List.foldl_cons, List.foldl_nil, List.getD_cons_zero, List.getD_cons_succ, true_and, and_true, Bool.false_eq_true, Bool.true_eq_false, Bool.not_true, Bool.not_false, if_true, if_false, decide_eq_true_eq, decide_eq_false_iff_not, Bool.not_eq_true', Bool.not_eq_false', DD.imp_tt, DD.imp_ff, DD.imp_tf, DD.imp_ft, forall_const, true_implies, false_implies, implies_true, Int.reduceLT, Int.reduceLE, reduceIte, ite_true, ite_false]); try simp only [g0, g1, g2, g3, γ0, γ1, γ2, γ3, γ4, γ5, γ6, γ7, γ8, γ9, γ17, γ18, γ19, γ21, γ22, γ23, γ24]; try (simp only [DD.wSs, DD.wS, DD.wT, DD.wTs, DD.wE, DD.wEs, DD.wEi, DD.wIt, DD.wBnd, DD.bindT, DD.wb_add, DD.wb_sub, DD.wb_mul, DD.wb_fdiv, DD.wb_mod, DD.wb_pow, DD.wb_shl, DD.wb_shr, DD.wb_addL, DD.wb_addT, DD.wb_mulL, DD.wc_lt, DD.wc_le, DD.wc_gt, DD.wc_ge, DD.wc_eq, DD.wc_ne, DD.wc_isN0, DD.wc_isN1, DD.wc_isN2, DD.wc_isN3, DD.wc_isN4, DD.wc_isN5, DD.wc_notN0, DD.wc_notN1, DD.wc_notN2, DD.wc_notN3, DD.wc_notN4, DD.wc_notN5, DD.wt_n, DD.wt_b, DD.wt_i, DD.wt_l, DD.wt_t, DD.wi_l, DD.wi_t, DD.wu_len, DD.wu_lenT, DD.wu_int, DD.wu_intb, DD.wu_abs, DD.wu_tup, DD.wu_tupT, DD.wu_lst, DD.wu_lstT, DD.wu_max2, DD.wu_min2, DD.wu_max1, DD.wu_min1, DD.wu_sum, DD.wu_all, DD.wu_any, DD.wu_sorted, DD.ws_l, DD.ws_t, DD.ws_s, DD.wr_l, DD.wr_t, DD.wb_mulT, DD.wst_l, DD.wst_t, DD.wz_l, DD.wz_t, DD.wn_l, DD.wv_l, DD.wv_t, DD.wc_inl, DD.wc_ninl, DD.wc_int, DD.wc_nint, DD.wCh, DD.ev_ii, DD.ev_bb, DD.ev_ss, DD.ev_nn, DD.ev_ni, DD.ev_in, DD.ev_is, DD.ev_si, DD.ev_tt, DD.ev_ll, DD.ea_nn, DD.ea_cc, DD.ea_nc, DD.ea_cn, DD.sh_n, DD.sh_b, DD.sh_i, DD.sh_s, DD.so_told, DD.so_refused, DD.so_missing, DD.so_large, DD.at0, DD.at1, DD.at2, DD.at3, DD.startE, DD.endK, List.map_cons, List.map_nil, List.length_cons, List.length_nil, List.replicate, List.cons_append, List.nil_append, List.append_nil, DD.getS, DD.setS, DD.clrS, DD.deo_c, DD.deo_n, DD.deo1_v, DD.deo1_u, DD.deo1_o, DD.tgs, DD.Sl.v.injEq, DD.Sl.own.injEq, PySem.PyData.int.injEq, PySem.PyData.bool.injEq, PySem.PyData.list.injEq, PySem.PyData.tuple.injEq, PySem.PyData.str.injEq, Option.some.injEq, exists_eq_left', exists_eq_left, exists_and_left, exists_and_right, List.zip_cons_cons, List.zip_nil_right, List.zip_nil_left, List.foldl_cons, List.foldl_nil, List.getD_cons_zero, List.getD_cons_succ, true_and, and_true, Bool.false_eq_true, Bool.true_eq_false, Bool.not_true, Bool.not_false, if_true, if_false, decide_eq_true_eq, decide_eq_false_iff_not, Bool.not_eq_true', Bool.not_eq_false', DD.imp_tt, DD.imp_ff, DD.imp_tf, DD.imp_ft, forall_const, true_implies, false_implies, implies_true, Int.reduceLT, Int.reduceLE, reduceIte, ite_true, ite_false])))
    exact ⟨rfl, by omega, fun b l h n' so n0 n1 => t176 (by omega) so⟩
end DD



set_option Elab.async false
set_option linter.all false
set_option maxRecDepth 100000
set_option maxHeartbeats 4000000
namespace DD
open PySem PySem.Spec PyProof.Rows L2
theorem lenL : ∀ i ds n Q X, ΓL i ds n Q X → ds.length = arL.getD i 0 := by
  intro i ds n Q X h
  match i, h with
  | 0, ⟨_, e, _⟩ => rw [e]; rfl
  | 1, ⟨_, _, e, _⟩ => rw [e]; rfl
  | 2, ⟨_, e, _⟩ => rw [e]; rfl
  | 3, ⟨_, _, _, _, e, _⟩ => rw [e]; rfl
  | 4, ⟨_, _, _, _, _, e, _⟩ => rw [e]; rfl
  | 5, ⟨_, e, _⟩ => rw [e]; rfl
  | 6, ⟨_, _, _, e, _⟩ => rw [e]; rfl
  | 7, ⟨_, e, _⟩ => rw [e]; rfl
  | 8, ⟨_, e, _⟩ => rw [e]; rfl
  | 9, ⟨_, e, _⟩ => rw [e]; rfl
  | 17, ⟨e, _⟩ => rw [e]; rfl
  | 18, ⟨_, _, _, _, e, _⟩ => rw [e]; rfl
  | 19, ⟨_, _, _, _, e, _⟩ => rw [e]; rfl
  | 21, ⟨e, _⟩ => rw [e]; rfl
  | 22, ⟨_, _, _, _, _, e, _⟩ => rw [e]; rfl
  | 23, ⟨_, _, _, e, _⟩ => rw [e]; rfl
  | 24, ⟨_, _, _, _, _, _, e, _⟩ => rw [e]; rfl
/-- the law's kit -/
def kitL (K : PySem.W.Frag) (C : Nat → Addr) (T : List (Addr × Str)) (sa : Option Addr) : Kit := { K := K, sa := sa, T := T, Γ := ΓL, G := GL, cls := fun k => .ref (C k), lv := 0, s := sta [] }
structure HeadL (K : PySem.W.Frag) (h : Heap) : Prop where
  d0 : DefK K "check_digits" s_check_digits
  d1 : DefK K "check_row" s_check_row
  d2 : DefK K "transfer" s_transfer
  d3 : DefK K "is_free" s_is_free
  d4 : DefK K "splits" s_splits
  d5 : DefK K "adds_free" s_adds_free
  d6 : DefK K "added_rows" s_added_rows
  d7 : DefK K "_law_same" sSame
  d8 : DefK K "_law_stream" sL_stream
  d9 : DefK K "_law_next" sNext
  d10 : DefK K "_law_told" sTold
  d17 : DefK K "_law_system" sL_system
  d18 : DefK K "_law_value" sL_value
  d19 : DefK K "_law_row" sL_row
  d21 : DefK K "_law_wrong_system" sL_wrong_system
  d22 : DefK K "_law_carries" sL_carries
  d23 : DefK K "_law_most" sL_most
  d24 : DefK K "_law_added" sL_added
  dl : LawK K h "law" s_law
  ec : ExcKS K
  bl : BltK K
section
variable {K : PySem.W.Frag} {h : Heap} {mg : Str → Option Value} {base : Heap} {P : Program} {w : World} {C : Nat → Addr} {N : Addr} {T : List (Addr × Str)}
theorem globL (X : K.In h) (G : h.Ns mainGlobals mg) (hd : HeadL K h) (ec : ExcK K N C) (c0 : ∃ t, mg "MAX_BASE" = some (.int 12 t)) (c1 : ∃ t, mg "MAX_DIGIT" = some (.int 20 t)) (c2 : ∃ t, mg "MAX_LENGTH" = some (.int 24 t)) (c3 : ∃ t, mg "MAX_CARRY" = some (.int 3 t)) (sa : Option Addr) :
    Glob ((kitL K C T sa).at 17 [24, 23, 22, 21, 19, 18, 17, 9, 8, 7, 6, 1, 5, 2, 3, 4, 0]) P w mg base := by
  have g0 : Glob0 (kitL K C T sa) P w mg base := by
    refine ⟨fun g hg => ?_, hd.bl.none X G, ec.glob (κ := kitL K C T sa) (fun _ => rfl) rfl (fun k hk => ?_) X G⟩
    · have hg : g ∈ List.range 4 := hg
      have hg := List.mem_range.mp hg
      obtain ⟨t0, e0⟩ := c0
      obtain ⟨t1, e1⟩ := c1
      obtain ⟨t2, e2⟩ := c2
      obtain ⟨t3, e3⟩ := c3
      match g, hg with
      | 0, _ => exact ⟨_, .int 12, e0, ⟨_, rfl⟩, fun F => .int _⟩
      | 1, _ => exact ⟨_, .int 20, e1, ⟨_, rfl⟩, fun F => .int _⟩
      | 2, _ => exact ⟨_, .int 24, e2, ⟨_, rfl⟩, fun F => .int _⟩
      | 3, _ => exact ⟨_, .int 3, e3, ⟨_, rfl⟩, fun F => .int _⟩
    · have hk : k ∈ [0, 1, 2] := hk
      simp at hk; omega
  obtain ⟨_, _, d0⟩ := hd.d0.inn (κ := kitL K C T sa) (ps := p_check_digits) X G (by ((intro kV doc pm an cdv ct us hl; first | exact (match us, hl with | [_], _ => rfl) | exact (match us, hl with | [_, _], _ => rfl) | exact (match us, hl with | [_, _, _], _ => rfl) | exact (match us, hl with | [_, _, _, _], _ => rfl) | exact (match us, hl with | [_, _, _, _, _], _ => rfl) | exact (match us, hl with | [_, _, _, _, _, _], _ => rfl))))
  obtain ⟨_, _, d1⟩ := hd.d1.inn (κ := kitL K C T sa) (ps := p_check_row) X G (by ((intro kV doc pm an cdv ct us hl; first | exact (match us, hl with | [_], _ => rfl) | exact (match us, hl with | [_, _], _ => rfl) | exact (match us, hl with | [_, _, _], _ => rfl) | exact (match us, hl with | [_, _, _, _], _ => rfl) | exact (match us, hl with | [_, _, _, _, _], _ => rfl) | exact (match us, hl with | [_, _, _, _, _, _], _ => rfl))))
  obtain ⟨_, _, d2⟩ := hd.d2.inn (κ := kitL K C T sa) (ps := p_transfer) X G (by ((intro kV doc pm an cdv ct us hl; first | exact (match us, hl with | [_], _ => rfl) | exact (match us, hl with | [_, _], _ => rfl) | exact (match us, hl with | [_, _, _], _ => rfl) | exact (match us, hl with | [_, _, _, _], _ => rfl) | exact (match us, hl with | [_, _, _, _, _], _ => rfl) | exact (match us, hl with | [_, _, _, _, _, _], _ => rfl))))
  obtain ⟨_, _, d3⟩ := hd.d3.inn (κ := kitL K C T sa) (ps := p_is_free) X G (by ((intro kV doc pm an cdv ct us hl; first | exact (match us, hl with | [_], _ => rfl) | exact (match us, hl with | [_, _], _ => rfl) | exact (match us, hl with | [_, _, _], _ => rfl) | exact (match us, hl with | [_, _, _, _], _ => rfl) | exact (match us, hl with | [_, _, _, _, _], _ => rfl) | exact (match us, hl with | [_, _, _, _, _, _], _ => rfl))))
  obtain ⟨_, _, d4⟩ := hd.d4.inn (κ := kitL K C T sa) (ps := p_splits) X G (by ((intro kV doc pm an cdv ct us hl; first | exact (match us, hl with | [_], _ => rfl) | exact (match us, hl with | [_, _], _ => rfl) | exact (match us, hl with | [_, _, _], _ => rfl) | exact (match us, hl with | [_, _, _, _], _ => rfl) | exact (match us, hl with | [_, _, _, _, _], _ => rfl) | exact (match us, hl with | [_, _, _, _, _, _], _ => rfl))))
  obtain ⟨_, _, d5⟩ := hd.d5.inn (κ := kitL K C T sa) (ps := p_adds_free) X G (by ((intro kV doc pm an cdv ct us hl; first | exact (match us, hl with | [_], _ => rfl) | exact (match us, hl with | [_, _], _ => rfl) | exact (match us, hl with | [_, _, _], _ => rfl) | exact (match us, hl with | [_, _, _, _], _ => rfl) | exact (match us, hl with | [_, _, _, _, _], _ => rfl) | exact (match us, hl with | [_, _, _, _, _, _], _ => rfl))))
  obtain ⟨_, _, d6⟩ := hd.d6.inn (κ := kitL K C T sa) (ps := p_added_rows) X G (by ((intro kV doc pm an cdv ct us hl; first | exact (match us, hl with | [_], _ => rfl) | exact (match us, hl with | [_, _], _ => rfl) | exact (match us, hl with | [_, _, _], _ => rfl) | exact (match us, hl with | [_, _, _, _], _ => rfl) | exact (match us, hl with | [_, _, _, _, _], _ => rfl) | exact (match us, hl with | [_, _, _, _, _, _], _ => rfl))))
  obtain ⟨_, _, d7⟩ := hd.d7.inn (κ := kitL K C T sa) (ps := ["told", "due"]) X G (by ((intro kV doc pm an cdv ct us hl; first | exact (match us, hl with | [_], _ => rfl) | exact (match us, hl with | [_, _], _ => rfl) | exact (match us, hl with | [_, _, _], _ => rfl) | exact (match us, hl with | [_, _, _, _], _ => rfl) | exact (match us, hl with | [_, _, _, _, _], _ => rfl) | exact (match us, hl with | [_, _, _, _, _, _], _ => rfl))))
  obtain ⟨_, _, d8⟩ := hd.d8.inn (κ := kitL K C T sa) (ps := pL_stream) X G (by ((intro kV doc pm an cdv ct us hl; first | exact (match us, hl with | [_], _ => rfl) | exact (match us, hl with | [_, _], _ => rfl) | exact (match us, hl with | [_, _, _], _ => rfl) | exact (match us, hl with | [_, _, _, _], _ => rfl) | exact (match us, hl with | [_, _, _, _, _], _ => rfl) | exact (match us, hl with | [_, _, _, _, _, _], _ => rfl))))
  obtain ⟨_, _, d9⟩ := hd.d9.inn (κ := kitL K C T sa) (ps := ["state", "many"]) X G (by ((intro kV doc pm an cdv ct us hl; first | exact (match us, hl with | [_], _ => rfl) | exact (match us, hl with | [_, _], _ => rfl) | exact (match us, hl with | [_, _, _], _ => rfl) | exact (match us, hl with | [_, _, _, _], _ => rfl) | exact (match us, hl with | [_, _, _, _, _], _ => rfl) | exact (match us, hl with | [_, _, _, _, _, _], _ => rfl))))
  obtain ⟨_, _, d17⟩ := hd.d17.inn (κ := kitL K C T sa) (ps := pL_system) X G (by ((intro kV doc pm an cdv ct us hl; first | exact (match us, hl with | [_], _ => rfl) | exact (match us, hl with | [_, _], _ => rfl) | exact (match us, hl with | [_, _, _], _ => rfl) | exact (match us, hl with | [_, _, _, _], _ => rfl) | exact (match us, hl with | [_, _, _, _, _], _ => rfl) | exact (match us, hl with | [_, _, _, _, _, _], _ => rfl))))
  obtain ⟨_, _, d18⟩ := hd.d18.inn (κ := kitL K C T sa) (ps := pL_value) X G (by ((intro kV doc pm an cdv ct us hl; first | exact (match us, hl with | [_], _ => rfl) | exact (match us, hl with | [_, _], _ => rfl) | exact (match us, hl with | [_, _, _], _ => rfl) | exact (match us, hl with | [_, _, _, _], _ => rfl) | exact (match us, hl with | [_, _, _, _, _], _ => rfl) | exact (match us, hl with | [_, _, _, _, _, _], _ => rfl))))
  obtain ⟨_, _, d19⟩ := hd.d19.inn (κ := kitL K C T sa) (ps := pL_row) X G (by ((intro kV doc pm an cdv ct us hl; first | exact (match us, hl with | [_], _ => rfl) | exact (match us, hl with | [_, _], _ => rfl) | exact (match us, hl with | [_, _, _], _ => rfl) | exact (match us, hl with | [_, _, _, _], _ => rfl) | exact (match us, hl with | [_, _, _, _, _], _ => rfl) | exact (match us, hl with | [_, _, _, _, _, _], _ => rfl))))
  obtain ⟨_, _, d21⟩ := hd.d21.inn (κ := kitL K C T sa) (ps := pL_wrong_system) X G (by ((intro kV doc pm an cdv ct us hl; first | exact (match us, hl with | [_], _ => rfl) | exact (match us, hl with | [_, _], _ => rfl) | exact (match us, hl with | [_, _, _], _ => rfl) | exact (match us, hl with | [_, _, _, _], _ => rfl) | exact (match us, hl with | [_, _, _, _, _], _ => rfl) | exact (match us, hl with | [_, _, _, _, _, _], _ => rfl))))
  obtain ⟨_, _, d22⟩ := hd.d22.inn (κ := kitL K C T sa) (ps := pL_carries) X G (by ((intro kV doc pm an cdv ct us hl; first | exact (match us, hl with | [_], _ => rfl) | exact (match us, hl with | [_, _], _ => rfl) | exact (match us, hl with | [_, _, _], _ => rfl) | exact (match us, hl with | [_, _, _, _], _ => rfl) | exact (match us, hl with | [_, _, _, _, _], _ => rfl) | exact (match us, hl with | [_, _, _, _, _, _], _ => rfl))))
  obtain ⟨_, _, d23⟩ := hd.d23.inn (κ := kitL K C T sa) (ps := pL_most) X G (by ((intro kV doc pm an cdv ct us hl; first | exact (match us, hl with | [_], _ => rfl) | exact (match us, hl with | [_, _], _ => rfl) | exact (match us, hl with | [_, _, _], _ => rfl) | exact (match us, hl with | [_, _, _, _], _ => rfl) | exact (match us, hl with | [_, _, _, _, _], _ => rfl) | exact (match us, hl with | [_, _, _, _, _, _], _ => rfl))))
  obtain ⟨_, _, d24⟩ := hd.d24.inn (κ := kitL K C T sa) (ps := pL_added) X G (by ((intro kV doc pm an cdv ct us hl; first | exact (match us, hl with | [_], _ => rfl) | exact (match us, hl with | [_, _], _ => rfl) | exact (match us, hl with | [_, _, _], _ => rfl) | exact (match us, hl with | [_, _, _, _], _ => rfl) | exact (match us, hl with | [_, _, _, _, _], _ => rfl) | exact (match us, hl with | [_, _, _, _, _, _], _ => rfl))))
  have b := hd.bl.none X G
  have G0 := g0.start
  have G1 := G0.add (f := 0) d0 rfl (lenL 0) f_check_digits (show mtSs (sta []) n_check_digits false (defScope s_check_digits) b_check_digits (defBody s_check_digits) = true by decide +kernel) sem0
  have G2 := G1.add (f := 4) d4 rfl (lenL 4) f_splits (show mtSs (sta [0]) n_splits false (defScope s_splits) b_splits (defBody s_splits) = true by decide +kernel) sem4
  have G3 := G2.add (f := 3) d3 rfl (lenL 3) f_is_free (show mtSs (sta [4, 0]) n_is_free false (defScope s_is_free) b_is_free (defBody s_is_free) = true by decide +kernel) sem3
  have G4 := G3.add (f := 2) d2 rfl (lenL 2) f_transfer (show mtSs (sta [3, 4, 0]) n_transfer false (defScope s_transfer) b_transfer (defBody s_transfer) = true by decide +kernel) sem2
  have G5 := G4.add (f := 5) d5 rfl (lenL 5) f_adds_free (show mtSs (sta [2, 3, 4, 0]) n_adds_free false (defScope s_adds_free) b_adds_free (defBody s_adds_free) = true by decide +kernel) sem5
  have G6 := G5.add (f := 1) d1 rfl (lenL 1) f_check_row (show mtSs (sta [5, 2, 3, 4, 0]) n_check_row false (defScope s_check_row) b_check_row (defBody s_check_row) = true by decide +kernel) sem1
  have G7 := G6.add (f := 6) d6 rfl (lenL 6) f_added_rows (show mtSs (sta [1, 5, 2, 3, 4, 0]) n_added_rows false (defScope s_added_rows) b_added_rows (defBody s_added_rows) = true by decide +kernel) sem6
  have G8 := G7.addF (f := 7) d7.mg d7.fn.kp d7.bd rfl (lenL 7) ((same_ok (κ := (kitL K C T sa).at 7 [6, 1, 5, 2, 3, 4, 0]) d7.fn b).mono (by decide))
  have G9 := G8.add (f := 8) d8 rfl (lenL 8) fL_stream (show mtSs (sta [7, 6, 1, 5, 2, 3, 4, 0]) nL_stream false (defScope sL_stream) bL_stream (defBody sL_stream) = true by decide +kernel) sem8
  have G10 := G9.addF (f := 9) d9.mg d9.fn.kp d9.bd rfl (lenL 9) ((next_ok (κ := (kitL K C T sa).at 9 [8, 7, 6, 1, 5, 2, 3, 4, 0]) d9.fn b).mono (by decide))
  have G11 := G10.add (f := 17) d17 rfl (lenL 17) fL_system (show mtSs (sta [9, 8, 7, 6, 1, 5, 2, 3, 4, 0]) nL_system false (defScope sL_system) bL_system (defBody sL_system) = true by decide +kernel) sem17
  have G12 := G11.add (f := 18) d18 rfl (lenL 18) fL_value (show mtSs (sta [17, 9, 8, 7, 6, 1, 5, 2, 3, 4, 0]) nL_value false (defScope sL_value) bL_value (defBody sL_value) = true by decide +kernel) sem18
  have G13 := G12.add (f := 19) d19 rfl (lenL 19) fL_row (show mtSs (sta [18, 17, 9, 8, 7, 6, 1, 5, 2, 3, 4, 0]) nL_row false (defScope sL_row) bL_row (defBody sL_row) = true by decide +kernel) sem19
  have G14 := G13.add (f := 21) d21 rfl (lenL 21) fL_wrong_system (show mtSs (sta [19, 18, 17, 9, 8, 7, 6, 1, 5, 2, 3, 4, 0]) nL_wrong_system false (defScope sL_wrong_system) bL_wrong_system (defBody sL_wrong_system) = true by decide +kernel) sem21
  have G15 := G14.add (f := 22) d22 rfl (lenL 22) fL_carries (show mtSs (sta [21, 19, 18, 17, 9, 8, 7, 6, 1, 5, 2, 3, 4, 0]) nL_carries false (defScope sL_carries) bL_carries (defBody sL_carries) = true by decide +kernel) sem22
  have G16 := G15.add (f := 23) d23 rfl (lenL 23) fL_most (show mtSs (sta [22, 21, 19, 18, 17, 9, 8, 7, 6, 1, 5, 2, 3, 4, 0]) nL_most false (defScope sL_most) bL_most (defBody sL_most) = true by decide +kernel) sem23
  exact G16.add (f := 24) d24 rfl (lenL 24) fL_added (show mtSs (sta [23, 22, 21, 19, 18, 17, 9, 8, 7, 6, 1, 5, 2, 3, 4, 0]) nL_added false (defScope sL_added) bL_added (defBody sL_added) = true by decide +kernel) sem24
end
end DD



set_option Elab.async false
set_option linter.all false
set_option maxRecDepth 100000
set_option maxHeartbeats 4000000
namespace DD
open PySem PySem.Spec PyProof.Rows L2
/-- the law's spec: the script, empty tables -/
def spLaw (K : PySem.W.Frag) (T : List (Addr × Str)) : Sp := fun vs H Q _ => ∃ (a : Addr) (ns : List Int), vs = [.ref a] ∧ SqL K H a (ns.map V.int) ∧ ns.length ≤ 63 ∧ LamX.Tabs T H ∧ ∀ H', Q (.bl true) H'
/-- H without its tables -/
def noTab (H : Hp) : Hp := fun b => match H b with
  | some (.tbl _) => none
  | o => o
theorem noTab_le (H : Hp) : Le (noTab H) H := fun b o e => by
  unfold noTab at e
  split at e
  · cases e
  · exact e
theorem noTab_nt (H : Hp) (b : Addr) (ps : Array Value) : noTab H b ≠ some (.tbl ps) := fun e => by
  unfold noTab at e
  split at e
  · cases e
  · rename_i z
    exact z ps e
theorem noTab_sq {K : PySem.W.Frag} {H : Hp} {a : Addr} {xs : List V} (h : SqL K H a xs) : SqL K (noTab H) a xs := by
  rcases h with h | h
  · refine .inl ?_
    rcases h with h | ⟨o, h⟩
    · exact .inl (by unfold noTab; rw [h])
    · exact .inr ⟨o, by unfold noTab; rw [h]⟩
  · exact .inr h
def qLam : Str := (envOfC "law" (defScope s_law) 0 0 .none).qual ++ "<lambda>"
section
variable {K : PySem.W.Frag} {h : Heap} {mg : Str → Option Value} {base : Heap} {P : Program} {w : World} {C : Nat → Addr} {N : Addr} {Pt cc : Addr} {f : Addr}
theorem lawL (X : K.In h) (G : h.Ns mainGlobals mg) (hd : HeadL K h) (ec : ExcK K N C) (c0 : ∃ t, mg "MAX_BASE" = some (.int 12 t)) (c1 : ∃ t, mg "MAX_DIGIT" = some (.int 20 t)) (c2 : ∃ t, mg "MAX_LENGTH" = some (.int 24 t)) (c3 : ∃ t, mg "MAX_CARRY" = some (.int 3 t))
    {oc : Value} {od : Option Addr} {kV doc pm : Value} {an : Option Addr} {ct : Value} {sl : Array (Option Value)} (lk : K.lookup f = some ⟨oc, od, .func (PySem.W.fnOf "law" "law" (defArgs s_law) (defBody s_law) (defScope s_law) .none kV doc pm an (.ref cc) ct), sl⟩)
    (hcd : PySem.W.codeIn K (.ref cc) "law" = true) (TB : LamX.TabB base mg cc Pt) :
    FnG P w K mg base (L2N.CX P w) 40 f (PySem.W.fnOf "law" "law" (defArgs s_law) (defBody s_law) (defScope s_law) .none kV doc pm an (.ref cc) ct) ["script"] (spLaw K [(Pt, qLam)]) := by
  have gl := fun sa => globL (P := P) (w := w) (base := base) (T := [(Pt, qLam)]) X G hd ec c0 c1 c2 c3 sa
  refine ⟨fun vs H Q E ⟨a, ns, e, _⟩ => by rw [e]; rfl, fun A outer s H args us vs Q E hg hr e0 hb r hsp => LamX.run_ofS lk hcd f_law hr e0 hb r (by obtain ⟨a, ns, e, _⟩ := hsp; rw [e]; rfl) fun hr' => ?_⟩
  obtain ⟨a, ns, rfl, hS, hl, hT, hq⟩ := hsp
  -- the contexts
  have dk : ∀ sa, Dok ((kitL K C [(Pt, qLam)] sa).at 17 [24, 23, 22, 21, 19, 18, 17, 9, 8, 7, 6, 1, 5, 2, 3, 4, 0]) n_law (defScope s_law) (cxOf (L2N.CX P w) P w K mg base n_law "law" (defScope s_law) f (.ref cc) A outer s H E) E := fun sa =>
    dok_cx f_law.nd f_law.kind hg (hr'.mono (by show 17 ≤ 39; decide)) (gl sa)
  have told : ∀ sa, Told ((kitL K C [(Pt, qLam)] sa).at 17 [24, 23, 22, 21, 19, 18, 17, 9, 8, 7, 6, 1, 5, 2, 3, 4, 0]) n_law (defScope s_law) (cxOf (L2N.CX P w) P w K mg base n_law "law" (defScope s_law) f (.ref cc) A outer s H E) E := fun sa => by
    refine told_rule (dk sa).toCok ⟨ec.err (κ := (kitL K C [(Pt, qLam)] sa).at 17 [24, 23, 22, 21, 19, 18, 17, 9, 8, 7, 6, 1, 5, 2, 3, 4, 0]) (fun _ => rfl) X G, ?_, ⟨cc, Pt, TB, rfl, List.mem_singleton.mpr rfl, fun p hp _ => by rw [List.mem_singleton.mp hp]; rfl⟩, hr'.mono (by show 17 + 2 ≤ 39; decide)⟩
    obtain ⟨g, oc, od, kV, doc, pm, an, cd, ct, sl, e1, e2, e3, e4⟩ := hd.d10.ex
    have F := fun_mk (st := sTold) e2 e3 e4
    exact ⟨g, _, _, _, _, _, _, _, _, _, _, _, PySem.W.mg_of X G e1, e4, e2, e3, F.binds (ps := ["call"]) (by ((intro kV doc pm an cdv ct us hl; first | exact (match us, hl with | [_], _ => rfl) | exact (match us, hl with | [_, _], _ => rfl) | exact (match us, hl with | [_, _, _], _ => rfl) | exact (match us, hl with | [_, _, _, _], _ => rfl) | exact (match us, hl with | [_, _, _, _, _], _ => rfl) | exact (match us, hl with | [_, _, _, _, _, _], _ => rfl))))⟩
  obtain ⟨as, fds, ps, m1, m2, m3, m4, m5⟩ := ((gl none).defs 8 (by show 8 ∈ [24, 23, 22, 21, 19, 18, 17, 9, 8, 7, 6, 1, 5, 2, 3, 4, 0]; decide)).ex
  have c0 := (dk none).toCok
  have hbod : defBody s_law = (defBody s_law).headD (.Pass ⟨0, 0, 0, 0⟩) :: (defBody s_law).tail := rfl
  rw [hbod]
  have rest : PSs (cxOf (L2N.CX P w) P w K mg base n_law "law" (defScope s_law) f (.ref cc) A outer s H E) (defBody s_law).tail (fun De σ H => ∃ p, RS ((kitL K C [(Pt, qLam)] (some p)).at 17 [24, 23, 22, 21, 19, 18, 17, 9, 8, 7, 6, 1, 5, 2, 3, 4, 0]) E b_law De σ H) := by
    refine ⟨fun pins s' σ H' De I ⟨p, hp⟩ => ?_⟩
    exact (sSs b_law (dk (some p)) (fun _ => told (some p)) (show mtSs (sta [24, 23, 22, 21, 19, 18, 17, 9, 8, 7, 6, 1, 5, 2, 3, 4, 0]) n_law true (defScope s_law) b_law (defBody s_law).tail = true by decide +kernel)).run pins s' σ H' De I hp
  refine ⟨_, pss_cons (ps_set (i := 1) f_law.nd rfl (.inl rfl) (pe_lst (pa_cons (pe_callG hg m5 c0.room (by rfl) m1 m2 m3 (L2N.passes_call (E := E) c0.tk fun _ _ _ _ z => z) (pa_cons (pe_var (i := 0) (x := "script") rfl (.inl rfl) (by decide) (by decide)) pa_nil)) (pa_cons pe_int pa_nil)))) rest, ?_⟩
  have wd0 : Wd ((kitL K C [(Pt, qLam)] none).at 17 [24, 23, 22, 21, 19, 18, 17, 9, 8, 7, 6, 1, 5, 2, 3, 4, 0]) H (noTab H) 0 := ⟨noTab_le H, fun b ps => noTab_nt H b ps, hT, fun b hb => by cases hb⟩
  refine ⟨.ref a, rfl, ⟨rfl, noTab H, 0, [scrD (ns.map .int)], (fun d _ => ∃ ms, NumsOk ms ∧ d = .list (ms.map .int)), (fun _ _ => False), wd0, .cons (.scr (noTab_sq hS) (RpA.ofInts ns)) .nil, ⟨ns, rfl, hl, fun ms hm => ⟨ms, hm, rfl⟩⟩, ?_, fun _ _ _ _ z => z.elim⟩⟩
  rintro d n1 v H1 F1 ⟨ms, hm, rfl⟩ wd1 fr1 rv
  cases rv with
  | @lst na xs _ hna ra =>
  have exs := ra.ints (intsOf_map ms)
  subst exs
  refine ⟨le_line (by simp), fun p hp => ?_⟩
  have lp : Le H1 (upd H1 p (.lst [.ref na, .int 0])) := Le.upd hp
  refine ⟨p, upd H1 p (.lst [.ref na, .int 0]), F1, [.un, .v sttD, .un, .un, .un, .un, .un, .un, .un, .un, .un, .un, .un, .un, .un, .un, .un, .un], F1, 0, _, ⟨rfl, ⟨wd1.le.trans lp, wd1.nt, wd1.tab.ext lp, fun b hb => ?_⟩, Fr.refl, fun i => ?_, fun i j es es' b _ e => ?_⟩, semLaw .un, ?_⟩
  · cases hb
    exact ⟨wd1.le.free hp, na, ms, 0, upd_same, hna, hm.1, hm.2.1, hm.2.2, by decide, by decide⟩
  · match i with
    | 0 => trivial
    | 1 => exact ⟨.ref p, rfl, .stt rfl⟩
    | 2 => trivial
    | 3 => trivial
    | 4 => trivial
    | 5 => trivial
    | 6 => trivial
    | 7 => trivial
    | 8 => trivial
    | 9 => trivial
    | 10 => trivial
    | 11 => trivial
    | 12 => trivial
    | 13 => trivial
    | 14 => trivial
    | 15 => trivial
    | 16 => trivial
    | 17 => trivial
    | i + 18 => trivial
  · exfalso
    match i with
    | 0 => cases e
    | 1 => cases e
    | 2 => cases e
    | 3 => cases e
    | 4 => cases e
    | 5 => cases e
    | 6 => cases e
    | 7 => cases e
    | 8 => cases e
    | 9 => cases e
    | 10 => cases e
    | 11 => cases e
    | 12 => cases e
    | 13 => cases e
    | 14 => cases e
    | 15 => cases e
    | 16 => cases e
    | 17 => cases e
    | i + 18 => cases e
  · refine ⟨fun e n' σ' H' F' q _ _ => (nomatch (show PyData.none = PyData.bool true from q)), fun d n' v H' F' q _ _ rv => ?_, fun _ _ _ _ _ q => q.elim, fun _ _ _ _ _ q => q.elim, fun _ _ _ _ q => q.elim⟩
    have q : d = .bool true := q
    subst q
    cases rv
    exact hq H'
end
/-- what the walk asks of the head -/
theorem atL {l : PySem.W.OpenLaw} {w : World} {K : PySem.W.Frag} {mg : Str → Option Value} {fa : Addr} {h : Heap} (X : K.In h) (G : h.Ns mainGlobals mg) (hfa : mg "law" = some (.ref fa)) (hd : HeadL K h)
    (c0 : ∃ t, mg "MAX_BASE" = some (.int 12 t)) (c1 : ∃ t, mg "MAX_DIGIT" = some (.int 20 t)) (c2 : ∃ t, mg "MAX_LENGTH" = some (.int 24 t)) (c3 : ∃ t, mg "MAX_CARRY" = some (.int 3 t)) : LawAtG l w K 40 63 "script" mg fa h := by
  obtain ⟨f, c, Pt, oc, od, kV, doc, pm, an, ct, sl, t, a, lk, hcd, k, ch, n⟩ := hd.dl.ex
  obtain ⟨N, C, ec⟩ := hd.ec.ex
  cases hfa.symm.trans (PySem.W.mg_of X G a)
  refine ⟨_, [(c, Pt)], spLaw K [(Pt, qLam)], fun p hp => ?_, fun p hp => ?_, fun p hp => ?_, fun s u => .of_eq rfl, fun H b ns hl _ hH _ hS => ⟨b, ns, rfl, hS, hl, fun p hp => ?_, fun _ => rfl⟩, fun base hK hns TB => lawL X G hd ec c0 c1 c2 c3 lk hcd (TB (c, Pt) (List.mem_singleton.mpr rfl))⟩
  · rw [List.mem_singleton.mp hp]; exact t
  · rw [List.mem_singleton.mp hp]; exact n
  · rw [List.mem_singleton.mp hp]; exact PySem.W.codeHd_of_K X ch
  · rw [List.mem_singleton.mp hp]
    exact LamX.TabS.nil (hH (c, Pt) (List.mem_singleton.mpr rfl))
end DD



set_option Elab.async false
set_option linter.all false
set_option maxRecDepth 100000
open PySem PySem.W PyProof.Rows
set_option maxRecDepth 100000 in
set_option maxHeartbeats 8000000 in
theorem PySem.Challenge.cw_nearestkind_k56_whole_sums_without_waiti_holds : PySem.Challenge.rw_nearestkind_k56_whole_sums_without_waiti.Holds := by
  w_on; o_law; k_head; (case hw => w_witness2)
  k_fill
  refine DD.walkG (l := PySem.Challenge.rw_nearestkind_k56_whole_sums_without_waiti) (n := 63) (k := 40) (x := "script") rfl (by decide) rfl ⟨rfl, by decide, by decide⟩ (fun w h Y => PySem.W.km_in_of Y) ?F
  case F =>
    intro w mg fa h GC GX Y KX G hmg
    refine DD.atL KX G hmg ?hdd ?mx0 ?mx1 ?mx2 ?mx3
    case mx0 =>
      obtain ⟨v, a, b⟩ := GC "MAX_BASE" (.int 12) rfl
      have b := b h
      cases b
      exact ⟨_, a⟩
    case mx1 =>
      obtain ⟨v, a, b⟩ := GC "MAX_DIGIT" (.int 20) rfl
      have b := b h
      cases b
      exact ⟨_, a⟩
    case mx2 =>
      obtain ⟨v, a, b⟩ := GC "MAX_LENGTH" (.int 24) rfl
      have b := b h
      cases b
      exact ⟨_, a⟩
    case mx3 =>
      obtain ⟨v, a, b⟩ := GC "MAX_CARRY" (.int 3) rfl
      have b := b h
      cases b
      exact ⟨_, a⟩
    case hdd =>
      refine' DD.HeadL.mk ?d0 ?d1 ?d2 ?d3 ?d4 ?d5 ?d6 ?d7 ?d8 ?d9 ?d10 ?d17 ?d18 ?d19 ?d21 ?d22 ?d23 ?d24 ?dl ?ec ?bl
      (case d0 => ((refine' DD.DefK.mk' ?a_4 ?l_4 ?c_4 ?k_4; (case a_4 => k_is); (case l_4 => k_is); (case c_4 => k_is); (case k_4 => k_is))))
      (case d1 => ((refine' DD.DefK.mk' ?a_5 ?l_5 ?c_5 ?k_5; (case a_5 => k_is); (case l_5 => k_is); (case c_5 => k_is); (case k_5 => k_is))))
      (case d2 => ((refine' DD.DefK.mk' ?a_6 ?l_6 ?c_6 ?k_6; (case a_6 => k_is); (case l_6 => k_is); (case c_6 => k_is); (case k_6 => k_is))))
      (case d3 => ((refine' DD.DefK.mk' ?a_7 ?l_7 ?c_7 ?k_7; (case a_7 => k_is); (case l_7 => k_is); (case c_7 => k_is); (case k_7 => k_is))))
      (case d4 => ((refine' DD.DefK.mk' ?a_8 ?l_8 ?c_8 ?k_8; (case a_8 => k_is); (case l_8 => k_is); (case c_8 => k_is); (case k_8 => k_is))))
      (case d5 => ((refine' DD.DefK.mk' ?a_9 ?l_9 ?c_9 ?k_9; (case a_9 => k_is); (case l_9 => k_is); (case c_9 => k_is); (case k_9 => k_is))))
      (case d6 => ((refine' DD.DefK.mk' ?a_10 ?l_10 ?c_10 ?k_10; (case a_10 => k_is); (case l_10 => k_is); (case c_10 => k_is); (case k_10 => k_is))))
      (case d7 => ((refine' DD.DefK.mk' ?a_11 ?l_11 ?c_11 ?k_11; (case a_11 => k_is); (case l_11 => k_is); (case c_11 => k_is); (case k_11 => k_is))))
      (case d8 => ((refine' DD.DefK.mk' ?a_12 ?l_12 ?c_12 ?k_12; (case a_12 => k_is); (case l_12 => k_is); (case c_12 => k_is); (case k_12 => k_is))))
      (case d9 => ((refine' DD.DefK.mk' ?a_13 ?l_13 ?c_13 ?k_13; (case a_13 => k_is); (case l_13 => k_is); (case c_13 => k_is); (case k_13 => k_is))))
      (case d10 => ((refine' DD.DefK.mk' ?a_14 ?l_14 ?c_14 ?k_14; (case a_14 => k_is); (case l_14 => k_is); (case c_14 => k_is); (case k_14 => k_is))))
      (case d17 => ((refine' DD.DefK.mk' ?a_15 ?l_15 ?c_15 ?k_15; (case a_15 => k_is); (case l_15 => k_is); (case c_15 => k_is); (case k_15 => k_is))))
      (case d18 => ((refine' DD.DefK.mk' ?a_16 ?l_16 ?c_16 ?k_16; (case a_16 => k_is); (case l_16 => k_is); (case c_16 => k_is); (case k_16 => k_is))))
      (case d19 => ((refine' DD.DefK.mk' ?a_17 ?l_17 ?c_17 ?k_17; (case a_17 => k_is); (case l_17 => k_is); (case c_17 => k_is); (case k_17 => k_is))))
      (case d21 => ((refine' DD.DefK.mk' ?a_18 ?l_18 ?c_18 ?k_18; (case a_18 => k_is); (case l_18 => k_is); (case c_18 => k_is); (case k_18 => k_is))))
      (case d22 => ((refine' DD.DefK.mk' ?a_19 ?l_19 ?c_19 ?k_19; (case a_19 => k_is); (case l_19 => k_is); (case c_19 => k_is); (case k_19 => k_is))))
      (case d23 => ((refine' DD.DefK.mk' ?a_20 ?l_20 ?c_20 ?k_20; (case a_20 => k_is); (case l_20 => k_is); (case c_20 => k_is); (case k_20 => k_is))))
      (case d24 => ((refine' DD.DefK.mk' ?a_21 ?l_21 ?c_21 ?k_21; (case a_21 => k_is); (case l_21 => k_is); (case c_21 => k_is); (case k_21 => k_is))))
      (case dl => (refine' DD.LawK.mk' (PySem.W.km_tabs_of Y _ (List.mem_cons_self ..)) ?a ?l ?c ?k ?hd ?n; (case a => k_is); (case l => k_is); (case c => k_is); (case k => k_is); (case hd => first | k_is | exact rfl); (case n => first | k_is | exact rfl)))
      (case ec => (refine' DD.ExcKS.mk' ?nN ?n0 ?n1 ?n2 ?n3 ?n4 ?x0 ?x1 ?x2; (case nN => k_is); (case n0 => k_is); (case n1 => k_is); (case n2 => k_is); (case n3 => k_is); (case n4 => k_is); (case x0 => ((refine' DD.ExcK1.mk ?e1_1 ?e2_1 ?e3_1 ?e4_1 ?e5_1 ?hg_1 ?hk_1 ?hd_1 ?ha_1 ?hn_1 ?ht_1 ?hm_1 ?i0_1 ?i1_1 ?i2_1 ?i3_1 ?i4_1 <;> (try simp only [DD.cF]) <;> first | k_is | k_exc | exact rfl))); (case x1 => ((refine' DD.ExcK1.mk ?e1_2 ?e2_2 ?e3_2 ?e4_2 ?e5_2 ?hg_2 ?hk_2 ?hd_2 ?ha_2 ?hn_2 ?ht_2 ?hm_2 ?i0_2 ?i1_2 ?i2_2 ?i3_2 ?i4_2 <;> (try simp only [DD.cF]) <;> first | k_is | k_exc | exact rfl))); (case x2 => ((refine' DD.ExcK1.mk ?e1_3 ?e2_3 ?e3_3 ?e4_3 ?e5_3 ?hg_3 ?hk_3 ?hd_3 ?ha_3 ?hn_3 ?ht_3 ?hm_3 ?i0_3 ?i1_3 ?i2_3 ?i3_3 ?i4_3 <;> (try simp only [DD.cF]) <;> first | k_is | k_exc | exact rfl)))))
      (case bl => refine' DD.BltK.mk ?b0 ?b1 ?b2 ?b3 ?b4 ?b5 ?b6 ?b7 ?b8 ?b9 ?b10 ?b11 ?b12 ?b13 ?b14 ?b15 ?b16 <;> k_is)


