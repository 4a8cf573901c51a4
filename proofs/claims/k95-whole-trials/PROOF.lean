import PyProof.Rows.All
import Wide.All
import OpenK.AllK
import Wide.FinOn
import HandS.ForMost
import HandS.Evl
import HandS.Exc
import HandS.ExcOwn
import HandS.Codes
import HandS.TryMany
import HandS.CallSlots
import HandS.Lambda
import HandS.Finally
import HandS.Deep
import HandS.Star
import HandS.TupAny
import HandS.IsInst
import HandS.Property
import HandS.ExcValue
import PyProof.CodeObjX
import HandS.HotCalls
import KE.DatumOrd
import KE.DatumMore
import KE.DatumIndex
import PyProof.ReprLen
import PyProof.ReprRoads
import PyProof.StrLawsRepr
import HandS.ExcField
import HandS.ExcIs
import KE.KExcIs
import KE.KSuper
import KE.KExcSuper
import HandS.ExcInit
import HandS.RaiseOp
import HandS.Flow
import HandS.Zip
import HandS.Iter
import HandS.Steps
import HandS.Conv
import HandS.Style
import HandS.Sort
import HandS.EndTab
import HandS.Words
import HandS.Dict
import HandS.Small
import HandS.More
import HandS.WordsExc
import HandS.CallLocal
import PyProof.ListRange
import KE.KNestM
import PySem.Challenge.RW_deedpiles_k95_whole_trials_and_copies
set_option Elab.async false
set_option linter.all false
set_option maxRecDepth 100000
set_option maxHeartbeats 4000000
/-! KR1: lambdas as values: made (the maker's code table grows), tracked with their cells, called elsewhere. -/
namespace K95
open PySem PySem.Spec PyProof.Rows L2
/-- what H knows and keeps: hard things never change -/
def Hard : HO → Prop
  | .tup _ => True
  | .frz _ _ => True
  | .own _ => True
  | .ext _ => True
  | _ => False
/-- a thing that stands as the object o, and is never written -/
abbrev Std (o : Obj) : HO := .frz o (.own 0)
theorem std_ok {Pg : Program} {w : World} {H : Hp} {h : Heap} {a : Addr} {o : Obj} (e : h.get? a = some o) : ObjOk Pg w H h a (Std o) := ⟨e, ⟨o, e⟩⟩
/-- a code object of the name q at c, its own table at P -/
def CodeF (oc : Obj) (c P : Addr) (q : Str) : Prop := ∀ h : Heap, h.get? c = some oc → PySem.W.CodeHd h c P ∧ h.CodeRec (.ref c) q
def CodeAt (H : Hp) (c P : Addr) (q : Str) : Prop := ∃ oc, H c = some (Std oc) ∧ CodeF oc c P q
theorem codeF_of {h : Heap} {c P : Addr} {q : Str} (a : PySem.W.CodeHd h c P) (b : h.CodeRec (.ref c) q) : ∃ oc, h.get? c = some oc ∧ CodeF oc c P q := by
  obtain ⟨o, vs, file, tf, flags, tg, inF, text, tt, e, r⟩ := a
  obtain ⟨c', o', vs', t, e1, e2, r'⟩ := b
  cases e1
  rw [e] at e2
  cases e2
  exact ⟨o, e, fun h' e' => ⟨⟨o, vs, file, tf, flags, tg, inF, text, tt, e', r⟩, ⟨c, o, vs', t, rfl, e', r'⟩⟩⟩
/-- a lambda at f -/
abbrev lamObj (q : Str) (params : Arguments) (body : Expr) (scope : Scope) (clos : List (Str × Addr)) (c : Addr) (pm ctv : Value) : Obj := PySem.W.kla_obj "<lambda>" q params body scope clos pm c ctv
def LamAt (H : Hp) (f : Addr) (q : Str) (params : Arguments) (body : Expr) (scope : Scope) (clos : List (Str × Addr)) (c : Addr) : Prop := ∃ pm ctv, H f = some (Std (lamObj q params body scope clos c pm ctv))
/-- a cell at c that holds v -/
def CellAt (H : Hp) (c : Addr) (v : V) : Prop := ∃ o u, H c = some (Std o) ∧ o.data = .cell (some u) ∧ RelV v u
/-- the table at P holds code objects of the name q; down to n levels their own tables do so too -/
def TabT (H : Hp) : Nat → Addr → Str → Prop
  | 0, P, q => ∃ ps : Array Value, H P = some (.tbl ps) ∧ TriplesOk ps.toList ∧ ∀ (pos : Pos) (cv : Value), codeAmong pos ps.toList = some cv → ∃ c P', cv = .ref c ∧ CodeAt H c P' q
  | n + 1, P, q => ∃ ps : Array Value, H P = some (.tbl ps) ∧ TriplesOk ps.toList ∧ ∀ (pos : Pos) (cv : Value), codeAmong pos ps.toList = some cv →
      ∃ c P', cv = .ref c ∧ CodeAt H c P' q ∧ P' ≠ P ∧ TabT H n P' (q ++ ".<locals>." ++ "<lambda>")
section
variable {X : Cx} {pins : List (Addr × Obj)} {σ : L2.St} {H : Hp} {s : Shared}
/-- a thing of ours that stands already is tracked from now on -/
theorem inv_track {a : Addr} {o : HO} (I : Inv X pins σ H s) (na : H a = none) (h0 : ∀ o, X.s_0.heap.get? a ≠ some o) (hL : a ≠ X.env.locals) (hc : ∀ x c, X.env.cells.lookup x = some c → c ≠ a)
    (hp : ∀ p ∈ X.pn ++ pins, p.1 ≠ a) (ok : ObjOk X.prog X.w (upd H a o) s.heap a o) : Inv X pins σ (upd H a o) s := by
  have at_ : ∀ {b : Addr} {u : HO}, H b = some u → upd H a o b = some u := fun {b u} e => by
    rw [upd_ne (ne_of_none e na)]
    exact e
  have no_ : ∀ {b : Addr}, b ≠ a → H b = none → upd H a o b = none := fun {b} hb e => by
    rw [upd_ne hb]
    exact e
  refine ⟨I.ok, I.os, I.bare, ⟨I.base.keep, I.base.slot, fun b ob e n hx => ?_, I.base.there, fun b xs e => at_ (I.base.tups b xs e), fun b ob u e => at_ (I.base.frzs b ob u e), fun b ps e => ?_⟩, I.loc, I.cell, no_ (Ne.symm hL) I.free,
    fun x c e => no_ (hc x c e) (I.freeC x c e), fun p hq => ?_, fun b u e => ?_, I.len⟩
  · exact no_ (fun z => h0 ob (z ▸ e)) (I.base.free b ob e n hx)
  · obtain ⟨more, q⟩ := I.base.tbls b ps e
    exact ⟨more, at_ q⟩
  · obtain ⟨e, n, r⟩ := I.pin p hq
    exact ⟨e, no_ (hp p hq) n, r⟩
  · by_cases hb : b = a
    · subst hb
      rw [upd_same] at e
      cases e
      exact ok
    · rw [upd_ne hb] at e
      exact (I.hok b u e).stay (fun _ _ _ q => q) (fun _ q => at_ q) fun _ _ q => at_ q
/-- .. a thing that was laid since some state of ours -/
theorem inv_track' {a : Addr} {o : HO} {s0 : Shared} {H0 : Hp} (I0 : Inv X pins σ H0 s0) (I : Inv X pins σ H s) (hn : s0.heap.objs.size ≤ a) (na : H a = none) (ok : ObjOk X.prog X.w (upd H a o) s.heap a o) : Inv X pins σ (upd H a o) s := by
  refine inv_track I na (fun o e => absurd (Nat.lt_of_lt_of_le (Heap.lt_size e) (Nat.le_trans I0.sz hn)) (Nat.lt_irrefl _)) (Nat.ne_of_gt (Nat.lt_of_lt_of_le I0.lt hn)) (fun x c e z => ?_) (fun p hp z => ?_) ok
  · obtain ⟨v, q⟩ := I0.cell x c e
    exact absurd (Nat.lt_of_lt_of_le q.lt (z ▸ hn)) (Nat.lt_irrefl _)
  · exact absurd (Nat.lt_of_lt_of_le (Heap.lt_size (I0.pin p hp).1) (z ▸ hn)) (Nat.lt_irrefl _)
/-- a tracked table has grown, and there may be new things -/
theorem inv_grown {P : Addr} {ps more : Array Value} {h' : Heap} {t' : Nat} (I : Inv X pins σ H s) (hP : H P = some (.tbl ps)) (k : ∀ b o, b ≠ P → s.heap.get? b = some o → h'.get? b = some o)
    (hm : h'.get? P = some { cls := .none, data := .fields (ps ++ more) }) : Inv X pins σ (upd H P (.tbl (ps ++ more))) { s with heap := h', toks := t' } := by
  have off : ∀ {b : Addr} {u : HO}, H b = some u → (∀ q, u ≠ .tbl q) → b ≠ P := fun {b u} e q z => by
    rw [z, hP] at e
    exact q ps (Option.some.inj e).symm
  have offN : ∀ {b : Addr}, H b = none → b ≠ P := fun {b} e z => by
    rw [z, hP] at e
    cases e
  have hard : ∀ {b : Addr} {u : HO}, H b = some u → (∀ q, u ≠ .tbl q) → upd H P (.tbl (ps ++ more)) b = some u := fun {b u} e q => by
    rw [upd_ne (off e q)]
    exact e
  refine I.step (g' := s.gens) (d' := s.drawn) (ch := []) (fun b hb => nomatch hb) (fun b o _ _ _ e n => k b o (offN n) e) (fun b o _ _ _ e n => ⟨o.slots, k b o (offN n) e⟩) (fun b o _ e n => by rw [upd_ne (offN n)]; exact n) (fun b o _ e => ?_)
    (fun b xs e => hard e fun q z => by cases z) (fun b o u e => hard e fun q z => by cases z) (fun b qs e => ?_) (fun m hn => ?_) (fun b u e => ?_) I.bare
  · by_cases hb : b = P
    · subst hb
      exact ⟨_, hm⟩
    · exact ⟨o, k b o hb e⟩
  · by_cases hb : b = P
    · subst hb
      rw [hP] at e
      cases e
      exact ⟨more, upd_same⟩
    · exact ⟨#[], by rw [upd_ne hb, e]; simp⟩
  · obtain ⟨ob, es, ep, ho, r⟩ := hn
    exact ⟨ob, es, ep, k _ ob (offN I.free) ho, r⟩
  · by_cases hb : b = P
    · subst hb
      rw [upd_same] at e
      cases e
      exact hm
    · rw [upd_ne hb] at e
      refine (I.hok b u e).stay (fun d v hd q => k d v ?_ q) (fun d q => hard q fun q z => by cases z) fun d xs q => hard q fun q z => by cases z
      rcases hd with z | z
      · rw [z]; exact hb
      · exact off z fun q z => by cases z
end
/-! ### making one -/
section
variable {X : Cx} {pins : List (Addr × Obj)} {σ : L2.St} {H : Hp} {s : Shared}
/-- the ways a lambda's making leaves the abstract heap -/
inductive LamLeft (P : Addr) (pos : Pos) (q : Str) (lam : Addr → Obj → Prop) (H : Hp) : Addr → Addr → Addr → Hp → Prop
  | new {f c P' : Addr} {ps : Array Value} {oc ol : Obj} : H P = some (.tbl ps) → TriplesOk ps.toList → codeAmong pos ps.toList = none → H c = none → H P' = none → H f = none → c ≠ P' → f ≠ c → f ≠ P' → CodeF oc c P' q → lam c ol →
      LamLeft P pos q lam H f c P' (upd (upd (upd (upd H P (.tbl (ps ++ #[rawInt pos.line, rawInt pos.col, .ref c]))) c (Std oc)) P' (.tbl #[])) f (Std ol))
  | old {f c P' : Addr} {ps : Array Value} {ol : Obj} : H P = some (.tbl ps) → codeAmong pos ps.toList = some (.ref c) → CodeAt H c P' q → H f = none → lam c ol → LamLeft P pos q lam H f c P' (upd H f (Std ol))
/-- the lambda made at a place of the maker's text: the maker's code object is c₀, its table at P -/
theorem lam_make3 {n : Nat} {c₀ P : Addr} {params : Arguments} {body : Expr} {scope : Scope} {pos : Pos} {E : Value → Shared → Prop} {Q : Value → Shared → Prop} (I : Inv X pins σ H s) (C : PySem.W.CodeHd s.heap c₀ P) (bP : s.heap.BuiltinsAt X.mg P) (gP : mainGlobals ≠ P) (hcode : X.env.code = .ref c₀)
    (T : TabT H n P (X.env.qual ++ "<lambda>")) (hdef : defaultsOf params X.env = ([], [])) (hfree : ∀ y ∈ scope.names, y.2 = .free → ∃ c, X.env.cells.lookup y.1 = some c)
    (h : ∀ (f c P' : Addr) (H1 : Hp) (s' : Shared), Inv X pins σ H1 s' → LamLeft P pos (X.env.qual ++ "<lambda>") (fun c ol => ∃ pm ctv, ol = lamObj (X.env.qual ++ "<lambda>") params body scope (cloFrom X.env.cells scope.names []) c pm ctv) H f c P' H1 → f ∉ frs X.stack → Q (.ref f) s') :
    wpAny (model X.prog X.w) X.A (eval (.Lambda params body scope pos) X.env) Q E s := by
  obtain ⟨ps, hP, ht, ha⟩ : ∃ ps : Array Value, H P = some (.tbl ps) ∧ TriplesOk ps.toList ∧ ∀ (pos : Pos) (cv : Value), codeAmong pos ps.toList = some cv → ∃ c P', cv = .ref c ∧ CodeAt H c P' (X.env.qual ++ "<lambda>") := by
    cases n with
    | zero => exact T
    | succ n =>
      obtain ⟨ps, a, b, c⟩ := T
      refine ⟨ps, a, b, fun pos cv e => ?_⟩
      obtain ⟨c', P', x, y, _⟩ := c pos cv e
      exact ⟨c', P', x, y⟩
  have hPs : s.heap.get? P = some { cls := .none, data := .fields ps } := I.hok P _ hP
  have far : ∀ {f : Addr}, s.heap.objs.size ≤ f → f ∉ frs X.stack := fun {f} hf z => by
    rcases List.mem_cons.mp (I.stkSub _ z) with e | e
    · exact absurd (Nat.lt_of_lt_of_le I.lt (e ▸ hf)) (Nat.lt_irrefl _)
    · exact I.nofs hf e
  refine PySem.W.kla_eval hdef ?_
  rw [makeFunction_eq]
  simp only [List.zip_nil_right, List.filterMap_nil, List.isEmpty_nil, if_true, pure_bind]
  cases hc : codeAmong pos ps.toList with
  | some cv =>
    obtain ⟨c, P', e, hco⟩ := ha pos cv hc
    subst e
    refine PySem.W.kla_makeTailHit (mg := X.mg) (c := c₀) (P := P) (ps := ps) (closure_ok hfree) I.ok.glob (I.mod.glob.keeps I.bk) hcode C hPs ht hc bP fun ctv h' tk hx hsz => ?_
    have nf : H h'.objs.size = none := I.hok.fresh hsz
    refine h h'.objs.size c P' _ _ (I.laid (t' := tk) (o := Std (lamObj (X.env.qual ++ "<lambda>") params body scope (cloFrom X.env.cells scope.names []) c ((X.mg "__name__").getD .none) ctv)) (fun b o e => Heap.get?_push_of_some _ (hx b o e)) hsz (std_ok (Heap.get?_push_size _ rfl))) (.old hP hc hco nf ⟨_, _, rfl⟩) (far hsz)
  | none =>
    obtain ⟨bm, ob, hbm, hne0, _, hneP, hbo, hcls, hdict, hdata⟩ := id bP
    have glob := I.mod.glob.keeps I.bk
    -- behind the code object's making: h1 the heap ahead of it
    have fin : ∀ (h1 : Heap) (ctv : Value) (c P' : Addr) (h' : Heap) (tk : Nat), (∀ b o, s.heap.get? b = some o → h1.get? b = some o) → s.heap.objs.size ≤ h1.objs.size → Heap.ExtBut P h1 h' → h1.objs.size ≤ c → c < h'.objs.size → h'.CodeRec (.ref c) (X.env.qual ++ "<lambda>") →
        h'.get? P = some (PySem.W.tabObj (ps ++ #[rawInt pos.line, rawInt pos.col, .ref c])) → h1.objs.size ≤ P' → h'.IsCode c P' #[] → h'.TableAt c P' #[] →
        Q (.ref h'.objs.size) { s with heap := h'.push (PySem.W.kla_obj "<lambda>" (X.env.qual ++ "<lambda>") params body scope (cloFrom X.env.cells scope.names []) ((X.mg "__name__").getD .none) c ctv), toks := tk } := by
      intro h1 ctv c P' h' tk k1 z1 hx hge hlt hrec htb hge' ic ta
      have hc1 : s.heap.objs.size ≤ c := Nat.le_trans z1 hge
      have hP1 : s.heap.objs.size ≤ P' := Nat.le_trans z1 hge'
      have hf1 : s.heap.objs.size ≤ h'.objs.size := Nat.le_of_lt (Nat.lt_of_le_of_lt hc1 hlt)
      have hPlt : P' < h'.objs.size := Heap.lt_size ta.2
      have nc := I.hok.fresh hc1
      have nP' := I.hok.fresh hP1
      have nf := I.hok.fresh hf1
      have ch : PySem.W.CodeHd h' c P' := PySem.W.CodeHd.of ic ta
      have ncP' : c ≠ P' := by
        obtain ⟨_, _, _, _, _, _, _, _, _, _, _, _, _, _, _, _, _, _, z⟩ := ch
        exact z
      have nfc : h'.objs.size ≠ c := Nat.ne_of_gt hlt
      have nfP' : h'.objs.size ≠ P' := Nat.ne_of_gt hPlt
      have nPc : P ≠ c := ne_of_none hP nc
      have nPP' : P ≠ P' := ne_of_none hP nP'
      have nPf : P ≠ h'.objs.size := ne_of_none hP nf
      have up : ∀ b o, h'.get? b = some o → (h'.push (PySem.W.kla_obj "<lambda>" (X.env.qual ++ "<lambda>") params body scope (cloFrom X.env.cells scope.names []) ((X.mg "__name__").getD .none) c ctv)).get? b = some o := fun b o e => Heap.get?_push_of_some _ e
      have I1 := inv_grown (t' := tk) (more := #[rawInt pos.line, rawInt pos.col, .ref c]) I hP (fun b o hb e => up b o (hx b o hb (k1 b o e))) (up _ _ htb)
      obtain ⟨oc, hoc, hcf⟩ := codeF_of ch hrec
      have I2 := inv_track' (a := c) (o := Std oc) I I1 hc1 (by rw [upd_ne (Ne.symm nPc)]; exact nc) (std_ok (up _ _ hoc))
      have I3 := inv_track' (a := P') (o := .tbl #[]) I I2 hP1 (by rw [upd_ne (Ne.symm ncP'), upd_ne (Ne.symm nPP')]; exact nP') (up _ _ ta.2)
      have I4 := inv_track' (a := h'.objs.size) (o := Std (lamObj (X.env.qual ++ "<lambda>") params body scope (cloFrom X.env.cells scope.names []) c ((X.mg "__name__").getD .none) ctv)) I I3 hf1
        (by rw [upd_ne nfP', upd_ne nfc, upd_ne (Ne.symm nPf)]; exact nf) (std_ok (Heap.get?_push_size _ rfl))
      exact h _ c P' _ _ I4 (.new hP ht hc nc nP' nf ncP' nfc nfP' hcf ⟨_, _, rfl⟩) (far hf1)
    unfold makeTail
    rw [closure_ok hfree, I.ok.glob]
    refine wpAny_bind (wpAny_pure ?_)
    cases hcl : cloFrom X.env.cells scope.names [] with
    | nil =>
      rw [hcl] at fin
      simp only [List.isEmpty_nil, if_true]
      refine wpAny_bind (wpAny_pure (wpAny_bind (wpAny_functionCodeX hcode (C.code hPs ht) (C.tab hPs) hc fun c h' tk hx hge hlt _ hrec htb ⟨P', g1, g2, g3⟩ => ?_)))
      have hg' := glob.extBut hx gP
      refine wpAny_bind (wpAny_builtinsFor hg' hbm hne0 (hx _ _ hneP hbo) hcls hdict hdata (wpAny_bind (wpAny_nsGet hg' ?_)))
      exact wpAny_bind (wpAny_pure (wpAny_newObj_type (fin s.heap .none c P' h' tk (fun _ _ e => e) (Nat.le_refl _) hx hge hlt hrec htb.2 g1 g2 g3) (by size_fits)))
    | cons y r =>
      rw [hcl] at fin
      simp only [List.isEmpty_cons, Bool.false_eq_true, if_false]
      refine wpAny_bind (wpAny_newTextTuple ?_)
      refine wpAny_bind (wpAny_functionCodeX hcode ((C.keeps fun b o e => Heap.get?_push_of_some _ e).code (Heap.get?_push_of_some _ hPs) ht) ((C.keeps fun b o e => Heap.get?_push_of_some _ e).tab (Heap.get?_push_of_some _ hPs)) hc fun c h' tk hx hge hlt _ hrec htb ⟨P', g1, g2, g3⟩ => ?_)
      have hg' := (glob.push _).extBut hx gP
      refine wpAny_bind (wpAny_builtinsFor hg' hbm hne0 (hx _ _ hneP (Heap.get?_push_of_some _ hbo)) hcls hdict hdata (wpAny_bind (wpAny_nsGet hg' ?_)))
      exact wpAny_bind (wpAny_pure (wpAny_newObj_type (fin _ _ c P' h' tk (fun b o e => Heap.get?_push_of_some _ e) (by rw [Heap.size_push]; omega) hx hge hlt hrec htb.2 g1 g2 g3) (by size_fits)))
end
/-! ### cells tracked, and not -/
abbrev adr (cl : List (Str × Addr)) : List Addr := cl.map (·.2)
def hideC (H : Hp) (cl : List (Str × Addr)) : Hp := fun b => if b ∈ adr cl then none else H b
def showC (H0 H : Hp) (cl : List (Str × Addr)) : Hp := fun b => if b ∈ adr cl then H0 b else H b
theorem hideC_in {H : Hp} {cl : List (Str × Addr)} {b : Addr} (h : b ∈ adr cl) : hideC H cl b = none := if_pos h
theorem hideC_out {H : Hp} {cl : List (Str × Addr)} {b : Addr} (h : b ∉ adr cl) : hideC H cl b = H b := if_neg h
theorem showC_in {H0 H : Hp} {cl : List (Str × Addr)} {b : Addr} (h : b ∈ adr cl) : showC H0 H cl b = H0 b := if_pos h
theorem showC_out {H0 H : Hp} {cl : List (Str × Addr)} {b : Addr} (h : b ∉ adr cl) : showC H0 H cl b = H b := if_neg h
/-- all cells of cl stand as what they are -/
def StdAll (H : Hp) (cl : List (Str × Addr)) : Prop := ∀ b ∈ adr cl, ∃ o, H b = some (Std o)
theorem hideC_of {H : Hp} {cl : List (Str × Addr)} {b : Addr} {u : HO} (s : StdAll H cl) (e : H b = some u) (n : ∀ o, u ≠ Std o) : hideC H cl b = some u := by
  by_cases hb : b ∈ adr cl
  · obtain ⟨o, q⟩ := s b hb
    rw [q] at e
    exact absurd (Option.some.inj e).symm (n o)
  · rw [hideC_out hb]; exact e
theorem hideC_back {H : Hp} {cl : List (Str × Addr)} {b : Addr} {u : HO} (e : hideC H cl b = some u) : b ∉ adr cl ∧ H b = some u := by
  by_cases hb : b ∈ adr cl
  · rw [hideC_in hb] at e; cases e
  · rw [hideC_out hb] at e; exact ⟨hb, e⟩
section
variable {Pg : Program} {w : World} {K : PySem.W.Frag} {mg : Str → Option Value} {base : Heap} {A : Around} {outer : List Env} {s s' : Shared} {H H' : Hp} {cl : List (Str × Addr)}
theorem hok_hide (x : HOk Pg w H s.heap) (t : StdAll H cl) : HOk Pg w (hideC H cl) s.heap := fun b u e => by
  obtain ⟨_, e'⟩ := hideC_back e
  exact (x b u e').stay (fun _ _ _ q => q) (fun d q => hideC_of t q fun o z => by cases z) fun d xs q => hideC_of t q fun o z => by cases z
theorem env0_hide (e : Env0 Pg w K mg base A outer s H) (t : StdAll H cl) : Env0 Pg w K mg base A outer s (hideC H cl) := by
  have no : ∀ {b : Addr}, H b = none → hideC H cl b = none := fun {b} q => by
    by_cases hb : b ∈ adr cl
    · exact hideC_in hb
    · rw [hideC_out hb]; exact q
  exact ⟨e.frames, e.mod, fun b o q => ⟨(e.bs b o q).1, no (e.bs b o q).2⟩, e.bsz, e.funs, fun b hb => no (e.frf b hb), hok_hide e.hok t, e.bare⟩
/-- a call that ran without the cells, told with them -/
theorem cr_show {Q : VK} {E : XK} {r : Result} (e : Env0 Pg w K mg base A outer s H) (t : StdAll H cl)
    (h : CR (L2.CX Pg w) outer Pg w (hideC H cl) s (fun v H' => Q v (showC H H' cl)) (fun c d H' => E c d (showC H H' cl)) r s') : CR (L2.CX Pg w) outer Pg w H s Q E r s' := by
  have stood : ∀ b ∈ adr cl, ∃ o, H b = some (Std o) ∧ s.heap.get? b = some o ∧ b ∉ frs outer := fun b hb => by
    obtain ⟨o, q⟩ := t b hb
    refine ⟨o, q, (e.hok b _ q).1, fun z => ?_⟩
    rw [e.frf b z] at q
    cases q
  have none_ : ∀ {b : Addr}, H b = none → b ∉ adr cl := fun {b} q hb => by
    obtain ⟨o, z⟩ := t b hb
    rw [q] at z
    cases z
  have gone : ∀ {b : Addr}, H b = none → hideC H cl b = none := fun {b} q => by
    rw [hideC_out (none_ q)]; exact q
  -- what is told of a ground holds of it with the cells
  have hokS : ∀ (H' : Hp) (G : Heap), HOk Pg w H' G → (∀ b ∈ adr cl, ∀ o, H b = some (Std o) → G.get? b = some o) → (∀ b ∈ adr cl, H' b = none) → HOk Pg w (showC H H' cl) G := fun H' G x k n b u q => by
    have at_ : ∀ {d : Addr} {u : HO}, H' d = some u → showC H H' cl d = some u := fun {d u} r => by
      by_cases hd : d ∈ adr cl
      · rw [n d hd] at r; cases r
      · rw [showC_out hd]; exact r
    by_cases hb : b ∈ adr cl
    · rw [showC_in hb] at q
      obtain ⟨o, z, _, _⟩ := stood b hb
      rw [z] at q
      cases q
      exact std_ok (k b hb o z)
    · rw [showC_out hb] at q
      exact (x b u q).stay (fun _ _ _ r => r) (fun d r => at_ r) fun d xs r => at_ r
  have tupS : ∀ (H' : Hp), (∀ b xs, hideC H cl b = some (.tup xs) → H' b = some (.tup xs)) → ∀ b xs, H b = some (.tup xs) → showC H H' cl b = some (.tup xs) := fun H' k b xs q => by
    have hb : b ∉ adr cl := fun hb => by
      obtain ⟨o, z⟩ := t b hb
      rw [q] at z
      cases z
    rw [showC_out hb]
    exact k b xs (by rw [hideC_out hb]; exact q)
  have frzS : ∀ (H' : Hp), (∀ b o u, hideC H cl b = some (.frz o u) → H' b = some (.frz o u)) → ∀ b o u, H b = some (.frz o u) → showC H H' cl b = some (.frz o u) := fun H' k b o u q => by
    by_cases hb : b ∈ adr cl
    · rw [showC_in hb]; exact q
    · rw [showC_out hb]
      exact k b o u (by rw [hideC_out hb]; exact q)
  have tblS : ∀ (H' : Hp), (∀ b ps, hideC H cl b = some (.tbl ps) → ∃ more, H' b = some (.tbl (ps ++ more))) → ∀ b ps, H b = some (.tbl ps) → ∃ more, showC H H' cl b = some (.tbl (ps ++ more)) := fun H' k b ps q => by
    have hb : b ∉ adr cl := fun hb => by
      obtain ⟨o, z⟩ := t b hb
      rw [q] at z
      cases z
    rw [showC_out hb]
    exact k b ps (by rw [hideC_out hb]; exact q)
  have freeS : ∀ (H' : Hp) (b : Addr), H b = none → H' b = none → showC H H' cl b = none := fun H' b q1 q2 => by
    rw [showC_out (none_ q1)]; exact q2
  cases r with
  | error x =>
    obtain ⟨a, B, H', cls, d, rfl, fl, hok, ub, na, os, ag, hE⟩ := h
    have keepC : ∀ b ∈ adr cl, ∀ o, H b = some (Std o) → B.get? b = some o := fun b hb o z => by
      obtain ⟨o', z', g, nf⟩ := stood b hb
      rw [z] at z'
      cases z'
      exact ub.keep b o g (hideC_in hb) nf
    refine ⟨a, B, showC H H' cl, cls, d, rfl, fl, hokS H' B hok keepC (fun b hb => ?_), ⟨fun b o e1 e2 e3 => ub.keep b o e1 (gone e2) e3, ub.slot, fun b o e1 e2 => freeS H' b e2 (ub.free b o e1 (gone e2)), ub.there, tupS H' ub.tups, frzS H' ub.frzs, tblS H' ub.tbls⟩, ?_, os, ag, hE⟩
    · obtain ⟨o, _, g, _⟩ := stood b hb
      exact ub.free b o g (hideC_in hb)
    · by_cases ha : a ∈ adr cl
      · obtain ⟨o, z, g, nf⟩ := stood a ha
        have q := keepC a ha o z
        rw [fl.2.1] at q
        cases q
      · rw [showC_out ha]; exact na
  | ok f =>
    cases f with
    | ret u =>
      obtain ⟨v, H', os, ag, un, hok, rv, q⟩ := h
      refine ⟨v, showC H H' cl, os, ag, ⟨fun b o e1 e2 e3 e4 => un.keep b o e1 (gone e2) e3 e4, fun b o e1 e2 e3 e4 => un.slot b o e1 (gone e2) e3 e4, fun b o e1 e2 e4 => freeS H' b e2 (un.free b o e1 (gone e2) e4), un.there, tupS H' un.tups, frzS H' un.frzs, tblS H' un.tbls⟩,
        hokS H' s'.heap hok (fun b hb o z => ?_) (fun b hb => ?_), rv, q⟩
      · obtain ⟨o', z', g, nf⟩ := stood b hb
        rw [z] at z'
        cases z'
        exact un.keep b o g (hideC_in hb) nf (fun z => nomatch z)
      · obtain ⟨o, _, g, _⟩ := stood b hb
        exact un.free b o g (hideC_in hb) (fun z => nomatch z)
    | next => exact h
    | brk => exact h
    | cont => exact h
/-- H1 is H with the cells of cl tracked -/
structure AddC (H : Hp) (cl : List (Str × Addr)) (H1 : Hp) : Prop where
  out : ∀ b, b ∉ adr cl → H1 b = H b
  inn : StdAll H1 cl
  new : ∀ b ∈ adr cl, H b = none
theorem addC_env0 {H1 : Hp} (a : AddC H cl H1) (e : Env0 Pg w K mg base A outer s H) (hs : ∀ b ∈ adr cl, ∀ o, H1 b = some (Std o) → s.heap.get? b = some o) (nf : ∀ b ∈ adr cl, b ∉ frs outer) (nb : ∀ b ∈ adr cl, base.get? b = none) : Env0 Pg w K mg base A outer s H1 := by
  have at_ : ∀ {d : Addr} {u : HO}, H d = some u → H1 d = some u := fun {d u} r => by
    by_cases hd : d ∈ adr cl
    · rw [a.new d hd] at r; cases r
    · rw [a.out d hd]; exact r
  refine ⟨e.frames, e.mod, fun b o q => ⟨(e.bs b o q).1, ?_⟩, e.bsz, e.funs, fun b hb => ?_, fun b u q => ?_, e.bare⟩
  · by_cases hb : b ∈ adr cl
    · rw [nb b hb] at q; cases q
    · rw [a.out b hb]; exact (e.bs b o q).2
  · by_cases hc : b ∈ adr cl
    · exact absurd hb (nf b hc)
    · rw [a.out b hc]; exact e.frf b hb
  · by_cases hb : b ∈ adr cl
    · obtain ⟨o, z⟩ := a.inn b hb
      rw [z] at q
      cases q
      exact std_ok (hs b hb o z)
    · rw [a.out b hb] at q
      exact (e.hok b u q).stay (fun _ _ _ r => r) (fun d r => at_ r) fun d xs r => at_ r
/-- a call that ran with the cells, told without them -/
theorem cr_hide {H1 : Hp} {Q : VK} {E : XK} {r : Result} (a : AddC H cl H1) (e1 : Env0 Pg w K mg base A outer s H1)
    (h : CR (L2.CX Pg w) outer Pg w H1 s (fun v H' => Q v (hideC H' cl)) (fun c d H' => E c d (hideC H' cl)) r s') : CR (L2.CX Pg w) outer Pg w H s Q E r s' := by
  have nt : ∀ {b : Addr} {u : HO}, H b = some u → b ∉ adr cl := fun {b u} q hb => by
    rw [a.new b hb] at q
    cases q
  have tupS : ∀ (H' : Hp), (∀ b xs, H1 b = some (.tup xs) → H' b = some (.tup xs)) → ∀ b xs, H b = some (.tup xs) → hideC H' cl b = some (.tup xs) := fun H' k b xs q => by
    rw [hideC_out (nt q)]
    exact k b xs (by rw [a.out b (nt q)]; exact q)
  have frzS : ∀ (H' : Hp), (∀ b o u, H1 b = some (.frz o u) → H' b = some (.frz o u)) → ∀ b o u, H b = some (.frz o u) → hideC H' cl b = some (.frz o u) := fun H' k b o u q => by
    rw [hideC_out (nt q)]
    exact k b o u (by rw [a.out b (nt q)]; exact q)
  have tblS : ∀ (H' : Hp), (∀ b ps, H1 b = some (.tbl ps) → ∃ more, H' b = some (.tbl (ps ++ more))) → ∀ b ps, H b = some (.tbl ps) → ∃ more, hideC H' cl b = some (.tbl (ps ++ more)) := fun H' k b ps q => by
    rw [hideC_out (nt q)]
    exact k b ps (by rw [a.out b (nt q)]; exact q)
  have freeS : ∀ (H' : Hp) (b : Addr), (H1 b = none → H' b = none) → H b = none → hideC H' cl b = none := fun H' b k q => by
    by_cases hb : b ∈ adr cl
    · exact hideC_in hb
    · rw [hideC_out hb]; exact k (by rw [a.out b hb]; exact q)
  have keepS : ∀ (H' : Hp) (G : Heap), (∀ b o, s.heap.get? b = some o → H1 b = none → b ∉ frs outer → G.get? b = some o) → (∀ b o u, H1 b = some (.frz o u) → H' b = some (.frz o u)) → HOk Pg w H' G → ∀ b o, s.heap.get? b = some o → H b = none → b ∉ frs outer → G.get? b = some o := fun H' G k f x b o g q n => by
    by_cases hb : b ∈ adr cl
    · obtain ⟨o', z⟩ := a.inn b hb
      have g' : s.heap.get? b = some o' := (e1.hok b _ z).1
      rw [g] at g'
      cases g'
      exact (x b _ (f b o _ z)).1
    · exact k b o g (by rw [a.out b hb]; exact q) n
  have std_ : ∀ (H' : Hp), (∀ b o u, H1 b = some (.frz o u) → H' b = some (.frz o u)) → StdAll H' cl := fun H' f b hb => by
    obtain ⟨o, z⟩ := a.inn b hb
    exact ⟨o, f b o _ z⟩
  cases r with
  | error x =>
    obtain ⟨ad, B, H', cls, d, rfl, fl, hok, ub, na, os, ag, hE⟩ := h
    refine ⟨ad, B, hideC H' cl, cls, d, rfl, fl, ?_, ⟨keepS H' B ub.keep ub.frzs hok, ub.slot, fun b o g q => freeS H' b (ub.free b o g) q, ub.there, tupS H' ub.tups, frzS H' ub.frzs, tblS H' ub.tbls⟩, ?_, os, ag, hE⟩
    · exact fun b u q => by
        obtain ⟨_, q'⟩ := hideC_back q
        exact (hok b u q').stay (fun _ _ _ q => q) (fun d q => hideC_of (std_ H' ub.frzs) q fun o z => by cases z) fun d xs q => hideC_of (std_ H' ub.frzs) q fun o z => by cases z
    · by_cases hb : ad ∈ adr cl
      · exact hideC_in hb
      · rw [hideC_out hb]; exact na
  | ok f =>
    cases f with
    | ret u =>
      obtain ⟨v, H', os, ag, un, hok, rv, q⟩ := h
      refine ⟨v, hideC H' cl, os, ag, ⟨fun b o g q n _ => keepS H' s'.heap (fun b o g q n => un.keep b o g q n (fun z => nomatch z)) un.frzs hok b o g q n, fun b o g q n _ => ?_, fun b o g q x => freeS H' b (fun z => un.free b o g z x) q, un.there, tupS H' un.tups, frzS H' un.frzs, tblS H' un.tbls⟩,
        hok_hide hok (std_ H' un.frzs), rv, q⟩
      by_cases hb : b ∈ adr cl
      · obtain ⟨o', z⟩ := a.inn b hb
        have z2 := e1.frf b n
        rw [z] at z2
        cases z2
      · exact un.slot b o g (by rw [a.out b hb]; exact q) n (fun z => nomatch z)
    | next => exact h
    | brk => exact h
    | cont => exact h
end
end K95
/-! KR2: the body of a lambda, its call from elsewhere, a def called with one. -/
namespace K95
open PySem PySem.Spec PyProof.Rows L2
/-! ### the names of a lambda -/
structure LamSc (scope : Scope) (N ps : List Str) : Prop where
  kind : scope.kind = .function
  co : scope.isCoroutine = false
  gen : scope.isGenerator = false
  nocell : ∀ y ∈ scope.names, y.2 ≠ .cell
  par : ∀ x ∈ ps, scope.names.lookup x = some .local
  one : ps = [] ∨ ∃ a, ps = [a]
  nd : N.Nodup
  loc : ∀ (i : Nat) (y : Str), N[i]? = some y → scope.names.lookup y = some .local → ps.length ≤ i → False ∨ True
def lamScB (scope : Scope) (N ps : List Str) : Bool :=
  decide (scope.kind = .function) && !scope.isCoroutine && !scope.isGenerator && scope.names.all (fun y => !decide (y.2 = .cell)) && ps.all (fun x => decide (scope.names.lookup x = some .local)) && decide (ps.length ≤ 1) && decide N.Nodup
theorem lamSc_by {scope : Scope} {N ps : List Str} (h : lamScB scope N ps = true) : LamSc scope N ps := by
  unfold lamScB at h
  simp only [Bool.and_eq_true, Bool.not_eq_true', decide_eq_true_eq, decide_eq_false_iff_not, List.all_eq_true] at h
  obtain ⟨⟨⟨⟨⟨⟨h1, h2⟩, h3⟩, h4⟩, h5⟩, h6⟩, h7⟩ := h
  refine ⟨h1, h2, h3, h4, h5, ?_, h7, fun _ _ _ _ _ => .inr trivial⟩
  match ps, h6 with
  | [], _ => exact .inl rfl
  | [a], _ => exact .inr ⟨a, rfl⟩
/-- captured cells -/
structure Clos (cl : List (Str × Addr)) (scope : Scope) : Prop where
  inj : ∀ x y c, (x, c) ∈ cl → (y, c) ∈ cl → x = y
  has : ∀ y, scope.names.lookup y = some .free → ∃ c, cl.lookup y = some c
theorem clos_of {X : Cx} {scope : Scope} (ok : X.Ok) (hfree : ∀ y ∈ scope.names, y.2 = .free → ∃ c, X.env.cells.lookup y.1 = some c) : Clos (cloFrom X.env.cells scope.names []) scope ∧ ∀ p ∈ cloFrom X.env.cells scope.names [], X.env.cells.lookup p.1 = some p.2 := by
  have mem : ∀ p ∈ cloFrom X.env.cells scope.names [], X.env.cells.lookup p.1 = some p.2 := fun ⟨n, c⟩ hp => by
    rcases cloFrom_mem hp with z | ⟨z, e⟩
    · cases z
    · obtain ⟨c', q⟩ := hfree _ z rfl
      have q : X.env.cells.lookup n = some c' := q
      rw [q] at e
      rw [show c = c' from e]
      exact q
  refine ⟨⟨fun x y c h1 h2 => ok.inj x y c (mem _ h1) (mem _ h2), fun y hy => ?_⟩, mem⟩
  exact mem_lookup (cloFrom_has (cells := X.env.cells) (acc := []) (PySem.mem_of_lookup hy))
/-- all cells of cl stand, tracked -/
def CellsOk (H : Hp) (cl : List (Str × Addr)) : Prop := ∀ b ∈ adr cl, ∃ o v, H b = some (Std o) ∧ o.data = .cell v
theorem CellsOk.std {H : Hp} {cl : List (Str × Addr)} (h : CellsOk H cl) : StdAll H cl := fun b hb => by
  obtain ⟨o, _, e, _⟩ := h b hb
  exact ⟨o, e⟩
/-- the context of a lambda's body -/
def lamX (P : Program) (w : World) (K : PySem.W.Frag) (mg : Str → Option Value) (base : Heap) (N : List Str) (q : Str) (scope : Scope) (f c : Addr) (cl : List (Str × Addr)) (A : Around) (outer : List Env) (s : Shared) (H : Hp) (E : XK) : Cx where
  prog := P
  w := w
  K := K
  mg := mg
  base := base
  A := A.deeper (PySem.W.envX q scope s.heap.objs.size f (.ref c) cl)
  N := N
  s_0 := s
  H_0 := H
  env := PySem.W.envX q scope s.heap.objs.size f (.ref c) cl
  outer := outer
  stack := PySem.W.envX q scope s.heap.objs.size f (.ref c) cl :: outer
  ex := []
  fn := fun _ => false
  calm := true
  pn := []
  xe := fun e s' => wpAny (model P w) (A.deeper (PySem.W.envX q scope s.heap.objs.size f (.ref c) cl)) (leaving (PySem.W.envX q scope s.heap.objs.size f (.ref c) cl) e) (fun _ s'' => L2.CX P w outer H s E e s'') (fun e' s'' => L2.CX P w outer H s E e' s'') s'
section
variable {Pg : Program} {w : World} {K : PySem.W.Frag} {mg : Str → Option Value} {base : Heap} {A : Around} {outer : List Env} {s : Shared} {H : Hp} {cl : List (Str × Addr)} {q : Str} {params : Arguments} {body : Expr} {scope : Scope} {f c P' : Addr} {N ps : List Str} {vs : List V} {us : List Value} {σ : L2.St}
/-- what the slots of the body hold: the arguments, then captured values -/
structure LamSt (H : Hp) (scope : Scope) (cl : List (Str × Addr)) (N ps : List Str) (vs : List V) (σ : L2.St) : Prop where
  len : σ.length = N.length
  arg : ∀ (i : Nat) (y : Str) (v : V), N[i]? = some y → σ[i]? = some (some v) → (ps[i]? = some y ∧ vs[i]? = some v) ∨ (scope.names.lookup y = some .free ∧ ∃ c, cl.lookup y = some c ∧ CellAt H c v)
theorem lam_start {E : XK} {h₁ : Heap} {tk : Nat} (S : LamSc scope N ps) (C : Clos cl scope) (e0 : Env0 Pg w K mg base A outer s H) (hd : A.handled = none) (ho : CellsOk H cl) (r : Vals vs us) (hn : vs.length = ps.length) (hσ : LamSt H scope cl N ps vs σ)
    (hns : h₁.Ns s.heap.objs.size fun y => (ps.zip us).reverse.lookup y) (kp : ∀ b o, s.heap.get? b = some o → h₁.get? b = some o) :
    Inv (lamX Pg w K mg base N q scope f c cl A outer s (hideC H cl) E) [] σ (hideC H cl) { s with heap := h₁, toks := tk } := by
  have e1 := env0_hide e0 ho.std
  have mem : ∀ {y : Str} {a : Addr}, cl.lookup y = some a → (y, a) ∈ cl := fun h => PySem.mem_of_lookup h
  have adr_ : ∀ {y : Str} {a : Addr}, cl.lookup y = some a → a ∈ adr cl := fun h => List.mem_map.mpr ⟨_, mem h, rfl⟩
  have noA : ∀ b : Addr, b ∉ ([] : List Addr) := fun b z => nomatch z
  refine ⟨⟨e1.mod, S.kind, rfl, rfl, Nat.le_refl _, fun x y a h1 h2 => C.inj x y a (mem h1) (mem h2), fun x hx => ?_, fun x a z _ => Bool.noConfusion (show false = true from z), fun _ => hd, Around.frames_deeper e1.frames, .inr ⟨rfl, rfl⟩, fun b z => absurd z (noA b), e1.bs, e1.bsz, fun b _ _ => noA b, fun b z => absurd z (noA b), e1.funs, e1.frf⟩,
    rfl, e1.bare, Un.kept kp, ⟨_, hns, fun i y v h1 h2 h3 => ?_⟩, fun x a h => ?_, e1.hok.fresh (Nat.le_refl _), fun x a h => hideC_in (adr_ h), fun p hp => absurd (show p ∈ ([] : List (Addr × Obj)) from hp) (fun z => nomatch z), e1.hok.kept kp, hσ.len⟩
  · have hx : scope.names.lookup x = some .cell ∨ scope.names.lookup x = some .free := hx
    rcases hx with hx | hx
    · exact absurd rfl (S.nocell _ (PySem.mem_of_lookup hx))
    · exact C.has x hx
  · rcases hσ.arg i y v h1 h2 with ⟨hp, hv⟩ | ⟨hf, a, ha, o, u, ea, da, ra⟩
    · obtain ⟨u, hu, ru⟩ := r.get hv
      refine ⟨u, ru, .inl ⟨S.par y (List.mem_of_getElem? hp), ?_⟩⟩
      rcases S.one with e | ⟨x, e⟩
      · subst e; simp at hp
      · subst e
        match us, i, hp, hu with
        | [u'], 0, hp, hu =>
          simp at hp hu
          subst hp; subst hu
          simp [List.lookup]
        | u' :: u'' :: _, _, _, _ =>
          have := r.length
          rw [hn] at this
          simp at this
        | [], _, _, hu => simp at hu
    · exact ⟨u, ra, .inr ⟨.inr hf, a, ha, o, kp _ _ (e0.hok a _ ea).1, da⟩⟩
  · obtain ⟨o, v, e, d⟩ := ho a (adr_ h)
    exact ⟨v, o, kp _ _ (e0.hok a _ e).1, d⟩
/-- the call of a lambda that H knows -/
theorem lam_run {k : Nat} {Q : VK} {E : XK} {tb : TE} (S : LamSc scope N ps) (C : Clos cl scope) (hb : ∀ (pm ctv : Value) (us : List Value), us.length = ps.length → bindArgs (PySem.W.kla_fn "<lambda>" q params body scope cl pm (.ref c) ctv) ⟨us, []⟩ = pure (ps.zip us))
    (hr : Room (k + 1) A) (e0 : Env0 Pg w K mg base A outer s H) (hl : LamAt H f q params body scope cl c) (hc : CodeAt H c P' q) (ho : CellsOk H cl) (r : Vals vs us) (hn : vs.length = ps.length) (hσ : LamSt H scope cl N ps vs σ)
    (hbody : Room k (A.deeper (PySem.W.envX q scope s.heap.objs.size f (.ref c) cl)) → PE (lamX Pg w K mg base N q scope f c cl A outer s (hideC H cl) (fun c d H' => E c d (showC H H' cl))) body tb) (ht : tb σ (hideC H cl) (fun v H' => Q v (showC H H' cl))) :
    codeAny (model Pg w) A (.call (.ref f) ⟨us, []⟩) (CR (L2.CX Pg w) outer Pg w H s Q E) s := by
  refine codeAny_mono ?_ fun r s' h => cr_show e0 ho.std h
  obtain ⟨pm, ctv, hf⟩ := hl
  obtain ⟨oc, hoc, cf⟩ := hc
  have gf := (e0.hok f _ hf).1
  have gc := (e0.hok c _ hoc).1
  have lim : s.heap.NoLimit := e0.mod.nolimit.keeps fun b o e => (e0.bs b o e).1
  refine PySem.W.kla_callFunE hr.depth gf rfl S.co S.gen rfl (cf _ gc).2 ?_
  rw [hb pm ctv us (by rw [← hn, r.length])]
  refine wpAny_pure (wpAny_newFunctionEnv S.nocell (fun y hy => S.par _ (List.of_mem_zip hy).1) (fun h₁ hns hsb => ⟨lim.fresh _ hsb, ?_⟩) S.kind)
  show codeAny _ _ (.expr body (PySem.W.envX q scope s.heap.objs.size f (.ref c) cl)) _ _
  have kp : ∀ b o, s.heap.get? b = some o → h₁.get? b = some o := fun b o e => hsb.extBut b o (Nat.ne_of_lt (Heap.lt_size e)) (Heap.get?_push_of_some _ e)
  have J := lam_start (q := q) (f := f) (c := c) (tk := s.toks + (ps.zip us).length) (E := fun c d H' => E c d (showC H H' cl)) S C e0 hr.hd ho r hn hσ hns kp
  refine PySem.W.kla_codeExpr (wpAny_mono ((hbody (hr.deeper _)).run [] _ σ _ _ J ht) (fun v s' hq => ?_) fun e s' hq => hq)
  obtain ⟨v', H', J', rv, q'⟩ := hq
  exact ⟨v', H', J'.os, J'.bare, J'.base, J'.hok, rv, q'⟩
end
/-! ### what a function's value promises -/
/-- a call of what stands at f, with n values, while Φ holds of the heap, keeps the promise sp -/
def ClOk (P : Program) (w : World) (K : PySem.W.Frag) (mg : Str → Option Value) (base : Heap) (k : Nat) (f : Addr) (n : Nat) (sp : Sp) (Φ : Hp → Prop) : Prop :=
  ∀ (A : Around) (outer : List Env) (s : Shared) (H : Hp) (us : List Value) (vs : List V) (Q : VK) (E : XK), Room k A → A.guards = some [] → Env0 P w K mg base A outer s H → Φ H → vs.length = n → Vals vs us → sp vs H Q E →
    codeAny (model P w) A (.call (.ref f) ⟨us, []⟩) (CR (L2.CX P w) outer P w H s Q E) s
/-- what stands at f is a function -/
def FnIn (H : Hp) (f : Addr) : Prop := ∃ o fd, H f = some (Std o) ∧ o.data = .func fd
theorem LamAt.fn {H : Hp} {f c : Addr} {q : Str} {params : Arguments} {body : Expr} {scope : Scope} {cl : List (Str × Addr)} (h : LamAt H f q params body scope cl c) : FnIn H f := by
  obtain ⟨pm, ctv, e⟩ := h
  exact ⟨_, _, e, rfl⟩
section
variable {X : Cx} {pins : List (Addr × Obj)} {σ : L2.St} {H : Hp} {s : Shared} {f : Addr} {W : WX} {i : Nat} {x : Str} {p pos : Pos} {e : Expr} {es : List Expr} {t : TA} {k : Nat}
theorem FnIn.at (h : FnIn H f) (I : Inv X pins σ H s) : PySem.W.FnAt f s.heap := by
  obtain ⟨o, fd, e, d⟩ := h
  obtain ⟨g, _⟩ := I.hok f _ e
  obtain ⟨oc, od, dt, sl⟩ := o
  have d : dt = .func fd := d
  subst d
  exact ⟨oc, od, fd, sl, g⟩
theorem run_cl {Q : VK} {us : List Value} {vs : List V} {n : Nat} {sp : Sp} {Φ : Hp → Prop} {j : Nat} (F : ClOk X.prog X.w X.K X.mg X.base j f n sp Φ) (hr : Room k X.A) (hgd : X.A.guards = some []) (hj : j ≤ k) (tk : Takes X W) (I : Inv X pins σ H s) (hΦ : Φ H) (hn : vs.length = n) (r : Vals vs us)
    (h : sp vs H Q (fun c d H' => W c d σ H')) : wpAny (model X.prog X.w) X.A (call (.ref f) us) (EP X pins σ Q) X.xe s := by
  refine wpAny_call (codeAny_mono (F X.A X.stack s H us vs Q _ (hr.mono hj) hgd I.env0 hΦ hn r h) fun r s' hq => ?_)
  cases r with
  | error e => exact tk e s' (XE.of_call I (fun _ _ _ h => h) hq)
  | ok fl =>
    cases fl with
    | ret u => exact I.after hq
    | next => exact False.elim hq
    | brk => exact False.elim hq
    | cont => exact False.elim hq
/-- x(..), x a name whose value is such a function; what is raised is wished for at the slots -/
def tCallV (P : Program) (w : World) (K : PySem.W.Frag) (mg : Str → Option Value) (base : Heap) (k : Nat) (W : WX) (i : Nat) (t : TA) : TE := fun σ H Q =>
  ∃ f, σ[i]? = some (some (.ref f)) ∧ FnIn H f ∧ t σ H fun vs H1 => FnIn H1 f ∧ ∃ (j n : Nat) (sp : Sp) (Φ : Hp → Prop), ClOk P w K mg base j f n sp Φ ∧ j ≤ k ∧ Φ H1 ∧ vs.length = n ∧ sp vs H1 Q (fun c d H' => W c d σ H')
theorem pe_callV (hr : Room k X.A) (hgd : X.A.guards = some []) (tk : Takes X W) (hN : X.N[i]? = some x) (hv : Vis X.env.scope x) (ha : PA X (e :: es) t) (hd : (x == ("__debug__" : Str)) = false := by decide) (hcd : (x == ("__classdict__" : Str)) = false := by decide)
    (he : starEach (e :: es) X.env = (false, eval e X.env) :: starEach es X.env := by rfl) (hpl : (backTo pos (starEach es X.env)).any (·.1) = false := by rfl) :
    PE X (.Call (.Name x p) (e :: es) [] pos) (tCallV X.prog X.w X.K X.mg X.base k W i t) := by
  refine ⟨fun pins s σ H Q I h => ?_⟩
  obtain ⟨f, hs, hf, h⟩ := h
  refine wpAny_Call_Name_kw (thn ((pe_var (pos := p) (i := i) hN hv hd hcd).run pins s σ H (fun v H1 => v = .ref f ∧ H1 = H) I ⟨.ref f, hs, rfl, rfl⟩) fun u s1 ⟨v, H1, I1, r1, ev, eH⟩ => ?_)
  subst ev
  subst eH
  obtain rfl : u = Value.ref f := r1
  refine PySem.W.callWith_F (first := []) (hf.at I1) (thn (ha.run pos pins s1 σ _ _ I1 h) fun us s2 ⟨vs, H2, I2, r2, hf2, j, n, sp, Φ, F, hj, hΦ, hn, q⟩ => ⟨hf2.at I2, ?_⟩) he hpl
  exact run_cl F hr hgd hj tk I2 hΦ hn r2 q
def tCallV0 (P : Program) (w : World) (K : PySem.W.Frag) (mg : Str → Option Value) (base : Heap) (k : Nat) (W : WX) (i : Nat) : TE := fun σ H Q =>
  ∃ f, σ[i]? = some (some (.ref f)) ∧ FnIn H f ∧ ∃ (j : Nat) (sp : Sp) (Φ : Hp → Prop), ClOk P w K mg base j f 0 sp Φ ∧ j ≤ k ∧ Φ H ∧ sp [] H Q (fun c d H' => W c d σ H')
theorem pe_callV0 (hr : Room k X.A) (hgd : X.A.guards = some []) (tk : Takes X W) (hN : X.N[i]? = some x) (hv : Vis X.env.scope x) (hd : (x == ("__debug__" : Str)) = false := by decide) (hcd : (x == ("__classdict__" : Str)) = false := by decide) :
    PE X (.Call (.Name x p) [] [] pos) (tCallV0 X.prog X.w X.K X.mg X.base k W i) := by
  refine ⟨fun pins s σ H Q I h => ?_⟩
  obtain ⟨f, hs, hf, j, sp, Φ, F, hj, hΦ, q⟩ := h
  refine wpAny_Call_Name_kw (thn ((pe_var (pos := p) (i := i) hN hv hd hcd).run pins s σ H (fun v H1 => v = .ref f ∧ H1 = H) I ⟨.ref f, hs, rfl, rfl⟩) fun u s1 ⟨v, H1, I1, r1, ev, eH⟩ => ?_)
  subst ev
  subst eH
  obtain rfl : u = Value.ref f := r1
  exact PySem.W.callWith_F0 (first := []) (hf.at I1) (run_cl F hr hgd hj tk I1 hΦ rfl .nil q)
end
/-! ### defs that may lean on it that nothing is being shown (no guard stands) -/
structure FnG (P : Program) (w : World) (K : PySem.W.Frag) (mg : Str → Option Value) (base : Heap) (k : Nat) (f : Addr) (fd : FuncData) (ps : List Str) (sp : Sp) : Prop where
  len : ∀ vs H Q E, sp vs H Q E → vs.length = ps.length
  run : ∀ (A : Around) (outer : List Env) (s : Shared) (H : Hp) (args : Args) (us : List Value) (vs : List V) (Q : VK) (E : XK), Room k A → A.guards = some [] → Env0 P w K mg base A outer s H → BindsTo s fd args (ps.zip us) → Vals vs us → sp vs H Q E →
    codeAny (model P w) A (.call (.ref f) args) (CR (L2.CX P w) outer P w H s Q E) s
section
variable {P : Program} {w : World} {K : PySem.W.Frag} {mg : Str → Option Value} {base : Heap} {k j : Nat} {f : Addr} {fd : FuncData} {ps : List Str} {sp sp' : Sp}
theorem FnG.mono (F : FnG P w K mg base j f fd ps sp) (h : j ≤ k) : FnG P w K mg base k f fd ps sp := ⟨F.len, fun A outer s H args us vs Q E hr => F.run A outer s H args us vs Q E (hr.mono h)⟩
theorem FnG.imp (F : FnG P w K mg base k f fd ps sp) (h : ∀ vs H Q E, sp' vs H Q E → sp vs H Q E) : FnG P w K mg base k f fd ps sp' :=
  ⟨fun vs H Q E q => F.len vs H Q E (h _ _ _ _ q), fun A outer s H args us vs Q E hr hg he hb hv hs => F.run A outer s H args us vs Q E hr hg he hb hv (h _ _ _ _ hs)⟩
theorem gOfX (F : FnOk P w K mg base (L2.CX P w) k f fd ps sp) : FnG P w K mg base k f fd ps sp := ⟨F.len, fun A outer s H args us vs Q E hr _ => F.run A outer s H args us vs Q E hr⟩
theorem gOf0 (F : FnOk P w K mg base CX0 k f fd ps sp) : FnG P w K mg base k f fd ps sp := ⟨F.len, fun A outer s H args us vs Q E hr _ e b v h => codeAny_mono (F.run A outer s H args us vs Q E hr e b v h) fun r s' q => by
  cases r with
  | error e => exact (show False from q).elim
  | ok fl => cases fl <;> exact q⟩
/-- a def by its body -/
theorem fn_ofG {x q : Str} {st : Stmt} {N : List Str} (F : Fun K x q st f fd) (S : FnScope N ps (defScope st)) (len : ∀ vs H Q E, sp vs H Q E → vs.length = ps.length)
    (hbody : ∀ (cdv : Value) (A : Around) (outer : List Env) (s : Shared) (H : Hp) (vs : List V) (Q : VK) (E : XK), Room k (A.deeper (envOfC q (defScope st) s.heap.objs.size f cdv)) → (A.deeper (envOfC q (defScope st) s.heap.objs.size f cdv)).guards = some [] →
      (∃ oc od kV doc pm an ct osl, K.lookup f = some ⟨oc, od, .func (PySem.W.fnOf x q (defArgs st) (defBody st) (defScope st) .none kV doc pm an cdv ct), osl⟩) → sp vs H Q E →
      ∃ t, PSs (cxOf (L2.CX P w) P w K mg base N q (defScope st) f cdv A outer s H E) (defBody st) t ∧ t { nx := fun _ H' => Q .non H', rt := Q } (L2.start N vs) H) : FnG P w K mg base (k + 1) f fd ps sp := by
  obtain ⟨oc, od, kV, doc, pm, an, cdv, ct, osl, rfl, lk, hcd⟩ := F.ex
  refine ⟨len, fun A outer s H args us vs Q E hr hg e0 hb r hsp => ?_⟩
  have old : ∀ b o, base.get? b = some o → s.heap.get? b = some o := fun b o e => (e0.bs b o e).1
  have KX : K.In s.heap := e0.mod.kin.keeps old
  have kinds : ∀ y ∈ ps.zip us, (defScope st).names.lookup y.1 = some .local ∨ ((defScope st).names.lookup y.1 = some .cell ∧ ((cellsFrom (s.heap.objs.size + 1) (defScope st).names []).lookup y.1).isSome = true) := fun y hy => by
    rcases S.par y.1 (List.of_mem_zip (a := y.1) (b := y.2) hy).1 with z | z
    · exact .inl z
    · exact .inr ⟨z, PySem.W.cellsFrom_some _ _ _ (.inl z)⟩
  refine codeAny_call_function hr.depth (KX _ _ lk) rfl S.co S.gen rfl (PySem.W.codeRec_of KX hcd) (hb _ _ _ _ (wpAny_newFunctionEnv_cells S.kind kinds fun env he s1 x => ?_))
  subst he
  refine ⟨(e0.mod.nolimit.keeps old).keeps x.toInCall.keep, codeAny_func ?_⟩
  obtain ⟨t, ht, hq⟩ := hbody cdv A outer s H vs Q E (hr.deeper _) hg ⟨oc, od, kV, doc, pm, an, ct, osl, lk⟩ hsp
  have I := inv_start (CX := L2.CX P w) (E := E) S hr.hd e0 (len _ _ _ _ hsp) r x
  refine wpAny_mono (ht.run [] s1 (L2.start N vs) H _ I hq) (fun fl s' hs => ?_) fun e s' hs => hs
  cases fl with
  | ret u =>
    obtain ⟨v, σ', H', J', rv, q'⟩ := hs
    exact ⟨v, H', J'.os, J'.bare, J'.base, J'.hok, rv, q'⟩
  | next =>
    obtain ⟨σ', H', J', q'⟩ := hs
    exact ⟨.non, H', J'.os, J'.bare, J'.base, J'.hok, rfl, q'⟩
  | brk => exact (hs.choose_spec.choose_spec.2).elim
  | cont => exact (hs.choose_spec.choose_spec.2).elim
end
section
variable {X : Cx} {k : Nat} {f : Addr} {fd : FuncData} {ps : List Str} {sp : Sp} {x : Str} {p pos : Pos} {e : Expr} {es : List Expr} {t : TA} {W : WX}
theorem run_g {pins : List (Addr × Obj)} {σ : L2.St} {H : Hp} {s : Shared} {Q : VK} {us : List Value} {vs : List V} (F : FnG X.prog X.w X.K X.mg X.base k f fd ps sp) (hr : Room k X.A) (hgd : X.A.guards = some []) (hb : Binds X.K fd ps []) (tk : Takes X W)
    (I : Inv X pins σ H s) (r : Vals vs us) (h : sp vs H Q (fun c d H' => W c d σ H')) : wpAny (model X.prog X.w) X.A (call (.ref f) us) (EP X pins σ Q) X.xe s := by
  have hl := F.len _ _ _ _ h
  have e0 := hb s us I.kIn (by rw [List.append_nil, ← r.length]; exact hl)
  rw [List.append_nil] at e0
  refine wpAny_call (codeAny_mono (F.run X.A X.stack s H ⟨us, []⟩ us vs Q _ hr hgd I.env0 e0 r h) fun r s' hq => ?_)
  cases r with
  | error e => exact tk e s' (XE.of_call I (fun _ _ _ h => h) hq)
  | ok fl =>
    cases fl with
    | ret u => exact I.after hq
    | next => exact False.elim hq
    | brk => exact False.elim hq
    | cont => exact False.elim hq
/-- f(..), what is raised is wished for at the slots -/
def tCallG (sp : Sp) (W : WX) (t : TA) : TE := fun σ H Q => t σ H fun vs H1 => sp vs H1 Q (fun c d H' => W c d σ H')
theorem pe_callG (F : FnG X.prog X.w X.K X.mg X.base k f fd ps sp) (hr : Room k X.A) (hgd : X.A.guards = some []) (hg : Gl X x) (hm : X.mg x = some (.ref f)) (hk : PySem.W.keepIn X.K (.ref f) = true) (hb : Binds X.K fd ps []) (tk : Takes X W)
    (ha : PA X (e :: es) t) (hdb : (x == ("__debug__" : Str)) = false := by decide) (he : starEach (e :: es) X.env = (false, eval e X.env) :: starEach es X.env := by rfl) (hpl : (backTo pos (starEach es X.env)).any (·.1) = false := by rfl) :
    PE X (.Call (.Name x p) (e :: es) [] pos) (tCallG sp W t) := by
  refine ⟨fun pins s σ H Q I h => ?_⟩
  refine wpAny_Call_Name_kw (ld_glob I hg hm ?_ hdb)
  exact PySem.W.callWith_K (h₀ := X.base) I.ok.mod.kin hk (thn (ha.run pos pins s σ H _ I h) fun us s1 ⟨vs, H1, I1, r, q⟩ => ⟨I1.kIn, run_g F hr hgd hb tk I1 r q⟩) he hpl
/-- nothing is raised -/
abbrev noW : WX := fun _ _ _ _ => False
theorem takesNo {X : Cx} : Takes X noW := takes_none5
end
/-! ### a lambda as an argument's value, and the call with it -/
section
variable {X : Cx} {params : Arguments} {body : Expr} {scope : Scope} {pos p : Pos}
abbrev closX (X : Cx) (scope : Scope) : List (Str × Addr) := cloFrom X.env.cells scope.names []
/-- lambda ..: body: n levels of the maker's table at P are known; the maker's code object is one of the text's (c₀, P in base) -/
def tLamV (n : Nat) (P : Addr) (q : Str) (params : Arguments) (body : Expr) (scope : Scope) (cl : List (Str × Addr)) (pos : Pos) : TE := fun _ H Q =>
  TabT H n P q ∧ ∀ (f c P' : Addr) (H1 : Hp), LamLeft P pos q (fun c ol => ∃ pm ctv, ol = lamObj q params body scope cl c pm ctv) H f c P' H1 → Q (.ref f) H1
theorem pe_lamV {n : Nat} {c₀ P : Addr} (TB : LamX.TabB X.base X.mg c₀ P) (hcode : X.env.code = .ref c₀) (hdef : defaultsOf params X.env = ([], [])) (hfree : X.Ok → ∀ y ∈ scope.names, y.2 = .free → ∃ c, X.env.cells.lookup y.1 = some c) :
    PE X (.Lambda params body scope pos) (tLamV n P (X.env.qual ++ "<lambda>") params body scope (closX X scope) pos) := by
  refine ⟨fun pins s σ H Q I h => ?_⟩
  exact lam_make3 I (TB.code.keeps I.bk) (TB.bm.keeps I.bk) TB.gP hcode h.1 hdef (hfree I.ok) fun f c P' H1 s' I1 l _ => ⟨.ref f, H1, I1, rfl, h.2 f c P' H1 l⟩
/-- .. the maker's code object is itself one made on the way -/
theorem pe_lamV1 {n : Nat} {c₁ P₁ c₀ P : Addr} {q₀ : Str} (TB : LamX.TabB X.base X.mg c₁ P₁) (hcode : X.env.code = .ref c₀) (hdef : defaultsOf params X.env = ([], [])) (hfree : X.Ok → ∀ y ∈ scope.names, y.2 = .free → ∃ c, X.env.cells.lookup y.1 = some c) :
    PE X (.Lambda params body scope pos) (fun σ H Q => CodeAt H c₀ P q₀ ∧ tLamV n P (X.env.qual ++ "<lambda>") params body scope (closX X scope) pos σ H Q) := by
  refine ⟨fun pins s σ H Q I ⟨⟨oc, hoc, cf⟩, h⟩ => ?_⟩
  have tP : ∃ ps, H P = some (.tbl ps) := by
    cases n with
    | zero => exact ⟨_, h.1.choose_spec.1⟩
    | succ n => exact ⟨_, h.1.choose_spec.1⟩
  obtain ⟨ps, hP⟩ := tP
  have far : ∀ b o, X.base.get? b = some o → b ≠ P := fun b o e z => by
    have q := (I.bs b o e).2
    rw [z, hP] at q
    cases q
  have bP : s.heap.BuiltinsAt X.mg P := by
    obtain ⟨bm, ob, hbm, hne0, h3, hneP, hbo, r⟩ := TB.bm
    exact ⟨bm, ob, hbm, hne0, h3, far _ _ hbo, I.bk _ _ hbo, r⟩
  have gP : mainGlobals ≠ P := by
    obtain ⟨o, _, _, e, _⟩ := I.mod.glob
    exact far _ _ e
  exact lam_make3 I (cf _ (I.hok c₀ _ hoc).1).1 bP gP hcode h.1 hdef (hfree I.ok) fun f c P' H1 s' I1 l _ => ⟨.ref f, H1, I1, rfl, h.2 f c P' H1 l⟩
end
section
variable {X : Cx} {k : Nat} {f : Addr} {fd : FuncData} {ps : List Str} {sp : Sp} {x : Str} {p pos : Pos} {e : Expr} {es : List Expr} {t : TA} {W : WX} {cl : List (Str × Addr)}
/-- the cells of cl belong to this frame (or were captured by it), and stand apart from all frames -/
def OwnCells (X : Cx) (cl : List (Str × Addr)) : Prop := ∀ (pins : List (Addr × Obj)) (σ : L2.St) (H : Hp) (s : Shared), Inv X pins σ H s → ∀ p ∈ cl, X.env.cells.lookup p.1 = some p.2 ∧ p.2 ∉ frs X.stack ∧ X.base.get? p.2 = none
/-- the cells tracked hold what the slots say -/
def Caught (X : Cx) (σ : L2.St) (cl : List (Str × Addr)) (H : Hp) : Prop := ∀ (i : Nat) (y : Str) (v : V) (c : Addr), X.N[i]? = some y → σ[i]? = some (some v) → cl.lookup y = some c → Vis X.env.scope y → X.env.kindOf y ≠ some .local → CellAt H c v
def tCallT (X : Cx) (sp : Sp) (W : WX) (cl : List (Str × Addr)) (t : TA) : TE := fun σ H Q => t σ H fun vs H1 => ∀ H2, AddC H1 cl H2 → CellsOk H2 cl → Caught X σ cl H2 → sp vs H2 (fun v H3 => Q v (hideC H3 cl)) (fun c d H3 => W c d σ (hideC H3 cl))
theorem pe_callT (F : FnG X.prog X.w X.K X.mg X.base k f fd ps sp) (hr : Room k X.A) (hgd : X.A.guards = some []) (hg : Gl X x) (hm : X.mg x = some (.ref f)) (hk : PySem.W.keepIn X.K (.ref f) = true) (hb : Binds X.K fd ps []) (tk : Takes X W) (hcl : OwnCells X cl)
    (ha : PA X (e :: es) t) (hdb : (x == ("__debug__" : Str)) = false := by decide) (he : starEach (e :: es) X.env = (false, eval e X.env) :: starEach es X.env := by rfl) (hpl : (backTo pos (starEach es X.env)).any (·.1) = false := by rfl) :
    PE X (.Call (.Name x p) (e :: es) [] pos) (tCallT X sp W cl t) := by
  refine ⟨fun pins s σ H Q I h => ?_⟩
  refine wpAny_Call_Name_kw (ld_glob I hg hm ?_ hdb)
  refine PySem.W.callWith_K (h₀ := X.base) I.ok.mod.kin hk (thn (ha.run pos pins s σ H _ I h) fun us s1 ⟨vs, H1, I1, r, q⟩ => ⟨I1.kIn, ?_⟩) he hpl
  have cells := hcl pins σ H1 s1 I1
  have at_ : ∀ b ∈ adr cl, ∃ y, (y, b) ∈ cl := fun b hb => by
    obtain ⟨⟨y, c⟩, h1, rfl⟩ := List.mem_map.mp hb
    exact ⟨y, h1⟩
  have obj : ∀ b ∈ adr cl, ∃ o v, s1.heap.get? b = some o ∧ o.data = .cell v := fun b hb => by
    obtain ⟨y, hy⟩ := at_ b hb
    obtain ⟨v, o, e1, e2⟩ := I1.cell y b (cells _ hy).1
    exact ⟨o, v, e1, e2⟩
  -- the heap with the cells
  have A2 : AddC H1 cl (fun b => if b ∈ adr cl then (s1.heap.get? b).map Std else H1 b) := ⟨fun b hb => if_neg hb, fun b hb => by
    obtain ⟨o, v, e1, _⟩ := obj b hb
    exact ⟨o, by show (if b ∈ adr cl then _ else _) = _; rw [if_pos hb, e1]; rfl⟩, fun b hb => by
    obtain ⟨y, hy⟩ := at_ b hb
    exact I1.freeC y b (cells _ hy).1⟩
  have in_ : ∀ b ∈ adr cl, (fun b => if b ∈ adr cl then (s1.heap.get? b).map Std else H1 b) b = (s1.heap.get? b).map Std := fun b hb => if_pos hb
  generalize hH2 : (fun b => if b ∈ adr cl then (s1.heap.get? b).map Std else H1 b) = H2 at A2 in_
  have E2 : Env0 X.prog X.w X.K X.mg X.base X.A X.stack s1 H2 := addC_env0 A2 I1.env0 (fun b hb o z => by
    obtain ⟨o', v, e1, _⟩ := obj b hb
    have e2 := in_ b hb
    rw [z, e1] at e2
    have e3 : Std o = Std o' := Option.some.inj e2
    cases e3
    exact e1) (fun b hb => by
    obtain ⟨y, hy⟩ := at_ b hb
    exact (cells _ hy).2.1) fun b hb => by
    obtain ⟨y, hy⟩ := at_ b hb
    exact (cells _ hy).2.2
  have q2 := q H2 A2 (fun b hb => by
    obtain ⟨o, v, e1, e2⟩ := obj b hb
    exact ⟨o, v, by rw [in_ b hb, e1]; rfl, e2⟩) (fun i y v c h1 h2 h3 h4 h5 => by
    obtain ⟨m, _, hl⟩ := I1.loc
    obtain ⟨u, ru, lk⟩ := hl i y v h1 h2 h4
    have hc := (cells _ (PySem.mem_of_lookup h3)).1
    rcases lk with ⟨z, _⟩ | ⟨_, c', e1, o, e2, e3⟩
    · exact absurd z h5
    · rw [hc] at e1
      cases e1
      refine ⟨o, u, ?_, e3, ru⟩
      rw [in_ _ (List.mem_map.mpr ⟨_, PySem.mem_of_lookup h3, rfl⟩), e2]
      rfl)
  have hl := F.len _ _ _ _ q2
  have rc : codeAny (model X.prog X.w) X.A (.call (.ref f) ⟨us, []⟩) (CR (L2.CX X.prog X.w) X.stack X.prog X.w H1 s1 Q (fun c d H' => W c d σ H')) s1 := by
    refine codeAny_mono (F.run X.A X.stack s1 H2 ⟨us, []⟩ us vs _ _ hr hgd E2 ?_ r q2) fun r s' h' => cr_hide A2 E2 h'
    have e0 := hb s1 us I1.kIn (by rw [List.append_nil, ← r.length]; exact hl)
    rw [List.append_nil] at e0
    exact e0
  refine wpAny_call (codeAny_mono rc fun r s' hq => ?_)
  cases r with
  | error e => exact tk e s' (XE.of_call I1 (fun _ _ _ h => h) hq)
  | ok fl =>
    cases fl with
    | ret u => exact I1.after hq
    | next => exact False.elim hq
    | brk => exact False.elim hq
    | cont => exact False.elim hq
/-- the cells that a lambda's body has got -/
theorem own_lam {Pg : Program} {w : World} {K : PySem.W.Frag} {mg : Str → Option Value} {base : Heap} {A : Around} {outer : List Env} {s0 : Shared} {H0 : Hp} {cl cl' : List (Str × Addr)} {q : Str} {scope : Scope} {f c : Addr} {N : List Str} {H1 : Hp} {E : XK} (e0 : Env0 Pg w K mg base A outer s0 H0) (ho : CellsOk H0 cl)
    (hm : (lamX Pg w K mg base N q scope f c cl A outer s0 H1 E).Ok → ∀ p ∈ cl', cl.lookup p.1 = some p.2) : OwnCells (lamX Pg w K mg base N q scope f c cl A outer s0 H1 E) cl' := fun pins σ H s I p hp => by
  have e := hm I.ok p hp
  obtain ⟨o, v, g, _⟩ := ho p.2 (List.mem_map.mpr ⟨_, PySem.mem_of_lookup e, rfl⟩)
  have g0 := (e0.hok p.2 _ g).1
  refine ⟨e, fun z => ?_, ?_⟩
  · have z : p.2 ∈ s0.heap.objs.size :: frs outer := z
    rcases List.mem_cons.mp z with z | z
    · exact absurd (Heap.lt_size g0) (by rw [z]; exact Nat.lt_irrefl _)
    · rw [e0.frf _ z] at g; cases g
  · show base.get? p.2 = none
    cases z : base.get? p.2 with
    | none => rfl
    | some o' => rw [(e0.bs _ _ z).2] at g; cases g
/-- the cells that a def's own frame made -/
theorem own_def {cl : List (Str × Addr)} (hf : ∀ x, X.fn x = true) (hm : X.Ok → ∀ p ∈ cl, X.env.cells.lookup p.1 = some p.2) : OwnCells X cl := fun pins σ H s I p hp => by
  have e := hm I.ok p hp
  have big := I.ok.cab p.1 p.2 (hf _) e
  refine ⟨e, fun z => ?_, ?_⟩
  · rcases List.mem_cons.mp (I.stkSub _ z) with q | q
    · exact I.cne _ _ e q
    · obtain ⟨_, o, ho, _⟩ := I.ok.funs.mem q
      exact absurd (Nat.lt_of_lt_of_le (Heap.lt_size ho) big) (Nat.lt_irrefl _)
  · cases q : X.base.get? p.2 with
    | none => rfl
    | some o => exact absurd (Nat.lt_of_lt_of_le (Heap.lt_size (I.ok.bs _ _ q).1) big) (Nat.lt_irrefl _)
end
end K95
/-! KR3: with: an own manager, a body that may raise; defs called while an exception is handled. -/
namespace K95
open PySem PySem.Spec PySem.Calls PySem.W PyProof.Rows
section
variable {prog : Program} {w : World} {A : Around} {E : Value → Shared → Prop} {s : Shared} {env : Env} {K : Frag} {x C fe fx : Addr} {ox : Obj} {od : Option Obj} {pos : Pos}
/-- with, from the manager on: the body ends by itself, or by an exception, which passes -/
theorem with_core {b : Value → Sem Unit} {bdy : Sem Flow} {Q : Flow → Shared → Prop} (X : K.In s.heap) (I : InstAt s.heap x ox C od) (he : findIn K (.ref C) "__enter__" = some (some (.ref fe))) (hfe : isFn K (.ref fe) = true) (hx : findIn K (.ref C) "__exit__" = some (some (.ref fx))) (hfx : isFn K (.ref fx) = true)
    (h : wpAny (model prog w) A (call (.ref fe) [.ref x]) (fun v s₂ => wpAny (model prog w) A (b v >>= fun _ => bdy) (fun f s₄ => wpAny (model prog w) A (call (.ref fx) [.ref x, .none, .none, .none]) (fun _ s₅ => Q f s₅) E s₄)
      (fun e s₄ => wpAny (model prog w) A (noteFrame e env) (fun _ s₅ => wpAny (model prog w) A (setFlight e none) (fun _ s₆ => wpAny (model prog w) A (typeOf e) (fun t s₇ => wpAny (model prog w) A (tracebackOf e) (fun tb s₈ =>
        wpAny (model prog w) A (run (.call (.ref fx) ⟨[.ref x, t, e, tb], []⟩) (some e)) (fun f s₉ => f = .ret .none ∧ wpAny (model prog w) A (passOn "with" e env) Q E s₉) E s₈) E s₇) E s₆) E s₅) E s₄) s₂) E s) :
    wpAny (model prog w) A (withItem false pos env (pure (.ref x)) (some b) bdy) Q E s := by
  obtain ⟨cd, hcd, ae⟩ := kw_along he
  obtain ⟨cd', hcd', ax⟩ := kw_along hx
  cases hcd.symm.trans hcd'
  obtain ⟨hh, g, d, tt, os⟩ := s
  have L1 : Looks (model prog w) hh (specialOnItsLine (.ref x) "__enter__") (some (.ref fe), cd.mro) := kw_special X I hcd ae
  have L2 : Looks (model prog w) hh (specialOnItsLine (.ref x) "__exit__") (some (.ref fx), cd.mro) := kw_special X I hcd ax
  have L3 : Looks (model prog w) hh (bindSpecial (.ref fe) (.ref x)) (.ref fe, [.ref x]) := bind_fn X _ (beq_iff_eq.mp hfe)
  have L4 : Looks (model prog w) hh (bindSpecial (.ref fx) (.ref x)) (.ref fx, [.ref x]) := bind_fn X _ (beq_iff_eq.mp hfx)
  have L5 : Looks (model prog w) hh (aMethodOfAnotherBuiltinTypeStops (.ref fe) cd.mro) () := Looks.of_pure rfl
  have L6 : Looks (model prog w) hh (aMethodOfAnotherBuiltinTypeStops (.ref fx) cd.mro) () := Looks.of_pure rfl
  unfold withItem
  refine wpAny_bind (wpAny_pure (wpAny_bind (wpAny_standAt ?_)))
  simp only [Bool.false_eq_true, if_false]
  kw_lk
  refine wpAny_mono h (fun v s₂ h₂ => ?_) fun _ _ z => z
  kw_lk
  refine wpAny_attempt (kw_held ?_)
  show wpAny _ _ (b v >>= fun _ => bdy) _ _ _
  refine wpAny_mono h₂ (fun f s₄ h₄ => ?_) fun e s₄ h₄ => ?_
  · kw_lk
    refine wpAny_mono h₄ (fun _ s₅ h₅ => ?_) fun _ _ z => z
    kw_lk
    exact h₅
  · refine wpAny_bind (wpAny_mono h₄ (fun _ s₅ h₅ => ?_) fun _ _ z => z)
    refine wpAny_bind (wpAny_mono h₅ (fun _ s₆ h₆ => ?_) fun _ _ z => z)
    refine wpAny_bind (wpAny_standAt (wpAny_holding ?_))
    refine wpAny_bind (wpAny_mono h₆ (fun t s₇ h₇ => ?_) fun _ _ z => z)
    refine wpAny_bind (wpAny_mono h₇ (fun tb s₈ h₈ => ?_) fun _ _ z => z)
    unfold withItem.marked
    refine wpAny_bind (wpAny_bind (wpAny_mono h₈ (fun f s₉ h₉ => ?_) fun _ _ z => z))
    obtain ⟨rfl, h₉⟩ := h₉
    refine wpAny_pure ?_
    refine wpAny_bind (wpAny_pure ?_)
    refine wpAny_bind (wpAny_pure ?_)
    simp only [Bool.false_eq_true, if_false]
    exact h₉
end
open L2
/-! ### defs that ask nothing of what is handled -/
structure FnQ (P : Program) (w : World) (K : PySem.W.Frag) (mg : Str → Option Value) (base : Heap) (k : Nat) (f : Addr) (fd : FuncData) (ps : List Str) (sp : Sp) : Prop where
  len : ∀ vs H Q E, sp vs H Q E → vs.length = ps.length
  run : ∀ (A : Around) (outer : List Env) (s : Shared) (H : Hp) (args : Args) (us : List Value) (vs : List V) (Q : VK) (E : XK), L2H.RoomH k A → Env0 P w K mg base A outer s H → BindsTo s fd args (ps.zip us) → Vals vs us → sp vs H Q E →
    codeAny (model P w) A (.call (.ref f) args) (CR CX0 outer P w H s Q E) s
theorem FnQ.ok {P : Program} {w : World} {K : PySem.W.Frag} {mg : Str → Option Value} {base : Heap} {k : Nat} {f : Addr} {fd : FuncData} {ps : List Str} {sp : Sp} (F : FnQ P w K mg base k f fd ps sp) : FnOk P w K mg base CX0 k f fd ps sp :=
  ⟨F.len, fun A outer s H args us vs Q E hr => F.run A outer s H args us vs Q E (L2H.roomH_of hr)⟩
/-- the context of such a body -/
abbrev cxQ (P : Program) (w : World) (K : PySem.W.Frag) (mg : Str → Option Value) (base : Heap) (N : List Str) (q : Str) (scope : Scope) (f : Addr) (cd : Value) (A : Around) (outer : List Env) (s : Shared) (H : Hp) (E : XK) : Cx :=
  { cxOf CX0 P w K mg base N q scope f cd A outer s H E with calm := false }
theorem fn_ofQ {P : Program} {w : World} {K : PySem.W.Frag} {mg : Str → Option Value} {base : Heap} {k : Nat} {f : Addr} {name q : Str} {params : Arguments} {body : List Stmt} {scope : Scope} {dV kV doc pm cdv ct oc : Value} {an od : Option Addr}
    {osl : Array (Option Value)} {N ps : List Str} {sp : Sp} (lk : K.lookup f = some ⟨oc, od, .func (PySem.W.fnOf name q params body scope dV kV doc pm an cdv ct), osl⟩) (hcd : PySem.W.codeIn K cdv q = true) (S : FnScope N ps scope)
    (len : ∀ vs H Q E, sp vs H Q E → vs.length = ps.length)
    (hbody : ∀ (A : Around) (outer : List Env) (s : Shared) (H : Hp) (vs : List V) (Q : VK) (E : XK), L2H.RoomH k (A.deeper (envOfC q scope s.heap.objs.size f cdv)) → sp vs H Q E →
      ∃ t, PSs (cxQ P w K mg base N q scope f cdv A outer s H E) body t ∧ t { nx := fun _ H' => Q .non H', rt := Q } (start N vs) H) :
    FnQ P w K mg base (k + 1) f (PySem.W.fnOf name q params body scope dV kV doc pm an cdv ct) ps sp := by
  refine ⟨len, fun A outer s H args us vs Q E hr e0 hb r hsp => ?_⟩
  have hl := len _ _ _ _ hsp
  have old : ∀ b o, base.get? b = some o → s.heap.get? b = some o := fun b o e => (e0.bs b o e).1
  have KX : K.In s.heap := e0.mod.kin.keeps old
  have kinds : ∀ y ∈ ps.zip us, scope.names.lookup y.1 = some .local ∨ (scope.names.lookup y.1 = some .cell ∧ ((cellsFrom (s.heap.objs.size + 1) scope.names []).lookup y.1).isSome = true) := fun y hy => by
    rcases S.par y.1 (List.of_mem_zip (a := y.1) (b := y.2) hy).1 with z | z
    · exact .inl z
    · exact .inr ⟨z, PySem.W.cellsFrom_some _ _ _ (.inl z)⟩
  refine codeAny_call_function hr.depth (KX _ _ lk) rfl S.co S.gen rfl (PySem.W.codeRec_of KX hcd) (hb _ _ _ _ (wpAny_newFunctionEnv_cells S.kind kinds fun env he s1 x => ?_))
  subst he
  refine ⟨(e0.mod.nolimit.keeps old).keeps x.toInCall.keep, codeAny_func ?_⟩
  obtain ⟨t, ht, hq⟩ := hbody A outer s H vs Q E (hr.deeper _) hsp
  have J := inv_start (CX := CX0) (E := E) (A := { A with handled := none }) S rfl (⟨e0.frames, e0.mod, e0.bs, e0.bsz, e0.funs, e0.frf, e0.hok, e0.bare⟩ : Env0 P w K mg base { A with handled := none } outer s H) hl r x
  have I : Inv (cxQ P w K mg base N q scope f cdv A outer s H E) [] (start N vs) H s1 :=
    ⟨⟨J.ok.mod, J.ok.kind, J.ok.glob, J.ok.blt, J.ok.above, J.ok.inj, J.ok.has, J.ok.cab, fun z => Bool.noConfusion (show false = true from z), Around.frames_deeper e0.frames, J.ok.stk, J.ok.exf, J.ok.bs, J.ok.bsz, J.ok.noex, J.ok.exfs, J.ok.funs, J.ok.frf⟩,
      J.os, J.bare, J.base, J.loc, J.cell, J.free, J.freeC, J.pin, J.hok, J.len⟩
  refine wpAny_mono (ht.run [] s1 (start N vs) H _ I hq) (fun fl s' hs => ?_) fun e s' hs => hs
  cases fl with
  | ret u =>
    obtain ⟨v, σ', H', J', rv, q'⟩ := hs
    exact ⟨v, H', J'.os, J'.bare, J'.base, J'.hok, rv, q'⟩
  | next =>
    obtain ⟨σ', H', J', q'⟩ := hs
    exact ⟨.non, H', J'.os, J'.bare, J'.base, J'.hok, rfl, q'⟩
  | brk => exact (hs.choose_spec.choose_spec.2).elim
  | cont => exact (hs.choose_spec.choose_spec.2).elim
/-! ### with -/
abbrev noE : XK := fun _ _ _ => False
/-- the manager's __exit__ behind a block that came to its end -/
def exOk (spX : Sp) (q : Addr) (Q : Hp → Prop) (H : Hp) : Prop := spX [.ref q, .non, .non, .non] H (fun _ H' => Q H') noE
def dWith (spX : Sp) (q : Addr) (D : Ends) : Ends := { nx := fun σ H => exOk spX q (D.nx σ) H, rt := fun v H => exOk spX q (D.rt v) H, bk := fun σ H => exOk spX q (D.bk σ) H, ct := fun σ H => exOk spX q (D.ct σ) H }
/-- .. behind one that an exception left -/
def wWith (spX : Sp) (q : Addr) (Wout : WX) : WX := fun cls d σ H => (∃ kv, RelV kv cls) ∧ ∀ kv ev tv : V, spX [.ref q, kv, ev, tv] H (fun r H' => r = .non ∧ Wout cls d σ H') noE
def tWith (C : Addr) (spE spX : Sp) (i : Nat) (te : TE) (tb : WX → TS) (Wout : WX) : TS := fun D σ H => te σ H fun x H1 => ∃ q dx fs, x = .ref q ∧ H1 q = some (.ins C dx fs) ∧
  spE [.ref q] H1 (fun v H2 => tb (wWith spX q Wout) (dWith spX q D) (σ.set i (some v)) H2) noE
section
variable {X : Cx} {C fE fX : Addr} {fdE fdX : FuncData} {spE spX : Sp} {ke kx i : Nat} {y : Str} {py wpos : Pos} {ctx : Expr} {body : List Stmt} {te : TE} {tb : WX → TS} {Wout : WX} {psE psX : List Str}
theorem inst_at {pins : List (Addr × Obj)} {σ : L2.St} {H : Hp} {s : Shared} {q dx : Addr} {fs : List (Str × V)} (I : Inv X pins σ H s) (h : H q = some (.ins C dx fs)) : ∃ od, InstAt s.heap q (instObj C dx) C od := by
  obtain ⟨_, _, ne, e, mA, n, _⟩ := I.hok q _ h
  obtain ⟨od, J, _⟩ := (⟨e, n, ne⟩ : ObjM s.heap q dx C mA).look
  exact ⟨_, J⟩
theorem ps_with (hs : X.stack = X.env :: X.outer) (hf : X.env.frame = some X.env.locals) (hex : X.ex = []) (tk : Takes X Wout) (kE : findIn X.K (.ref C) "__enter__" = some (some (.ref fE))) (iE : isFn X.K (.ref fE) = true) (kX : findIn X.K (.ref C) "__exit__" = some (some (.ref fX))) (iX : isFn X.K (.ref fX) = true)
    (FE : FnOk X.prog X.w X.K X.mg X.base CX0 ke fE fdE psE spE) (FX : FnQ X.prog X.w X.K X.mg X.base kx fX fdX psX spX) (bE : Binds X.K fdE psE []) (bX : Binds X.K fdX psX []) (rE : Room ke X.A) (rX : Room kx X.A)
    (hN : X.N.Nodup) (hi : X.N[i]? = some y) (hy : X.env.scope.names.lookup y = some .local) (hm : PE X ctx te)
    (hb : ∀ (W : WX) (pn : List (Addr × Obj)) (xe : Value → Shared → Prop), Takes (X.tr pn xe) W → PassesOwn (model X.prog X.w) X.A X.env xe → PSs (X.tr pn xe) body (tb W)) :
    PS X (.With [⟨ctx, some (.Name y py)⟩] body wpos) (tWith C spE spX i te tb Wout) := by
  refine ⟨fun pins s σ H D I h => ?_⟩
  have ok := I.ok
  have hfr : X.A.frames = some (X.env :: X.outer) := by rw [ok.frames, hs]
  rw [arm_exec_With]
  refine wpAny_bind (wpAny_standAt ?_)
  rw [arm_withItems_cons, arm_withItems_nil]
  unfold withItem
  refine wpAny_bind (thn (hm.run pins s σ H _ I h) fun u s1 ⟨x, H1, I1, r1, q, dx, fs, ex, hq, hE⟩ => ?_)
  subst ex
  obtain rfl : u = Value.ref q := r1
  obtain ⟨od, J⟩ := inst_at I1 hq
  have core := @with_core X.prog X.w X.A X.xe s1 X.env X.K q C fE fX _ _ ctx.pos (assign (.Name y py) X.env) (execs body X.env) (SP X pins D) I1.kIn J kE iE kX iX
  unfold withItem at core
  refine core ?_
  -- __exit__ called behind the block's end
  have leave : ∀ {σ' : L2.St} {H' : Hp} {s' : Shared} {R : Hp → Prop} {Q : Shared → Prop}, Inv X pins σ' H' s' → exOk spX q R H' → (∀ H'' s'', Inv X pins σ' H'' s'' → R H'' → Q s'') →
      wpAny (model X.prog X.w) X.A (call (.ref fX) [.ref q, .none, .none, .none]) (fun _ s'' => Q s'') X.xe s' := fun {σ' H' s' R Q} I' hx k => by
    have hl := FX.ok.len _ _ _ _ hx
    refine thn (run_fn (CX := CX0) (E := noE) (us := [.ref q, .none, .none, .none]) (vs := [.ref q, .non, .non, .non]) (dvs := []) (ds := []) FX.ok rX bX .nil pass0 I' (.cons rfl (.cons rfl (.cons rfl (.cons rfl .nil)))) hx) fun _ s'' ⟨v, H'', I'', _, hR⟩ => k H'' s'' I'' hR
  refine thn (run_fn (CX := CX0) (E := noE) (us := [.ref q]) (vs := [.ref q]) (dvs := []) (ds := []) FE rE bE .nil pass0 I1 (.cons rfl .nil) hE) fun v s2 ⟨vv, H2, I2, rv, hB⟩ => ?_
  refine wpAny_bind (wpAny_assign_Name ?_)
  refine store_ok I2 hN hi (.inl hy) rv (fun s3 I3 => ?_) (.inr hy)
  refine wpAny_mono ((hb (wWith spX q Wout) (X.pn ++ pins) (fun e s₄ => wpAny (model X.prog X.w) X.A (noteFrame e X.env) (fun _ s₅ => wpAny (model X.prog X.w) X.A (setFlight e none) (fun _ s₆ => wpAny (model X.prog X.w) X.A (typeOf e) (fun t s₇ => wpAny (model X.prog X.w) X.A (tracebackOf e) (fun tb s₈ =>
        wpAny (model X.prog X.w) X.A (run (.call (.ref fX) ⟨[.ref q, t, e, tb], []⟩) (some e)) (fun f s₉ => f = .ret .none ∧ wpAny (model X.prog X.w) X.A (passOn "with" e X.env) (SP X pins D) X.xe s₉) X.xe s₈) X.xe s₇) X.xe s₆) X.xe s₅) X.xe s₄) (fun u s' xx => ?_) PassesOwn.looking).run [] s3 _ H2 (dWith spX q D) (I3.toTry _) hB) (fun f s4 hsp => ?_) (fun _ _ he => he)
  · -- an exception leaves the block
    obtain ⟨a, B, sI, pins', σ', H', cls, d, rfl, J', nb, up, sky, na, os, ag, ⟨kv, rk⟩, hX⟩ := xx
    have JI : Inv X pins σ' H' sI := J'.ofTry ok
    have sky' : Sky B (X.env :: X.outer) a (Zc cls d) X.env.locals s'.heap := by rw [← hs]; exact sky
    show wpAny (model X.prog X.w) X.A (noteFrame (.ref a) X.env) _ _ _
    refine Sky.land Zc.steady hfr hf sky' fun h3 fl3 up3 => ?_
    have J3 : Inv X pins σ' H' { s' with heap := h3 } := JI.landed nb fl3.1 (up.trans up3) os ag
    obtain ⟨k1, k2, k3, oe, vs, T, oT, ts, ga, hz, hd, hv1, hnT, hTe, gT, hdT, ht3⟩ := id fl3
    have nT : H' T = none := (JI.inGround nb).gone hnT
    have offF : ∀ (b : Addr) (o : Obj) (fv : Array Value), h3.get? b = some o → o.data = .fields fv → b ∉ frs X.stack := fun b o fv e dd hm => by
      rw [hs] at hm
      obtain ⟨_, o', e', hnf⟩ := k3.mem hm
      rw [e] at e'
      cases e'
      exact hnf _ dd
    have fa := offF a oe vs ga hd
    have fT := offF T oT ts gT hdT
    refine wpAny_typeOf_ref ga ?_
    rw [hz.1]
    -- the traceback's value
    have tbk : ∀ {Q : Value → Shared → Prop}, Q .none { s' with heap := h3 } → Q (.ref T) { s' with heap := h3 } → wpAny (model X.prog X.w) X.A (tracebackOf (.ref a)) Q X.xe { s' with heap := h3 } := fun {Q} q0 q1 => by
      have h1 : 1 < ts.size := by have := (Array.getElem?_eq_some_iff.mp ht3).1; omega
      unfold tracebackOf
      refine wpAny_bind (wpAny_field ga hd hv1 ?_)
      dsimp only
      refine wpAny_bind (wpAny_field (x := ts[1]) gT hdT (by simp [h1]) ?_)
      split
      · exact wpAny_pure q0
      · exact wpAny_pure q1
    have after : ∀ (tv : V) (tu : Value), RelV tv tu → wpAny (model X.prog X.w) X.A (run (.call (.ref fX) ⟨[.ref q, cls, .ref a, tu], []⟩) (some (.ref a))) (fun f s₉ => f = .ret .none ∧ wpAny (model X.prog X.w) X.A (passOn "with" (.ref a) X.env) (SP X pins D) X.xe s₉) X.xe { s' with heap := h3 } := fun tv tu rt => by
      have hx := hX kv (.ref a) tv
      have hl := FX.len _ _ _ _ hx
      have e0 := bX { s' with heap := h3 } [.ref q, cls, .ref a, tu] J3.kIn (by rw [List.append_nil]; exact hl)
      rw [List.append_nil] at e0
      have rX' : L2H.RoomH kx (X.A.mark (some (.ref a))) := ⟨rX.dp, rX.un⟩
      have E3 := J3.env0
      refine wpAny_run (codeAny_mono (FX.run (X.A.mark (some (.ref a))) X.stack { s' with heap := h3 } H' ⟨[.ref q, cls, .ref a, tu], []⟩ [.ref q, cls, .ref a, tu] [.ref q, kv, .ref a, tv] _ noE rX'
        ⟨E3.frames, E3.mod, E3.bs, E3.bsz, E3.funs, E3.frf, E3.hok, E3.bare⟩ e0 (.cons rfl (.cons rk (.cons rfl (.cons rt .nil)))) hx) fun r s6 hq => ?_) (by intro z; cases z)
      cases r with
      | error e => exact (show False from hq).elim
      | ok fl =>
        cases fl with
        | next => exact False.elim hq
        | brk => exact False.elim hq
        | cont => exact False.elim hq
        | ret u =>
          obtain ⟨v6, H6, os6, ag6, un6, hok6, rv6, ev6, hW⟩ := hq
          subst ev6
          obtain rfl : u = Value.none := rv6
          refine ⟨rfl, ?_⟩
          have J6 : Inv X pins σ' H6 s6 := J3.call' (ch := []) os6 un6 hok6 ag6 fun _ z => nomatch z
          have ga6 : s6.heap.get? a = some oe := un6.keep a oe ga na fa fun z => nomatch z
          have gT6 : s6.heap.get? T = some oT := un6.keep T oT gT nT fT fun z => nomatch z
          have na6 : H6 a = none := un6.free a oe ga na fun z => nomatch z
          have nT6 : H6 T = none := un6.free T oT gT nT fun z => nomatch z
          have far : ∀ b o, sI.heap.get? b = some o → b ≠ a ∧ b ≠ T := fun b o e => by
            by_cases hb : b ∈ frs X.stack
            · exact ⟨fun z => fa (z ▸ hb), fun z => fT (z ▸ hb)⟩
            · have g := nb b o e hb
              refine ⟨fun z => ?_, fun z => ?_⟩
              · rw [z, k2] at g; cases g
              · rw [z, hnT] at g; cases g
          have far0 : ∀ b o, X.s_0.heap.get? b = some o → b ≠ a ∧ b ≠ T := fun b o e => by
            obtain ⟨o', g⟩ := JI.base.there b o e (by rw [hex]; exact fun z => nomatch z)
            exact far b o' g
          have farP : ∀ p ∈ X.pn ++ pins, p.1 ≠ a ∧ p.1 ≠ T := fun p hp => far p.1 p.2 (JI.pin p hp).1
          -- the ground without the exception's two records
          obtain ⟨G, g1, g2⟩ := restrict s6.heap fun b => !(decide (b = a) || decide (b = T))
          have gIn : ∀ b o, G.get? b = some o → s6.heap.get? b = some o ∧ b ≠ a ∧ b ≠ T := fun b o e => by
            cases z : (!(decide (b = a) || decide (b = T))) with
            | false => rw [g2 b z] at e; cases e
            | true =>
              rw [g1 b z] at e
              simp only [Bool.not_eq_true', Bool.or_eq_false_iff, decide_eq_false_iff_not] at z
              exact ⟨e, z⟩
          have gOf : ∀ b o, b ≠ a → b ≠ T → s6.heap.get? b = some o → G.get? b = some o := fun b o n1 n2 e => by
            rw [g1 b (by simp [n1, n2])]
            exact e
          have I6 : Inv X pins σ' H6 { s6 with heap := G } := J6.less (fun b o e => (gIn b o e).1) gOf ⟨oe, vs, ga6, hd⟩ ⟨oT, ts, gT6, hdT⟩ na6 nT6 far0 farP
          have bNo : ∀ b, (b = a ∨ b = T) → (hideAll G (frs X.stack)).get? b = none := fun b hb => by
            cases z : (hideAll G (frs X.stack)).get? b with
            | none => rfl
            | some o =>
              obtain ⟨_, n1, n2⟩ := gIn b o (of_hideAll _ z)
              rcases hb with e | e
              · exact absurd e n1
              · exact absurd e n2
          have fl6 : HandSPX.FlyingZ (hideAll G (frs X.stack)) (X.env :: X.outer) a (Zc cls d) s6.heap := by
            refine ⟨fun b o e => (gIn b o (of_hideAll _ e)).1, bNo a (.inl rfl), ?_, oe, vs, T, oT, ts, ga6, hz, hd, hv1, bNo T (.inr rfl), hTe, gT6, hdT, ht3⟩
            rw [← hs]
            exact funFrames_none J6.stack fun b hb => hideAll_none _ hb
          unfold PySem.passOn
          refine wpAny_bind (wpAny_field ga6 hd hv1 ?_)
          rw [if_neg (show ¬ ((Value.ref T == Value.none) = true) from by simp)]
          have goOn : wpAny (model X.prog X.w) X.A (setFlight (.ref a) X.env.frame) (fun _ s7 => wpAny (model X.prog X.w) X.A (throw (.ref a) : Sem Flow) (SP X pins D) X.xe s7) X.xe s6 := by
            rw [hf]
            refine HandSPX.setFlight_upZ fl6 fun h7 hh7 up7 => wpAny_throw (tk _ _ ?_)
            exact ⟨a, hideAll G (frs X.stack), { s6 with heap := G }, pins, σ', H6, cls, d, rfl, I6, fun b o e hb => hideAll_get _ e hb, (Heap.UpToSlots.of_keeps fun b o e => (gIn b o e).1).trans up7, .inr (.inr (by rw [← hs] at hh7; exact hh7)), na6, rfl, J6.bare, hW⟩
          first
            | exact wpAny_bind (wpAny_pure (wpAny_bind goOn))
            | exact wpAny_bind goOn
    exact tbk (after .non .none rfl) (after (.ref T) (.ref T) rfl)
  · cases f with
    | next =>
      obtain ⟨σ', H', J', hq'⟩ := hsp
      exact leave (J'.ofTry ok) hq' fun H'' s'' I'' hR => ⟨σ', H'', I'', hR⟩
    | brk =>
      obtain ⟨σ', H', J', hq'⟩ := hsp
      exact leave (J'.ofTry ok) hq' fun H'' s'' I'' hR => ⟨σ', H'', I'', hR⟩
    | cont =>
      obtain ⟨σ', H', J', hq'⟩ := hsp
      exact leave (J'.ofTry ok) hq' fun H'' s'' I'' hR => ⟨σ', H'', I'', hR⟩
    | ret u =>
      obtain ⟨v, σ', H', J', rv, hq'⟩ := hsp
      exact leave (J'.ofTry ok) hq' fun H'' s'' I'' hR => ⟨v, σ', H'', I'', rv, hR⟩
end
end K95
/-! KR4: try .. except (A, B) with and without a name. -/
namespace K95
open PySem PySem.Spec PySem.Calls PySem.W PyProof.Rows L2
theorem flying_more {B h h' : Heap} {l : List Env} {a : Addr} {Z : Obj → Prop} (k : ∀ b o, h.get? b = some o → h'.get? b = some o) (x : HandSPX.FlyingZ B l a Z h) : HandSPX.FlyingZ B l a Z h' := by
  obtain ⟨k1, k2, k3, oe, vs, T, oT, ts, ga, hz, hd, hv, nT, ne, gT, dT, t3⟩ := x
  exact ⟨fun b o e => k b o (k1 b o e), k2, k3.of_keeps fun b o e _ => ⟨o, k b o e, rfl⟩, oe, vs, T, oT, ts, k _ _ ga, hz, hd, hv, nT, ne, k _ _ gT, dT, t3⟩
/-- what 'except (A, B) as n: suite' wishes: n is slot i, within the suite the exception is known by its object -/
def wTupAs (K : Frag) (c₁ c₂ : Value) (i : Nat) (ts : TS) (Wout : WX) (D : Ends) : WX := fun cls d σ H =>
  ∃ b, exmAny K cls [c₁, c₂] = some b ∧ (b = true → ∀ (a : Addr) (oe : Obj), H a = none → Zc cls d oe → (∃ vs, oe.data = .fields vs) →
    ts { nx := fun σ' H' => D.nx (σ'.set i none) H', rt := D.rt, bk := fun σ' H' => D.bk (σ'.set i none) H', ct := fun σ' H' => D.ct (σ'.set i none) H' } (σ.set i (some (.ref a))) (upd H a (Std oe))) ∧ (b = false → Wout cls d σ H)
/-- .. without a name -/
def wTup (K : Frag) (c₁ c₂ : Value) (ts : TS) (Wout : WX) (D : Ends) : WX := fun cls d σ H =>
  ∃ b, exmAny K cls [c₁, c₂] = some b ∧ (b = true → ts D σ H) ∧ (b = false → Wout cls d σ H)
section
variable {X : Cx} {n y₁ y₂ : Str} {c₁ c₂ : Value} {i : Nat} {body suite : List Stmt} {b₀ : Stmt} {p₁ p₂ : Pos} {x1 : Nat} {pos pos' tpos : Pos} {tb : WX → TS} {ts : TS} {Wout : WX}
theorem ps_tryT_as (hs : X.stack = X.env :: X.outer) (hf : X.env.frame = some X.env.locals) (hex : X.ex = []) (hN : X.N.Nodup) (hi : X.N[i]? = some n) (hln : X.env.kindOf n = some .local) (tk : Takes X Wout) (hc1 : Names X y₁ c₁) (hc2 : Names X y₂ c₂)
    (hb : ∀ (W : WX) (pn : List (Addr × Obj)) (xe : Value → Shared → Prop), Takes (X.tr pn xe) W → PassesOwn (model X.prog X.w) X.A X.env xe → PSs (X.tr pn xe) body (tb W)) (hsu : ∀ (a : Addr) (pn : List (Addr × Obj)), PSs (X.suite a pn) (b₀ :: suite) ts) :
    PS X (.Try body [.ExceptHandler (some (.Tuple [.Name y₁ p₁, .Name y₂ p₂] x1 tpos)) (some n) (b₀ :: suite) pos'] [] [] pos) (fun D σ H => tb (wTupAs X.K c₁ c₂ i ts Wout D) D σ H) := by
  refine ⟨fun pins s σ H D I h => ?_⟩
  have ok := I.ok
  have hfr : X.A.frames = some (X.env :: X.outer) := by rw [ok.frames, hs]
  refine wpAny_Try_except (wpAny_mono ((hb (wTupAs X.K c₁ c₂ i ts Wout D) (X.pn ++ pins) (fun e s₁ => wpAny (model X.prog X.w) X.A (noteFrame e X.env) (fun _ s₂ => wpAny (model X.prog X.w) X.A (setFlight e none) (fun _ s₃ =>
    wpAny (model X.prog X.w) X.A (handleBy e X.env [.ExceptHandler (some (.Tuple [.Name y₁ p₁, .Name y₂ p₂] x1 tpos)) (some n) (b₀ :: suite) pos']) (SP X pins D) X.xe s₃) X.xe s₂) X.xe s₁) (fun u s' xx => ?_) PassesOwn.looking).run [] s σ H D (I.toTry _) h) (fun f s1 hsp => ?_) (fun e s1 he => he))
  · obtain ⟨a, B, sI, pins', σ', H', cls, d, rfl, J', nb, up, sky, na, os, ag, b, hb1, hyes, hno⟩ := xx
    have J : Inv X pins σ' H' sI := J'.ofTry ok
    have sky' : Sky B (X.env :: X.outer) a (Zc cls d) X.env.locals s'.heap := by rw [← hs]; exact sky
    show wpAny (model X.prog X.w) X.A (noteFrame (.ref a) X.env) _ _ _
    refine Sky.land Zc.steady hfr hf sky' fun h3 fl3 up3 => ?_
    have J3 : Inv X pins σ' H' { s' with heap := h3 } := J.landed nb fl3.1 (up.trans up3) os ag
    obtain ⟨oe3, vs3, he3, hz3, hd3⟩ := fl3.there
    have nfr : a ∉ frs (X.env :: X.outer) := fun hm => by
      obtain ⟨_, o', e', hnf⟩ := fl3.2.2.1.mem hm
      rw [he3] at e'
      cases e'
      exact hnf _ hd3
    have nL : a ≠ X.env.locals := fun z => nfr (List.mem_filterMap.mpr ⟨X.env, List.mem_cons_self, by rw [hf, z]⟩)
    have nF : a ∉ X.fs := fun hm => by
      obtain ⟨e, he, q⟩ := List.mem_filterMap.mp hm
      exact nfr (List.mem_filterMap.mpr ⟨e, List.mem_cons_of_mem _ he, q⟩)
    -- the exception's object is none of those that stood
    have far : ∀ b o, sI.heap.get? b = some o → b ≠ a := fun b o e z => by
      by_cases hb : b ∈ frs X.stack
      · rw [hs, z] at hb
        exact nfr hb
      · have g := nb b o e hb
        rw [z, fl3.2.1] at g
        cases g
    have far0 : ∀ o, X.s_0.heap.get? a ≠ some o := fun o e => by
      obtain ⟨o', g⟩ := J.base.there a o e (by rw [hex]; exact fun z => nomatch z)
      exact far a o' g rfl
    have farP : ∀ p ∈ X.pn ++ pins, p.1 ≠ a := fun p hp => far p.1 p.2 (J.pin p hp).1
    have farC : ∀ x c, X.env.cells.lookup x = some c → c ≠ a := fun x c e => by
      obtain ⟨v, o, g, _⟩ := J.cell x c e
      exact far c o g
    have S3 := J3.suite he3 hd3 na nL nF
    refine wpAny_handleBy_cons (codeAny_handlers_test ?_) (by intro q; cases q)
    have load : ∀ {y : Str} {c : Value} {p : Pos} {Q : Value → Shared → Prop} {E : Value → Shared → Prop}, Names X y c → Q c { s' with heap := h3 } → wpAny (model X.prog X.w) (X.A.mark (some (.ref a))) (eval (.Name y p) X.env) Q E { s' with heap := h3 } := fun {y c p Q E} hc q => by
      obtain ⟨hg, hdbg, hm | ⟨hm, hv, hnn⟩⟩ := hc
      · exact ld_glob (X := X.suite a ((a, oe3) :: (X.pn ++ pins))) S3 hg hm q hdbg
      · exact ld_blt (X := X.suite a ((a, oe3) :: (X.pn ++ pins))) S3 hg hm hv q hnn hdbg
    refine wpAny_Tuple_spliced ?_
    show wpAny _ _ (spliced ((false, eval (.Name y₁ p₁) X.env) :: backTo tpos (starEach [.Name y₂ p₂] X.env))) _ _ _
    refine Calls.spliced_cons (load hc1 ?_)
    show wpAny _ _ (spliced ((false, eval (.Name y₂ p₂) X.env) :: backTo tpos (starEach [] X.env))) _ _ _
    refine Calls.spliced_cons (load hc2 (Calls.spliced_nil ⟨by show 2 ≤ sizeLine; decide, ?_⟩))
    -- the state with the tuple of classes
    have K5 : ∀ b o, h3.get? b = some o → (h3.push { cls := .type "tuple", data := .seq [c₁, c₂].toArray }).get? b = some o := fun b o e => Heap.get?_push_of_some _ e
    have fl5 := flying_more K5 fl3
    have gT := Heap.get?_push_size h3 (o := { cls := .type "tuple", data := .seq [c₁, c₂].toArray }) rfl
    generalize h3.push { cls := .type "tuple", data := .seq [c₁, c₂].toArray } = h5 at K5 fl5 gT ⊢
    have KX : X.K.In h5 := J3.kIn.keeps K5
    have LT : Looks (model X.prog X.w) h5 (typeOf (.ref a)) cls := fun A Q E s k q => wpAny_typeOf_ref (k _ _ (K5 _ _ he3)) (by rw [hz3.1]; exact q)
    refine (exm_tup2 (M := model X.prog X.w) KX LT gT hb1).here ?_
    cases b with
    | true =>
      refine codeAny_handlers_suite_as ?_
      refine HandSPX.lands_againZ fl5 fun h6 fl6 up6 => ?_
      have J6 : Inv X pins σ' H' { s' with heap := h6 } := J.landed nb fl6.1 (((up.trans up3).trans (Heap.UpToSlots.of_keeps K5)).trans up6) os ag
      obtain ⟨oe6, vs6, he6, hz6, hd6⟩ := fl6.there
      have T6 : Inv X pins σ' (upd H' a (Std oe6)) { s' with heap := h6 } := inv_track J6 na far0 nL farC farP (std_ok he6)
      have S6 : Inv (X.suite a (X.pn ++ pins)) [] σ' (upd H' a (Std oe6)) { s' with heap := h6 } :=
        ⟨ok.suite _ _, T6.os, T6.bare, T6.base, T6.loc, T6.cell, T6.free, T6.freeC, fun p hp => T6.pin p (by rw [List.append_nil] at hp; exact hp), T6.hok, T6.len⟩
      refine store_ok (X := X.suite a (X.pn ++ pins)) (v := .ref a) S6 hN hi (.inl hln) rfl (fun s7 S7 => ?_) (.inr hln)
      refine wpAny_mono ((hsu a (X.pn ++ pins)).run [] s7 _ _ _ S7 (hyes rfl a oe6 na hz6 ⟨_, hd6⟩)) (fun f s8 hsp => ?_) (fun _ _ z => False.elim z)
      have back : ∀ {σ8 : L2.St} {H8 : Hp}, Inv (X.suite a (X.pn ++ pins)) [] σ8 H8 s8 → Inv X pins σ8 H8 s8 := fun {σ8 H8} S8 => ⟨ok, S8.os, S8.bare, S8.base, S8.loc, S8.cell, S8.free, S8.freeC, fun p hp => S8.pin p (List.mem_append_left _ hp), S8.hok, S8.len⟩
      have end_ : ∀ {σ8 : L2.St} {H8 : Hp} {Q : Shared → Prop}, Inv (X.suite a (X.pn ++ pins)) [] σ8 H8 s8 → (∀ s9, Inv X pins (σ8.set i none) H8 s9 → Q s9) →
          wpAny (model X.prog X.w) X.A (do bindName X.env n .none; unbindBehindTheSuite X.env n pos') (fun _ s9 => Q s9) X.xe s8 := fun {σ8 H8 Q} S8 hq => gone_ok (back S8) hN hi hln hq
      cases f with
      | next =>
        obtain ⟨σ8, H8, S8, q8⟩ := hsp
        exact end_ S8 fun s9 J9 => ⟨_, _, J9, q8⟩
      | brk =>
        obtain ⟨σ8, H8, S8, q8⟩ := hsp
        exact end_ S8 fun s9 J9 => ⟨_, _, J9, q8⟩
      | cont =>
        obtain ⟨σ8, H8, S8, q8⟩ := hsp
        exact end_ S8 fun s9 J9 => ⟨_, _, J9, q8⟩
      | ret u =>
        obtain ⟨v8, σ8, H8, S8, r8, q8⟩ := hsp
        exact end_ S8 fun s9 J9 => ⟨_, _, _, J9, r8, q8⟩
    | false =>
      show wpAny _ X.A (handleBy (.ref a) X.env []) _ _ _
      refine wpAny_handleBy_nil ?_
      obtain ⟨k1, k2, k3, oe, vs, T, oT, ts', he, hz, hd, h1, hr⟩ := id fl5
      unfold PySem.passOn
      refine wpAny_bind (wpAny_field he hd h1 ?_)
      rw [if_neg (show ¬ ((Value.ref T == Value.none) = true) from by simp)]
      have goOn : wpAny (model X.prog X.w) X.A (setFlight (.ref a) X.env.frame) (fun _ s4 => wpAny (model X.prog X.w) X.A (throw (.ref a) : Sem Flow) (SP X pins D) X.xe s4) X.xe { s' with heap := h5 } := by
        rw [hf]
        refine HandSPX.setFlight_upZ fl5 fun h6 hh6 up6 => wpAny_throw (tk _ _ ?_)
        exact ⟨a, B, sI, pins, σ', H', cls, d, rfl, J, nb, ((up.trans up3).trans (Heap.UpToSlots.of_keeps K5)).trans up6, .inr (.inr (by rw [← hs] at hh6; exact hh6)), na, os, ag, hno rfl⟩
      first
        | exact wpAny_bind (wpAny_pure (wpAny_bind goOn))
        | exact wpAny_bind goOn
  · cases f with
    | next =>
      obtain ⟨σ', H', J', q⟩ := hsp
      exact wpAny_execs_nil ⟨σ', H', J'.ofTry ok, q⟩
    | brk =>
      obtain ⟨σ', H', J', q⟩ := hsp
      exact ⟨σ', H', J'.ofTry ok, q⟩
    | cont =>
      obtain ⟨σ', H', J', q⟩ := hsp
      exact ⟨σ', H', J'.ofTry ok, q⟩
    | ret u =>
      obtain ⟨v, σ', H', J', r, q⟩ := hsp
      exact ⟨v, σ', H', J'.ofTry ok, r, q⟩
theorem ps_tryT (hs : X.stack = X.env :: X.outer) (hf : X.env.frame = some X.env.locals) (hex : X.ex = []) (tk : Takes X Wout) (hc1 : Names X y₁ c₁) (hc2 : Names X y₂ c₂)
    (hb : ∀ (W : WX) (pn : List (Addr × Obj)) (xe : Value → Shared → Prop), Takes (X.tr pn xe) W → PassesOwn (model X.prog X.w) X.A X.env xe → PSs (X.tr pn xe) body (tb W)) (hsu : ∀ (a : Addr) (pn : List (Addr × Obj)), PSs (X.suite a pn) (b₀ :: suite) ts) :
    PS X (.Try body [.ExceptHandler (some (.Tuple [.Name y₁ p₁, .Name y₂ p₂] x1 tpos)) none (b₀ :: suite) pos'] [] [] pos) (fun D σ H => tb (wTup X.K c₁ c₂ ts Wout D) D σ H) := by
  refine ⟨fun pins s σ H D I h => ?_⟩
  have ok := I.ok
  have hfr : X.A.frames = some (X.env :: X.outer) := by rw [ok.frames, hs]
  refine wpAny_Try_except (wpAny_mono ((hb (wTup X.K c₁ c₂ ts Wout D) (X.pn ++ pins) (fun e s₁ => wpAny (model X.prog X.w) X.A (noteFrame e X.env) (fun _ s₂ => wpAny (model X.prog X.w) X.A (setFlight e none) (fun _ s₃ =>
    wpAny (model X.prog X.w) X.A (handleBy e X.env [.ExceptHandler (some (.Tuple [.Name y₁ p₁, .Name y₂ p₂] x1 tpos)) none (b₀ :: suite) pos']) (SP X pins D) X.xe s₃) X.xe s₂) X.xe s₁) (fun u s' xx => ?_) PassesOwn.looking).run [] s σ H D (I.toTry _) h) (fun f s1 hsp => ?_) (fun e s1 he => he))
  · obtain ⟨a, B, sI, pins', σ', H', cls, d, rfl, J', nb, up, sky, na, os, ag, b, hb1, hyes, hno⟩ := xx
    have J : Inv X pins σ' H' sI := J'.ofTry ok
    have sky' : Sky B (X.env :: X.outer) a (Zc cls d) X.env.locals s'.heap := by rw [← hs]; exact sky
    show wpAny (model X.prog X.w) X.A (noteFrame (.ref a) X.env) _ _ _
    refine Sky.land Zc.steady hfr hf sky' fun h3 fl3 up3 => ?_
    have J3 : Inv X pins σ' H' { s' with heap := h3 } := J.landed nb fl3.1 (up.trans up3) os ag
    obtain ⟨oe3, vs3, he3, hz3, hd3⟩ := fl3.there
    have nfr : a ∉ frs (X.env :: X.outer) := fun hm => by
      obtain ⟨_, o', e', hnf⟩ := fl3.2.2.1.mem hm
      rw [he3] at e'
      cases e'
      exact hnf _ hd3
    have nL : a ≠ X.env.locals := fun z => nfr (List.mem_filterMap.mpr ⟨X.env, List.mem_cons_self, by rw [hf, z]⟩)
    have nF : a ∉ X.fs := fun hm => by
      obtain ⟨e, he, q⟩ := List.mem_filterMap.mp hm
      exact nfr (List.mem_filterMap.mpr ⟨e, List.mem_cons_of_mem _ he, q⟩)
    -- the exception's object is none of those that stood
    have far : ∀ b o, sI.heap.get? b = some o → b ≠ a := fun b o e z => by
      by_cases hb : b ∈ frs X.stack
      · rw [hs, z] at hb
        exact nfr hb
      · have g := nb b o e hb
        rw [z, fl3.2.1] at g
        cases g
    have far0 : ∀ o, X.s_0.heap.get? a ≠ some o := fun o e => by
      obtain ⟨o', g⟩ := J.base.there a o e (by rw [hex]; exact fun z => nomatch z)
      exact far a o' g rfl
    have farP : ∀ p ∈ X.pn ++ pins, p.1 ≠ a := fun p hp => far p.1 p.2 (J.pin p hp).1
    have farC : ∀ x c, X.env.cells.lookup x = some c → c ≠ a := fun x c e => by
      obtain ⟨v, o, g, _⟩ := J.cell x c e
      exact far c o g
    have S3 := J3.suite he3 hd3 na nL nF
    refine wpAny_handleBy_cons (codeAny_handlers_test ?_) (by intro q; cases q)
    have load : ∀ {y : Str} {c : Value} {p : Pos} {Q : Value → Shared → Prop} {E : Value → Shared → Prop}, Names X y c → Q c { s' with heap := h3 } → wpAny (model X.prog X.w) (X.A.mark (some (.ref a))) (eval (.Name y p) X.env) Q E { s' with heap := h3 } := fun {y c p Q E} hc q => by
      obtain ⟨hg, hdbg, hm | ⟨hm, hv, hnn⟩⟩ := hc
      · exact ld_glob (X := X.suite a ((a, oe3) :: (X.pn ++ pins))) S3 hg hm q hdbg
      · exact ld_blt (X := X.suite a ((a, oe3) :: (X.pn ++ pins))) S3 hg hm hv q hnn hdbg
    refine wpAny_Tuple_spliced ?_
    show wpAny _ _ (spliced ((false, eval (.Name y₁ p₁) X.env) :: backTo tpos (starEach [.Name y₂ p₂] X.env))) _ _ _
    refine Calls.spliced_cons (load hc1 ?_)
    show wpAny _ _ (spliced ((false, eval (.Name y₂ p₂) X.env) :: backTo tpos (starEach [] X.env))) _ _ _
    refine Calls.spliced_cons (load hc2 (Calls.spliced_nil ⟨by show 2 ≤ sizeLine; decide, ?_⟩))
    -- the state with the tuple of classes
    have K5 : ∀ b o, h3.get? b = some o → (h3.push { cls := .type "tuple", data := .seq [c₁, c₂].toArray }).get? b = some o := fun b o e => Heap.get?_push_of_some _ e
    have fl5 := flying_more K5 fl3
    have gT := Heap.get?_push_size h3 (o := { cls := .type "tuple", data := .seq [c₁, c₂].toArray }) rfl
    generalize h3.push { cls := .type "tuple", data := .seq [c₁, c₂].toArray } = h5 at K5 fl5 gT ⊢
    have KX : X.K.In h5 := J3.kIn.keeps K5
    have LT : Looks (model X.prog X.w) h5 (typeOf (.ref a)) cls := fun A Q E s k q => wpAny_typeOf_ref (k _ _ (K5 _ _ he3)) (by rw [hz3.1]; exact q)
    refine (exm_tup2 (M := model X.prog X.w) KX LT gT hb1).here ?_
    cases b with
    | true =>
      refine codeAny_handlers_suite ?_
      refine HandSPX.lands_againZ fl5 fun h6 fl6 up6 => ?_
      have J6 : Inv X pins σ' H' { s' with heap := h6 } := J.landed nb fl6.1 (((up.trans up3).trans (Heap.UpToSlots.of_keeps K5)).trans up6) os ag
      obtain ⟨oe6, vs6, he6, hz6, hd6⟩ := fl6.there
      have S6 : Inv (X.suite a (X.pn ++ pins)) [] σ' H' { s' with heap := h6 } :=
        ⟨ok.suite _ _, J6.os, J6.bare, J6.base, J6.loc, J6.cell, J6.free, J6.freeC, fun p hp => J6.pin p (by rw [List.append_nil] at hp; exact hp), J6.hok, J6.len⟩
      refine wpAny_mono ((hsu a (X.pn ++ pins)).run [] _ _ _ D S6 (hyes rfl)) (fun f s8 hsp => ?_) (fun _ _ z => False.elim z)
      have back : ∀ {σ8 : L2.St} {H8 : Hp}, Inv (X.suite a (X.pn ++ pins)) [] σ8 H8 s8 → Inv X pins σ8 H8 s8 := fun {σ8 H8} S8 => ⟨ok, S8.os, S8.bare, S8.base, S8.loc, S8.cell, S8.free, S8.freeC, fun p hp => S8.pin p (List.mem_append_left _ hp), S8.hok, S8.len⟩
      cases f with
      | next =>
        obtain ⟨σ8, H8, S8, q8⟩ := hsp
        exact ⟨_, _, back S8, q8⟩
      | brk =>
        obtain ⟨σ8, H8, S8, q8⟩ := hsp
        exact ⟨_, _, back S8, q8⟩
      | cont =>
        obtain ⟨σ8, H8, S8, q8⟩ := hsp
        exact ⟨_, _, back S8, q8⟩
      | ret u =>
        obtain ⟨v8, σ8, H8, S8, r8, q8⟩ := hsp
        exact ⟨_, _, _, back S8, r8, q8⟩
    | false =>
      show wpAny _ X.A (handleBy (.ref a) X.env []) _ _ _
      refine wpAny_handleBy_nil ?_
      obtain ⟨k1, k2, k3, oe, vs, T, oT, ts', he, hz, hd, h1, hr⟩ := id fl5
      unfold PySem.passOn
      refine wpAny_bind (wpAny_field he hd h1 ?_)
      rw [if_neg (show ¬ ((Value.ref T == Value.none) = true) from by simp)]
      have goOn : wpAny (model X.prog X.w) X.A (setFlight (.ref a) X.env.frame) (fun _ s4 => wpAny (model X.prog X.w) X.A (throw (.ref a) : Sem Flow) (SP X pins D) X.xe s4) X.xe { s' with heap := h5 } := by
        rw [hf]
        refine HandSPX.setFlight_upZ fl5 fun h6 hh6 up6 => wpAny_throw (tk _ _ ?_)
        exact ⟨a, B, sI, pins, σ', H', cls, d, rfl, J, nb, ((up.trans up3).trans (Heap.UpToSlots.of_keeps K5)).trans up6, .inr (.inr (by rw [← hs] at hh6; exact hh6)), na, os, ag, hno rfl⟩
      first
        | exact wpAny_bind (wpAny_pure (wpAny_bind goOn))
        | exact wpAny_bind goOn
  · cases f with
    | next =>
      obtain ⟨σ', H', J', q⟩ := hsp
      exact wpAny_execs_nil ⟨σ', H', J'.ofTry ok, q⟩
    | brk =>
      obtain ⟨σ', H', J', q⟩ := hsp
      exact ⟨σ', H', J'.ofTry ok, q⟩
    | cont =>
      obtain ⟨σ', H', J', q⟩ := hsp
      exact ⟨σ', H', J'.ofTry ok, q⟩
    | ret u =>
      obtain ⟨v, σ', H', J', r, q⟩ := hsp
      exact ⟨v, σ', H', J'.ofTry ok, r, q⟩
end
end K95
/-! KR5: values that hold data with a Lean type: ==, in, <, min, repr. -/
namespace K95
open PySem PySem.Spec PySem.Calls PySem.W PyProof.Rows L2
section
variable {α β : Type} [DecidableEq α] [Datum α] [DecidableEq β] [Datum β]
/-- v holds x in the abstract heap H -/
def Hd (K : Frag) (H : Hp) (v : V) (x : α) : Prop := Dp K H v (Datum.toD x)
def HdAll (K : Frag) (H : Hp) (vs : List V) (xs : List α) : Prop := DpAll K H vs (xs.map Datum.toD)
variable {K : Frag} {H H' : Hp} {a : Addr} {v w : V} {x : α} {y : β} {vs ws : List V} {xs ys : List α}
theorem hd_int {i : Int} : Hd K H (.int i) i := .int i
theorem hd_bl {b : Bool} : Hd K H (.bl b) b := .bl b
theorem hd_str {s : Str} : Hd K H (.str s) s := .str s
theorem Hd.int {i : Int} (h : Hd K H v i) : v = .int i := by cases h; rfl
theorem Hd.bl {b : Bool} (h : Hd K H v b) : v = .bl b := by cases h; rfl
theorem Hd.str {s : Str} (h : Hd K H v s) : v = .str s := by cases h; rfl
theorem hd_tup (h : SqT K H a vs) (q : HdAll K H vs xs) : Hd K H (.ref a) (Tup.mk xs) := .tup h q
theorem hd_list (h : SqL K H a vs) (q : HdAll K H vs xs) : Hd K H (.ref a) xs := .lst h q
theorem hd_pair (h : SqT K H a [v, w]) (h1 : Hd K H v x) (h2 : Hd K H w y) : Hd K H (.ref a) (x, y) := .tup h (.cons h1 (.cons h2 .nil))
theorem Hd.tup {t : Tup α} (h : Hd K H v t) : ∃ a vs, v = .ref a ∧ SqT K H a vs ∧ HdAll K H vs t.items := by
  cases h with
  | tup h1 h2 => exact ⟨_, _, rfl, h1, h2⟩
theorem Hd.list (h : Hd K H v xs) : ∃ a vs, v = .ref a ∧ SqL K H a vs ∧ HdAll K H vs xs := by
  cases h with
  | lst h1 h2 => exact ⟨_, _, rfl, h1, h2⟩
theorem Hd.pair {p : α × β} (h : Hd K H v p) : ∃ a v1 v2, v = .ref a ∧ SqT K H a [v1, v2] ∧ Hd K H v1 p.1 ∧ Hd K H v2 p.2 := by
  cases h with
  | tup h1 h2 =>
    cases h2 with
    | cons q1 q2 =>
      cases q2 with
      | cons q2 q3 =>
        cases q3
        exact ⟨_, _, _, rfl, h1, q1, q2⟩
theorem ha_nil : HdAll K H [] ([] : List α) := .nil
theorem ha_cons (h : Hd K H v x) (q : HdAll K H vs xs) : HdAll K H (v :: vs) (x :: xs) := .cons h q
theorem HdAll.inv (h : HdAll K H vs (x :: xs)) : ∃ v ws, vs = v :: ws ∧ Hd K H v x ∧ HdAll K H ws xs := by
  cases h with
  | cons a b => exact ⟨_, _, rfl, a, b⟩
theorem HdAll.nil_inv (h : HdAll K H vs ([] : List α)) : vs = [] := by cases h; rfl
theorem HdAll.len : ∀ {vs : List V} {xs : List α}, HdAll K H vs xs → vs.length = xs.length
  | _, [], h => by rw [h.nil_inv]; rfl
  | _, x :: xs, h => by
    obtain ⟨v, ws, rfl, _, q⟩ := h.inv
    simp [HdAll.len q]
theorem HdAll.at : ∀ {vs : List V} {xs : List α} {i : Nat} {v : V}, HdAll K H vs xs → vs[i]? = some v → ∃ x, xs[i]? = some x ∧ Hd K H v x
  | _, [], i, v, h, e => by rw [h.nil_inv] at e; simp at e
  | _, x :: xs, i, v, h, e => by
    obtain ⟨v', ws, rfl, q1, q⟩ := h.inv
    cases i with
    | zero => simp at e; subst e; exact ⟨x, rfl, q1⟩
    | succ i => simp at e; obtain ⟨z, e1, e2⟩ := HdAll.at q e; exact ⟨z, by simpa using e1, e2⟩
theorem HdAll.at' : ∀ {vs : List V} {xs : List α} {i : Nat} {x : α}, HdAll K H vs xs → xs[i]? = some x → ∃ v, vs[i]? = some v ∧ Hd K H v x := fun {vs xs i x} h e => by
  have hl : i < vs.length := by rw [h.len]; exact (List.getElem?_eq_some_iff.mp e).1
  obtain ⟨z, e1, e2⟩ := h.at (List.getElem?_eq_getElem hl)
  rw [e] at e1
  cases e1
  exact ⟨_, List.getElem?_eq_getElem hl, e2⟩
theorem ha_of : ∀ {vs : List V} {xs : List α}, vs.length = xs.length → (∀ (i : Nat) v x, vs[i]? = some v → xs[i]? = some x → Hd K H v x) → HdAll K H vs xs
  | [], [], _, _ => ha_nil
  | v :: vs, x :: xs, h, k => ha_cons (k 0 v x rfl rfl) (ha_of (by simpa using h) fun i v x e1 e2 => k (i + 1) v x (by simpa using e1) (by simpa using e2))
  | [], _ :: _, h, _ => by simp at h
  | _ :: _, [], h, _ => by simp at h
theorem HdAll.append : ∀ {vs ws : List V} {xs ys : List α}, HdAll K H vs xs → HdAll K H ws ys → HdAll K H (vs ++ ws) (xs ++ ys)
  | _, _, [], _, h, q => by rw [h.nil_inv]; exact q
  | _, _, x :: xs, _, h, q => by
    obtain ⟨v, ws', rfl, q1, h⟩ := h.inv
    exact ha_cons q1 (HdAll.append h q)
theorem HdAll.take (h : HdAll K H vs xs) (n : Nat) : HdAll K H (vs.take n) (xs.take n) := ha_of (by simp [h.len]) fun i v x e1 e2 => by
  rw [List.getElem?_take] at e1 e2
  split at e1
  · rw [if_pos ‹_›] at e2
    obtain ⟨z, e3, e4⟩ := h.at e1
    rw [e2] at e3; cases e3
    exact e4
  · cases e1
theorem HdAll.drop (h : HdAll K H vs xs) (n : Nat) : HdAll K H (vs.drop n) (xs.drop n) := ha_of (by simp [h.len]) fun i v x e1 e2 => by
  rw [List.getElem?_drop] at e1 e2
  obtain ⟨z, e3, e4⟩ := h.at e1
  rw [e2] at e3; cases e3
  exact e4
theorem HdAll.rev (h : HdAll K H vs xs) : HdAll K H vs.reverse xs.reverse := ha_of (by simp [h.len]) fun i v x e1 e2 => by
  have h1 : i < vs.length := by simpa using (List.getElem?_eq_some_iff.mp e1).1
  have h2 : i < xs.length := by rw [← h.len]; exact h1
  rw [List.getElem?_reverse h1] at e1
  rw [List.getElem?_reverse h2, ← h.len] at e2
  obtain ⟨z, e3, e4⟩ := h.at e1
  rw [e2] at e3; cases e3
  exact e4
theorem HdAll.set (h : HdAll K H vs xs) (q : Hd K H v x) (i : Nat) : HdAll K H (vs.set i v) (xs.set i x) := ha_of (by simp [h.len]) fun j w z e1 e2 => by
  by_cases hj : i = j
  · subst hj
    have h1 : i < vs.length := by simpa using (List.getElem?_eq_some_iff.mp e1).1
    have h2 : i < xs.length := by rw [← h.len]; exact h1
    rw [List.getElem?_set_self h1] at e1
    rw [List.getElem?_set_self h2] at e2
    cases e1; cases e2
    exact q
  · rw [List.getElem?_set_ne hj] at e1 e2
    obtain ⟨z', e3, e4⟩ := h.at e1
    rw [e2] at e3; cases e3
    exact e4
theorem HdAll.ints : ∀ {vs : List V} {ns : List Int}, HdAll K H vs ns → vs = ns.map V.int
  | _, [], h => h.nil_inv
  | _, n :: ns, h => by
    obtain ⟨v, ws, rfl, q1, h⟩ := h.inv
    rw [q1.int, HdAll.ints h]; rfl
theorem ha_ints : ∀ {ns : List Int}, HdAll K H (ns.map V.int) ns
  | [] => ha_nil
  | _ :: _ => ha_cons hd_int ha_ints
theorem HdAll.strs : ∀ {vs : List V} {ns : List Str}, HdAll K H vs ns → vs = ns.map V.str
  | _, [], h => h.nil_inv
  | _, n :: ns, h => by
    obtain ⟨v, ws, rfl, q1, h⟩ := h.inv
    rw [q1.str, HdAll.strs h]; rfl
theorem ha_strs : ∀ {ns : List Str}, HdAll K H (ns.map V.str) ns
  | [] => ha_nil
  | _ :: _ => ha_cons hd_str ha_strs
/-- what is walked stays -/
theorem dp_keep (ht : ∀ a xs, SqT K H a xs → SqT K H' a xs) (hl : ∀ a xs, SqL K H a xs → SqL K H' a xs) : ∀ (d : PyData) (v : V), Dp K H v d → Dp K H' v d := by
  have h := @Dp.rec K H (fun v d _ => Dp K H' v d) (fun vs ds _ => DpAll K H' vs ds) .non (fun b => .bl b) (fun i => .int i) (fun x => .str x) (fun h _ q => .lst (hl _ _ h) q) (fun h _ q => .tup (ht _ _ h) q) .nil (fun _ _ a b => .cons a b)
  exact fun d v x => h x
theorem dpAll_keep (ht : ∀ a xs, SqT K H a xs → SqT K H' a xs) (hl : ∀ a xs, SqL K H a xs → SqL K H' a xs) : ∀ {ds : List PyData} {vs : List V}, DpAll K H vs ds → DpAll K H' vs ds
  | _, _, .nil => .nil
  | _, _, .cons a b => .cons (dp_keep ht hl _ _ a) (dpAll_keep ht hl b)
/-- data without lists -/
def imm : PyData → Bool
  | .none => true
  | .bool _ => true
  | .int _ => true
  | .str _ => true
  | .list _ => false
  | .tuple xs => immA xs
  | .dict _ => false
where immA : List PyData → Bool
  | [] => true
  | x :: xs => imm x && immA xs
theorem imm_keep (ht : ∀ a xs, SqT K H a xs → SqT K H' a xs) : ∀ (d : PyData) (v : V), imm d = true → Dp K H v d → Dp K H' v d := by
  have h := @Dp.rec K H (fun v d _ => imm d = true → Dp K H' v d) (fun vs ds _ => imm.immA ds = true → DpAll K H' vs ds) (fun _ => .non) (fun b _ => .bl b) (fun i _ => .int i) (fun x _ => .str x) (fun h _ q e => by simp [imm] at e) (fun h _ q e => .tup (ht _ _ h) (q (by simpa [imm] using e))) (fun _ => .nil)
    (fun _ _ a b e => by simp [imm.immA] at e; exact .cons (a e.1) (b e.2))
  exact fun d v e x => h x e
theorem immA_keep (ht : ∀ a xs, SqT K H a xs → SqT K H' a xs) : ∀ {ds : List PyData} {vs : List V}, imm.immA ds = true → DpAll K H vs ds → DpAll K H' vs ds
  | _, _, _, .nil => .nil
  | _, _, e, .cons a b => by
    simp [imm.immA] at e
    exact .cons (imm_keep ht _ _ e.1 a) (immA_keep ht e.2 b)
/-- a type whose data have no lists -/
class Imm (α : Type) [DecidableEq α] [Datum α] : Prop where
  imm : ∀ x : α, imm (Datum.toD x) = true
instance : Imm Int := ⟨fun _ => rfl⟩
instance : Imm Bool := ⟨fun _ => rfl⟩
instance : Imm Str := ⟨fun _ => rfl⟩
instance [Imm α] [Imm β] : Imm (α × β) := ⟨fun x => by show (imm (Datum.toD x.1) && (imm (Datum.toD x.2) && true)) = true; rw [Imm.imm, Imm.imm]; rfl⟩
theorem immA_map [Imm α] : ∀ xs : List α, imm.immA (xs.map Datum.toD) = true
  | [] => rfl
  | x :: xs => by show (imm (Datum.toD x) && imm.immA (xs.map Datum.toD)) = true; rw [Imm.imm, immA_map xs]; rfl
instance [Imm α] : Imm (Tup α) := ⟨fun t => immA_map t.items⟩
theorem Hd.keepT [Imm α] (h : Hd K H v x) (ht : ∀ a xs, SqT K H a xs → SqT K H' a xs) : Hd K H' v x := imm_keep ht _ _ (Imm.imm x) h
theorem HdAll.keepT [Imm α] (h : HdAll K H vs xs) (ht : ∀ a xs, SqT K H a xs → SqT K H' a xs) : HdAll K H' vs xs := immA_keep ht (immA_map xs) h
theorem Hd.ex (h : Hd K H v x) (e : Evl.Ex H H') : Hd K H' v x := dp_keep (fun _ _ => Evl.ex_t e) (fun _ _ => Evl.ex_l e) _ _ h
theorem HdAll.ex (h : HdAll K H vs xs) (e : Evl.Ex H H') : HdAll K H' vs xs := dpAll_keep (fun _ _ => Evl.ex_t e) (fun _ _ => Evl.ex_l e) h
end
/-! ### to the library's rules -/
section
variable {X : Cx} {pins : List (Addr × Obj)} {σ : L2.St} {H : Hp} {s : Shared}
variable {α : Type} [DecidableEq α] [Datum α]
theorem Hd.holds {v : V} {u : Value} {x : α} (h : Hd X.K H v x) (I : Inv X pins σ H s) (r : RelV v u) : Holds s.heap u x := Dp.reads I _ v u h r
theorem HdAll.holds {vs : List V} {us : List Value} {xs : List α} (h : HdAll X.K H vs xs) (I : Inv X pins σ H s) (r : Vals vs us) : HoldAll s.heap us xs := Dp.readsAll I _ vs us h r
end
section
variable {X : Cx} (α : Type) [DecidableEq α] [Datum α]
def rEqH (K : Frag) : R2 := fun x y H Q => ∃ a b : α, Hd K H x a ∧ Hd K H y b ∧ Q (.bl (decide (a = b))) H
def rNeH (K : Frag) : R2 := fun x y H Q => ∃ a b : α, Hd K H x a ∧ Hd K H y b ∧ Q (.bl (decide (a ≠ b))) H
theorem op_eqH (hu : X.A.units + 64 < cLine) (hd : Datum.depth α ≤ 64 := by decide) : OpR X (compareOp .Eq) (rEqH α X.K) := by
  intro pins s σ H x y v u Q I rx ry ⟨a, b, ha, hb, q⟩
  exact eq_datum (ha.holds I rx) (hb.holds I ry) (by omega) ⟨.bl _, H, I, rfl, q⟩
theorem op_neH (hu : X.A.units + 64 < cLine) (hd : Datum.depth α ≤ 64 := by decide) : OpR X (compareOp .NotEq) (rNeH α X.K) := by
  intro pins s σ H x y v u Q I rx ry ⟨a, b, ha, hb, q⟩
  exact ne_datum (ha.holds I rx) (hb.holds I ry) (by omega) ⟨.bl _, H, I, rfl, q⟩
/-- x in l, a tuple | a list -/
def rInT (K : Frag) : R2 := fun x y H Q => ∃ (a : α) (xs : List α), Hd K H x a ∧ Hd K H y (Tup.mk xs) ∧ Q (.bl (decide (a ∈ xs))) H
def rInL (K : Frag) : R2 := fun x y H Q => ∃ (a : α) (xs : List α), Hd K H x a ∧ Hd K H y xs ∧ Q (.bl (decide (a ∈ xs))) H
def rNotInL (K : Frag) : R2 := fun x y H Q => ∃ (a : α) (xs : List α), Hd K H x a ∧ Hd K H y xs ∧ Q (.bl (decide (a ∉ xs))) H
theorem op_inT (hu : X.A.units + 65 < cLine) (hd : Datum.depth α ≤ 64 := by decide) : OpR X (compareOp .In) (rInT α X.K) := by
  intro pins s σ H x y v u Q I rx ry ⟨a, xs, ha, hb, q⟩
  obtain ⟨l, vs, rfl, h1, h2⟩ := hb.tup
  obtain rfl : u = Value.ref l := ry
  obtain ⟨its, rv, ht, _⟩ := I.tuple h1
  exact in_tuple_datum ht (h2.holds I (by simpa using rv)) (ha.holds I rx) (by omega) ⟨.bl _, H, I, rfl, q⟩
theorem op_inL (hu : X.A.units + 65 < cLine) (hd : Datum.depth α ≤ 64 := by decide) : OpR X (compareOp .In) (rInL α X.K) := by
  intro pins s σ H x y v u Q I rx ry ⟨a, xs, ha, hb, q⟩
  obtain ⟨l, vs, rfl, h1, h2⟩ := hb.list
  obtain rfl : u = Value.ref l := ry
  obtain ⟨its, rv, ht, _⟩ := I.list h1
  exact in_list_datum ht.isList (h2.holds I (by simpa using rv)) (ha.holds I rx) (by omega) ⟨.bl _, H, I, rfl, q⟩
theorem op_notInL (hu : X.A.units + 65 < cLine) (hd : Datum.depth α ≤ 64 := by decide) : OpR X (compareOp .NotIn) (rNotInL α X.K) := by
  intro pins s σ H x y v u Q I rx ry ⟨a, xs, ha, hb, q⟩
  obtain ⟨l, vs, rfl, h1, h2⟩ := hb.list
  obtain rfl : u = Value.ref l := ry
  obtain ⟨its, rv, ht, _⟩ := I.list h1
  exact notIn_list_datum ht.isList (h2.holds I (by simpa using rv)) (ha.holds I rx) (by omega) ⟨.bl _, H, I, rfl, q⟩
end
section
variable {X : Cx} (α : Type) [DecidableEq α] [DatumOrd α]
def rLtH (K : Frag) : R2 := fun x y H Q => ∃ a b : α, Hd K H x a ∧ Hd K H y b ∧ Q (.bl (DatumOrd.lt a b)) H
theorem op_ltH (hu : X.A.units + 64 < cLine) (hd : Datum.depth α ≤ 64 := by decide) : OpR X (compareOp .Lt) (rLtH α X.K) := by
  intro pins s σ H x y v u Q I rx ry ⟨a, b, ha, hb, q⟩
  exact lt_datum (ha.holds I rx) (hb.holds I ry) (by omega) ⟨.bl _, H, I, rfl, q⟩
/-- min(l) -/
def rMinL (K : Frag) : List V → Hp → VK → Prop := fun xs H Q => ∃ (l : Addr) (ws : List V) (z : α) (zs : List α), xs = [.ref l] ∧ SqL K H l ws ∧ HdAll K H ws (z :: zs) ∧ ∀ v, Hd K H v (minOf z zs) → Q v H
theorem call_minL (hc : X.calm = true) (hu : X.A.units + 65 < cLine) (hd : Datum.depth α ≤ 64 := by decide) : CallR X (.builtin "min") (rMinL α X.K) := by
  intro pins s σ H xs us Q I r ⟨l, ws, z, zs, ex, h1, h2, q⟩
  subst ex
  obtain ⟨u, rfl, ru⟩ := vals1 r
  obtain rfl : u = Value.ref l := ru
  obtain ⟨its, rv, hl, _⟩ := I.list h1
  have hh := h2.holds I rv
  refine min_list_datum (I.ok.hd hc) hl.isList (by simpa using hh) (by omega) fun i v h' tk hi hm hk => ?_
  have I' : Inv X pins σ H { s with heap := h', toks := tk } := I.kept hk
  have hi' : its[i]? = some v := by simpa using hi
  have hlen : i < ws.length := by rw [rv.length]; exact (List.getElem?_eq_some_iff.mp hi').1
  obtain ⟨u', e1, r1⟩ := rv.get (List.getElem?_eq_getElem hlen)
  rw [hi'] at e1
  cases e1
  obtain ⟨x, e2, d2⟩ := h2.at (List.getElem?_eq_getElem hlen)
  obtain ⟨as1, q1⟩ := d2.holds I' r1
  obtain ⟨as2, q2⟩ := hm
  have same := (PyProof.Rows.reads_det (fun _ _ e _ => e) q1 q2).1
  have ex : minOf z zs = x := by
    have t := Datum.eqv (minOf z zs) x
    rw [same, Datum.eqv, decide_eq_true (rfl : x = x)] at t
    exact of_decide_eq_true t.symm
  exact ⟨_, H, I', r1, q _ (by rw [ex]; exact d2)⟩
end
section
variable {X : Cx}
/-- min, max of two texts -/
theorem two_strs {prog : Program} {w : World} {A : Around} {E : Value → Shared → Prop} {s : Shared} {x y : Str} {t u : Tok} {Q : Value → Shared → Prop} (hh : A.handled = none)
    (h : ∀ h' tk, (∀ c o, s.heap.get? c = some o → h'.get? c = some o) → Q (if y.cps.toList < x.cps.toList then .str y u else .str x t) { s with heap := h', toks := tk }) :
    wpAny (model prog w) A (call (.builtin "min") [.str x t, .str y u]) Q E s := by
  have hT : (s.heap.push { cls := .type "tuple", data := .seq #[.str x t, .str y u] }).IsTuple s.heap.objs.size #[.str x t, .str y u] := ⟨_, Heap.get?_push_size _ rfl, rfl, 0, rfl⟩
  have z1 : (s.heap.push { cls := .type "tuple", data := .seq #[.str x t, .str y u] }).objs.size = s.heap.objs.size + 1 := Heap.size_push ..
  refine call_min_two (wpAny_pyIter_tuple hT ?_)
  refine ⟨_, [_, s.heap.objs.size], [_], 2, fun i v => #[Value.str x t, .str y u][i]? = some v, _, fun i j => decide ((if i = 0 then x else y).cps.toList < (if j = 0 then x else y).cps.toList), rfl,
    Walks.tuple (A := A.in1) hh _ s.heap.objs.size (by rw [z1]; exact Nat.ne_of_lt (Nat.lt_succ_self _)) #[.str x t, .str y u], ⟨⟨_, Heap.get?_push_size _ rfl, rfl, rfl⟩, hT.push _⟩, fun c hc => ?_, by decide, fun i j vi vj s' Q E hi hj hq => ?_, fun v h' tk hP hk => ?_⟩
  · show c < ((s.heap.push _).push _).objs.size
    rw [Heap.size_push, z1]
    rcases List.mem_cons.mp hc with rfl | hc
    · rw [z1]; exact Nat.lt_succ_self _
    · rcases List.mem_cons.mp hc with rfl | hc
      · exact Nat.lt_succ_of_lt (Nat.lt_succ_self _)
      · cases hc
  · have val : ∀ (k : Nat) (v : Value), #[Value.str x t, .str y u][k]? = some v → ∃ t', v = .str (if k = 0 then x else y) t' := fun k v e => by
      match k, e with
      | 0, e => simp at e; exact ⟨t, e.symm⟩
      | 1, e => simp at e; exact ⟨u, e.symm⟩
      | k + 2, e => simp at e
    obtain ⟨t1, rfl⟩ := val i vi hi
    obtain ⟨t2, rfl⟩ := val j vj hj
    exact richCompare_gives (op := .Lt) (typeIs_str s' _ t1) (typeIs_str s' _ t2) F.slot_str_lt F.entry_str_lt (F.args_str_lt_2 _ _) (gives_str_lt _ _ t1 t2) (fun x => nomatch x) hq
  · have hold : ∀ c o, s.heap.get? c = some o → h'.get? c = some o := fun c o e => by
      refine hk c o (fun hm => ?_) (Heap.get?_push_of_some _ (Heap.get?_push_of_some _ e))
      have := Heap.lt_size e
      rw [List.mem_singleton.mp hm, z1] at this
      exact Nat.lt_irrefl _ (Nat.lt_of_succ_lt this)
    have hv : v = if y.cps.toList < x.cps.toList then .str y u else .str x t := by
      by_cases c : y.cps.toList < x.cps.toList
      · have hP' : #[Value.str x t, .str y u][argBest (fun i j => decide ((if i = 0 then x else y).cps.toList < (if j = 0 then x else y).cps.toList)) 1]? = some v := hP
        have e : argBest (fun i j => decide ((if i = 0 then x else y).cps.toList < (if j = 0 then x else y).cps.toList)) 1 = 1 := by simp [argBest, c]
        rw [e] at hP'
        rw [if_pos c]
        simpa using hP'.symm
      · have hP' : #[Value.str x t, .str y u][argBest (fun i j => decide ((if i = 0 then x else y).cps.toList < (if j = 0 then x else y).cps.toList)) 1]? = some v := hP
        have e : argBest (fun i j => decide ((if i = 0 then x else y).cps.toList < (if j = 0 then x else y).cps.toList)) 1 = 0 := by simp [argBest, c]
        rw [e] at hP'
        rw [if_neg c]
        simpa using hP'.symm
    rw [hv]
    exact h h' tk hold
theorem call_minS (hc : X.calm = true) : CallR X (.builtin "min") (fun xs H Q => ∃ i j, xs = [.str i, .str j] ∧ Q (.str (if DatumOrd.lt j i = true then j else i)) H) := by
  intro pins s σ H xs us Q I r ⟨i, j, ex, q⟩
  subst ex
  obtain ⟨u, w', rfl, ⟨t, rfl⟩, ⟨t', rfl⟩⟩ := vals2 r
  refine two_strs (I.ok.hd hc) fun h' tk k => ⟨_, H, I.kept k, ?_, q⟩
  show RelV (.str (if decide (j.cps.toList < i.cps.toList) = true then j else i)) _
  by_cases c : j.cps.toList < i.cps.toList
  · rw [if_pos c, if_pos (decide_eq_true c)]; exact ⟨_, rfl⟩
  · rw [if_neg c, if_neg (by rw [decide_eq_false c]; decide)]; exact ⟨_, rfl⟩
theorem two_strs_max {prog : Program} {w : World} {A : Around} {E : Value → Shared → Prop} {s : Shared} {x y : Str} {t u : Tok} {Q : Value → Shared → Prop} (hh : A.handled = none)
    (h : ∀ h' tk, (∀ c o, s.heap.get? c = some o → h'.get? c = some o) → Q (if x.cps.toList < y.cps.toList then .str y u else .str x t) { s with heap := h', toks := tk }) :
    wpAny (model prog w) A (call (.builtin "max") [.str x t, .str y u]) Q E s := by
  have hT : (s.heap.push { cls := .type "tuple", data := .seq #[.str x t, .str y u] }).IsTuple s.heap.objs.size #[.str x t, .str y u] := ⟨_, Heap.get?_push_size _ rfl, rfl, 0, rfl⟩
  have z1 : (s.heap.push { cls := .type "tuple", data := .seq #[.str x t, .str y u] }).objs.size = s.heap.objs.size + 1 := Heap.size_push ..
  refine call_max_two (wpAny_pyIter_tuple hT ?_)
  refine ⟨_, [_, s.heap.objs.size], [_], 2, fun i v => #[Value.str x t, .str y u][i]? = some v, _, fun i j => decide ((if j = 0 then x else y).cps.toList < (if i = 0 then x else y).cps.toList), rfl,
    Walks.tuple (A := A.in1) hh _ s.heap.objs.size (by rw [z1]; exact Nat.ne_of_lt (Nat.lt_succ_self _)) #[.str x t, .str y u], ⟨⟨_, Heap.get?_push_size _ rfl, rfl, rfl⟩, hT.push _⟩, fun c hc => ?_, by decide, fun i j vi vj s' Q E hi hj hq => ?_, fun v h' tk hP hk => ?_⟩
  · show c < ((s.heap.push _).push _).objs.size
    rw [Heap.size_push, z1]
    rcases List.mem_cons.mp hc with rfl | hc
    · rw [z1]; exact Nat.lt_succ_self _
    · rcases List.mem_cons.mp hc with rfl | hc
      · exact Nat.lt_succ_of_lt (Nat.lt_succ_self _)
      · cases hc
  · have val : ∀ (k : Nat) (v : Value), #[Value.str x t, .str y u][k]? = some v → ∃ t', v = .str (if k = 0 then x else y) t' := fun k v e => by
      match k, e with
      | 0, e => simp at e; exact ⟨t, e.symm⟩
      | 1, e => simp at e; exact ⟨u, e.symm⟩
      | k + 2, e => simp at e
    obtain ⟨t1, rfl⟩ := val i vi hi
    obtain ⟨t2, rfl⟩ := val j vj hj
    exact richCompare_gives (op := .Gt) (typeIs_str s' _ t1) (typeIs_str s' _ t2) F.slot_str_gt F.entry_str_gt (F.args_str_gt_2 _ _) (gives_str_gt _ _ t1 t2) (fun x => nomatch x) hq
  · have hold : ∀ c o, s.heap.get? c = some o → h'.get? c = some o := fun c o e => by
      refine hk c o (fun hm => ?_) (Heap.get?_push_of_some _ (Heap.get?_push_of_some _ e))
      have := Heap.lt_size e
      rw [List.mem_singleton.mp hm, z1] at this
      exact Nat.lt_irrefl _ (Nat.lt_of_succ_lt this)
    have hv : v = if x.cps.toList < y.cps.toList then .str y u else .str x t := by
      by_cases c : x.cps.toList < y.cps.toList
      · have hP' : #[Value.str x t, .str y u][argBest (fun i j => decide ((if j = 0 then x else y).cps.toList < (if i = 0 then x else y).cps.toList)) 1]? = some v := hP
        have e : argBest (fun i j => decide ((if j = 0 then x else y).cps.toList < (if i = 0 then x else y).cps.toList)) 1 = 1 := by simp [argBest, c]
        rw [e] at hP'
        rw [if_pos c]
        simpa using hP'.symm
      · have hP' : #[Value.str x t, .str y u][argBest (fun i j => decide ((if j = 0 then x else y).cps.toList < (if i = 0 then x else y).cps.toList)) 1]? = some v := hP
        have e : argBest (fun i j => decide ((if j = 0 then x else y).cps.toList < (if i = 0 then x else y).cps.toList)) 1 = 0 := by simp [argBest, c]
        rw [e] at hP'
        rw [if_neg c]
        simpa using hP'.symm
    rw [hv]
    exact h h' tk hold
theorem call_maxS (hc : X.calm = true) : CallR X (.builtin "max") (fun xs H Q => ∃ i j, xs = [.str i, .str j] ∧ Q (.str (if DatumOrd.lt i j = true then j else i)) H) := by
  intro pins s σ H xs us Q I r ⟨i, j, ex, q⟩
  subst ex
  obtain ⟨u, w', rfl, ⟨t, rfl⟩, ⟨t', rfl⟩⟩ := vals2 r
  refine two_strs_max (I.ok.hd hc) fun h' tk k => ⟨_, H, I.kept k, ?_, q⟩
  show RelV (.str (if decide (i.cps.toList < j.cps.toList) = true then j else i)) _
  by_cases c : i.cps.toList < j.cps.toList
  · rw [if_pos c, if_pos (decide_eq_true c)]; exact ⟨_, rfl⟩
  · rw [if_neg c, if_neg (by rw [decide_eq_false c]; decide)]; exact ⟨_, rfl⟩
end
/-! ### repr -/
/-- how long a text of data is at most; ints below 2 ^ 256 -/
def wt : PyData → Nat
  | .none => 5
  | .bool _ => 5
  | .int _ => 260
  | .str x => 10 * x.length + 2
  | .list xs => wtA xs + 3
  | .tuple xs => wtA xs + 3
  | .dict _ => 0
where wtA : List PyData → Nat
  | [] => 0
  | x :: xs => wt x + 2 + wtA xs
def okD : PyData → Bool
  | .none => true
  | .bool _ => true
  | .int i => decide (i.natAbs < 2 ^ 256)
  | .str x => x.cps.toList.all fun c => decide (c < 16 ^ 8)
  | .list xs => okA xs
  | .tuple xs => okA xs
  | .dict _ => false
where okA : List PyData → Bool
  | [] => true
  | x :: xs => okD x && okA xs
theorem log_lt {n : Nat} (h : n < 2 ^ 256) : n.log2 < 256 := by
  by_cases z : n = 0
  · subst z; decide
  · exact (Nat.log2_lt z).mpr h
mutual
theorem okD_show : ∀ d : PyData, okD d = true → d.showable = true ∧ d.hasDict = false ∧ d.shown.length ≤ wt d
  | .none, _ => ⟨rfl, rfl, by decide⟩
  | .bool b, _ => ⟨rfl, rfl, by cases b <;> decide⟩
  | .int i, h => by
    have h : i.natAbs < 2 ^ 256 := of_decide_eq_true (by simpa [okD] using h)
    have l := log_lt h
    refine ⟨?_, rfl, ?_⟩
    · simp only [PyData.showable, decide_eq_true_eq]; omega
    · have := int_text_length_le (a := i) (k := 256) (by decide) l
      have e : (PyData.shown (.int i)).length = (toString i).length := by
        show (Str.ofString (toString i)).length = _
        exact PySem.ofString_length _
      rw [e]
      simp only [wt]; omega
  | .str x, h => by
    refine ⟨rfl, rfl, ?_⟩
    simp only [PyData.shown, wt]
    exact StrLaws.reprText_len x fun c hc => by
      have h : x.cps.toList.all (fun c => decide (c < 16 ^ 8)) = true := by simpa only [okD] using h
      exact of_decide_eq_true (List.all_eq_true.mp h c hc)
  | .list xs, h => by
    obtain ⟨a, b, c⟩ := okA_show xs (by simpa only [okD] using h)
    refine ⟨by simpa only [PyData.showable] using a, by simpa only [PyData.hasDict] using b, ?_⟩
    simp only [PyData.shown, wt]
    exact Nat.le_trans (listText_len_le _) (Nat.add_le_add_right c 3)
  | .tuple xs, h => by
    obtain ⟨a, b, c⟩ := okA_show xs (by simpa only [okD] using h)
    refine ⟨by simpa only [PyData.showable] using a, by simpa only [PyData.hasDict] using b, ?_⟩
    simp only [PyData.shown, wt]
    exact Nat.le_trans (tupleText_len_le _) (Nat.add_le_add_right c 3)
  | .dict _, h => by simp [okD] at h
theorem okA_show : ∀ xs : List PyData, okD.okA xs = true → PyData.showableAll xs = true ∧ PyData.hasDictAll xs = false ∧ ((PyData.shownAll xs).map (·.length)).sum + 2 * (PyData.shownAll xs).length ≤ wt.wtA xs
  | [], _ => ⟨rfl, rfl, Nat.le_refl _⟩
  | x :: xs, h => by
    have h : okD x = true ∧ okD.okA xs = true := by simpa [okD.okA] using h
    obtain ⟨a, b, c⟩ := okD_show x h.1
    obtain ⟨a', b', c'⟩ := okA_show xs h.2
    refine ⟨by simp only [PyData.showableAll, a, a', Bool.and_self], by simp only [PyData.hasDictAll, b, b', Bool.or_self], ?_⟩
    simp only [PyData.shownAll, List.map_cons, List.sum_cons, List.length_cons, wt.wtA]
    omega
end
section
variable {X : Cx}
def rRepr (K : Frag) : List V → Hp → VK → Prop := fun xs H Q => ∃ x d, xs = [x] ∧ Dp K H x d ∧ okD d = true ∧ wt d ≤ 10000000 ∧ d.depth ≤ 60 ∧ Q (.str d.shown) H
theorem call_reprD (hg : X.A.guards = some []) (hu : X.A.units + 64 < cLine) : CallR X (.builtin "repr") (rRepr X.K) := by
  intro pins s σ H xs us Q I r ⟨x, d, ex, hd, ho, hw, hp, q⟩
  subst ex
  obtain ⟨u, rfl, ru⟩ := vals1 r
  obtain ⟨a, b, c⟩ := okD_show d ho
  have sz : d.shown.length ≤ sizeLine := by rw [sizeLine_eq]; omega
  obtain ⟨as, rd⟩ := Dp.reads I d x u hd ru
  cases rd with
  | none => exact PySem.P.repr_of_none ⟨.str _, H, I.tok _, ⟨_, rfl⟩, q⟩
  | bool b => exact PySem.P.repr_of_bool ⟨.str _, H, I.tok _, ⟨_, rfl⟩, q⟩
  | int i t =>
    have a : i.natAbs.log2 < 1920 := of_decide_eq_true (by simpa only [PyData.showable] using a)
    exact PySem.P.repr_of_int a ⟨.str _, H, I.tok _, ⟨_, rfl⟩, q⟩
  | str y t => exact PySem.P.repr_of_str ⟨.str _, H, I.tok _, ⟨_, rfl⟩, q⟩ sz
  | list h1 h2 h3 h4 => exact repr_of_reads' (.list h1 h2 h3 h4) a (PyData.noDict_hsm b) hg (by omega) (fun _ _ e => e) (fun h' u tk k => ⟨.str _, H, I.kept k, ⟨_, rfl⟩, q⟩) sz
  | tuple h1 h2 h3 h4 => exact repr_of_reads' (.tuple h1 h2 h3 h4) a (PyData.noDict_hsm b) hg (by omega) (fun _ _ e => e) (fun h' u tk k => ⟨.str _, H, I.kept k, ⟨_, rfl⟩, q⟩) sz
  | dict h1 h2 h3 h4 h5 => simp [okD] at ho
end
end K95
/-! KR6: len, in, ==, != of own instances; the field of an exception that is held; isinstance of it. -/
namespace K95
open PySem PySem.Spec PySem.Calls PySem.W PyProof.Rows L2
section
variable {prog : Program} {w : World} {A : Around} {E : Value → Shared → Prop} {s : Shared} {K : Frag} {x C L f : Addr} {h₀ : Heap} {m : Str → Option Value} {ox : Obj} {od : Option Obj} {b tb : Value}
/-- a special of a built-in's own, bound -/
theorem ifBound_B {M : Model} {name : Str} {id : String} {args : List Value} {Q : Option Value → Shared → Prop} (X : K.In s.heap) (I : InstAt s.heap x ox C od) (hs : findIn K (.ref C) name = some (some (.builtin id))) (hb : ∀ self, bindSpecial (.builtin id) self = pure (.builtin id, [self]))
    (h : wpAny M A (call (.builtin id) (.ref x :: args)) (fun v => Q (some v)) E s) : wpAny M A (callSpecialIfBound? (.ref x) name args) Q E s := by
  simp only [callSpecialIfBound?, bindSpecialIfBound?]
  refine wpAny_holding (wpAny_bind (wpAny_bind (wpAny_bind (I.type.here ((looks_findIn X hs).here (wpAny_bind (wpAny_askSetting (wpAny_ite ?_))))))))
  have fin : wpAny M A (call (.builtin id) ([.ref x] ++ args) >>= fun v => pure (some v)) Q E s := wpAny_bind (wpAny_mono h (fun v s' h' => wpAny_pure h') fun _ _ h' => h')
  rw [hb]
  split
  · exact wpAny_bind (wpAny_pure (wpAny_pure (by exact fin)))
  · exact wpAny_tryCatch (wpAny_bind (wpAny_pure (wpAny_pure (by exact fin))))
/-- x != b by x's own __eq__ -/
theorem ne_own {nm q : Str} {N : Addr} {bs bm : List Value} {hd : Bool} {sn : List Str} {sub : List Value} {ab : Bool} {col : Option Bool} {dd : Option Addr} {k0 k1 k2 k3 k5 : Option Value} {newId : String} {Q : Value → Shared → Prop} (hu : A.units + 1 < cLine) (F : Fr h₀ L s.heap m) (X₀ : K.In h₀) (I : InstAt s.heap x ox C od) (hox : s.heap.get? x = some ox) (hoc : ox.cls = .ref C) (hb : Looks (model prog w) s.heap (typeOf b) tb) (hn : notFirst K C tb = true)
    (hC : K.lookup C = some (excClassObj nm q C N bs bm hd sn sub ab col dd k0 k1 k2 k3 k5 newId)) (hbm : bm.contains (.type "object") = true) (hne : findIn K (.ref C) "__ne__" = some (some (.builtin "object.__ne__"))) (hs : findIn K (.ref C) "__eq__" = some (some (.ref f))) (hf : isFn K (.ref f) = true)
    (h : wpAny (model prog w) A.in1 (call (.ref f) [.ref x, b]) (fun v s' => ∃ c, v = .bool c ∧ Q (.bool (!c)) s') E s) : wpAny (model prog w) A (compareOp .NotEq (.ref x) b) Q E s := by
  have X := X₀.keeps F.keep
  have gC := X _ _ hC
  obtain ⟨hh, g, d, t, os⟩ := s
  have one : wpAny (model prog w) A (tryCompare (.ref x) "__ne__" b) (fun r s' => ∃ v, r = some v ∧ Q v s') E ⟨hh, g, d, t, os⟩ := by
    unfold tryCompare
    refine wpAny_bind (ifBound_B X I hne PySem.F.cmp_object.ne.bind (wpAny_call (codeAny_call_builtin PySem.F.cmp_object.ne.plain PySem.F.cmpEntry_ne
      (wpAny_check_slot_inst PySem.F.cmpKind_ne PySem.F.cmpSplit_ne (PySem.F.cmpArgs_ne _ _) hbm hox hoc gC ?_))))
    unfold Builtin.«object.__ne__»
    have fin : ∀ {R : Fin → Shared → Prop}, (∀ c s', Q (.bool (!c)) s' → R (.done (.ret (.bool (!c)))) s') → wpAny (model prog w) A.in1 (callSpecialIfBound? (.ref x) (Str.ofString "__eq__") [b] >>= fun r => match r with
        | some .notImplemented | none => ret .notImplemented
        | some r => do ret (.bool (!(← truthy r)))) R E ⟨hh, g, d, t, os⟩ := fun {R} k => by
      refine wpAny_bind (ifBound_K X I hs hf (wpAny_mono h (fun v s' hv => ?_) fun _ _ e => e))
      obtain ⟨c, rfl, hq⟩ := hv
      exact wpAny_bind (wpAny_truthy_bool (wpAny_pure (k c s' hq)))
    refine wpAny_bind (wpAny_pure ?_)
    dsimp only
    refine wpAny_bind (wpAny_cRoomFor (by exact hu) ?_)
    refine fin fun c s' hq => ?_
    first
      | exact wpAny_pure ⟨_, rfl, hq⟩
      | exact ⟨_, rfl, hq⟩
      | exact wpAny_bind (wpAny_pure ⟨_, rfl, hq⟩)
  show wpAny _ _ (richCompare .NotEq (.ref x) b) _ _ _
  unfold richCompare
  simp only [oneThing_ref]
  refine wpAny_holding (wpAny_bind (wpAny_cRoomFor (Nat.lt_of_succ_lt hu) ?_))
  rw [cmpInfo_NotEq]
  dsimp only
  refine wpAny_bind (I.type.here (wpAny_bind (hb.here ?_)))
  split
  · rename_i q
    have e : subIn K tb (.ref C) = some false := by
      rcases Bool.or_eq_true_iff.mp hn with e | e
      · rw [beq_iff_eq.mp e] at q; simp at q
      · exact beq_iff_eq.mp e
    refine wpAny_bind ((looks_subIn X e).here ?_)
    simp only [Bool.false_eq_true, if_false]
    refine wpAny_bind (wpAny_mono one (fun r s' z => ?_) fun _ _ e => e)
    obtain ⟨v, rfl, hq⟩ := z
    exact wpAny_pure hq
  · refine wpAny_bind (wpAny_pure ?_)
    simp only [Bool.false_eq_true, if_false]
    refine wpAny_bind (wpAny_mono one (fun r s' z => ?_) fun _ _ e => e)
    obtain ⟨v, rfl, hq⟩ := z
    exact wpAny_pure hq
end
section
variable {X : Cx} {pins : List (Addr × Obj)} {σ : L2.St} {H : Hp} {s : Shared} {C f : Addr} {fd : FuncData} {ps : List Str} {sp : Sp} {n : Nat}
/-- what stands at y, by its class -/
def TyL (K : Frag) (H : Hp) (y : V) (tb : Value) : Prop := (∃ i, y = .int i ∧ tb = .type "int") ∨ (∃ p vs, y = .ref p ∧ SqT K H p vs ∧ tb = .type "tuple") ∨ (∃ p dx fs C', y = .ref p ∧ H p = some (.ins C' dx fs) ∧ tb = .ref C')
theorem TyL.look {M : Model} {y : V} {u tb : Value} (h : TyL X.K H y tb) (I : Inv X pins σ H s) (r : RelV y u) : Looks M s.heap (typeOf u) tb := by
  rcases h with ⟨i, rfl, rfl⟩ | ⟨p, vs, rfl, h1, rfl⟩ | ⟨p, dx, fs, C', rfl, h1, rfl⟩
  · obtain ⟨t, rfl⟩ := r
    exact Looks.of_pure rfl
  · obtain rfl : u = Value.ref p := r
    obtain ⟨its, _, ⟨o, e, hc, _⟩, _⟩ := I.tuple h1
    exact fun A Q E s k q => wpAny_typeOf_ref (k _ _ e) (by rw [hc]; exact q)
  · obtain rfl : u = Value.ref p := r
    obtain ⟨od, J⟩ := inst_at I h1
    exact J.type
/-- a method run at some surroundings of the body -/
theorem run_in {A : Around} {Q : VK} {us : List Value} {vs : List V} {pl : Value → Shared → Prop} (F : FnOk X.prog X.w X.K X.mg X.base CX0 n f fd ps sp) (hr : Room n A) (e0 : Env0 X.prog X.w X.K X.mg X.base A X.stack s H) (hb : Binds X.K fd ps []) (I : Inv X pins σ H s) (r : Vals vs us) (h : sp vs H Q noE)
    {E : Value → Shared → Prop} (k : ∀ v s', EP X pins σ Q v s' → pl v s') : wpAny (model X.prog X.w) A (call (.ref f) us) pl E s := by
  have hl := F.len _ _ _ _ h
  have b0 := hb s us I.kIn (by rw [List.append_nil, ← r.length]; exact hl)
  rw [List.append_nil] at b0
  refine wpAny_call (codeAny_mono (F.run A X.stack s H ⟨us, []⟩ us vs Q noE hr e0 b0 r h) fun r s' hq => ?_)
  cases r with
  | error e => exact (show False from hq).elim
  | ok fl =>
    cases fl with
    | ret u => exact k u s' (I.after hq)
    | next => exact False.elim hq
    | brk => exact False.elim hq
    | cont => exact False.elim hq
/-- x == y, x an instance of the class at C with its own __eq__ -/
def rEqOwn (K : Frag) (C : Addr) (sp : Sp) : R2 := fun x y H Q => ∃ a dx fs tb, x = .ref a ∧ H a = some (.ins C dx fs) ∧ TyL K H y tb ∧ notFirst K C tb = true ∧ sp [x, y] H (fun z H' => ∃ b, z = .bl b ∧ Q (.bl b) H') noE
theorem op_eqOwn (hs : findIn X.K (.ref C) "__eq__" = some (some (.ref f))) (hf : isFn X.K (.ref f) = true) (F : FnOk X.prog X.w X.K X.mg X.base CX0 n f fd ps sp) (hr : Room n X.A) (hb : Binds X.K fd ps []) : OpR X (compareOp .Eq) (rEqOwn X.K C sp) := by
  intro pins s σ H x y v u Q I rx ry ⟨a, dx, fs, tb, ex, ha, ht, hn, q⟩
  subst ex
  obtain rfl : v = Value.ref a := rx
  obtain ⟨od, J⟩ := inst_at I ha
  obtain ⟨m, hF⟩ := I.fr
  refine cmp_K (op := .Eq) hr.units0 hF I.ok.mod.kin J (ht.look I ry) hn hs hf ?_
  refine run_in (us := [.ref a, u]) (vs := [.ref a, y]) F hr I.env0 hb I (.cons rfl (.cons ry .nil)) q fun v' s' ⟨z, H', I', rz, b, ez, q'⟩ => ?_
  subst ez
  obtain rfl : v' = Value.bool b := rz
  exact ⟨.bl b, H', I', rfl, q'⟩
/-- x != y -/
def rNeOwn (K : Frag) (C : Addr) (sp : Sp) : R2 := fun x y H Q => ∃ a dx fs tb, x = .ref a ∧ H a = some (.ins C dx fs) ∧ TyL K H y tb ∧ notFirst K C tb = true ∧ sp [x, y] H (fun z H' => ∃ b, z = .bl b ∧ Q (.bl (!b)) H') noE
/-- what the class says for that -/
structure NeC (K : Frag) (C f : Addr) : Prop where
  cls : ∃ nm q N bs bm hd sn sub ab col dd k0 k1 k2 k3 k5 newId, K.lookup C = some (excClassObj nm q C N bs bm hd sn sub ab col dd k0 k1 k2 k3 k5 newId) ∧ bm.contains (.type "object") = true
  ne : findIn K (.ref C) "__ne__" = some (some (.builtin "object.__ne__"))
  eq : findIn K (.ref C) "__eq__" = some (some (.ref f))
  fn : isFn K (.ref f) = true
theorem op_neOwn (N : NeC X.K C f) (F : FnOk X.prog X.w X.K X.mg X.base CX0 n f fd ps sp) (hr : Room (n + 1) X.A) (hb : Binds X.K fd ps []) : OpR X (compareOp .NotEq) (rNeOwn X.K C sp) := by
  intro pins s σ H x y v u Q I rx ry ⟨a, dx, fs, tb, ex, ha, ht, hn, q⟩
  subst ex
  obtain rfl : v = Value.ref a := rx
  obtain ⟨od, J⟩ := inst_at I ha
  obtain ⟨m, hF⟩ := I.fr
  obtain ⟨nm, q0, N0, bs, bm, hd, sn, sub, ab, col, dd, k0, k1, k2, k3, k5, newId, hC, hbm⟩ := N.cls
  obtain ⟨_, _, _, hox, _⟩ := I.hok a _ ha
  refine ne_own (by have := hr.un; omega) hF I.ok.mod.kin J hox rfl (ht.look I ry) hn hC hbm N.ne N.eq N.fn ?_
  refine run_in (us := [.ref a, u]) (vs := [.ref a, y]) F hr.in1 I.env0.in1 hb I (.cons rfl (.cons ry .nil)) q fun v' s' ⟨z, H', I', rz, b, ez, q'⟩ => ?_
  subst ez
  obtain rfl : v' = Value.bool b := rz
  exact ⟨b, rfl, .bl (!b), H', I', rfl, q'⟩
/-- len(x) -/
def rLenOwn (C : Addr) (sp : Sp) : List V → Hp → VK → Prop := fun xs H Q => ∃ a dx fs, xs = [.ref a] ∧ H a = some (.ins C dx fs) ∧ sp [.ref a] H (fun z H' => ∃ k : Nat, z = .int k ∧ k ≤ 1000000 ∧ Q (.int k) H') noE
theorem call_lenOwn (hs : findIn X.K (.ref C) "__len__" = some (some (.ref f))) (hf : isFn X.K (.ref f) = true) (F : FnOk X.prog X.w X.K X.mg X.base CX0 n f fd ps sp) (hr : Room (n + 1) X.A) (hb : Binds X.K fd ps []) : CallR X (.builtin "len") (rLenOwn C sp) := by
  intro pins s σ H xs us Q I r ⟨a, dx, fs, ex, ha, q⟩
  subst ex
  obtain ⟨u, rfl, ru⟩ := vals1 r
  obtain rfl : u = Value.ref a := ru
  obtain ⟨od, J⟩ := inst_at I ha
  obtain ⟨m, hF⟩ := I.fr
  refine len_K hF I.ok.mod.kin J hs hf ?_
  refine run_in (us := [.ref a]) (vs := [.ref a]) F hr.in1 I.env0.in1 hb I (.cons rfl .nil) q fun v' s' ⟨z, H', I', rz, k, ez, hk, q'⟩ => ?_
  subst ez
  obtain ⟨t, rfl⟩ := rz
  exact ⟨⟨by omega, by omega⟩, .int k, H', I'.tok _, ⟨_, rfl⟩, q'⟩
/-- k in x -/
def rInOwn (C : Addr) (sp : Sp) : R2 := fun k x H Q => ∃ a dx fs, x = .ref a ∧ H a = some (.ins C dx fs) ∧ sp [.ref a, k] H (fun z H' => ∃ b, z = .bl b ∧ Q (.bl b) H') noE
theorem op_inOwn (hs : findIn X.K (.ref C) "__contains__" = some (some (.ref f))) (hf : isFn X.K (.ref f) = true) (F : FnOk X.prog X.w X.K X.mg X.base CX0 n f fd ps sp) (hr : Room n X.A) (hb : Binds X.K fd ps []) : OpR X (compareOp .In) (rInOwn C sp) := by
  intro pins s σ H k x v u Q I rk rx ⟨a, dx, fs, ex, ha, q⟩
  subst ex
  obtain rfl : u = Value.ref a := rx
  obtain ⟨od, J⟩ := inst_at I ha
  obtain ⟨m, hF⟩ := I.fr
  refine in_K hF I.ok.mod.kin J hs hf ?_
  refine run_in (us := [.ref a, v]) (vs := [.ref a, k]) F hr I.env0 hb I (.cons rfl (.cons rk .nil)) q fun v' s' ⟨z, H', I', rz, b, ez, q'⟩ => ?_
  subst ez
  obtain rfl : v' = Value.bool b := rz
  exact wpAny_truthy_bool ⟨.bl b, H', I', rfl, q'⟩
end
/-! ### an exception that is held as a value -/
/-- at a stands an exception of the class at D, its own dict at dd -/
def ExAt (H : Hp) (a D dd : Addr) (fs : List (Str × V)) : Prop := ∃ oe, H a = some (Std oe) ∧ Zc (.ref D) (some dd) oe ∧ (∃ vs, oe.data = .fields vs) ∧ H dd = some (.xd fs)
section
variable {X : Cx} {pins : List (Addr × Obj)} {σ : L2.St} {H : Hp} {s : Shared} {a D dd : Addr} {fs : List (Str × V)}
theorem ExAt.inst (h : ExAt H a D dd fs) (I : Inv X pins σ H s) : ∃ (oe od : Obj) (mA : Str → Option Value), InstAt s.heap a oe D (some od) ∧ (∀ n, lookIn n od = some (mA n)) ∧ ∀ f, RelO (fs.lookup f) (mA f) := by
  obtain ⟨oe, e1, hz, ⟨vs, hd⟩, e2⟩ := h
  obtain ⟨g, _⟩ := I.hok a _ e1
  obtain ⟨mA, hns, hr⟩ := (show ObjOk X.prog X.w H s.heap dd (.xd fs) from I.hok dd _ e2)
  obtain ⟨od, ho, hl⟩ := lookIn_ns hns
  exact ⟨oe, od, mA, ⟨g, hz.1, by unfold notCls; rw [hd] <;> rfl, by rw [hz.2]; exact ho⟩, hl, hr⟩
/-- isinstance(e, c) -/
def rIsX (K : Frag) : List V → Hp → VK → Prop := fun xs H Q => ∃ (a D dd : Addr) (fs : List (Str × V)) (c : V) (cv : Value) (b : Bool), xs = [.ref a, c] ∧ ExAt H a D dd fs ∧ ExcC K D ∧ (∀ u, RelV c u → u = cv) ∧ kitOne K (.ref D) cv = some b ∧ Q (.bl b) H
theorem call_isX : CallR X (.builtin "isinstance") (rIsX X.K) := by
  intro pins s σ H xs us Q I r ⟨a, D, dd, fs, c, cv, b, ex, hx, C, hc, e, q⟩
  subst ex
  obtain ⟨u1, u2, rfl, r1, r2⟩ := vals2 r
  obtain rfl : u1 = Value.ref a := r1
  obtain rfl := hc _ r2
  obtain ⟨oe, od, mA, J, _⟩ := hx.inst I
  have hcl : (clsIn X.K D).isSome = true := by
    obtain ⟨cd, hcd, _⟩ := any_some C.hd
    rw [hcd]; rfl
  exact kia_one (kitx_exc hcl C.hg C.hk C.hs C.ha C.hn C.ht C.hm) I.kIn J e (fun z => nomatch z) fun tk => ⟨.bl b, H, I.kept (t' := tk) fun _ _ z => z, rfl, q⟩
/-- e.f -/
def tXfS (K : Frag) (n : Str) (te : TE) : TE := fun σ H Q => te σ H fun x H1 => ∃ (a D dd : Addr) (fs : List (Str × V)) (v : V), x = .ref a ∧ ExAt H1 a D dd fs ∧ XfC K D ∧ findIn K (.ref D) n = some none ∧ fs.lookup n = some v ∧ Q v H1
theorem pe_xfS {e : Expr} {te : TE} {pos : Pos} {n : Str} (he : PE X e te) (hb : attributeBase e n X.env (eval e X.env) = eval e X.env := by rfl) : PE X (.Attribute e n pos) (tXfS X.K n te) := by
  refine ⟨fun pins s σ H Q I h => ?_⟩
  refine attr_of hb (thn (he.run pins s σ H _ I h) fun u s1 ⟨x, H1, I1, rx, a, D, dd, fs, v, ex, hx, T, hno, l, q⟩ => ?_)
  subst ex
  obtain rfl : u = Value.ref a := rx
  obtain ⟨oe, od, mA, J, hl, hr⟩ := hx.inst I1
  obtain ⟨u, hu, ru⟩ := RelO.some_of (v := v) (o := mA n) (by rw [← l]; exact hr n)
  exact HandSPX.exc_get I1.kIn J T.ga T.gg T.exC (findObj_own T.hdC hno rfl (by rw [hl, hu])) (handed_of ru) ⟨v, H1, I1.tok _, ru, q⟩
end
end K95
/-! KR7: an own exception whose __init__ says super().__init__(text) and keeps one field; it is made, raised. -/
namespace K95
open PySem PySem.Spec PySem.Calls PySem.W PyProof.Rows PySem.HandSPX
/-! ### the text of __init__ -/
def xA (fl : Str) (p1 p2 : Pos) : Arguments := { posonlyargs := [], args := [{ arg := "self", annotation := none, pos := p1 }, { arg := fl, annotation := none, pos := p2 }], vararg := none, kwonlyargs := [], kw_defaults := [], kwarg := none, defaults := [] }
def xB (fl txt : Str) (q1 q2 q3 q4 q5 q6 q7 q8 q9 q10 : Pos) : List Stmt :=
  [.Expr (.Call (.Attribute (.Call (.Name "super" q1) [] [] q2) "__init__" q3) [.Constant (.str txt) 0 q4] [] q5) q6, .Assign [.Attribute (.Name "self" q7) fl q8] (.Name fl q9) q10]
def xS (fl : Str) : Scope := { kind := .function, names := [(PySem.Str.ofString "self", .local), (fl, .local), (PySem.Str.ofString "__class__", .free), (PySem.Str.ofString "super", .globalImplicit)], isGenerator := false, isCoroutine := false, more := [] }
/-- ValueError.__init__ bound to x -/
abbrev mwO (x : Addr) : Obj := kxs_mw "ValueError.__init__" x
section
variable {prog : Program} {w : World} {A : Around} {E : Value → Shared → Prop} {h : Heap} {g : Array GenState} {d : Drawn} {t : Nat} {os : OsState}
variable {nm q : Str} {C N : Addr} {bs bm : List Value} {hdct : Bool} {sn : List Str} {sub : List Value} {ab : Bool} {col : Option Bool} {dd : Option Addr} {k0 k1 k2 k3 k5 : Option Value}
theorem call_mw {u e t0 : Addr} {rest : List Value} {Q : Value → Shared → Prop}
    (hC : h.get? C = some (excClassObj nm q C N bs bm hdct sn sub ab col dd k0 k1 k2 k3 k5 "ValueError.__new__")) (he : h.get? e = some (excO C t0)) (hu : h.get? u = some (mwO e)) (hrest : rest.length ≤ sizeLine)
    (hq : ∀ h' t1, (∀ b o, b ≠ e → h.get? b = some o → h'.get? b = some o) → h'.get? e = some (excO C t1) → Q .none ⟨h', g, d, t, os⟩) :
    wpAny (model prog w) A (call (.ref u) rest) Q E ⟨h, g, d, t, os⟩ := by
  refine wpAny_call (codeAny_of_tree ?_)
  show wpAny _ A.in1 (callAny (.ref u) ⟨rest, []⟩) _ _ _
  simp only [callAny]
  refine wpAny_bind (wpAny_load hu ?_)
  simp only [mwO, kxs_mw, show (Value.type "method-wrapper" == Value.type "method" || Value.type "method-wrapper" == Value.type "builtin_function_or_method" || Value.type "method-wrapper" == Value.type "method-wrapper") = true by decide, if_true]
  refine W.KFB.if_so (by decide) ?_
  refine wpAny_bind (check_bound_init F.excBase_ValueError.toExcCallFacts hC he rfl ?_)
  refine wpAny_bind (wpAny_pure (wpAny_pure ?_))
  refine ⟨Code.quiet_builtin _ (by decide +kernel), codeAny_builtin F.excBase_ValueError.initEntry ?_⟩
  rw [Around.under_plainId F.excBase_ValueError.init.plain _]
  wp_walk
  refine hq _ h.objs.size (fun b o hb ho => ?_) ?_
  · rw [Heap.get?_update_other _ _ (Ne.symm hb)]
    exact Heap.get?_push_of_some _ ho
  · rw [Heap.get?_update_self _ (Heap.get?_push_of_some _ he) rfl]
    rfl
end
/-- what the written part says of the class at C (global name cn, field fl), of its __init__, at fI, and of the cell that it closes over -/
structure ExTxt (P : Program) (K : Frag) (mg : Str → Option Value) (cn fl : Str) (C fI : Addr) : Prop where
  gC : mg cn = some (.ref C)
  cls : ∃ nm q N bs bm sn sub ab col dd k0 k1 k2 k3 k5, K.lookup C = some (excClassObj nm q C N bs bm true sn sub ab col dd k0 k1 k2 k3 k5 "ValueError.__new__") ∧ refsVE bm = true
  sa : findIn K (.ref C) "__setattr__" = some (some (.builtin "object.__setattr__"))
  noN : findIn K (.ref C) fl = some none
  iC : findIn K (.ref C) "__init__" = some (some (.ref fI))
  tC : typeIn K (.ref fI) = some (.type "function")
  kC : keepIn K (.ref C) = true
  exC : subIn K (.ref C) (.type "BaseException") = some true
  veC : subIn K (.ref C) (.type "ValueError") = some true
  tyC : typeIn K (.ref C) = some (.type "type")
  su : ks_superIn K C C "__init__" = some (some (.builtin "ValueError.__init__"))
  slf : mroIn K C (.ref C) = some true
  opq : nsIn K cStatics "thirdparty.any" = some none
  gS : mg "super" = none
  top : (P.main.scope.names.lookup ("super" : Str)).isSome = false
  lne : (fl == ("__debug__" : Str)) = false ∧ fl ≠ "self" ∧ fl ≠ "__class__" ∧ fl ≠ "super"
  fn : ∃ (qual txt : Str) (oc : Value) (od : Option Addr) (doc pm : Value) (an : Option Addr) (cda cc : Addr) (ct : Value) (osl : Array (Option Value)) (p1 p2 q1 q2 q3 q4 q5 q6 q7 q8 q9 q10 : Pos),
    K.lookup fI = some ⟨oc, od, .func (ksFn "__init__" qual (xA fl p1 p2) (xB fl txt q1 q2 q3 q4 q5 q6 q7 q8 q9 q10) (xS fl) .none .none doc pm an (.ref cda) ct cc), osl⟩ ∧ codeIn K (.ref cda) qual = true ∧
    (∃ ccl cdd vs ccs file tf, K.lookup cda = some ⟨ccl, cdd, .fields vs, ccs⟩ ∧ vs[2]? = some (.str file tf) ∧ ((P.main.file : Str) == file) = true) ∧
    (∃ cl cld csl, K.lookup cc = some ⟨cl, cld, .cell (some (.ref C)), csl⟩) ∧
    (∀ x v : Value, bindArgs (ksFn "__init__" qual (xA fl p1 p2) (xB fl txt q1 q2 q3 q4 q5 q6 q7 q8 q9 q10) (xS fl) .none .none doc pm an (.ref cda) ct cc) ⟨[x, v], []⟩ = pure [(PySem.Str.ofString "self", x), (fl, v)]) ∧
    (∃ pl : Sem Bool, ∀ env : Env, eval (.Call (.Attribute (.Call (.Name "super" q1) [] [] q2) "__init__" q3) [.Constant (.str txt) 0 q4] [] q5) env = (do
      let ov ← attributeBase (.Call (.Name "super" q1) [] [] q2) "__init__" env (eval (.Call (.Name "super" q1) [] [] q2) env)
      standAt q3.atName
      let (f, first) ← holding [ov] (getMethod ov "__init__" pl)
      callWith q5 f first (backTo q5 (starEach [.Constant (.str txt) 0 q4] env)) []))
theorem one_size (v : Value) : [v].length ≤ sizeLine := by
  rw [sizeLine_eq]
  exact (by decide : 1 ≤ 16777216)
/-- what __init__ leaves of a fresh exception at x -/
structure InitEnd (h h' : Heap) (x C dx t1 : Addr) (fl : Str) (v : Value) : Prop where
  keep : ∀ b o, b ≠ x → h.get? b = some o → h'.get? b = some o
  obj : h'.get? x = some { cls := .ref C, dict := some dx, data := .fields #[.ref t1, .none, .none, .none, .bool false, .none] }
  dbig : h.objs.size ≤ dx
  dne : dx ≠ x
  ns : h'.Ns1 dx (fun y => if y = fl then some v else none)
/-- a made one -/
structure OwnMade (h h' : Heap) (e C d : Addr) (fl : Str) (v : Value) : Prop where
  keep : ∀ b o, h.get? b = some o → h'.get? b = some o
  new : h.objs.size ≤ e
  obj : ∃ oe vs, h'.get? e = some oe ∧ oe.cls = .ref C ∧ oe.dict = some d ∧ oe.data = .fields vs ∧ vs[1]? = some .none
  dbig : h.objs.size ≤ d
  dne : d ≠ e
  ns : h'.Ns1 d (fun y => if y = fl then some v else none)
section
variable {prog : Program} {w : World} {A : Around} {E : Value → Shared → Prop} {R : Result → Shared → Prop} {s : Shared} {K : Frag} {mg mb : Str → Option Value} {cn fl : Str} {C fI : Addr}
theorem own_init (T : ExTxt prog K mg cn fl C fI) {x t0 : Addr} {v : Value} (X : K.In s.heap) (hlim : s.heap.NoLimit) (hG : s.heap.Ns mainGlobals mg) (hB : s.heap.Ns builtinsNs mb) (hbb : ∀ x : Str, x ≠ "__name__" → mb x = bootBuiltins x)
    (hnx : K.lookup x = none) (hx : s.heap.get? x = some (excO C t0)) (hroom : A.depth < recursionLimit)
    (hq : ∀ h' tk dx t1, InitEnd s.heap h' x C dx t1 fl v → R (.ok (.ret .none)) { s with heap := h', toks := tk }) :
    codeAny (model prog w) A (.call (.ref fI) ⟨[.ref x, v], []⟩) R s := by
  obtain ⟨qual, txt, oc, od, doc, pm, an, cda, cc, ct, osl, p1, p2, q1, q2, q3, q4, q5, q6, q7, q8, q9, q10, ho, hcd, ⟨ccl, cdd, cvs, ccs, file, tf, hcode, hvs, hfile⟩, ⟨cl, cld, csl, hcell⟩, hbnd, pl, hev⟩ := T.fn
  obtain ⟨nm, q, N, bs, bm, sn, sub, ab, col, dd, k0, k1, k2, k3, k5, hC, hbm⟩ := T.cls
  obtain ⟨l1, l2, l3, l4⟩ := T.lne
  have lkf : (xS fl).names.lookup fl = some .local := by
    have e : (fl == PySem.Str.ofString "self") = false := by simpa using l2
    show List.lookup fl [(PySem.Str.ofString "self", NameKind.local), (fl, NameKind.local), (PySem.Str.ofString "__class__", NameKind.free), (PySem.Str.ofString "super", NameKind.globalImplicit)] = _
    rw [List.lookup_cons, e, List.lookup_cons, beq_self_eq_true]
  have lks : (xS fl).names.lookup ("super" : Str) = some .globalImplicit := by
    have e : (PySem.Str.ofString "super" == fl) = false := by simpa using fun z : (PySem.Str.ofString "super") = fl => l4 z.symm
    show List.lookup (PySem.Str.ofString "super") [(PySem.Str.ofString "self", NameKind.local), (fl, NameKind.local), (PySem.Str.ofString "__class__", NameKind.free), (PySem.Str.ofString "super", NameKind.globalImplicit)] = _
    rw [List.lookup_cons, show (PySem.Str.ofString "super" == PySem.Str.ofString "self") = false from by decide, List.lookup_cons, e]
    rfl
  have lkc : (xS fl).names.lookup ("__class__" : Str) = some .free := by
    have e : (PySem.Str.ofString "__class__" == fl) = false := by simpa using fun z : (PySem.Str.ofString "__class__") = fl => l3 z.symm
    show List.lookup (PySem.Str.ofString "__class__") [(PySem.Str.ofString "self", NameKind.local), (fl, NameKind.local), (PySem.Str.ofString "__class__", NameKind.free), (PySem.Str.ofString "super", NameKind.globalImplicit)] = _
    rw [List.lookup_cons, show (PySem.Str.ofString "__class__" == PySem.Str.ofString "self") = false from by decide, List.lookup_cons, e]
    rfl
  have n1 : ("self" == fl : Bool) = false := by simpa using fun z : (PySem.Str.ofString "self") = fl => l2 z.symm
  have hcl : clsIn K C = some { name := nm, bases := bs, mro := .ref C :: bm, ns := N, qualname := q, hasDict := true, slotNames := sn, subclasses := sub, abstract := ab, collection := col, hasDel := false } := by unfold clsIn; rw [hC] <;> rfl
  refine ks_codeAny_call_defAt (fd := ksFn "__init__" qual (xA fl p1 p2) (xB fl txt q1 q2 q3 q4 q5 q6 q7 q8 q9 q10) (xS fl) .none .none doc pm an (.ref cda) ct cc) (body := xB fl txt q1 q2 q3 q4 q5 q6 q7 q8 q9 q10) (binds := [("self", .ref x), (fl, v)]) hroom (X _ _ ho) rfl hlim (codeRec_of X hcd) rfl
    (BindsTo.of_eq ?_) ?_ ?_ (fun h₁ hn k => ?_) rfl rfl rfl
  · exact hbnd _ _
  · intro y hy
    have hy : y ∈ [(PySem.Str.ofString "self", NameKind.local), (fl, NameKind.local), (PySem.Str.ofString "__class__", NameKind.free), (PySem.Str.ofString "super", NameKind.globalImplicit)] := hy
    simp only [List.mem_cons, List.mem_nil_iff, or_false] at hy
    rcases hy with rfl | rfl | rfl | rfl <;> (intro z; cases z)
  · intro y hy
    simp only [List.mem_cons, List.mem_nil_iff, or_false] at hy
    rcases hy with rfl | rfl
    · rfl
    · exact lkf
  -- the body
  have X₁ : K.In h₁ := X.keeps k
  have hx₁ := k _ _ hx
  have hxL : s.heap.objs.size ≠ x := Nat.ne_of_gt (Heap.lt_size hx)
  have hC₁ := X₁ _ _ hC
  show PySem.wpAt _ (A.deeper (ksEnv qual (xS fl) s.heap.objs.size fI (.ref cda) cc)) (.func (xB fl txt q1 q2 q3 q4 q5 q6 q7 q8 q9 q10) (ksEnv qual (xS fl) s.heap.objs.size fI (.ref cda) cc)) (execs (xB fl txt q1 q2 q3 q4 q5 q6 q7 q8 q9 q10) (ksEnv qual (xS fl) s.heap.objs.size fI (.ref cda) cc)) _ _ _
  refine ks_wpAt_execs_cons (ks_wpAt_Expr_any (ks_wpAt_MethodCall (pl := pl) ?_ (hev _)))
  refine ks_wpAt_super_base (env := ksEnv qual (xS fl) s.heap.objs.size fI (.ref cda) cc) (ar := { arg := "self", annotation := none, pos := p1 }) lks lkc (by decide) rfl (k _ _ (X _ _ ho)) rfl rfl rfl (X₁ _ _ hcode) rfl hvs hfile T.top ?_
  refine ks_loadName_global rfl lks (loadGlobal_builtin (env := ksEnv qual (xS fl) s.heap.objs.size fI (.ref cda) cc) (hG.keeps k) T.gS (hB.keeps k) (hbb _ (by decide +kernel)) ⟨rfl, ?_⟩)
  refine wpAny_loadName_free rfl lkc rfl ⟨_, X₁ _ _ hcell, rfl⟩ ?_
  refine wpAny_loadName_local rfl rfl hn (v := .ref x) (by simp [List.lookup, n1]) ?_
  refine ks_wpAny_isType_cls hC₁ rfl ⟨rfl, ?_⟩
  refine ks_wpAny_call_super hC₁ rfl hx₁ rfl (fun c e => by cases e) (looks_mroIn X₁ T.slf) (fun h₂ hso k₂ => ?_)
  have X₂ : K.In h₂ := X₁.keeps k₂
  have hx₂ := k₂ _ _ hx₁
  have I₂ : InstAt h₂ x (excO C t0) C none := ⟨hx₂, rfl, rfl, trivial⟩
  have hI : Looks (model prog w) h₂ (isInstance (.ref x) (.type "ValueError")) true := I₂.type.andThen (looks_subIn X₂ T.veC)
  have hsu : alongIn K "__init__" (((Value.ref C :: bm).dropWhile (· != .ref C)).drop 1) = some (some (.builtin "ValueError.__init__")) := by
    have z := T.su
    unfold ks_superIn at z
    rw [hcl] at z
    exact z
  refine kxs_getMethod kxs_ValueError hso (looks_opaque X₂ T.opq) (l₀ := .ref C :: bm) (fun A Q E s k q => wpAny_bind ((looks_clsIn X₂ hcl) A _ E s k (wpAny_pure q))) rfl X₂ hsu hI (ks_ne X₂ I₂ hcl) (by decide) ?_
  have k3 : ∀ b o, h₂.get? b = some o → (h₂.push (mwO x)).get? b = some o := fun b o e => Heap.get?_push_of_some _ e
  refine kxs_callWith (i := "ValueError.__init__") (x := x) rfl (evalArgs_plain ?_)
  show wpAny _ _ (spliced ((false, eval (.Constant (.str txt) 0 q4) (ksEnv qual (xS fl) s.heap.objs.size fI (.ref cda) cc)) :: backTo q5 (starEach [] (ksEnv qual (xS fl) s.heap.objs.size fI (.ref cda) cc)))) _ _ _
  refine Calls.spliced_cons (Calls.Constant_str (Calls.spliced_nil ⟨Heap.get?_push_at rfl rfl, ?_⟩))
  have X₃ := X₂.keeps k3
  refine call_mw (X₃ _ _ hC) (k3 _ _ hx₂) (Heap.get?_push_at rfl rfl) (one_size _) fun h₄ t1 k4 hx₄ => ?_
  have hx3 : ∀ b o, b ≠ x → h₁.get? b = some o → h₄.get? b = some o := fun b o hb e => k4 b o hb (k3 b o (k₂ b o e))
  have X₄ : K.In h₄ := fun a o e => k4 a o (fun z => by rw [z, hnx] at e; cases e) (X₃ _ _ e)
  -- self.fl = fl
  show PySem.wpAt _ _ _ (execs [.Assign [.Attribute (.Name "self" q7) fl q8] (.Name fl q9) q10] _) _ _ _
  refine wpAt_of_wpAny (wpAny_execs_cons (plainObj_wpAny_Assign_Attribute ?_))
  have hn4 : h₄.Ns s.heap.objs.size fun x_1 => List.lookup x_1 [(PySem.Str.ofString "self", Value.ref x), (fl, v)].reverse := by
    obtain ⟨o, es, ep, e1, e2⟩ := hn
    exact ⟨o, es, ep, hx3 _ _ hxL e1, e2⟩
  refine wpAny_Name (wpAny_loadName_local rfl lkf hn4 (v := v) (by simp [List.lookup]) ?_) l1
  refine wpAny_Name (wpAny_loadName_local rfl rfl hn4 (v := .ref x) (by simp [List.lookup, n1]) ?_) (by decide)
  refine set_plain X₄ (ox := excO C t1) (od := none) ⟨hx₄, rfl, rfl, trivial⟩ T.sa ?_
  refine exc_osa X₄ hx₄ hcl (show refsVE (.ref C :: bm) = true from hbm) rfl T.noN (fun h₅ tk₅ dx k5 dn dne hx5 hn5 => ?_)
  show wpAny _ _ (execs _ _) _ _ _
  have z1 : s.heap.objs.size < h₁.objs.size := hn.lt
  have z4 : s.heap.objs.size < h₄.objs.size := hn4.lt
  exact wpAny_execs_nil (hq h₅ tk₅ dx t1 ⟨fun b o hb e => k5 b o hb (hx3 b o hb (k b o e)), hx5, Nat.le_of_lt (Nat.lt_of_lt_of_le z4 dn), dne, hn5⟩)
theorem own_made (T : ExTxt prog K mg cn fl C fI) {v : Value} (X : K.In s.heap) (hlim : s.heap.NoLimit) (hG : s.heap.Ns mainGlobals mg) (hB : s.heap.Ns builtinsNs mb) (hbb : ∀ x : Str, x ≠ "__name__" → mb x = bootBuiltins x) (hroom : A.depth + 1 < recursionLimit)
    (hq : ∀ h' tk e d, OwnMade s.heap h' e C d fl v → R (.ok (.ret (.ref e))) { s with heap := h', toks := tk }) :
    codeAny (model prog w) A (.call (.ref C) ⟨[v], []⟩) R s := by
  obtain ⟨nm, q, N, bs, bm, sn, sub, ab, col, dd, k0, k1, k2, k3, k5, hC, hbm⟩ := T.cls
  obtain ⟨hp, g, dr, tk, os⟩ := s
  have k : ∀ b o, hp.get? b = some o → ((hp.push (kdv_tup [v])).push (excO C hp.objs.size)).get? b = some o := fun b o e => Heap.get?_push_of_some _ (Heap.get?_push_of_some _ e)
  have hget : ((hp.push (kdv_tup [v])).push (excO C hp.objs.size)).get? (hp.objs.size + 1) = some (excO C hp.objs.size) := by heap_get
  have hnx : K.lookup (hp.objs.size + 1) = none := by
    cases e : K.lookup (hp.objs.size + 1) with
    | none => rfl
    | some o =>
      have z : hp.get? (hp.objs.size + 1) = some o := X _ _ e
      exact absurd (Nat.lt_of_succ_lt (Heap.lt_size z)) (Nat.lt_irrefl _)
  refine call_own F.excBase_ValueError (fun X => refsVE_contains X bm hbm) (X _ _ hC) (looks_findIn X T.iC) (fun self => bind_fn X self T.tC) (one_size v) ?_
  refine own_init (s := ⟨(hp.push (kdv_tup [v])).push (excO C hp.objs.size), g, dr, tk, os⟩) T (X.keeps k) (hlim.keeps k) (hG.keeps k) (hB.keeps k) hbb hnx hget ?_ fun h' tk' dx t1 ⟨k', hx, dn, dne, hns⟩ => ?_
  · show A.depth + 1 < recursionLimit
    exact hroom
  · have old : ∀ b o, hp.get? b = some o → h'.get? b = some o := fun b o e => k' b o (Nat.ne_of_lt (Nat.lt_succ_of_lt (Heap.lt_size e))) (k b o e)
    have z : hp.objs.size + 1 + 1 ≤ dx := by
      first
        | (simpa only [Heap.size_push] using dn)
        | exact dn
        | (have q := dn; rw [Heap.size_push, Heap.size_push] at q; exact q)
    exact ⟨rfl, hq h' tk' (hp.objs.size + 1) dx ⟨old, Nat.le_succ _, ⟨_, _, hx, rfl, rfl, rfl, rfl⟩, Nat.le_trans (Nat.le_trans (Nat.le_succ _) (Nat.le_succ _)) z, dne, hns⟩⟩
end
open L2
theorem relO_one {v : V} {v' : Value} (r : RelV v v') (fl f : Str) : RelO (List.lookup f [(fl, v)]) (if f = fl then some v' else none) := by
  by_cases hw : f = fl
  · subst hw
    rw [if_pos rfl]
    have q : List.lookup f [(f, v)] = some v := by simp [List.lookup]
    rw [q]
    exact r
  · rw [if_neg hw]
    have qw : (f == fl) = false := by simpa using hw
    have q2 : List.lookup f [(fl, v)] = none := by simp [List.lookup, qw]
    rw [q2]
    trivial
section
variable {X : Cx} {cn fl : Str} {C fI : Addr}
/-- C(e) -/
def tMkEx (fl : Str) (C : Addr) (ta : TA) : L2.St → Hp → XK → Prop := fun σ H Q => ta σ H fun vs H1 => ∃ v, vs = [v] ∧ ∀ d, H1 d = none → Q (.ref C) (some d) (upd H1 d (.xd [(fl, v)]))
theorem pmk_ex {a : Expr} {ta : TA} {p pos : Pos} {k : Nat} (T : ExTxt X.prog X.K X.mg cn fl C fI) (hr : Room k X.A) (ha : PA X [a] ta) (hg : Gl X cn := by rfl)
    (hd : (cn == ("__debug__" : Str)) = false := by decide) (he : starEach (a :: []) X.env = (false, eval a X.env) :: starEach [] X.env := by rfl) (hpl : (backTo pos (starEach [] X.env)).any (·.1) = false := by rfl) :
    PMk X (.Call (.Name cn p) [a] [] pos) (tMkEx fl C ta) := by
  intro pins s σ H Q I h
  refine wpAny_Call_Name_kw (ld_glob I hg T.gC ?_ hd)
  refine PySem.W.callWith_K (h₀ := X.base) I.ok.mod.kin T.kC (thn (ha.run pos pins s σ H _ I h) fun us s1 hh => ?_) he hpl
  obtain ⟨vs, H1, I1, r1, v, ev, q1⟩ := hh
  subst ev
  refine ⟨I1.kIn, ?_⟩
  cases r1 with
  | cons rv rn =>
    rename_i v' us'
    cases rn
    show wpAny _ _ (call (.ref C) [v']) _ _ _
    have hlim := I1.nolimit
    obtain ⟨mb, h1, h2⟩ := I1.ok.mod.blt
    have hG := I1.ok.mod.glob.keeps I1.bk
    have hB := h1.keeps I1.bk
    obtain ⟨hp, g, dr, tk, os⟩ := s1
    refine wpAny_call (own_made T I1.kIn hlim hG hB h2 (by have := hr.dp; omega) fun h' tk' e d M => ?_)
    show MkP X pins σ Q (.ref e) ⟨h', g, dr, tk', os⟩
    obtain ⟨oe, fv, hoe, hc, hd, hdat, h1⟩ := M.obj
    have hns := M.ns
    obtain ⟨G', g1, g2⟩ := restrict h' fun b => decide (b ≠ e)
    have gk : ∀ b, b ≠ e → G'.get? b = h'.get? b := fun b hb => g1 b (decide_eq_true hb)
    have ge : G'.get? e = none := g2 e (by simp)
    have old : ∀ b o, hp.get? b = some o → G'.get? b = some o := fun b o q => (gk b (Nat.ne_of_lt (Nat.lt_of_lt_of_le (Heap.lt_size q) M.new))).trans (M.keep b o q)
    have ob : ObjOk X.prog X.w (upd H1 d (.xd [(fl, v)])) G' d (.xd [(fl, v)]) :=
      ⟨_, hns.at (fun o q => (gk d M.dne).trans q), fun f => relO_one rv fl f⟩
    have J : Inv X pins σ (upd H1 d (.xd [(fl, v)])) ⟨G', g, dr, tk', os⟩ := I1.laid (t' := tk') old M.dbig ob
    refine ⟨e, oe, fv, ⟨G', g, dr, tk', os⟩, _, .ref C, some d, rfl, J, fun b o q => ?_, ge, hoe, ⟨hc, hd⟩, hdat, h1, ?_, rfl, I1.bare, raises_own T.exC T.tyC, q1 d (I1.hok.fresh M.dbig)⟩
    · by_cases hb : b = e
      · have q' : G'.get? b = some o := q
        rw [hb, ge] at q'; cases q'
      · exact (gk b hb).symm.trans q
    · rw [upd_ne (Ne.symm M.dne)]
      exact I1.hok.fresh M.new
/-- raise C(e) -/
def tRaiseEx (fl : Str) (C : Addr) (W : WX) (ta : TA) : TS := fun _ σ H => tMkEx fl C ta σ H fun cls d H' => W cls d σ H'
theorem ps_raiseEx {a : Expr} {ta : TA} {W : WX} {p pos pos2 : Pos} {k : Nat} (hc : X.calm = true) (T : ExTxt X.prog X.K X.mg cn fl C fI) (hr : Room k X.A) (tk : Takes X W) (ha : PA X [a] ta) (hg : Gl X cn := by rfl)
    (hd : (cn == ("__debug__" : Str)) = false := by decide) (he : starEach (a :: []) X.env = (false, eval a X.env) :: starEach [] X.env := by rfl) (hpl : (backTo pos (starEach [] X.env)).any (·.1) = false := by rfl) :
    PS X (.Raise (some (.Call (.Name cn p) [a] [] pos)) none pos2) (tRaiseEx fl C W ta) := ps_raise hc tk (pmk_ex T hr ha hg hd he hpl)
end
end K95
/-! KT1: readings that are the wish itself (w*), and typed judgements over them: what an expression gives, as Lean data (TX), what a test says (TB). -/
namespace K95
open PySem PySem.Spec PySem.Calls PySem.W PyProof.Rows L2 Evl
/-! ### the wish itself as a reading -/
def wE (X : Cx) (e : Expr) : TE := fun σ H Q => ∀ pins s, Inv X pins σ H s → wpAny (model X.prog X.w) X.A (eval e X.env) (EP X pins σ Q) X.xe s
def wT (X : Cx) (e : Expr) : TT := fun σ H Q => ∀ pins s, Inv X pins σ H s → wpAny (model X.prog X.w) X.A (isTrue e X.env (eval e X.env)) (TP X pins σ Q) X.xe s
def wA (X : Cx) (es : List Expr) : TA := fun σ H Q => ∀ pos pins s, Inv X pins σ H s → wpAny (model X.prog X.w) X.A (spliced (backTo pos (starEach es X.env))) (AP X pins σ Q) X.xe s
def wS (X : Cx) (st : Stmt) : TS := fun D σ H => ∀ pins s, Inv X pins σ H s → wpAny (model X.prog X.w) X.A (exec st X.env) (SP X pins D) X.xe s
def wB (X : Cx) (sts : List Stmt) : TS := fun D σ H => ∀ pins s, Inv X pins σ H s → wpAny (model X.prog X.w) X.A (execs sts X.env) (SP X pins D) X.xe s
def wI (X : Cx) (tg iter : Expr) : TI := fun σ H R => ∀ pins s, Inv X pins σ H s → wpAny (model X.prog X.w) X.A (eval iter X.env) (fun v s1 => wpAny (model X.prog X.w) X.A (pyIter v) (PIE X pins σ tg R) X.xe s1) X.xe s
def wG (X : Cx) (tg : Expr) : TG := fun v σ H Q => ∀ pins s u, Inv X pins σ H s → RelV v u → wpAny (model X.prog X.w) X.A (assign tg X.env u) (fun _ s' => ∃ σ' H', Inv X pins σ' H' s' ∧ Q σ' H') X.xe s
section
variable {X : Cx} {e : Expr} {es : List Expr} {st : Stmt} {sts : List Stmt} {tg iter : Expr} {σ : L2.St} {H : Hp} {Q Q' : VK} {D D' : Ends}
theorem pE : PE X e (wE X e) := ⟨fun pins s _ _ _ I h => h pins s I⟩
theorem pT : PT X e (wT X e) := ⟨fun pins s _ _ _ I h => h pins s I⟩
theorem pA : PA X es (wA X es) := ⟨fun pos pins s _ _ _ I h => h pos pins s I⟩
theorem pS : PS X st (wS X st) := ⟨fun pins s _ _ _ I h => h pins s I⟩
theorem pB : PSs X sts (wB X sts) := ⟨fun pins s _ _ _ I h => h pins s I⟩
theorem pI : PI X tg iter (wI X tg iter) := ⟨fun pins s _ _ _ I h => h pins s I⟩
theorem pG : PG X tg (wG X tg) := ⟨fun pins s _ _ _ u _ I r h => h pins s u I r⟩
theorem wE_of {t : TE} (p : PE X e t) (h : t σ H Q) : wE X e σ H Q := fun pins s I => p.run pins s σ H Q I h
theorem wT_of {t : TT} {Q : Bool → Hp → Prop} (p : PT X e t) (h : t σ H Q) : wT X e σ H Q := fun pins s I => p.run pins s σ H Q I h
theorem wA_of {t : TA} {Q : List V → Hp → Prop} (p : PA X es t) (h : t σ H Q) : wA X es σ H Q := fun pos pins s I => p.run pos pins s σ H Q I h
theorem wS_of {t : TS} (p : PS X st t) (h : t D σ H) : wS X st D σ H := fun pins s I => p.run pins s σ H D I h
theorem wB_of {t : TS} (p : PSs X sts t) (h : t D σ H) : wB X sts D σ H := fun pins s I => p.run pins s σ H D I h
theorem wI_of {t : TI} {R : It → Hp → Prop} (p : PI X tg iter t) (h : t σ H R) : wI X tg iter σ H R := fun pins s I => p.run pins s σ H R I h
theorem wG_of {t : TG} {v : V} {Q : L2.St → Hp → Prop} (p : PG X tg t) (h : t v σ H Q) : wG X tg v σ H Q := fun pins s u I r => p.run pins s σ H v u Q I r h
theorem wE_mono (h : wE X e σ H Q) (k : ∀ v H', Q v H' → Q' v H') : wE X e σ H Q' := fun pins s I => thn (h pins s I) fun _ _ ⟨v, H', I', r, q⟩ => ⟨v, H', I', r, k _ _ q⟩
theorem wT_mono {Q Q' : Bool → Hp → Prop} (h : wT X e σ H Q) (k : ∀ v H', Q v H' → Q' v H') : wT X e σ H Q' := fun pins s I => thn (h pins s I) fun _ _ ⟨H', I', q⟩ => ⟨H', I', k _ _ q⟩
theorem wA_mono {Q Q' : List V → Hp → Prop} (h : wA X es σ H Q) (k : ∀ v H', Q v H' → Q' v H') : wA X es σ H Q' := fun pos pins s I => thn (h pos pins s I) fun _ _ ⟨v, H', I', r, q⟩ => ⟨v, H', I', r, k _ _ q⟩
/-! ### statements one after another -/
theorem wB_nil (h : D.nx σ H) : wB X [] D σ H := wB_of pss_nil h
theorem wB_cons (h : wS X st { D with nx := fun σ' H' => wB X sts D σ' H' } σ H) : wB X (st :: sts) D σ H := wB_of (pss_cons pS pB) h
theorem wB_one (h : wS X st D σ H) : wB X [st] D σ H := wB_of (pss_one pS) h
theorem wS_ret {pos : Pos} (h : wE X e σ H fun v H' => D.rt v H') : wS X (.Return (some e) pos) D σ H := wS_of (ps_ret pE) h
theorem wS_retN {pos : Pos} (h : D.rt .non H) : wS X (.Return none pos) D σ H := wS_of ps_retN h
theorem wS_if {c : Expr} {a b : List Stmt} {pos : Pos} (h : wT X c σ H fun k H1 => if k = true then wB X a D σ H1 else wB X b D σ H1) : wS X (.If c a b pos) D σ H := wS_of (ps_if pT pB pB) h
theorem wS_set {i : Nat} {x : Str} {pos' pos : Pos} (hN : X.N.Nodup) (hi : X.N[i]? = some x) (h : wE X e σ H fun v H' => D.nx (σ.set i (some v)) H') (hx : Loc X.env.scope x := by first | exact .inl rfl | exact .inr rfl)
    (hs : swapsWith e (some (.Name x pos')) pos.line X.env = pure false := by rfl) (hf : X.fn x = true ∨ X.env.scope.names.lookup x = some .local := by first | exact .inl rfl | exact .inr rfl) : wS X (.Assign [.Name x pos'] e pos) D σ H := wS_of (ps_set hN hi hx pE hs hf) h
theorem wS_expr {pos : Pos} (h : wE X e σ H fun _ H' => D.nx σ H') (hs : swapsWith e none pos.line X.env = pure false := by rfl) : wS X (.Expr e pos) D σ H := wS_of (ps_expr pE hs) h
end
/-- x stands in xs -/
def isIn {α : Type} [DecidableEq α] (x : α) (xs : List α) : Bool := decide (x ∈ xs)
theorem isIn_iff {α : Type} [DecidableEq α] {x : α} {xs : List α} : isIn x xs = true ↔ x ∈ xs := decide_eq_true_iff
theorem notIn_eq {α : Type} [DecidableEq α] {x : α} {xs : List α} : (!isIn x xs) = decide (x ∉ xs) := by unfold isIn; by_cases h : x ∈ xs <;> simp [h]
/-! ### typed judgements -/
section
variable {α β γ : Type} [DecidableEq α] [Datum α] [DecidableEq β] [Datum β] [DecidableEq γ] [Datum γ]
/-- e gives x, wherever what H knows is known; nothing that is known is changed -/
def TX (X : Cx) (σ : L2.St) (H : Hp) (e : Expr) (x : α) : Prop := ∀ H1, Ex H H1 → ∀ Q : VK, (∀ v H2, Ex H1 H2 → Hd X.K H2 v x → Q v H2) → wE X e σ H1 Q
def TB (X : Cx) (σ : L2.St) (H : Hp) (e : Expr) (b : Bool) : Prop := ∀ H1, Ex H H1 → ∀ Q : Bool → Hp → Prop, (∀ H2, Ex H1 H2 → Q b H2) → wT X e σ H1 Q
variable {X : Cx} {σ : L2.St} {H H1 : Hp} {e a b c : Expr} {x : α} {y : β} {z : γ} {pos p : Pos} {Q : VK}
theorem TX.up (h : TX X σ H e x) (k : Ex H H1) : TX X σ H1 e x := fun H2 k2 => h H2 (k.trans k2)
theorem TX.go (h : TX X σ H e x) (k : ∀ v H2, Ex H H2 → Hd X.K H2 v x → Q v H2) : wE X e σ H Q := h H (Ex.refl H) Q k
theorem TX.conv {x' : α} (h : TX X σ H e x) (k : x = x') : TX X σ H e x' := k ▸ h
theorem TB.up {t : Bool} (h : TB X σ H e t) (k : Ex H H1) : TB X σ H1 e t := fun H2 k2 => h H2 (k.trans k2)
theorem TB.go {t : Bool} {Q : Bool → Hp → Prop} (h : TB X σ H e t) (k : ∀ H2, Ex H H2 → Q t H2) : wT X e σ H Q := h H (Ex.refl H) Q k
theorem TB.conv {t t' : Bool} (h : TB X σ H e t) (k : t = t') : TB X σ H e t' := k ▸ h
theorem tb_val {t : Bool} (h : TX X σ H e t) (he : ∀ whole, isTrue e X.env whole = (do let v ← whole; standAt e.pos; holding [v] (truthy v)) := by intro _; rfl) : TB X σ H e t :=
  fun H1 k Q q => wT_of (pt_val pE he) (h H1 k _ fun v H2 k2 d => by cases d.bl; exact ⟨t, rfl, q H2 k2⟩)
/-- a slot -/
theorem tx_var {v : V} {n : Str} (i : Nat) (h : Hd X.K H v x) (hσ : σ[i]? = some (some v) := by rfl) (hN : X.N[i]? = some n := by rfl) (hv : Vis X.env.scope n := by first | exact .inl rfl | exact .inr (.inl rfl) | exact .inr (.inr rfl)) (hd : (n == ("__debug__" : Str)) = false := by decide) (hcd : (n == ("__classdict__" : Str)) = false := by decide) :
    TX X σ H (.Name n p) x := fun H1 k Q q => wE_of (pe_var (i := i) hN hv hd hcd) ⟨v, hσ, q v H1 (Ex.refl _) (h.ex k)⟩
theorem tx_int {i : Int} {j : Nat} : TX X σ H (.Constant (.int i) j p) i := fun H1 _ Q q => wE_of pe_int (q _ H1 (Ex.refl _) hd_int)
theorem tx_str {i : Str} {j : Nat} : TX X σ H (.Constant (.str i) j p) i := fun H1 _ Q q => wE_of pe_str (q _ H1 (Ex.refl _) hd_str)
theorem tx_bl {i : Bool} {j : Nat} : TX X σ H (.Constant (.bool i) j p) i := fun H1 _ Q q => wE_of pe_bl (q _ H1 (Ex.refl _) hd_bl)
theorem tx_glob {n : Str} {v : V} {u : Value} (hm : X.mg n = some u) (r : RelV v u) (h : Hd X.K H v x) (hg : Gl X n := by rfl) (hd : (n == ("__debug__" : Str)) = false := by decide) : TX X σ H (.Name n p) x :=
  fun H1 k Q q => wE_of (pe_glob hg hm r hd) (q _ H1 (Ex.refl _) (h.ex k))
/-! operations by values -/
theorem tx_opR {op : Operator} {r : R2} (ho : OpR X (binaryOp op) r) (ha : TX X σ H a x) (hb : TX X σ H b y) (hr : ∀ H1 v w, Ex H H1 → Hd X.K H1 v x → Hd X.K H1 w y → ∀ Q : VK, (∀ u H2, Ex H1 H2 → Hd X.K H2 u z → Q u H2) → r v w H1 Q) : TX X σ H (.BinOp a op b p) z :=
  fun H1 k Q q => wE_of (pe_op ho pE pE) (ha H1 k _ fun v H2 k2 d1 => hb H2 (k.trans k2) _ fun w H3 k3 d2 => hr H3 v w ((k.trans k2).trans k3) (d1.ex k3) d2 Q fun u H4 k4 d3 => q u H4 ((k2.trans k3).trans k4) d3)
theorem tx_cmpR {op : CmpOp} {r : R2} (ho : OpR X (compareOp op) r) (ha : TX X σ H a x) (hb : TX X σ H b y) (hr : ∀ H1 v w, Ex H H1 → Hd X.K H1 v x → Hd X.K H1 w y → ∀ Q : VK, (∀ u H2, Ex H1 H2 → Hd X.K H2 u z → Q u H2) → r v w H1 Q) (hm : behindInMarks op b = false := by first | exact nomark _ | with_unfolding_all rfl) : TX X σ H (.Compare a [op] [b] p) z :=
  fun H1 k Q q => wE_of (pe_cmpR ho pE pE hm) (ha H1 k _ fun v H2 k2 d1 => hb H2 (k.trans k2) _ fun w H3 k3 d2 => hr H3 v w ((k.trans k2).trans k3) (d1.ex k3) d2 Q fun u H4 k4 d3 => q u H4 ((k2.trans k3).trans k4) d3)
variable {i j : Int}
theorem tx_add (ha : TX X σ H a i) (hb : TX X σ H b j) : TX X σ H (.BinOp a .Add b p) (i + j) := tx_opR op_add ha hb fun H1 v w k d1 d2 Q q => ⟨i, j, d1.int, d2.int, q _ H1 (Ex.refl _) hd_int⟩
theorem tx_sub (ha : TX X σ H a i) (hb : TX X σ H b j) : TX X σ H (.BinOp a .Sub b p) (i - j) := tx_opR op_sub ha hb fun H1 v w k d1 d2 Q q => ⟨i, j, d1.int, d2.int, q _ H1 (Ex.refl _) hd_int⟩
theorem tx_mul (ha : TX X σ H a i) (hb : TX X σ H b j) (h : CMul i j) : TX X σ H (.BinOp a .Mult b p) (i * j) := tx_opR op_mul ha hb fun H1 v w k d1 d2 Q q => ⟨i, j, d1.int, d2.int, h, q _ H1 (Ex.refl _) hd_int⟩
theorem tx_mod (ha : TX X σ H a i) (hb : TX X σ H b j) (h : 0 < j) : TX X σ H (.BinOp a .Mod b p) (i % j) := tx_opR op_mod ha hb fun H1 v w k d1 d2 Q q => ⟨i, j, d1.int, d2.int, h, q _ H1 (Ex.refl _) hd_int⟩
theorem tx_fdiv (ha : TX X σ H a i) (hb : TX X σ H b j) (h : CDiv i j) : TX X σ H (.BinOp a .FloorDiv b p) (i / j) := tx_opR op_fdiv ha hb fun H1 v w k d1 d2 Q q => ⟨i, j, d1.int, d2.int, h, q _ H1 (Ex.refl _) hd_int⟩
theorem tx_lt (ha : TX X σ H a i) (hb : TX X σ H b j) : TX X σ H (.Compare a [.Lt] [b] p) (decide (i < j)) := tx_cmpR op_lt ha hb fun H1 v w k d1 d2 Q q => ⟨i, j, d1.int, d2.int, q _ H1 (Ex.refl _) hd_bl⟩
theorem tx_le (ha : TX X σ H a i) (hb : TX X σ H b j) : TX X σ H (.Compare a [.LtE] [b] p) (decide (i ≤ j)) := tx_cmpR op_le ha hb fun H1 v w k d1 d2 Q q => ⟨i, j, d1.int, d2.int, q _ H1 (Ex.refl _) hd_bl⟩
theorem tx_gt (ha : TX X σ H a i) (hb : TX X σ H b j) : TX X σ H (.Compare a [.Gt] [b] p) (decide (j < i)) := tx_cmpR op_gt ha hb fun H1 v w k d1 d2 Q q => ⟨i, j, d1.int, d2.int, q _ H1 (Ex.refl _) hd_bl⟩
theorem tx_ge (ha : TX X σ H a i) (hb : TX X σ H b j) : TX X σ H (.Compare a [.GtE] [b] p) (decide (j ≤ i)) := tx_cmpR op_ge ha hb fun H1 v w k d1 d2 Q q => ⟨i, j, d1.int, d2.int, q _ H1 (Ex.refl _) hd_bl⟩
theorem tx_chain {m : Int} {q1 q2 : CmpOp} {g g' : Int → Int → Bool} (ho : OpR X (compareOp q1) (rI0 fun i j => .bl (g i j))) (ho' : OpR X (compareOp q2) (rI0 fun i j => .bl (g' i j))) (ha : TX X σ H a i) (hb : TX X σ H b j) (hc : TX X σ H c m)
    (hm : lastMarks [q1, q2] [b, c] = false := by with_unfolding_all rfl) : TX X σ H (.Compare a [q1, q2] [b, c] p) (g i j && g' j m) :=
  fun H1 k Q q => wE_of (pe_chain ho ho' pE pE pE hm) (ha H1 k _ fun v H2 k2 d1 => hb H2 (k.trans k2) _ fun w H3 k3 d2 => ⟨i, j, d1.int, d2.int, g i j, rfl, by
    cases e : g i j with
    | false => exact q _ H3 (k2.trans k3) (by rw [e]; exact hd_bl)
    | true => exact hc H3 ((k.trans k2).trans k3) _ fun u H4 k4 d3 => ⟨j, m, d2.int, d3.int, q _ H4 ((k2.trans k3).trans k4) (by rw [e]; exact hd_bl)⟩⟩)
theorem tx_chainLe {m : Int} (ha : TX X σ H a i) (hb : TX X σ H b j) (hc : TX X σ H c m) (hm : lastMarks [.LtE, .LtE] [b, c] = false := by with_unfolding_all rfl) : TX X σ H (.Compare a [.LtE, .LtE] [b, c] p) (decide (i ≤ j) && decide (j ≤ m)) := tx_chain op_le op_le ha hb hc hm
section
variable {s t : Bool} {rest : List Expr}
theorem tx_one {op} (h : TX X σ H a x) : TX X σ H (.BoolOp op [a] p) x := fun H1 k Q q => wE_of (pe_one pE) (h H1 k Q q)
theorem tx_and (ha : TX X σ H a s) (hb : s = true → TX X σ H (.BoolOp .And (b :: rest) p) t) : TX X σ H (.BoolOp .And (a :: b :: rest) p) (s && t) :=
  fun H1 k Q q => wE_of (pe_and pE pE) (ha H1 k _ fun v H2 k2 d => ⟨s, d.bl, by
    cases s with
    | false => exact q _ H2 k2 hd_bl
    | true => exact hb rfl H2 (k.trans k2) _ fun u H3 k3 d3 => q u H3 (k2.trans k3) d3⟩)
theorem tx_or (ha : TX X σ H a s) (hb : s = false → TX X σ H (.BoolOp .Or (b :: rest) p) t) : TX X σ H (.BoolOp .Or (a :: b :: rest) p) (s || t) :=
  fun H1 k Q q => wE_of (pe_or pE pE) (ha H1 k _ fun v H2 k2 d => ⟨s, d.bl, by
    cases s with
    | true => exact q _ H2 k2 hd_bl
    | false => exact hb rfl H2 (k.trans k2) _ fun u H3 k3 d3 => q u H3 (k2.trans k3) d3⟩)
theorem tx_not (ha : TX X σ H a s) : TX X σ H (.UnaryOp .Not a p) (!s) := fun H1 k Q q => wE_of (pe_not pE) (ha H1 k _ fun v H2 k2 d => ⟨s, d.bl, q _ H2 k2 hd_bl⟩)
theorem tb_not (ha : TB X σ H a s) : TB X σ H (.UnaryOp .Not a p) (!s) := fun H1 k Q q => wT_of (pt_not pT) (ha H1 k _ fun H2 k2 => q H2 k2)
/-- tests under and, or: whatever their whole is -/
def TW (X : Cx) (σ : L2.St) (H : Hp) (e : Expr) (b : Bool) : Prop := ∀ H1, Ex H H1 → ∀ Q : Bool → Hp → Prop, (∀ H2, Ex H1 H2 → Q b H2) → ∀ wh pins s, Inv X pins σ H1 s → wpAny (model X.prog X.w) X.A (isTrue e X.env wh) (TP X pins σ Q) X.xe s
theorem TW.tb (h : TW X σ H e s) : TB X σ H e s := fun H1 k Q q pins sh I => h H1 k Q q _ pins sh I
theorem tw_and1 (ha : TB X σ H a s) : TW X σ H (.BoolOp .And [a] p) s := fun H1 k Q q wh pins sh I => (pw_and1 pT).run wh pins sh σ H1 Q I (ha H1 k Q q)
theorem tw_or1 (ha : TB X σ H a s) : TW X σ H (.BoolOp .Or [a] p) s := fun H1 k Q q wh pins sh I => (pw_or1 pT).run wh pins sh σ H1 Q I (ha H1 k Q q)
theorem tw_and (ha : TB X σ H a s) (hb : s = true → TW X σ H (.BoolOp .And (b :: rest) p) t) : TW X σ H (.BoolOp .And (a :: b :: rest) p) (s && t) :=
  fun H1 k Q q wh pins sh I => (pw_and (tB' := fun σ' H' Q' => ∀ wh pins s, Inv X pins σ' H' s → wpAny (model X.prog X.w) X.A (isTrue (.BoolOp .And (b :: rest) p) X.env wh) (TP X pins σ' Q') X.xe s) pT ⟨fun wh pins s σ H Q I h => h wh pins s I⟩).run wh pins sh σ H1 Q I
    (ha H1 k _ fun H2 k2 => by
      cases s with
      | false => exact q H2 k2
      | true => exact hb rfl H2 (k.trans k2) _ fun H3 k3 => q H3 (k2.trans k3))
theorem tw_or (ha : TB X σ H a s) (hb : s = false → TW X σ H (.BoolOp .Or (b :: rest) p) t) : TW X σ H (.BoolOp .Or (a :: b :: rest) p) (s || t) :=
  fun H1 k Q q wh pins sh I => (pw_or (tB' := fun σ' H' Q' => ∀ wh pins s, Inv X pins σ' H' s → wpAny (model X.prog X.w) X.A (isTrue (.BoolOp .Or (b :: rest) p) X.env wh) (TP X pins σ' Q') X.xe s) pT ⟨fun wh pins s σ H Q I h => h wh pins s I⟩).run wh pins sh σ H1 Q I
    (ha H1 k _ fun H2 k2 => by
      cases s with
      | true => exact q H2 k2
      | false => exact hb rfl H2 (k.trans k2) _ fun H3 k3 => q H3 (k2.trans k3))
theorem tx_ifExp (hc : TB X σ H c s) (ha : s = true → TX X σ H a x) (hb : s = false → TX X σ H b x) : TX X σ H (.IfExp c a b p) x :=
  fun H1 k Q q => wE_of (pe_ifExp pT pE pE) (hc H1 k _ fun H2 k2 => by
    cases s with
    | true => exact ha rfl H2 (k.trans k2) _ fun u H3 k3 d3 => q u H3 (k2.trans k3) d3
    | false => exact hb rfl H2 (k.trans k2) _ fun u H3 k3 d3 => q u H3 (k2.trans k3) d3)
end
theorem tb_cmpR {op : CmpOp} {r : R2} {t : Bool} (ho : OpR X (compareOp op) r) (ha : TX X σ H a x) (hb : TX X σ H b y) (hr : ∀ H1 v w, Ex H H1 → Hd X.K H1 v x → Hd X.K H1 w y → ∀ Q : VK, (∀ u H2, Ex H1 H2 → Hd X.K H2 u t → Q u H2) → r v w H1 Q) (hm : behindInMarks op b = false := by first | exact nomark _ | with_unfolding_all rfl) : TB X σ H (.Compare a [op] [b] p) t :=
  fun H1 k Q q => wT_of (pt_cmpR ho pE pE hm) (ha H1 k _ fun v H2 k2 d1 => hb H2 (k.trans k2) _ fun w H3 k3 d2 => hr H3 v w ((k.trans k2).trans k3) (d1.ex k3) d2 _ fun u H4 k4 d3 => ⟨t, d3.bl, q H4 ((k2.trans k3).trans k4)⟩)
theorem tb_lt (ha : TX X σ H a i) (hb : TX X σ H b j) : TB X σ H (.Compare a [.Lt] [b] p) (decide (i < j)) := tb_cmpR op_lt ha hb fun H1 v w k d1 d2 Q q => ⟨i, j, d1.int, d2.int, q _ H1 (Ex.refl _) hd_bl⟩
theorem tb_le (ha : TX X σ H a i) (hb : TX X σ H b j) : TB X σ H (.Compare a [.LtE] [b] p) (decide (i ≤ j)) := tb_cmpR op_le ha hb fun H1 v w k d1 d2 Q q => ⟨i, j, d1.int, d2.int, q _ H1 (Ex.refl _) hd_bl⟩
theorem tb_gt (ha : TX X σ H a i) (hb : TX X σ H b j) : TB X σ H (.Compare a [.Gt] [b] p) (decide (j < i)) := tb_cmpR op_gt ha hb fun H1 v w k d1 d2 Q q => ⟨i, j, d1.int, d2.int, q _ H1 (Ex.refl _) hd_bl⟩
theorem tb_ge (ha : TX X σ H a i) (hb : TX X σ H b j) : TB X σ H (.Compare a [.GtE] [b] p) (decide (j ≤ i)) := tb_cmpR op_ge ha hb fun H1 v w k d1 d2 Q q => ⟨i, j, d1.int, d2.int, q _ H1 (Ex.refl _) hd_bl⟩
theorem tb_eq (hu : X.A.units + 64 < cLine) {x y : α} (ha : TX X σ H a x) (hb : TX X σ H b y) (hd : Datum.depth α ≤ 64 := by decide) : TB X σ H (.Compare a [.Eq] [b] p) (decide (x = y)) :=
  tb_cmpR (op_eqH α hu hd) ha hb fun H1 v w k d1 d2 Q q => ⟨x, y, d1, d2, q _ H1 (Ex.refl _) hd_bl⟩
theorem tb_ne (hu : X.A.units + 64 < cLine) {x y : α} (ha : TX X σ H a x) (hb : TX X σ H b y) (hd : Datum.depth α ≤ 64 := by decide) : TB X σ H (.Compare a [.NotEq] [b] p) (decide (x ≠ y)) :=
  tb_cmpR (op_neH α hu hd) ha hb fun H1 v w k d1 d2 Q q => ⟨x, y, d1, d2, q _ H1 (Ex.refl _) hd_bl⟩
theorem tb_inT (hu : X.A.units + 65 < cLine) {xs : List α} (ha : TX X σ H a x) (hb : TX X σ H b (Tup.mk xs)) (hd : Datum.depth α ≤ 64 := by decide) (hm : behindInMarks .In b = false := by with_unfolding_all rfl) : TB X σ H (.Compare a [.In] [b] p) (isIn x xs) :=
  tb_cmpR (op_inT α hu hd) ha hb (fun H1 v w k d1 d2 Q q => ⟨x, xs, d1, d2, q _ H1 (Ex.refl _) hd_bl⟩) hm
theorem tb_inL (hu : X.A.units + 65 < cLine) {xs : List α} (ha : TX X σ H a x) (hb : TX X σ H b xs) (hd : Datum.depth α ≤ 64 := by decide) (hm : behindInMarks .In b = false := by with_unfolding_all rfl) : TB X σ H (.Compare a [.In] [b] p) (isIn x xs) :=
  tb_cmpR (op_inL α hu hd) ha hb (fun H1 v w k d1 d2 Q q => ⟨x, xs, d1, d2, q _ H1 (Ex.refl _) hd_bl⟩) hm
theorem tb_notInL (hu : X.A.units + 65 < cLine) {xs : List α} (ha : TX X σ H a x) (hb : TX X σ H b xs) (hd : Datum.depth α ≤ 64 := by decide) (hm : behindInMarks .NotIn b = false := by with_unfolding_all rfl) : TB X σ H (.Compare a [.NotIn] [b] p) (!isIn x xs) :=
  tb_cmpR (op_notInL α hu hd) ha hb (fun H1 v w k d1 d2 Q q => ⟨x, xs, d1, d2, by rw [← notIn_eq]; exact q _ H1 (Ex.refl _) hd_bl⟩) hm
theorem tb_chain {m : Int} {q1 q2 : CmpOp} {g g' : Int → Int → Bool} (ho : OpR X (compareOp q1) (rI0 fun i j => .bl (g i j))) (ho' : OpR X (compareOp q2) (rI0 fun i j => .bl (g' i j))) (ha : TX X σ H a i) (hb : TX X σ H b j) (hc : TX X σ H c m)
    (hm : lastMarks [q1, q2] [b, c] = false := by with_unfolding_all rfl) : TB X σ H (.Compare a [q1, q2] [b, c] p) (g i j && g' j m) :=
  fun H1 k Q q => wT_of (pt_chain ho ho' pE pE pE hm) (ha H1 k _ fun v H2 k2 d1 => hb H2 (k.trans k2) _ fun w H3 k3 d2 => ⟨i, j, d1.int, d2.int, g i j, rfl, by
    cases e : g i j with
    | false => exact ⟨false, rfl, by rw [e] at q; exact q H3 (k2.trans k3)⟩
    | true => exact hc H3 ((k.trans k2).trans k3) _ fun u H4 k4 d3 => ⟨j, m, d2.int, d3.int, _, rfl, by rw [e, Bool.true_and] at q; exact q H4 ((k2.trans k3).trans k4)⟩⟩)
theorem tb_chainLe {m : Int} (ha : TX X σ H a i) (hb : TX X σ H b j) (hc : TX X σ H c m) (hm : lastMarks [.LtE, .LtE] [b, c] = false := by with_unfolding_all rfl) : TB X σ H (.Compare a [.LtE, .LtE] [b, c] p) (decide (i ≤ j) && decide (j ≤ m)) := tb_chain op_le op_le ha hb hc hm
theorem tx_eq (hu : X.A.units + 64 < cLine) {x y : α} (ha : TX X σ H a x) (hb : TX X σ H b y) (hd : Datum.depth α ≤ 64 := by decide) : TX X σ H (.Compare a [.Eq] [b] p) (decide (x = y)) :=
  tx_cmpR (op_eqH α hu hd) ha hb fun H1 v w k d1 d2 Q q => ⟨x, y, d1, d2, q _ H1 (Ex.refl _) hd_bl⟩
theorem tx_ne (hu : X.A.units + 64 < cLine) {x y : α} (ha : TX X σ H a x) (hb : TX X σ H b y) (hd : Datum.depth α ≤ 64 := by decide) : TX X σ H (.Compare a [.NotEq] [b] p) (decide (x ≠ y)) :=
  tx_cmpR (op_neH α hu hd) ha hb fun H1 v w k d1 d2 Q q => ⟨x, y, d1, d2, q _ H1 (Ex.refl _) hd_bl⟩
theorem tx_inT (hu : X.A.units + 65 < cLine) {xs : List α} (ha : TX X σ H a x) (hb : TX X σ H b (Tup.mk xs)) (hd : Datum.depth α ≤ 64 := by decide) (hm : behindInMarks .In b = false := by with_unfolding_all rfl) : TX X σ H (.Compare a [.In] [b] p) (isIn x xs) :=
  tx_cmpR (op_inT α hu hd) ha hb (fun H1 v w k d1 d2 Q q => ⟨x, xs, d1, d2, q _ H1 (Ex.refl _) hd_bl⟩) hm
theorem tx_inL (hu : X.A.units + 65 < cLine) {xs : List α} (ha : TX X σ H a x) (hb : TX X σ H b xs) (hd : Datum.depth α ≤ 64 := by decide) (hm : behindInMarks .In b = false := by with_unfolding_all rfl) : TX X σ H (.Compare a [.In] [b] p) (isIn x xs) :=
  tx_cmpR (op_inL α hu hd) ha hb (fun H1 v w k d1 d2 Q q => ⟨x, xs, d1, d2, q _ H1 (Ex.refl _) hd_bl⟩) hm
theorem tx_notInL (hu : X.A.units + 65 < cLine) {xs : List α} (ha : TX X σ H a x) (hb : TX X σ H b xs) (hd : Datum.depth α ≤ 64 := by decide) (hm : behindInMarks .NotIn b = false := by with_unfolding_all rfl) : TX X σ H (.Compare a [.NotIn] [b] p) (!isIn x xs) :=
  tx_cmpR (op_notInL α hu hd) ha hb (fun H1 v w k d1 d2 Q q => ⟨x, xs, d1, d2, by rw [← notIn_eq]; exact q _ H1 (Ex.refl _) hd_bl⟩) hm
theorem tx_inStr {cp : Nat} {z : Str} (ha : TX X σ H a (⟨#[cp]⟩ : Str)) (hb : TX X σ H b z) (hm : behindInMarks .In b = false := by with_unfolding_all rfl) : TX X σ H (.Compare a [.In] [b] p) (decide (cp ∈ z.cps.toList)) :=
  tx_cmpR op_inS ha hb (fun H1 v w k d1 d2 Q q => ⟨cp, z, d1.str, d2.str, q _ H1 (Ex.refl _) hd_bl⟩) hm
end
section
variable {α : Type} [DecidableEq α] [DatumOrd α] {X : Cx} {σ : L2.St} {H : Hp} {a b : Expr} {x y : α} {p : Pos}
theorem tx_ltH (hu : X.A.units + 64 < cLine) (ha : TX X σ H a x) (hb : TX X σ H b y) (hd : Datum.depth α ≤ 64 := by decide) : TX X σ H (.Compare a [.Lt] [b] p) (DatumOrd.lt x y) :=
  tx_cmpR (op_ltH α hu hd) ha hb fun H1 v w k d1 d2 Q q => ⟨x, y, d1, d2, q _ H1 (Ex.refl _) hd_bl⟩
end
end K95
/-! KT2: typed walks (for, comprehensions), displays, subscripts. -/
namespace K95
open PySem PySem.Spec PySem.Calls PySem.W PyProof.Rows L2 Evl
section
variable {α β γ : Type} [DecidableEq α] [Datum α] [DecidableEq β] [Datum β] [DecidableEq γ] [Datum γ]
/-- J walks over xs as long as G holds -/
structure ItOk (K : Frag) (J : It) (G : Hp → Prop) (xs : List α) : Prop where
  go : ∀ H i, G H → i < xs.length → J.go i H
  stop : ∀ H, G H → J.stop xs.length H
  yld : ∀ H i v H', G H → J.yld i H v H' → ∀ x, xs[i]? = some x → Ex H H' ∧ Hd K H' v x
variable {K : Frag} {X : Cx} {σ : L2.St} {H H1 : Hp} {e a b c tg iter : Expr} {x : α} {y : β} {z : γ} {pos p : Pos} {Q : VK} {D : Ends}
theorem itok_list {l : Addr} {vs : List V} {xs : List α} {G : Hp → Prop} (h : ∀ H, G H → SqL K H l vs ∧ HdAll K H vs xs) : ItOk K (Itl K l) G xs := by
  refine ⟨fun H i g hi => ?_, fun H g => ⟨vs, (h H g).1, Nat.le_of_eq (h H g).2.len⟩, fun H i v H' g q x hx => ?_⟩
  · have h2 := (h H g).2
    have hi' : i < vs.length := by rw [h2.len]; exact hi
    exact ⟨vs, vs[i], (h H g).1, List.getElem?_eq_getElem hi'⟩
  · obtain ⟨e, q⟩ := q
    subst e
    obtain ⟨z, e1, d⟩ := (h _ g).2.at (q vs (h _ g).1)
    rw [hx] at e1; cases e1
    exact ⟨Ex.refl _, d⟩
theorem itok_tup {l : Addr} {vs : List V} {xs : List α} {G : Hp → Prop} (h : ∀ H, G H → SqT K H l vs ∧ HdAll K H vs xs) : ItOk K (Itt K l) G xs := by
  refine ⟨fun H i g hi => ?_, fun H g => ⟨vs, (h H g).1, Nat.le_of_eq (h H g).2.len⟩, fun H i v H' g q x hx => ?_⟩
  · have h2 := (h H g).2
    have hi' : i < vs.length := by rw [h2.len]; exact hi
    exact ⟨vs, vs[i], (h H g).1, List.getElem?_eq_getElem hi'⟩
  · obtain ⟨e, q⟩ := q
    subst e
    obtain ⟨z, e1, d⟩ := (h _ g).2.at (q vs (h _ g).1)
    rw [hx] at e1; cases e1
    exact ⟨Ex.refl _, d⟩
/-- the numbers lo .. lo + n - 1 -/
def rng (lo : Int) (n : Nat) : List Int := (List.range n).map fun (i : Nat) => lo + (i : Int)
theorem rng_length (lo : Int) (n : Nat) : (rng lo n).length = n := by simp [rng]
theorem rng_get {lo : Int} {n i : Nat} {x : Int} (h : (rng lo n)[i]? = some x) : x = lo + i := by
  unfold rng at h
  rw [List.getElem?_map] at h
  cases e : (List.range n)[i]? with
  | none => rw [e] at h; cases h
  | some j =>
    rw [e] at h
    have := (List.getElem?_eq_some_iff.mp e).2
    simp at this
    subst this
    exact (Option.some.inj h).symm
theorem itok_rng {lo : Int} {n : Nat} {G : Hp → Prop} : ItOk K (Itr lo n) G (rng lo n) := by
  refine ⟨fun H i _ hi => by rw [rng_length] at hi; exact hi, fun H _ => Nat.le_of_eq (rng_length lo n).symm, fun H i v H' _ q x hx => ?_⟩
  obtain ⟨e, rfl⟩ := q
  subst e
  rw [rng_get hx]
  exact ⟨Ex.refl _, hd_int⟩
/-- the letters of a text, each a text -/
def letters (s : Str) : List Str := s.cps.toList.map fun c => (⟨#[c]⟩ : Str)
theorem itok_str {s : Str} {G : Hp → Prop} : ItOk K (Its s) G (letters s) := by
  have hl : (letters s).length = s.cps.size := by simp [letters]
  refine ⟨fun H i _ hi => by rw [hl] at hi; exact hi, fun H _ => Nat.le_of_eq hl.symm, fun H i v H' _ q x hx => ?_⟩
  obtain ⟨e, c, hc, rfl⟩ := q
  subst e
  unfold letters at hx
  rw [List.getElem?_map, ← Array.getElem?_toList] at *
  rw [hc] at hx
  cases hx
  exact ⟨Ex.refl _, hd_str⟩
def enumd (xs : List α) : List (Int × α) := (List.range xs.length).zipWith (fun (i : Nat) x => ((i : Int), x)) xs
theorem enumd_length (xs : List α) : (enumd xs).length = xs.length := by simp [enumd]
theorem enumd_get {xs : List α} {i : Nat} {q : Int × α} (h : (enumd xs)[i]? = some q) : q.1 = i ∧ xs[i]? = some q.2 := by
  unfold enumd at h
  rw [List.getElem?_zipWith] at h
  cases e1 : (List.range xs.length)[i]? with
  | none => rw [e1] at h; simp at h
  | some j =>
    cases e2 : xs[i]? with
    | none => rw [e1, e2] at h; simp at h
    | some y =>
      rw [e1, e2] at h
      have := (List.getElem?_eq_some_iff.mp e1).2
      simp at this
      subst this
      simp at h
      subst h
      exact ⟨rfl, rfl⟩
theorem itok_enum {l : Addr} {vs : List V} {xs : List α} {G : Hp → Prop} (h : ∀ H, G H → SqL K H l vs ∧ HdAll K H vs xs) : ItOk K (Ite K l) G (enumd xs) := by
  refine ⟨fun H i g hi => ?_, fun H g => ⟨vs, (h H g).1, Nat.le_of_eq (by rw [enumd_length, (h H g).2.len])⟩, fun H i v H' g q x hx => ?_⟩
  · have h2 := (h H g).2
    have hi' : i < vs.length := by rw [h2.len]; rw [enumd_length] at hi; exact hi
    exact ⟨vs, vs[i], (h H g).1, List.getElem?_eq_getElem hi'⟩
  · obtain ⟨T, u, rfl, hT, rfl, q⟩ := q
    obtain ⟨e1, e2⟩ := enumd_get hx
    obtain ⟨z, e3, d⟩ := (h _ g).2.at (q vs (h _ g).1)
    rw [e2] at e3; cases e3
    have k := Ex.new (o := HO.tup [.int (i : Nat), u]) hT
    refine ⟨k, ?_⟩
    have : x = (x.1, x.2) := rfl
    rw [this]
    refine hd_pair (SqT.of upd_same) ?_ (d.ex k)
    rw [e1]; exact hd_int
theorem itok_zipT {l r : Addr} {vs ws : List V} {xs : List α} {ys : List β} {G : Hp → Prop} (h : ∀ H, G H → SqT K H l vs ∧ HdAll K H vs xs ∧ SqT K H r ws ∧ HdAll K H ws ys) : ItOk K (RZ.ItzT K l r) G (xs.zip ys) := by
  refine ⟨fun H i g hi => ?_, fun H g => ?_, fun H i v H' g q x hx => ?_⟩
  · obtain ⟨h1, h2, h3, h4⟩ := h H g
    rw [List.length_zip] at hi
    have hi1 : i < vs.length := by rw [h2.len]; omega
    have hi2 : i < ws.length := by rw [h4.len]; omega
    exact ⟨vs, ws, vs[i], ws[i], h1, h3, List.getElem?_eq_getElem hi1, List.getElem?_eq_getElem hi2⟩
  · obtain ⟨h1, h2, h3, h4⟩ := h H g
    refine ⟨vs, ws, h1, h3, ?_⟩
    rw [List.length_zip, h2.len, h4.len]
    omega
  · obtain ⟨T, u, w', rfl, hT, rfl, q1, q2⟩ := q
    obtain ⟨h1, h2, h3, h4⟩ := h H g
    rw [List.getElem?_zip_eq_some] at hx
    obtain ⟨z1, e1, d1⟩ := h2.at (q1 vs h1)
    obtain ⟨z2, e2, d2⟩ := h4.at (q2 ws h3)
    rw [hx.1] at e1; cases e1
    rw [hx.2] at e2; cases e2
    have k := Ex.new (o := HO.tup [u, w']) hT
    exact ⟨k, by exact hd_pair (x := x.1) (y := x.2) (SqT.of upd_same) (d1.ex k) (d2.ex k)⟩
/-- iter walks over xs -/
def TI' (X : Cx) (σ : L2.St) (H : Hp) (tg iter : Expr) (xs : List α) : Prop := ∀ H1, Ex H H1 → ∀ R : It → Hp → Prop, (∀ J H2 G, Ex H1 H2 → ItOk X.K J G xs → (∀ H3, Ex H2 H3 → G H3) → R J H2) → wI X tg iter σ H1 R
theorem ti_list {xs : List α} (h : TX X σ H iter xs) : TI' X σ H tg iter xs := fun H1 k R q => wI_of (pi_list pE) (h H1 k _ fun v H2 k2 d => by
  obtain ⟨l, vs, rfl, h1, h2⟩ := d.list
  exact ⟨l, rfl, ⟨vs, h1⟩, q _ H2 (Ex H2) k2 (itok_list (vs := vs) fun H3 k3 => ⟨ex_l k3 h1, h2.ex k3⟩) fun _ k3 => k3⟩)
theorem ti_tup {xs : List α} (h : TX X σ H iter (Tup.mk xs)) : TI' X σ H tg iter xs := fun H1 k R q => wI_of (pi_tup pE) (h H1 k _ fun v H2 k2 d => by
  obtain ⟨l, vs, rfl, h1, h2⟩ := d.tup
  exact ⟨l, rfl, ⟨vs, h1⟩, q _ H2 (Ex H2) k2 (itok_tup (vs := vs) fun H3 k3 => ⟨ex_t k3 h1, h2.ex k3⟩) fun _ k3 => k3⟩)
theorem ti_str {s : Str} (h : TX X σ H iter s) : TI' X σ H tg iter (letters s) := fun H1 k R q => wI_of (pi_str pE) (h H1 k _ fun v H2 k2 d => ⟨s, d.str, q _ H2 (Ex H2) k2 itok_str fun _ k3 => k3⟩)
/-- for tg in iter: .. ; W i: what holds ahead of the i-th turn -/
theorem wS_for {xs : List α} {body : List Stmt} {J : It} {G : Hp → Prop} {H1 : Hp} (ok : ItOk X.K J G xs) (W : Nat → L2.St → Hp → Prop) (h0 : W 0 σ H1) (hG : ∀ i σ H, W i σ H → G H)
    (turn : ∀ i x, xs[i]? = some x → ∀ σ H, W i σ H → ∀ v H', Ex H H' → Hd X.K H' v x → wG X tg v σ H' fun σ2 H2 => wB X body { D with nx := W (i + 1), ct := W (i + 1), bk := D.nx } σ2 H2)
    (done : ∀ σ H, W xs.length σ H → D.nx σ H) : ∃ W : Nat → Nat → L2.St → Hp → Prop, (∃ m, W 0 m σ H1) ∧ ∀ i m σ H, W i m σ H →
      (J.stop i H ∧ D.nx σ H) ∨ (J.go i H ∧ ∃ N : L2.St → Hp → Prop, (∀ σ' H', N σ' H' → ∃ m', m' < m ∧ W (i + 1) m' σ' H') ∧ ∀ x H', J.yld i H x H' → wG X tg x σ H' fun σ2 H2 => wB X body { D with nx := N, ct := N, bk := D.nx } σ2 H2) := by
  refine ⟨fun i m σ H => m + i = xs.length ∧ W i σ H, ⟨xs.length, rfl, h0⟩, fun i m σ H ⟨hm, w⟩ => ?_⟩
  have g := hG _ _ _ w
  rcases Nat.lt_or_ge i xs.length with hi | hi
  · refine .inr ⟨ok.go H i g hi, W (i + 1), fun σ' H' w' => ⟨m - 1, by omega, by omega, w'⟩, fun v H' q => ?_⟩
    obtain ⟨k, d⟩ := ok.yld H i v H' g q _ (List.getElem?_eq_getElem hi)
    exact turn i _ (List.getElem?_eq_getElem hi) σ H w v H' k d
  · have e : i = xs.length := by omega
    subst e
    exact .inl ⟨ok.stop H g, done σ H w⟩
theorem wS_forT {xs : List α} {body : List Stmt} (hi : TI' X σ H tg iter xs) (W : Nat → L2.St → Hp → Prop) (h0 : ∀ H1, Ex H H1 → W 0 σ H1) (hK : ∀ H1, Ex H H1 → ∀ i σ' H', W i σ' H' → Ex H1 H')
    (turn : ∀ i x, xs[i]? = some x → ∀ σ H, W i σ H → ∀ v H', Ex H H' → Hd X.K H' v x → wG X tg v σ H' fun σ2 H2 => wB X body { D with nx := W (i + 1), ct := W (i + 1), bk := D.nx } σ2 H2)
    (done : ∀ σ H, W xs.length σ H → D.nx σ H) (hc : X.calm = true) (hp : PassesOwn (model X.prog X.w) X.A X.env X.xe) (hs : ∀ x, foldedSetIterable iter X.env x = pure x := by intro _; rfl) : wS X (.For tg iter body [] pos) D σ H :=
  wS_of (ps_for hp hc pI pG pB hs) (hi H (Ex.refl H) _ fun J H2 G k ok g => wS_for ok W (h0 H2 k) (fun i σ' H' w => g H' (hK H2 k i σ' H' w)) turn done)
end
end K95
/-! KT3: typed comprehensions, displays, subscripts, calls. -/
namespace K95
open PySem PySem.Spec PySem.Calls PySem.W PyProof.Rows L2 Evl
/-! ### comprehensions -/
section
variable {K : Frag} {H H1 : Hp} {α : Type} [DecidableEq α] [Datum α] {l : Addr} {xs : List α}
/-- a list's own fact -/
structure LAt (K : Frag) (H : Hp) (l : Addr) (xs : List α) : Prop where
  at_ : ∃ us, H l = some (.lst us) ∧ HdAll K H us xs
theorem LAt.hd (h : LAt K H l xs) : Hd K H (.ref l) xs := by obtain ⟨us, h1, h2⟩ := h.at_; exact hd_list (SqL.of h1) h2
theorem LAt.ex (h : LAt K H l xs) (e : Ex H H1) : LAt K H1 l xs := by obtain ⟨us, h1, h2⟩ := h.at_; exact ⟨us, e _ _ h1, h2.ex e⟩
end
def wTs (X : Cx) (ifs : List Expr) : TT := fun σ H Q => ∀ pins s, Inv X pins σ H s → wpAny (model X.prog X.w) X.A (forIn ifs true fun c r => if r = true then do let ok ← isTrue c X.env (eval c X.env); pure (ForInStep.yield ok) else pure (ForInStep.yield r)) (TP X pins σ Q) X.xe s
theorem wTs_of {X : Cx} {ifs : List Expr} {σ : L2.St} {H : Hp} {Q : Bool → Hp → Prop} {t : TT} (p : PTs X ifs t) (h : t σ H Q) : wTs X ifs σ H Q := fun pins s I => p.run pins s σ H Q I h
section
variable {α β γ : Type} [DecidableEq α] [Datum α] [DecidableEq β] [Datum β] [DecidableEq γ] [Datum γ]
variable {X : Cx} {σ σ2 : L2.St} {H H1 : Hp} {e a b c tg iter elt : Expr} {es : List Expr} {x : α} {y : β} {z : γ} {pos p : Pos} {Q : VK} {D : Ends}
def TBs (X : Cx) (σ : L2.St) (H : Hp) (ifs : List Expr) (b : Bool) : Prop := ∀ H1, Ex H H1 → ∀ Q : Bool → Hp → Prop, (∀ H2, Ex H1 H2 → Q b H2) → wTs X ifs σ H1 Q
theorem tbs_nil : TBs X σ H [] true := fun H1 _ Q q => wTs_of pts_nil (q H1 (Ex.refl _))
theorem tbs_one {t : Bool} (h : TB X σ H c t) : TBs X σ H [c] t := fun H1 k Q q => wTs_of (pts_one pT) (h H1 k Q q)
/-- what a target does with v: the slots are σ2 then -/
def Tgt (X : Cx) (tg : Expr) (v : V) (H : Hp) (σ σ2 : L2.St) : Prop := ∀ Q : L2.St → Hp → Prop, Q σ2 H → wG X tg v σ H Q
theorem tgt_name {v : V} {n : Str} (i : Nat) (hN : X.N.Nodup) (hi : X.N[i]? = some n := by rfl) (hx : Loc X.env.scope n := by first | exact .inl rfl | exact .inr rfl)
    (hf : X.fn n = true ∨ X.env.scope.names.lookup n = some .local := by first | exact .inl rfl | exact .inr rfl) : Tgt X (.Name n p) v H σ (σ.set i (some v)) := fun Q q => wG_of (pg_name hN hi hx hf) q
theorem tgt_two {q : Addr} {v w : V} {n m : Str} {p1 p2 : Pos} {kk : Nat} (i j : Nat) (hc : X.calm = true) (hN : X.N.Nodup) (h : SqT X.K H q [v, w]) (hi : X.N[i]? = some n := by rfl) (hj : X.N[j]? = some m := by rfl) (hx : Loc X.env.scope n := by first | exact .inl rfl | exact .inr rfl) (hy : Loc X.env.scope m := by first | exact .inl rfl | exact .inr rfl)
    (hf : X.fn n = true ∨ X.env.scope.names.lookup n = some .local := by first | exact .inl rfl | exact .inr rfl) (hg : X.fn m = true ∨ X.env.scope.names.lookup m = some .local := by first | exact .inl rfl | exact .inr rfl) :
    Tgt X (.Tuple [.Name n p1, .Name m p2] kk p) (.ref q) H σ ((σ.set i (some v)).set j (some w)) := fun Q q' => wG_of (pg_tup (n := 2) hc (pgs_cons (pg_name hN hi hx hf) (pgs_cons (pg_name hN hj hy hg) pgs_nil))) ⟨q, _, rfl, h, rfl, v, _, rfl, w, _, rfl, rfl, q'⟩
abbrev BL (X : Cx) (scope : Scope) (s : Shared) (H : Hp) (C : Addr) (cl : List (Str × Addr)) (fp : List Addr) : Cx := X.blk s H scope (compEnvC scope cl C X.env) fp
theorem HdAll.snoc {K : Frag} {v : V} {vs : List V} {xs : List α} (h : HdAll K H vs xs) (d : Hd K H v x) : HdAll K H (vs ++ [v]) (xs ++ [x]) := h.append (ha_cons d ha_nil)
theorem sqt_mut {K : Frag} {D : Addr} {us ws : List V} (hD : H D = some (.lst us)) : ∀ a xs, SqT K H a xs → SqT K (upd H D (.lst ws)) a xs := fun a xs h => by
  rcases h with h | h
  · have ne : a ≠ D := fun z => by
      rcases h with h | ⟨o, h⟩
      · rw [z, hD] at h; cases h
      · rw [z, hD] at h; cases h
    exact .inl (by
      rcases h with h | ⟨o, h⟩
      · exact .inl (by rw [upd_ne ne]; exact h)
      · exact .inr ⟨o, by rw [upd_ne ne]; exact h⟩)
  · exact .inr h
/-- the core of a comprehension's reading -/
theorem lc_typed [Imm β] {xs : List α} {f : α → β} {pr : α → Bool} {ifs : List Expr} {scope : Scope} {own : List (Str × Nat)} (hz : xs.length ≤ 100000) (hi : TI' X σ H tg iter xs)
    (turn : ∀ x, x ∈ xs → ∀ v H', Ex H H' → Hd X.K H' v x → ∃ σ2, (∀ s0 H0 C cl fp, Tgt (BL X scope s0 H0 C cl fp) tg v H' (wipe σ (own.map (·.2))) σ2 ∧
      TBs (BL X scope s0 H0 C cl fp) σ2 H' ifs (pr x) ∧ (pr x = true → TX (BL X scope s0 H0 C cl fp) σ2 H' elt (f x))) ∧ wipe σ2 (own.map (·.2)) = wipe σ (own.map (·.2))) {Hs : Hp} (hs : Ex H Hs)
    (q : ∀ D H2, Ex Hs H2 → Hs D = none → LAt X.K H2 D ((xs.filter pr).map f) → Q (.ref D) H2) :
    tLc (wI X tg iter) (fun v σ H Q => ∀ s0 H0 C cl fp, wG (BL X scope s0 H0 C cl fp) tg v σ H Q) (fun σ H Q => ∀ s0 H0 C cl fp, wTs (BL X scope s0 H0 C cl fp) ifs σ H Q) (fun σ H Q => ∀ s0 H0 C cl fp, wE (BL X scope s0 H0 C cl fp) elt σ H Q) (own.map (·.2)) σ Hs Q := by
  refine hi Hs hs _ fun J H1 G k1 ok g => ?_
  intro D hD
  refine ⟨fun i m H' => m + i = xs.length ∧ Ex H1 H' ∧ ∃ us, H' D = some (.lst us) ∧ HdAll X.K H' us (((xs.take i).filter pr).map f), ⟨xs.length, rfl, Ex.new hD, [], upd_same, ha_nil⟩, fun i m H' ⟨hm, k, us, hU, hA⟩ => ?_⟩
  have gH := g H' k
  rcases Nat.lt_or_ge i xs.length with hil | hil
  · refine .inr ⟨ok.go H' i gH hil, fun H'' => m - 1 + (i + 1) = xs.length ∧ Ex H1 H'' ∧ ∃ us, H'' D = some (.lst us) ∧ HdAll X.K H'' us (((xs.take (i + 1)).filter pr).map f), fun H'' h => ⟨m - 1, by omega, h⟩, fun v H2 hy => ?_⟩
    have hx := List.getElem?_eq_getElem hil
    obtain ⟨k2, d⟩ := ok.yld H' i v H2 gH hy _ hx
    have kT := (hs.trans k1).trans (k.trans k2)
    have mem : xs[i] ∈ xs := List.getElem_mem hil
    obtain ⟨σ2, all, w⟩ := turn xs[i] mem v H2 kT d
    have step : ((xs.take (i + 1)).filter pr).map f = ((xs.take i).filter pr).map f ++ (if pr xs[i] = true then [f xs[i]] else []) := by
      rw [List.take_succ, hx, List.filter_append, List.map_append]
      cases e : pr xs[i] <;> simp [e]
    have short : (((xs.take i).filter pr).map f).length < sizeLine := by
      rw [List.length_map]
      have := List.length_filter_le pr (xs.take i)
      rw [List.length_take] at this
      rw [sizeLine_eq]; omega
    intro s0 H0 C cl fp
    refine (all s0 H0 C cl fp).1 _ ⟨w, ?_⟩
    intro s0 H0 C cl fp
    refine (all s0 H0 C cl fp).2.1 H2 (Ex.refl _) _ fun H3 k3 => ?_
    cases e : pr xs[i] with
    | false =>
      rw [if_neg (by simp)]
      refine ⟨by omega, k.trans (k2.trans k3), us, k3 _ _ (k2 _ _ hU), ?_⟩
      rw [step, if_neg (by simp [e]), List.append_nil]
      exact (hA.ex k2).ex k3
    | true =>
      rw [if_pos rfl]
      intro s0 H0 C cl fp
      refine (all s0 H0 C cl fp).2.2 e H3 k3 _ fun u H4 k4 d4 => ?_
      have hU4 : H4 D = some (.lst us) := k4 _ _ (k3 _ _ (k2 _ _ hU))
      have hA4 := ((hA.ex k2).ex k3).ex k4
      refine ⟨us, hU4, by rw [hA.len]; exact short, by omega, ((k.trans k2).trans (k3.trans k4)).mut hD, us ++ [u], upd_same, ?_⟩
      rw [step, if_pos (by simp [e])]
      exact (hA4.snoc d4).keepT (sqt_mut hU4)
  · have e : i = xs.length := by omega
    subst e
    refine .inl ⟨ok.stop H' gH, q D H' (k1.trans k) (fresh_back k1 hD) ⟨us, hU, ?_⟩⟩
    rw [List.take_length] at hA
    exact hA
theorem tx_lc [Imm β] {xs : List α} {f : α → β} {pr : α → Bool} {ifs : List Expr} {scope : Scope} (own : List (Str × Nat)) (hc : X.calm = true) (hN : X.N.Nodup) (ok : BlkOk X.N X.env.scope scope own) (hz : xs.length ≤ 100000) (hi : TI' X σ H tg iter xs)
    (turn : ∀ x, x ∈ xs → ∀ v H', Ex H H' → Hd X.K H' v x → ∃ σ2, (∀ s0 H0 C cl fp, Tgt (BL X scope s0 H0 C cl fp) tg v H' (wipe σ (own.map (·.2))) σ2 ∧
      TBs (BL X scope s0 H0 C cl fp) σ2 H' ifs (pr x) ∧ (pr x = true → TX (BL X scope s0 H0 C cl fp) σ2 H' elt (f x))) ∧ wipe σ2 (own.map (·.2)) = wipe σ (own.map (·.2)))
    (hs : ∀ x, foldedSetIterable iter X.env x = pure x := by intro _; rfl) : TX X σ H (.ListComp elt [⟨tg, iter, ifs, 0⟩] scope pos) ((xs.filter pr).map f) := fun H1 k Q q =>
  wE_of (pe_lc hc hN pI ok (fun s H C cl fp => ⟨fun pins sh σ' H' v u Q' I r h => h s H C cl fp pins sh u I r⟩) (fun s H C cl fp => ⟨fun pins sh σ' H' Q' I h => h s H C cl fp pins sh I⟩) (fun s H C cl fp => ⟨fun pins sh σ' H' Q' I h => h s H C cl fp pins sh I⟩) hs)
    (lc_typed hz hi turn k fun D H2 k2 _ d => q _ H2 k2 d.hd)
theorem wS_setLc [Imm β] {n : Str} {py spos : Pos} {xs : List α} {f : α → β} {pr : α → Bool} {ifs : List Expr} {scope : Scope} (i : Nat) (own : List (Str × Nat)) (hc : X.calm = true) (hN : X.N.Nodup) (ok : BlkOk X.N X.env.scope scope own) (hz : xs.length ≤ 100000) (hi : TI' X σ H tg iter xs)
    (turn : ∀ x, x ∈ xs → ∀ v H', Ex H H' → Hd X.K H' v x → ∃ σ2, (∀ s0 H0 C cl fp, Tgt (BL X scope s0 H0 C cl fp) tg v H' (wipe σ (own.map (·.2))) σ2 ∧
      TBs (BL X scope s0 H0 C cl fp) σ2 H' ifs (pr x) ∧ (pr x = true → TX (BL X scope s0 H0 C cl fp) σ2 H' elt (f x))) ∧ wipe σ2 (own.map (·.2)) = wipe σ (own.map (·.2)))
    (q : ∀ L H2, Ex H H2 → H L = none → LAt X.K H2 L ((xs.filter pr).map f) → D.nx (σ.set i (some (.ref L))) H2)
    (hsw : swapsWith (.ListComp elt [⟨tg, iter, ifs, 0⟩] scope pos) (some (.Name n py)) spos.line X.env = pure true) (hy : X.N[i]? = some n := by rfl) (hyl : X.env.scope.names.lookup n = some .local := by rfl)
    (hs : ∀ x, foldedSetIterable iter X.env x = pure x := by intro _; rfl) : wS X (.Assign [.Name n py] (.ListComp elt [⟨tg, iter, ifs, 0⟩] scope pos) spos) D σ H :=
  wS_of (ps_setLc hc hN hy hyl hsw pI ok (fun s H C cl fp => ⟨fun pins sh σ' H' v u Q' I r h => h s H C cl fp pins sh u I r⟩) (fun s H C cl fp => ⟨fun pins sh σ' H' Q' I h => h s H C cl fp pins sh I⟩) (fun s H C cl fp => ⟨fun pins sh σ' H' Q' I h => h s H C cl fp pins sh I⟩) hs)
    (lc_typed hz hi turn (Ex.refl H) fun L H2 k2 n' d => q L H2 k2 n' d)
/-! ### argument lists, displays -/
def TL (X : Cx) (σ : L2.St) (H : Hp) (es : List Expr) (xs : List α) : Prop := ∀ H1, Ex H H1 → ∀ Q : List V → Hp → Prop, (∀ vs H2, Ex H1 H2 → HdAll X.K H2 vs xs → Q vs H2) → wA X es σ H1 Q
theorem tl_nil : TL X σ H [] ([] : List α) := fun H1 _ Q q => wA_of pa_nil (q [] H1 (Ex.refl _) ha_nil)
theorem tl_cons {xs : List α} (h : TX X σ H e x) (r : TL X σ H es xs) (hs : starEach (e :: es) X.env = (false, eval e X.env) :: starEach es X.env := by rfl) : TL X σ H (e :: es) (x :: xs) := fun H1 k Q q =>
  wA_of (pa_cons pE pA hs) (h H1 k _ fun v H2 k2 d => r H2 (k.trans k2) _ fun vs H3 k3 ds => q _ H3 (k2.trans k3) (ha_cons (d.ex k3) ds))
theorem tx_lst {xs : List α} (h : TL X σ H es xs) (hz : xs.length ≤ 100000) : TX X σ H (.List es p) xs := fun H1 k Q q => wE_of (pe_lst pA) (h H1 k _ fun vs H2 k2 ds => ⟨by rw [ds.len, sizeLine_eq]; omega, fun l hl => q _ _ (k2.trans (Ex.new hl)) (hd_list (SqL.of upd_same) (ds.ex (Ex.new hl)))⟩)
theorem tx_tup {kk : Nat} {xs : List α} (h : TL X σ H es xs) (hz : xs.length ≤ 100000) : TX X σ H (.Tuple es kk p) (Tup.mk xs) := fun H1 k Q q => wE_of (pe_tup pA) (h H1 k _ fun vs H2 k2 ds => ⟨by rw [ds.len, sizeLine_eq]; omega, fun l hl => q _ _ (k2.trans (Ex.new hl)) (hd_tup (SqT.of upd_same) (ds.ex (Ex.new hl)))⟩)
/-- two, three arguments of their own types -/
def T2 (X : Cx) (σ : L2.St) (H : Hp) (es : List Expr) (x : α) (y : β) : Prop := ∀ H1, Ex H H1 → ∀ Q : List V → Hp → Prop, (∀ v w H2, Ex H1 H2 → Hd X.K H2 v x → Hd X.K H2 w y → Q [v, w] H2) → wA X es σ H1 Q
def T3 (X : Cx) (σ : L2.St) (H : Hp) (es : List Expr) (x : α) (y : β) (z : γ) : Prop := ∀ H1, Ex H H1 → ∀ Q : List V → Hp → Prop, (∀ v w u H2, Ex H1 H2 → Hd X.K H2 v x → Hd X.K H2 w y → Hd X.K H2 u z → Q [v, w, u] H2) → wA X es σ H1 Q
theorem t2_mk (ha : TX X σ H a x) (hb : TX X σ H b y) (hs : starEach (a :: [b]) X.env = (false, eval a X.env) :: starEach [b] X.env := by rfl) (hs2 : starEach (b :: []) X.env = (false, eval b X.env) :: starEach [] X.env := by rfl) : T2 X σ H [a, b] x y := fun H1 k Q q =>
  wA_of (pa_cons pE (pa_cons pE pa_nil hs2) hs) (ha H1 k _ fun v H2 k2 d => hb H2 (k.trans k2) _ fun w H3 k3 d3 => q v w H3 (k2.trans k3) (d.ex k3) d3)
theorem t3_mk (ha : TX X σ H a x) (hb : TX X σ H b y) (hc : TX X σ H c z) (hs : starEach (a :: [b, c]) X.env = (false, eval a X.env) :: starEach [b, c] X.env := by rfl) (hs2 : starEach (b :: [c]) X.env = (false, eval b X.env) :: starEach [c] X.env := by rfl) (hs3 : starEach (c :: []) X.env = (false, eval c X.env) :: starEach [] X.env := by rfl) : T3 X σ H [a, b, c] x y z := fun H1 k Q q =>
  wA_of (pa_cons pE (pa_cons pE (pa_cons pE pa_nil hs3) hs2) hs) (ha H1 k _ fun v H2 k2 d => hb H2 (k.trans k2) _ fun w H3 k3 d3 => hc H3 ((k.trans k2).trans k3) _ fun u H4 k4 d4 => q v w u H4 ((k2.trans k3).trans k4) ((d.ex k3).ex k4) (d3.ex k4) d4)
theorem tx_pair {kk : Nat} (h : T2 X σ H es x y) : TX X σ H (.Tuple es kk p) (x, y) := fun H1 k Q q => wE_of (pe_tup pA) (h H1 k _ fun v w H2 k2 d1 d2 => ⟨by rw [sizeLine_eq]; show 2 ≤ 16777216; decide, fun l hl => q _ _ (k2.trans (Ex.new hl)) (hd_pair (SqT.of upd_same) (d1.ex (Ex.new hl)) (d2.ex (Ex.new hl)))⟩)
/-! ### subscripts -/
theorem tx_ixL {xs : List α} {i : Int} (ha : TX X σ H a xs) (hb : TX X σ H b i) (hx : atI xs i = some x) (hs : PlainIx b := by intro _ _; rfl) : TX X σ H (.Subscript a b p) x := fun H1 k Q q =>
  wE_of (pe_ix ix_list pE pE hs) (ha H1 k _ fun v H2 k2 d => hb H2 (k.trans k2) _ fun w H3 k3 d3 => by
    obtain ⟨l, vs, rfl, h1, h2⟩ := (d.ex k3).list
    have hx' := hx
    unfold atI at hx'
    rw [← h2.len] at hx'
    cases e : ixN vs.length i with
    | none => rw [e] at hx'; cases hx'
    | some j =>
      rw [e] at hx'
      obtain ⟨u, e1, d1⟩ := h2.at' (show xs[j]? = some x from hx')
      exact ⟨l, vs, i, u, rfl, d3.int, h1, by unfold atI; rw [e]; exact e1, q u H3 (k2.trans k3) d1⟩)
theorem tx_ixT {xs : List α} {i : Int} (ha : TX X σ H a (Tup.mk xs)) (hb : TX X σ H b i) (hx : atI xs i = some x) (hs : PlainIx b := by intro _ _; rfl) : TX X σ H (.Subscript a b p) x := fun H1 k Q q =>
  wE_of (pe_ix ix_tup pE pE hs) (ha H1 k _ fun v H2 k2 d => hb H2 (k.trans k2) _ fun w H3 k3 d3 => by
    obtain ⟨l, vs, rfl, h1, h2⟩ := (d.ex k3).tup
    have hx' := hx
    unfold atI at hx'
    rw [← h2.len] at hx'
    cases e : ixN vs.length i with
    | none => rw [e] at hx'; cases hx'
    | some j =>
      rw [e] at hx'
      obtain ⟨u, e1, d1⟩ := h2.at' (show xs[j]? = some x from hx')
      exact ⟨l, vs, i, u, rfl, d3.int, h1, by unfold atI; rw [e]; exact e1, q u H3 (k2.trans k3) d1⟩)
theorem tx_fst {q : α × β} {j : Nat} {p' : Pos} (ha : TX X σ H a q) (hs : PlainIx (.Constant (.int 0) j p') := by intro _ _; rfl) : TX X σ H (.Subscript a (.Constant (.int 0) j p') p) q.1 := fun H1 k Q k' =>
  wE_of (pe_ix ix_tup pE pe_int hs) (ha H1 k _ fun v H2 k2 d => by
    obtain ⟨l, v1, v2, rfl, h1, h2, h3⟩ := d.pair
    exact ⟨l, _, 0, v1, rfl, rfl, h1, rfl, k' v1 H2 k2 h2⟩)
theorem tx_snd {q : α × β} {j : Nat} {p' : Pos} (ha : TX X σ H a q) (hs : PlainIx (.Constant (.int 1) j p') := by intro _ _; rfl) : TX X σ H (.Subscript a (.Constant (.int 1) j p') p) q.2 := fun H1 k Q k' =>
  wE_of (pe_ix ix_tup pE pe_int hs) (ha H1 k _ fun v H2 k2 d => by
    obtain ⟨l, v1, v2, rfl, h1, h2, h3⟩ := d.pair
    exact ⟨l, _, 1, v2, rfl, rfl, h1, rfl, k' v2 H2 k2 h3⟩)
end
end K95
/-! KT4: typed calls of built-ins, of own pure defs; slices, joins, reversals. -/
namespace K95
open PySem PySem.Spec PySem.Calls PySem.W PyProof.Rows L2 Evl
section
variable {α β γ δ : Type} [DecidableEq α] [Datum α] [DecidableEq β] [Datum β] [DecidableEq γ] [Datum γ] [DecidableEq δ] [Datum δ]
variable {X : Cx} {σ σ2 : L2.St} {H H1 : Hp} {e a b c tg iter elt : Expr} {es : List Expr} {x : α} {y : β} {z : γ} {w : δ} {pos p : Pos} {Q : VK} {D : Ends} {n : Str} {bid T : String} {r : List V → Hp → VK → Prop}
theorem t1_mk (ha : TX X σ H a x) (hs : starEach (a :: []) X.env = (false, eval a X.env) :: starEach [] X.env := by rfl) : ∀ H1, Ex H H1 → ∀ Q : List V → Hp → Prop, (∀ v H2, Ex H1 H2 → Hd X.K H2 v x → Q [v] H2) → wA X [a] σ H1 Q := fun H1 k Q q =>
  wA_of (pa_cons pE pa_nil hs) (ha H1 k _ fun v H2 k2 d => q v H2 k2 d)
theorem tx_cb1 (hc : CallR X (.builtin bid) r) (hv : bootBuiltins n = some (.builtin bid)) (ha : TX X σ H a x) (hr : ∀ H1 v, Ex H H1 → Hd X.K H1 v x → ∀ Q : VK, (∀ u H2, Ex H1 H2 → Hd X.K H2 u z → Q u H2) → r [v] H1 Q) (hm : X.mg n = none) (hg : Gl X n := by rfl)
    (hn : n ≠ "__name__" := by decide) (hdb : (n == ("__debug__" : Str)) = false := by decide) (hs : starEach (a :: []) X.env = (false, eval a X.env) :: starEach [] X.env := by rfl) : TX X σ H (.Call (.Name n p) [a] [] pos) z := fun H1 k Q q =>
  wE_of (pe_callB hc hg hm hv pA hn hdb hs rfl) (t1_mk ha hs H1 k _ fun v H2 k2 d => hr H2 v (k.trans k2) d Q fun u H3 k3 d3 => q u H3 (k2.trans k3) d3)
theorem tx_ct1 (hc : CallR X (.type T) r) (hv : bootBuiltins n = some (.type T)) (ha : TX X σ H a x) (hr : ∀ H1 v, Ex H H1 → Hd X.K H1 v x → ∀ Q : VK, (∀ u H2, Ex H1 H2 → Hd X.K H2 u z → Q u H2) → r [v] H1 Q) (hm : X.mg n = none) (hg : Gl X n := by rfl)
    (hn : n ≠ "__name__" := by decide) (hdb : (n == ("__debug__" : Str)) = false := by decide) (hs : starEach (a :: []) X.env = (false, eval a X.env) :: starEach [] X.env := by rfl) : TX X σ H (.Call (.Name n p) [a] [] pos) z := fun H1 k Q q =>
  wE_of (pe_callTy hc hg hm hv pA hn hdb hs rfl) (t1_mk ha hs H1 k _ fun v H2 k2 d => hr H2 v (k.trans k2) d Q fun u H3 k3 d3 => q u H3 (k2.trans k3) d3)
theorem tx_lenL {xs : List α} (hm : X.mg "len" = none) (ha : TX X σ H a xs) (hg : Gl X "len" := by rfl) (hs : starEach (a :: []) X.env = (false, eval a X.env) :: starEach [] X.env := by rfl) : TX X σ H (.Call (.Name "len" p) [a] [] pos) ((xs.length : Nat) : Int) :=
  tx_cb1 call_len_seq (by with_unfolding_all rfl) ha (fun H1 v _ d Q q => by
    obtain ⟨l, vs, rfl, h1, h2⟩ := d.list
    exact ⟨l, vs, rfl, .inl h1, by rw [h2.len]; exact q _ H1 (Ex.refl _) hd_int⟩) hm hg (by decide) (by decide) hs
theorem tx_lenT {xs : List α} (hm : X.mg "len" = none) (ha : TX X σ H a (Tup.mk xs)) (hg : Gl X "len" := by rfl) (hs : starEach (a :: []) X.env = (false, eval a X.env) :: starEach [] X.env := by rfl) : TX X σ H (.Call (.Name "len" p) [a] [] pos) ((xs.length : Nat) : Int) :=
  tx_cb1 call_len_seq (by with_unfolding_all rfl) ha (fun H1 v _ d Q q => by
    obtain ⟨l, vs, rfl, h1, h2⟩ := d.tup
    exact ⟨l, vs, rfl, .inr h1, by rw [h2.len]; exact q _ H1 (Ex.refl _) hd_int⟩) hm hg (by decide) (by decide) hs
theorem tx_lenP {q : α × β} (hm : X.mg "len" = none) (ha : TX X σ H a q) (hg : Gl X "len" := by rfl) (hs : starEach (a :: []) X.env = (false, eval a X.env) :: starEach [] X.env := by rfl) : TX X σ H (.Call (.Name "len" p) [a] [] pos) (2 : Int) :=
  tx_cb1 call_len_seq (by with_unfolding_all rfl) ha (fun H1 v _ d Q q => by
    obtain ⟨l, v1, v2, rfl, h1, _⟩ := d.pair
    exact ⟨l, _, rfl, .inr h1, q _ H1 (Ex.refl _) hd_int⟩) hm hg (by decide) (by decide) hs
theorem tx_lenS {s : Str} (hm : X.mg "len" = none) (hz : s.length ≤ 100000) (ha : TX X σ H a s) (hg : Gl X "len" := by rfl) (hs : starEach (a :: []) X.env = (false, eval a X.env) :: starEach [] X.env := by rfl) : TX X σ H (.Call (.Name "len" p) [a] [] pos) ((s.length : Nat) : Int) :=
  tx_cb1 call_len_str (by with_unfolding_all rfl) ha (fun H1 v _ d Q q => ⟨s, by rw [d.str], by rw [sizeLine_eq]; omega, q _ H1 (Ex.refl _) hd_int⟩) hm hg (by decide) (by decide) hs
theorem HdAll.bls {K : Frag} : ∀ {vs : List V} {bs : List Bool}, HdAll K H vs bs → vs = bs.map V.bl
  | _, [], h => h.nil_inv
  | _, n :: ns, h => by
    obtain ⟨v, ws, rfl, q1, h⟩ := h.inv
    rw [q1.bl, HdAll.bls h]; rfl
theorem tx_all {bs : List Bool} (hm : X.mg "all" = none) (hc : X.calm = true) (ha : TX X σ H a bs) (hg : Gl X "all" := by rfl) (hs : starEach (a :: []) X.env = (false, eval a X.env) :: starEach [] X.env := by rfl) : TX X σ H (.Call (.Name "all" p) [a] [] pos) (bs.all id) :=
  tx_cb1 (cr_all hc) (by with_unfolding_all rfl) ha (fun H1 v _ d Q q => by
    obtain ⟨l, vs, rfl, h1, h2⟩ := d.list
    rw [h2.bls] at h1
    exact ⟨l, bs, rfl, h1, q _ H1 (Ex.refl _) hd_bl⟩) hm hg (by decide) (by decide) hs
theorem tx_any {bs : List Bool} (hm : X.mg "any" = none) (hc : X.calm = true) (ha : TX X σ H a bs) (hg : Gl X "any" := by rfl) (hs : starEach (a :: []) X.env = (false, eval a X.env) :: starEach [] X.env := by rfl) : TX X σ H (.Call (.Name "any" p) [a] [] pos) (bs.any id) :=
  tx_cb1 (cr_any hc) (by with_unfolding_all rfl) ha (fun H1 v _ d Q q => by
    obtain ⟨l, vs, rfl, h1, h2⟩ := d.list
    rw [h2.bls] at h1
    exact ⟨l, bs, rfl, h1, q _ H1 (Ex.refl _) hd_bl⟩) hm hg (by decide) (by decide) hs
theorem tx_tuple {xs : List α} (hm : X.mg "tuple" = none) (ha : TX X σ H a xs) (hg : Gl X "tuple" := by rfl) (hs : starEach (a :: []) X.env = (false, eval a X.env) :: starEach [] X.env := by rfl) : TX X σ H (.Call (.Name "tuple" p) [a] [] pos) (Tup.mk xs) :=
  tx_ct1 call_tuple_of (by with_unfolding_all rfl) ha (fun H1 v _ d Q q => by
    obtain ⟨l, vs, rfl, h1, h2⟩ := d.list
    exact ⟨l, vs, rfl, .inl ⟨h1, fun l hl => q _ _ (Ex.new hl) (hd_tup (SqT.of upd_same) (h2.ex (Ex.new hl)))⟩⟩) hm hg (by decide) (by decide) hs
theorem tx_listT {xs : List α} (hm : X.mg "list" = none) (ha : TX X σ H a (Tup.mk xs)) (hg : Gl X "list" := by rfl) (hs : starEach (a :: []) X.env = (false, eval a X.env) :: starEach [] X.env := by rfl) : TX X σ H (.Call (.Name "list" p) [a] [] pos) xs :=
  tx_ct1 call_list_of (by with_unfolding_all rfl) ha (fun H1 v _ d Q q => by
    obtain ⟨l, vs, rfl, h1, h2⟩ := d.tup
    exact ⟨l, vs, rfl, .inr h1, fun l hl => q _ _ (Ex.new hl) (hd_list (SqL.of upd_same) (h2.ex (Ex.new hl)))⟩) hm hg (by decide) (by decide) hs
theorem tx_listL {xs : List α} (hm : X.mg "list" = none) (ha : TX X σ H a xs) (hg : Gl X "list" := by rfl) (hs : starEach (a :: []) X.env = (false, eval a X.env) :: starEach [] X.env := by rfl) : TX X σ H (.Call (.Name "list" p) [a] [] pos) xs :=
  tx_ct1 call_list_of (by with_unfolding_all rfl) ha (fun H1 v _ d Q q => by
    obtain ⟨l, vs, rfl, h1, h2⟩ := d.list
    exact ⟨l, vs, rfl, .inl h1, fun l hl => q _ _ (Ex.new hl) (hd_list (SqL.of upd_same) (h2.ex (Ex.new hl)))⟩) hm hg (by decide) (by decide) hs
theorem tx_int' {i : Int} (hm : X.mg "int" = none) (ha : TX X σ H a i) (hg : Gl X "int" := by rfl) (hs : starEach (a :: []) X.env = (false, eval a X.env) :: starEach [] X.env := by rfl) : TX X σ H (.Call (.Name "int" p) [a] [] pos) i :=
  tx_ct1 call_int1 (by with_unfolding_all rfl) ha (fun H1 v _ d Q q => .inl ⟨i, by rw [d.int], q _ H1 (Ex.refl _) hd_int⟩) hm hg (by decide) (by decide) hs
theorem tx_intB {k : Bool} (hm : X.mg "int" = none) (ha : TX X σ H a k) (hg : Gl X "int" := by rfl) (hs : starEach (a :: []) X.env = (false, eval a X.env) :: starEach [] X.env := by rfl) : TX X σ H (.Call (.Name "int" p) [a] [] pos) ((if k then 1 else 0 : Int)) :=
  tx_ct1 call_int1 (by with_unfolding_all rfl) ha (fun H1 v _ d Q q => .inr ⟨k, by rw [d.bl], q _ H1 (Ex.refl _) hd_int⟩) hm hg (by decide) (by decide) hs
theorem tx_neg {i : Int} (ha : TX X σ H a i) : TX X σ H (.UnaryOp .USub a p) (-i) := fun H1 k Q q => wE_of (pe_un un_neg pE) (ha H1 k _ fun v H2 k2 d => ⟨i, d.int, q _ H2 k2 hd_int⟩)
/-! isinstance -/
theorem tyx_tup {K : Frag} {l : Addr} {vs : List V} (h : SqT K H l vs) : TyX K H (.ref l) (.type "tuple") := by
  rcases h with (h | ⟨o, h⟩) | ⟨o, its, m, h, c, _⟩
  · exact .base (.tup h)
  · exact .fTuple h
  · exact .kTuple h c
/-- the type of what v holds -/
class DTy (α : Type) [DecidableEq α] [Datum α] where
  ty : String
  ok : ∀ {K : Frag} {H : Hp} {v : V} {x : α}, Hd K H v x → TyX K H v (.type ty)
instance : DTy Int := ⟨"int", fun h => by rw [h.int]; exact .base (.int _)⟩
instance : DTy Bool := ⟨"bool", fun h => by rw [h.bl]; exact .base (.bl _)⟩
instance : DTy Str := ⟨"str", fun h => by rw [h.str]; exact .base (.str _)⟩
instance : DTy (Tup α) := ⟨"tuple", fun h => by obtain ⟨l, vs, rfl, h1, _⟩ := h.tup; exact tyx_tup h1⟩
instance : DTy (α × β) := ⟨"tuple", fun h => by obtain ⟨l, v1, v2, rfl, h1, _⟩ := h.pair; exact tyx_tup h1⟩
theorem tx_isi [DTy α] {k : Bool} (hm : X.mg "isinstance" = none) (hmT : X.mg n = none) (hvT : bootBuiltins n = some (.type T)) (hk : kitOne X.K (.type (DTy.ty α)) (.type T) = some k) (ha : TX X σ H a x) (hg : Gl X "isinstance" := by rfl) (hgT : Gl X n := by rfl) (hn : n ≠ "__name__" := by decide) (hdb : (n == ("__debug__" : Str)) = false := by decide)
    (hs : starEach (a :: [.Name n p]) X.env = (false, eval a X.env) :: starEach [.Name n p] X.env := by rfl) : TX X σ H (.Call (.Name "isinstance" p') [a, .Name n p] [] pos) k := fun H1 kk Q q =>
  wE_of (pe_callB call_isi hg hm (by with_unfolding_all rfl) pA (by decide) (by decide) hs rfl) (wA_of (pa_cons pE (pa_cons (pe_bltn (v := .ty T) hgT hmT hvT rfl hn hdb) pa_nil rfl) hs) (ha H1 kk _ fun v H2 k2 d =>
    ⟨v, .ty T, .type (DTy.ty α), .type T, k, rfl, .ty T, DTy.ok d, hk, q _ H2 k2 hd_bl⟩))
/-! ### slices -/
def cutX (xs : List α) (lo hi : Option Int) : List α := (xs.drop (HT.sIx xs.length 0 lo)).take (HT.sIx xs.length xs.length hi - HT.sIx xs.length 0 lo)
def TO' (X : Cx) (σ : L2.St) (H : Hp) (e : Option Expr) (o : Option Int) : Prop := match e, o with
  | none, none => True
  | some e, some i => TX X σ H e i
  | _, _ => False
theorem to_none : TO' X σ H none none := trivial
theorem to_some {i : Int} (h : TX X σ H e i) : TO' X σ H (some e) (some i) := h
theorem HdAll.cut {K : Frag} {vs : List V} {xs : List α} (h : HdAll K H vs xs) (lo hi : Option Int) : HdAll K H (cutV vs lo hi) (cutX xs lo hi) := by
  unfold cutV cutX
  rw [h.len]
  exact (h.drop _).take _
theorem wE_slice {lo hi : Option Expr} {o o' : Option Int} {p2 : Pos} {r : V → Option Int → Option Int → Hp → VK → Prop} (hr : SlR X r) (ha : TX X σ H a x) (hl : TO' X σ H lo o) (hh : TO' X σ H hi o') {H1 : Hp} (k : Ex H H1) {Q : VK}
    (h : ∀ v H2, Ex H1 H2 → Hd X.K H2 v x → r v o o' H2 Q) : wE X (.Subscript a (.Slice lo hi none p2) p) σ H1 Q := by
  match lo, o, hi, o', hl, hh with
  | none, none, none, none, _, _ => exact wE_of (pe_slice hr pE po_none po_none) (ha H1 k _ fun v H2 k2 d => h v H2 k2 d)
  | none, none, some e, some i, _, hh => exact wE_of (pe_slice hr pE po_none (po_some pE)) (ha H1 k _ fun v H2 k2 d => TX.up hh (k.trans k2) H2 (Ex.refl _) _ fun u H3 k3 d3 => ⟨i, d3.int, h v H3 (k2.trans k3) (d.ex k3)⟩)
  | some e, some i, none, none, hl, _ => exact wE_of (pe_slice hr pE (po_some pE) po_none) (ha H1 k _ fun v H2 k2 d => TX.up hl (k.trans k2) H2 (Ex.refl _) _ fun u H3 k3 d3 => ⟨i, d3.int, h v H3 (k2.trans k3) (d.ex k3)⟩)
  | some e, some i, some e', some i', hl, hh => exact wE_of (pe_slice hr pE (po_some pE) (po_some pE)) (ha H1 k _ fun v H2 k2 d => TX.up hl (k.trans k2) H2 (Ex.refl _) _ fun u H3 k3 d3 => ⟨i, d3.int,
      TX.up hh ((k.trans k2).trans k3) H3 (Ex.refl _) _ fun u' H4 k4 d4 => ⟨i', d4.int, h v H4 ((k2.trans k3).trans k4) ((d.ex k3).ex k4)⟩⟩)
theorem tx_slL {xs : List α} {lo hi : Option Expr} {o o' : Option Int} {p2 : Pos} (ha : TX X σ H a xs) (hl : TO' X σ H lo o) (hh : TO' X σ H hi o') : TX X σ H (.Subscript a (.Slice lo hi none p2) p) (cutX xs o o') := fun H1 k Q q =>
  wE_slice sl_list ha hl hh k fun v H2 k2 d => by
    obtain ⟨l, vs, rfl, h1, h2⟩ := d.list
    exact ⟨l, vs, rfl, h1, fun l' hl' => q _ _ (k2.trans (Ex.new hl')) (hd_list (SqL.of upd_same) ((h2.cut o o').ex (Ex.new hl')))⟩
theorem cutX_whole {xs : List α} {o o' : Option Int} (h : HT.sIx xs.length 0 o = 0 ∧ HT.sIx xs.length xs.length o' = xs.length) : cutX xs o o' = xs := by
  unfold cutX
  rw [h.1, h.2]
  simp
theorem tx_slT {xs : List α} {lo hi : Option Expr} {o o' : Option Int} {p2 : Pos} (ha : TX X σ H a (Tup.mk xs)) (hl : TO' X σ H lo o) (hh : TO' X σ H hi o') : TX X σ H (.Subscript a (.Slice lo hi none p2) p) (Tup.mk (cutX xs o o')) := fun H1 k Q q =>
  wE_slice sl_tupA ha hl hh k fun v H2 k2 d => by
    have d0 := d
    obtain ⟨l, vs, rfl, h1, h2⟩ := d.tup
    have hlen : vs.length = xs.length := h2.len
    refine ⟨l, vs, rfl, h1, fun hw => ?_, fun _ l' hl' => q _ _ (k2.trans (Ex.new hl')) (hd_tup (SqT.of upd_same) ((h2.cut o o').ex (Ex.new hl')))⟩
    rw [hlen] at hw
    rw [cutX_whole hw] at q
    exact q _ H2 k2 d0
theorem tx_rev {xs : List α} {k : Nat} {p1 p2 p3 : Pos} (ha : TX X σ H a xs) : TX X σ H (.Subscript a (.Slice none none (some (.UnaryOp .USub (.Constant (.int 1) k p1) p2)) p3) p) xs.reverse := fun H1 k Q q =>
  wE_of (pe_revL pE) (ha H1 k _ fun v H2 k2 d => by
    obtain ⟨l, vs, rfl, h1, h2⟩ := d.list
    exact ⟨l, vs, rfl, h1, fun l' hl' => q _ _ (k2.trans (Ex.new hl')) (hd_list (SqL.of upd_same) ((h2.rev).ex (Ex.new hl')))⟩)
/-! ### joins -/
def rCatS (K : Frag) : R2 := fun x y H Q => ∃ (l b : Addr) (xs zs : List V), x = .ref l ∧ y = .ref b ∧ SqL K H l xs ∧ SqL K H b zs ∧ xs.length + zs.length ≤ sizeLine ∧ ∀ p, H p = none → Q (.ref p) (upd H p (.lst (xs ++ zs)))
theorem op_catS : OpR X (binaryOp .Add) (rCatS X.K) := by
  intro pins s σ H x y v u Q I rx ry h
  obtain ⟨l, b, xs, zs, rfl, rfl, hH, hB, hz, q⟩ := h
  cases rx
  cases ry
  obtain ⟨its, r, pl, _⟩ := I.list hH
  obtain ⟨its2, r2, pl2, _⟩ := I.list hB
  have hl := r.length
  have hl2 := r2.length
  obtain ⟨⟨cls, dd, data, sl⟩, n, ho, hc, hdd, hd⟩ := id pl
  obtain ⟨⟨cls2, dd2, data2, sl2⟩, n2, ho2, hc2, hdd2, hd2⟩ := id pl2
  simp only at hc hd hc2 hd2
  subst hc hd hc2 hd2
  have e : its.toArray ++ its2.toArray = (its ++ its2).toArray := by simp
  have J := I.lnew (t' := s.toks) (r.append r2) (by rw [List.length_append]; omega)
  have q' := q _ I.fresh
  refine concat_meets ⟨_, ho, rfl⟩ ⟨_, ho2, rfl⟩ noFill_list_add seq_list_add PySem.F.slot_list_add PySem.F.entry_list_add (PySem.F.args_list_add_2 _ _) (list_addW l b its.toArray its2.toArray n n2 dd dd2 sl sl2 (by rw [List.size_toArray, List.size_toArray]; omega)) ⟨ho, ho2, ?_⟩
  rw [e]
  exact ⟨.ref _, _, J, rfl, q'⟩
theorem tx_catL {xs ys : List α} (hz : xs.length + ys.length ≤ 100000) (ha : TX X σ H a xs) (hb : TX X σ H b ys) : TX X σ H (.BinOp a .Add b p) (xs ++ ys) :=
  tx_opR op_catS ha hb fun H1 v w k d1 d2 Q q => by
    obtain ⟨l, vs, rfl, h1, h2⟩ := d1.list
    obtain ⟨l', vs', rfl, h3, h4⟩ := d2.list
    exact ⟨l, l', vs, vs', rfl, rfl, h1, h3, by rw [h2.len, h4.len, sizeLine_eq]; omega, fun q' hq => q _ _ (Ex.new hq) (hd_list (SqL.of upd_same) ((h2.append h4).ex (Ex.new hq)))⟩
theorem tx_catT {xs ys : List α} (hz : xs.length + ys.length ≤ 100000) (ha : TX X σ H a (Tup.mk xs)) (hb : TX X σ H b (Tup.mk ys)) : TX X σ H (.BinOp a .Add b p) (Tup.mk (xs ++ ys)) :=
  tx_opR op_catA ha hb fun H1 v w k d1 d2 Q q => by
    obtain ⟨l, vs, rfl, h1, h2⟩ := d1.tup
    obtain ⟨l', vs', rfl, h3, h4⟩ := d2.tup
    refine ⟨l, l', vs, vs', rfl, rfl, h1, h3, by rw [h2.len, h4.len, sizeLine_eq]; show xs.length + ys.length ≤ _; omega, fun e => ?_, fun _ e => ?_, fun _ _ q' hq => q _ _ (Ex.new hq) (hd_tup (SqT.of upd_same) ((h2.append h4).ex (Ex.new hq)))⟩
    · subst e
      have : xs = [] := List.length_eq_zero_iff.mp h2.len.symm
      subst this
      exact q _ H1 (Ex.refl _) d2
    · subst e
      have : ys = [] := List.length_eq_zero_iff.mp h4.len.symm
      subst this
      rw [List.append_nil] at q
      exact q _ H1 (Ex.refl _) d1
/-- [x] * k -/
def rRepS (K : Frag) : R2 := fun x y H Q => ∃ l k v, x = .ref l ∧ y = .int k ∧ H l = some (.lst [v]) ∧ (k = 0 ∨ k = 1) ∧ ∀ p, H p = none → Q (.ref p) (upd H p (.lst (List.replicate k.toNat v)))
/-! ### the parts' walks -/
theorem ti_enum {xs : List α} {elts : List Expr} {kk : Nat} {tpos : Pos} (hm : X.mg "enumerate" = none) (ha : TX X σ H a xs) (hg : Gl X "enumerate" := by rfl) (hs : starEach [a] X.env = [(false, eval a X.env)] := by rfl) :
    TI' X σ H (.Tuple elts kk tpos) (.Call (.Name "enumerate" p) [a] [] pos) (enumd xs) := fun H1 k R q => wI_of (pi_enum hg hm pA hs) (t1_mk ha hs H1 k _ fun v H2 k2 d => by
  obtain ⟨l, vs, rfl, h1, h2⟩ := d.list
  exact ⟨l, vs, rfl, h1, q _ H2 (Ex H2) k2 (itok_enum (vs := vs) fun H3 k3 => ⟨ex_l k3 h1, h2.ex k3⟩) fun _ k3 => k3⟩)
theorem ti_zipT {xs : List α} {ys : List β} {elts : List Expr} {kk : Nat} {tpos : Pos} (hm : X.mg "zip" = none) (ha : T2 X σ H [a, b] (Tup.mk xs) (Tup.mk ys)) (hg : Gl X "zip" := by rfl) (hs : starEach [a, b] X.env = (false, eval a X.env) :: starEach [b] X.env := by rfl) (hpl : (backTo pos (starEach [b] X.env)).any (·.1) = false := by rfl) :
    TI' X σ H (.Tuple elts kk tpos) (.Call (.Name "zip" p) [a, b] [] pos) (xs.zip ys) := fun H1 k R q => wI_of (RZ.pi_zipA hg hm pA hs hpl) (ha H1 k _ fun v w H2 k2 d1 d2 => by
  obtain ⟨l, vs, rfl, h1, h2⟩ := d1.tup
  obtain ⟨l', vs', rfl, h3, h4⟩ := d2.tup
  exact ⟨l, l', vs, vs', rfl, .inr ⟨h1, h3, q _ H2 (Ex H2) k2 (itok_zipT (vs := vs) (ws := vs') fun H3 k3 => ⟨ex_t k3 h1, h2.ex k3, ex_t k3 h3, h4.ex k3⟩) fun _ k3 => k3⟩⟩)
theorem ti_range1 {i : Int} (hm : X.mg "range" = none) (ha : TX X σ H a i) (h1 : -(2 ^ 62) ≤ i) (h2 : i < 2 ^ 62) (hg : Gl X "range" := by rfl) (hs : starEach [a] X.env = [(false, eval a X.env)] := by rfl) :
    TI' X σ H tg (.Call (.Name "range" p) [a] [] pos) (rng 0 i.toNat) := fun H1 k R q => wI_of (pi_range1 hg hm pA hs) (t1_mk ha hs H1 k _ fun v H2 k2 d => ⟨i, by rw [d.int], h1, h2, q _ H2 (Ex H2) k2 itok_rng fun _ k3 => k3⟩)
theorem ti_range2 {i j : Int} (hm : X.mg "range" = none) (ha : T2 X σ H [a, b] i j) (h : -(2 ^ 62) ≤ i ∧ i < 2 ^ 62 ∧ -(2 ^ 62) ≤ j ∧ j < 2 ^ 62) (hg : Gl X "range" := by rfl) (hs : starEach [a, b] X.env = [(false, eval a X.env), (false, eval b X.env)] := by rfl) (hs2 : starEach [b] X.env = [(false, eval b X.env)] := by rfl) :
    TI' X σ H tg (.Call (.Name "range" p) [a, b] [] pos) (rng i (j - i).toNat) := fun H1 k R q => wI_of (pi_range2 hg hm pA hs hs2) (ha H1 k _ fun v w H2 k2 d1 d2 => ⟨i, j, by rw [d1.int, d2.int], h, q _ H2 (Ex H2) k2 itok_rng fun _ k3 => k3⟩)
/-! ### own pure defs -/
def Pu1 (K : Frag) (ok : α → Prop) (f : α → δ) : Sp := fun vs H Q _ => ∃ v x, vs = [v] ∧ Hd K H v x ∧ ok x ∧ ∀ u H', Ex H H' → Hd K H' u (f x) → Q u H'
def Pu2 (K : Frag) (ok : α → β → Prop) (f : α → β → δ) : Sp := fun vs H Q _ => ∃ v w x y, vs = [v, w] ∧ Hd K H v x ∧ Hd K H w y ∧ ok x y ∧ ∀ u H', Ex H H' → Hd K H' u (f x y) → Q u H'
def Pu3 (K : Frag) (ok : α → β → γ → Prop) (f : α → β → γ → δ) : Sp := fun vs H Q _ => ∃ v w u x y z, vs = [v, w, u] ∧ Hd K H v x ∧ Hd K H w y ∧ Hd K H u z ∧ ok x y z ∧ ∀ u H', Ex H H' → Hd K H' u (f x y z) → Q u H'
/-- a def that keeps sp, by its global name; it raises nothing -/
structure Own (P : Program) (w : World) (K : Frag) (mg : Str → Option Value) (base : Heap) (k : Nat) (n : Str) (ps : List Str) (sp : Sp) : Prop where
  own : ∃ f fd, FnOk P w K mg base CX0 k f fd ps sp ∧ mg n = some (.ref f) ∧ keepIn K (.ref f) = true ∧ Binds K fd ps []
theorem passes0' {E : XK} : Passes CX0 X E := fun _ _ _ _ _ _ _ h => h.elim
theorem wE_own {sp : Sp} {k : Nat} {ps : List Str} (F : Own X.prog X.w X.K X.mg X.base k n ps sp) (hr : Room k X.A) (h : wA X (e :: es) σ H fun vs H1 => sp vs H1 Q noE) (hg : Gl X n := by rfl) (hdb : (n == ("__debug__" : Str)) = false := by decide)
    (he : starEach (e :: es) X.env = (false, eval e X.env) :: starEach es X.env := by rfl) (hpl : (backTo pos (starEach es X.env)).any (·.1) = false := by rfl) : wE X (.Call (.Name n p) (e :: es) [] pos) σ H Q := by
  obtain ⟨f, fd, F, hm, hk, hb⟩ := F.own
  refine wE_of (pe_call (dvs := []) F hr hg hm hk hb .nil (passes0' (E := noE)) pA hdb he hpl) ?_
  exact wA_mono h fun vs H' q => by rw [List.append_nil]; exact q
theorem tx_own1 {ok : α → Prop} {f : α → δ} {k : Nat} {ps : List Str} (F : Own X.prog X.w X.K X.mg X.base k n ps (Pu1 X.K ok f)) (hr : Room k X.A) (ha : TX X σ H a x) (hx : ok x) (hg : Gl X n := by rfl) (hdb : (n == ("__debug__" : Str)) = false := by decide)
    (he : starEach (a :: []) X.env = (false, eval a X.env) :: starEach [] X.env := by rfl) : TX X σ H (.Call (.Name n p) [a] [] pos) (f x) := fun H1 kk Q q =>
  wE_own F hr (t1_mk ha he H1 kk _ fun v H2 k2 d => ⟨v, x, rfl, d, hx, fun u H3 k3 d3 => q u H3 (k2.trans k3) d3⟩) hg hdb he rfl
theorem tx_own2 {ok : α → β → Prop} {f : α → β → δ} {k : Nat} {ps : List Str} (F : Own X.prog X.w X.K X.mg X.base k n ps (Pu2 X.K ok f)) (hr : Room k X.A) (ha : T2 X σ H [a, b] x y) (hx : ok x y) (hg : Gl X n := by rfl) (hdb : (n == ("__debug__" : Str)) = false := by decide)
    (he : starEach (a :: [b]) X.env = (false, eval a X.env) :: starEach [b] X.env := by rfl) (hpl : (backTo pos (starEach [b] X.env)).any (·.1) = false := by rfl) : TX X σ H (.Call (.Name n p) [a, b] [] pos) (f x y) := fun H1 kk Q q =>
  wE_own F hr (ha H1 kk _ fun v w H2 k2 d d2 => ⟨v, w, x, y, rfl, d, d2, hx, fun u H3 k3 d3 => q u H3 (k2.trans k3) d3⟩) hg hdb he hpl
theorem tx_own3 {ok : α → β → γ → Prop} {f : α → β → γ → δ} {k : Nat} {ps : List Str} (F : Own X.prog X.w X.K X.mg X.base k n ps (Pu3 X.K ok f)) (hr : Room k X.A) (ha : T3 X σ H [a, b, c] x y z) (hx : ok x y z) (hg : Gl X n := by rfl) (hdb : (n == ("__debug__" : Str)) = false := by decide)
    (he : starEach (a :: [b, c]) X.env = (false, eval a X.env) :: starEach [b, c] X.env := by rfl) (hpl : (backTo pos (starEach [b, c] X.env)).any (·.1) = false := by rfl) : TX X σ H (.Call (.Name n p) [a, b, c] [] pos) (f x y z) := fun H1 kk Q q =>
  wE_own F hr (ha H1 kk _ fun v w u H2 k2 d d2 d3 => ⟨v, w, u, x, y, z, rfl, d, d2, d3, hx, fun u H3 k3 d4 => q u H3 (k2.trans k3) d4⟩) hg hdb he hpl
theorem T2.go {Q : List V → Hp → Prop} (h : T2 X σ H es x y) (k : ∀ v w H2, Ex H H2 → Hd X.K H2 v x → Hd X.K H2 w y → Q [v, w] H2) : wA X es σ H Q := h H (Ex.refl _) Q k
theorem T3.go {Q : List V → Hp → Prop} (h : T3 X σ H es x y z) (k : ∀ v w u H2, Ex H H2 → Hd X.K H2 v x → Hd X.K H2 w y → Hd X.K H2 u z → Q [v, w, u] H2) : wA X es σ H Q := h H (Ex.refl _) Q k
end
end K95
/-! KT5: lists that change in place; heaps that agree but for some places. -/
namespace K95
open PySem PySem.Spec PySem.Calls PySem.W PyProof.Rows L2 Evl
/-- H' is as H, but for the places in S (and more may be known) -/
def But (S : List Addr) (H H' : Hp) : Prop := ∀ b o, b ∉ S → H b = some o → H' b = some o
section
variable {S T : List Addr} {H H1 H2 : Hp} {l : Addr} {o : HO}
theorem But.refl : But S H H := fun _ _ _ e => e
theorem But.of_ex (h : Ex H H1) : But S H H1 := fun b o _ e => h b o e
theorem But.trans (h : But S H H1) (k : But S H1 H2) : But S H H2 := fun b o hb e => k b o hb (h b o hb e)
theorem But.mono (h : But S H H1) (k : ∀ b ∈ S, b ∈ T) : But T H H1 := fun b o hb e => h b o (fun z => hb (k b z)) e
theorem But.upd (h : But S H H1) (hl : l ∈ S) : But S H (upd H1 l o) := fun b u hb e => by
  rw [upd_ne (fun z => hb (by rw [z]; exact hl))]
  exact h b u hb e
theorem But.ex (h : But S H H1) (k : ∀ b ∈ S, H b = none) : Ex H H1 := fun b o e => h b o (fun z => by rw [k b z] at e; cases e) e
theorem But.new (h : But S H H1) (n : H1 l = none) : But S H (L2.upd H1 l o) := h.trans (But.of_ex (Ex.new n))
end
section
variable {K : Frag} {S : List Addr} {H H1 H2 : Hp} {α : Type} [DecidableEq α] [Datum α] {v : V} {x : α} {vs : List V} {xs : List α}
/-- tuples stand, where only lists, dicts, objects change -/
theorem sqt_but (h : But S H H1) (hS : ∀ b ∈ S, ∀ us, H b ≠ some (.tup us) ∧ ∀ o, H b ≠ some (.frz o (.tup us))) : ∀ a us, SqT K H a us → SqT K H1 a us := fun a us q => by
  rcases q with q | q
  · rcases q with q | ⟨o, q⟩
    · exact .inl (.inl (h a _ (fun z => (hS a z us).1 q) q))
    · exact .inl (.inr ⟨o, h a _ (fun z => (hS a z us).2 o q) q⟩)
  · exact .inr q
/-- what stands at S is no tuple -/
def NoTup (S : List Addr) (H : Hp) : Prop := ∀ b ∈ S, ∀ us, H b ≠ some (.tup us) ∧ ∀ o, H b ≠ some (.frz o (.tup us))
theorem Hd.but [Imm α] (d : Hd K H v x) (h : But S H H1) (n : NoTup S H) : Hd K H1 v x := d.keepT (sqt_but h n)
theorem HdAll.but [Imm α] (d : HdAll K H vs xs) (h : But S H H1) (n : NoTup S H) : HdAll K H1 vs xs := d.keepT (sqt_but h n)
theorem notup_one {l : Addr} {us : List V} (h : H l = some (.lst us)) : NoTup [l] H := fun b hb ws => by
  obtain rfl : b = l := by simpa using hb
  exact ⟨fun z => (by rw [h] at z; cases z), fun o z => (by rw [h] at z; cases z)⟩
theorem LAt.but [Imm α] (h : LAt K H l xs) (k : But S H H1) (n : NoTup S H) (hl : l ∉ S) : LAt K H1 l xs := by obtain ⟨us, h1, h2⟩ := h.at_; exact ⟨us, k _ _ hl h1, h2.but k n⟩
theorem LAt.no (h : LAt K H l xs) : NoTup [l] H := by obtain ⟨us, h1, _⟩ := h.at_; exact notup_one h1
theorem LAt.set [Imm α] {ys : List α} (h : LAt K H l xs) {us : List V} (d : HdAll K H us ys) : LAt K (upd H l (.lst us)) l ys :=
  ⟨us, upd_same, d.but (But.refl.upd (List.mem_singleton.mpr rfl)) h.no⟩
end
section
variable {α β γ : Type} [DecidableEq α] [Datum α] [DecidableEq β] [Datum β] [Imm α]
variable {X : Cx} {σ : L2.St} {H H1 : Hp} {e a b i : Expr} {x : α} {y : β} {pos p p1 p2 : Pos} {Q : VK} {D : Ends} {l : Addr} {xs : List α} {n : Str}
theorem wE_var {v : V} (j : Nat) (hσ : σ[j]? = some (some v)) (hN : X.N[j]? = some n) (q : Q v H) (hv : Vis X.env.scope n := by first | exact .inl rfl | exact .inr (.inl rfl) | exact .inr (.inr rfl)) (hd : (n == ("__debug__" : Str)) = false := by decide) (hcd : (n == ("__classdict__" : Str)) = false := by decide) : wE X (.Name n p) σ H Q :=
  wE_of (pe_var (i := j) hN hv hd hcd) ⟨v, hσ, q⟩
/-- l.append(e), l a name -/
theorem wE_append (j : Nat) (h : LAt X.K H l xs) (hz : xs.length ≤ 100000) (ha : TX X σ H a x) (q : ∀ v H2, Ex H H2 → LAt X.K (upd H2 l v) l (xs ++ [x]) → Q .non (upd H2 l v)) (hσ : σ[j]? = some (some (.ref l)) := by rfl) (hN : X.N[j]? = some n := by rfl)
    (hv : Vis X.env.scope n := by first | exact .inl rfl | exact .inr (.inl rfl) | exact .inr (.inr rfl)) (hd : (n == ("__debug__" : Str)) = false := by decide) (hcd : (n == ("__classdict__" : Str)) = false := by decide)
    (hline : (p1.endLine == pos.line) = true := by rfl) (hs : starEach (a :: []) X.env = (false, eval a X.env) :: starEach [] X.env := by rfl)
    (hfew : ((backTo pos (starEach (a :: []) X.env)).all (fun x => !x.1) && (backToKw pos (keywordEach [] X.env)).all (fun x => x.1.isSome) && decide ((a :: []).length + ([] : List Keyword).length + (if ([] : List Keyword).isEmpty then 0 else 1) < 30)) = true := by rfl) :
    wE X (.Call (.Attribute (.Name n p) "append" p1) [a] [] pos) σ H Q := by
  obtain ⟨us, h1, h2⟩ := h.at_
  refine wE_of (pe_bm PySem.F.plainAttrs_list PySem.F.slot_list_append PySem.F.type_list_append mt_append (pe_var (i := j) hN hv hd hcd) (pa_cons pE pa_nil hs) rfl hfew hline hs rfl) ⟨_, hσ, .inl ⟨rfl, us, SqL.of h1⟩, ?_⟩
  refine ha.go fun v H2 k2 d => ?_
  have h1' := k2 _ _ h1
  have L2' : LAt X.K H2 l xs := h.ex k2
  refine ⟨l, us, v, rfl, rfl, h1', by rw [h2.len, sizeLine_eq]; omega, q _ H2 k2 (L2'.set ((h2.ex k2).append (ha_cons d ha_nil)))⟩
/-- l.pop(i) -/
theorem wE_popAt (j : Nat) {k : Int} {m : Nat} (h : LAt X.K H l xs) (ha : TX X σ H a k) (hk : k = m) (hx : xs[m]? = some x) (hz : xs.length ≤ 100000) (q : ∀ u v H2, Ex H H2 → LAt X.K (upd H2 l v) l (xs.eraseIdx m) → Hd X.K (upd H2 l v) u x → Q u (upd H2 l v)) (hσ : σ[j]? = some (some (.ref l)) := by rfl) (hN : X.N[j]? = some n := by rfl)
    (hv : Vis X.env.scope n := by first | exact .inl rfl | exact .inr (.inl rfl) | exact .inr (.inr rfl)) (hd : (n == ("__debug__" : Str)) = false := by decide) (hcd : (n == ("__classdict__" : Str)) = false := by decide)
    (hline : (p1.endLine == pos.line) = true := by rfl) (hs : starEach (a :: []) X.env = (false, eval a X.env) :: starEach [] X.env := by rfl)
    (hfew : ((backTo pos (starEach (a :: []) X.env)).all (fun x => !x.1) && (backToKw pos (keywordEach [] X.env)).all (fun x => x.1.isSome) && decide ((a :: []).length + ([] : List Keyword).length + (if ([] : List Keyword).isEmpty then 0 else 1) < 30)) = true := by rfl) :
    wE X (.Call (.Attribute (.Name n p) "pop" p1) [a] [] pos) σ H Q := by
  obtain ⟨us, h1, h2⟩ := h.at_
  refine wE_of (pe_bm PySem.F.plainAttrs_list PySem.F.slot_list_pop PySem.F.type_list_pop mt_popAt (pe_var (i := j) hN hv hd hcd) (pa_cons pE pa_nil hs) rfl hfew hline hs rfl) ⟨_, hσ, .inl ⟨rfl, us, SqL.of h1⟩, ?_⟩
  refine ha.go fun v H2 k2 d => ?_
  have h1' := k2 _ _ h1
  have L2' : LAt X.K H2 l xs := h.ex k2
  have hm : m < xs.length := (List.getElem?_eq_some_iff.mp hx).1
  obtain ⟨u, e1, d1⟩ := (h2.ex k2).at' hx
  have hmu : m < us.length := by rw [h2.len]; exact hm
  refine ⟨l, us, k, m, u, rfl, by rw [d.int], h1', by omega, by omega, ?_, e1, q u _ H2 k2 (L2'.set ?_) (d1.but (But.refl.upd (List.mem_singleton.mpr rfl)) L2'.no)⟩
  · subst hk
    exact (ixN_seq (n := us.length) (i := (m : Int)) (j := m) (by unfold ixN; rw [if_pos (by omega), if_pos (by omega)]; rfl)).1
  · refine ha_of ?_ fun c w z e3 e4 => ?_
    · rw [List.length_eraseIdx, List.length_eraseIdx, h2.len]
    · rw [List.getElem?_eraseIdx] at e3 e4
      split at e3
      · rw [if_pos ‹_›] at e4
        obtain ⟨z', e5, e6⟩ := (h2.ex k2).at e3
        rw [e4] at e5; cases e5; exact e6
      · rw [if_neg ‹_›] at e4
        obtain ⟨z', e5, e6⟩ := (h2.ex k2).at e3
        rw [e4] at e5; cases e5; exact e6
/-- l[i] = e -/
theorem wS_setIx (j : Nat) {k : Int} {m : Nat} (h : LAt X.K H l xs) (ha : TX X σ H a x) (hi : TX X σ H i k) (hk : k = m) (hm : m < xs.length) (q : ∀ v H2, Ex H H2 → LAt X.K (upd H2 l v) l (xs.set m x) → D.nx σ (upd H2 l v)) (hσ : σ[j]? = some (some (.ref l)) := by rfl) (hN : X.N[j]? = some n := by rfl)
    (hv : Vis X.env.scope n := by first | exact .inl rfl | exact .inr (.inl rfl) | exact .inr (.inr rfl)) (hd : (n == ("__debug__" : Str)) = false := by decide) (hcd : (n == ("__classdict__" : Str)) = false := by decide)
    (has : ∀ u, assign (.Subscript (.Name n p1) i p) X.env u = (do let ov ← holding [u] (eval (.Name n p1) X.env); let iv ← holding [u, ov] (eval i X.env); standAt p; holding [u, ov, iv] (setItem ov iv u); release [u, ov, iv] []) := by intros; rfl)
    (hs : swapsWithSole [.Subscript (.Name n p1) i p] a pos.line X.env = pure false := by rfl) (hw : swappedStores [.Subscript (.Name n p1) i p] a X.env = pure none := by rfl) : wS X (.Assign [.Subscript (.Name n p1) i p] a pos) D σ H := by
  obtain ⟨us, h1, h2⟩ := h.at_
  refine wS_of (ps_asg pE (pg_sub (pe_var (i := j) hN hv hd hcd) pE set_list has) hs hw) ?_
  refine ha.go fun v H2 k2 d => ⟨_, hσ, (hi.up k2).go fun w H3 k3 d3 => ?_⟩
  have k13 := k2.trans k3
  have L3 : LAt X.K H3 l xs := h.ex k13
  have hmu : m < us.length := by rw [h2.len]; exact hm
  exact ⟨l, us, k, m, rfl, d3.int, k13 _ _ h1, by subst hk; unfold ixN; rw [if_pos (by omega), if_pos (by omega)]; rfl, q _ H3 k13 (L3.set ((h2.ex k13).set (d.ex k3) m))⟩
/-- x -= e, on ints -/
theorem wS_augSub (j : Nat) {k m : Int} {n : Str} (hσ : σ[j]? = some (some (.int k)) := by rfl) (hN : X.N.Nodup) (ha : TX X σ H a m) (q : ∀ H2, Ex H H2 → D.nx (σ.set j (some (.int (k - m)))) H2) (hi : X.N[j]? = some n := by rfl) (hx : Loc X.env.scope n := by first | exact .inl rfl | exact .inr rfl)
    (hf : X.fn n = true ∨ X.env.scope.names.lookup n = some .local := by first | exact .inl rfl | exact .inr rfl) : wS X (.AugAssign (.Name n p) .Sub a pos) D σ H :=
  wS_of (ps_aug hN hi hx pE ip_sub hf) ⟨_, hσ, ha.go fun v H2 k2 d => ⟨k, m, rfl, d.int, q H2 k2⟩⟩
/-- a while loop: W n holds ahead of a turn, n falls -/
theorem wS_while {c : Expr} {body : List Stmt} (W : Nat → L2.St → Hp → Prop) (h0 : ∃ m, W m σ H) (hp : PassesOwn (model X.prog X.w) X.A X.env X.xe)
    (turn : ∀ m σ H, W m σ H → wT X c σ H fun b H1 => if b = true then wB X body { D with nx := fun σ' H' => ∃ m', m' < m ∧ W m' σ' H', ct := fun σ' H' => ∃ m', m' < m ∧ W m' σ' H', bk := D.nx } σ H1 else D.nx σ H1) : wS X (.While c body [] pos) D σ H :=
  wS_of (ps_while hp pT pB) ⟨W, h0, fun m σ H w => wT_mono (turn m σ H w) fun b H1 q => by
    cases b with
    | false => exact q
    | true => exact ⟨_, fun _ _ z => z, q⟩⟩
end
end K95
/-! KT6: pairs of targets; walks over what was known ahead. -/
namespace K95
open PySem PySem.Spec PySem.Calls PySem.W PyProof.Rows L2 Evl
section
variable {α β γ : Type} [DecidableEq α] [Datum α] [DecidableEq β] [Datum β]
variable {X : Cx} {σ : L2.St} {H H0 H1 : Hp} {e a b i tg iter : Expr} {x : α} {y : β} {pos p p1 p2 : Pos} {Q : VK} {D : Ends} {l : Addr} {xs : List α} {n m : Str}
/-- a, b = x, y; plain local names -/
theorem wS_par {px py pt : Pos} {kt k2 : Nat} {pt2 : Pos} (i j : Nat) (hc : X.calm = true) (hN : X.N.Nodup) (h : wE X a σ H fun v H1 => wE X b σ H1 fun w H2 => D.nx ((σ.set i (some v)).set j (some w)) H2)
    (hi : X.N[i]? = some n := by rfl) (hj : X.N[j]? = some m := by rfl) (hij : i ≠ j := by decide) (hx : X.env.scope.names.lookup n = some .local := by rfl) (hy : X.env.scope.names.lookup m = some .local := by rfl)
    (hw : swappedStores [.Tuple [.Name n px, .Name m py] kt pt] (.Tuple [a, b] k2 pt2) X.env = pure (some [n, m]) := by rfl)
    (hs : swapsWithSole [.Tuple [.Name n px, .Name m py] kt pt] (.Tuple [a, b] k2 pt2) pos.line X.env = pure false := by rfl)
    (h1 : starEach (a :: [b]) X.env = (false, eval a X.env) :: starEach [b] X.env := by rfl) (h2 : starEach (b :: []) X.env = (false, eval b X.env) :: starEach [] X.env := by rfl) :
    wS X (.Assign [.Tuple [.Name n px, .Name m py] kt pt] (.Tuple [a, b] k2 pt2) pos) D σ H :=
  wS_of (ps_par hc hN hi hj hij hx hy (pa_cons pE (pa_cons pE pa_nil h2) h1) hw hs) (wE_mono h fun v H1 q => wE_mono q fun w H2 q2 => ⟨v, w, rfl, q2⟩)
/-- a, b = e -/
theorem wS_two {px py pt : Pos} {kt : Nat} (i j : Nat) (hc : X.calm = true) (hN : X.N.Nodup) (h : wE X e σ H fun v H1 => ∃ q u w, v = .ref q ∧ SqT X.K H1 q [u, w] ∧ D.nx ((σ.set i (some u)).set j (some w)) H1)
    (hi : X.N[i]? = some n := by rfl) (hj : X.N[j]? = some m := by rfl) (hx : Loc X.env.scope n := by first | exact .inl rfl | exact .inr rfl) (hy : Loc X.env.scope m := by first | exact .inl rfl | exact .inr rfl)
    (hf : X.fn n = true ∨ X.env.scope.names.lookup n = some .local := by first | exact .inl rfl | exact .inr rfl) (hg : X.fn m = true ∨ X.env.scope.names.lookup m = some .local := by first | exact .inl rfl | exact .inr rfl)
    (hs : swapsWithSole [.Tuple [.Name n px, .Name m py] kt pt] e pos.line X.env = pure false := by rfl) (hw : swappedStores [.Tuple [.Name n px, .Name m py] kt pt] e X.env = pure none := by rfl) :
    wS X (.Assign [.Tuple [.Name n px, .Name m py] kt pt] e pos) D σ H :=
  wS_of (ps_asg pE (pg_tup (n := 2) hc (pgs_cons (pg_name hN hi hx hf) (pgs_cons (pg_name hN hj hy hg) pgs_nil))) hs hw) (wE_mono h fun v H1 ⟨q, u, w, ev, hq, k⟩ => ⟨q, _, ev, hq, rfl, u, _, rfl, w, _, rfl, rfl, k⟩)
/-- the pair written out is laid first -/
theorem wE_tup2 {kk : Nat} (h : wE X a σ H fun v H1 => wE X b σ H1 fun w H2 => ∀ q, H2 q = none → Q (.ref q) (upd H2 q (.tup [v, w]))) (h1 : starEach (a :: [b]) X.env = (false, eval a X.env) :: starEach [b] X.env := by rfl) (h2 : starEach (b :: []) X.env = (false, eval b X.env) :: starEach [] X.env := by rfl) :
    wE X (.Tuple [a, b] kk p) σ H Q := wE_of (pe_tup (pa_cons pE (pa_cons pE pa_nil h2) h1)) (wE_mono h fun v H1 q => wE_mono q fun w H2 q2 => ⟨by rw [sizeLine_eq]; show 2 ≤ 16777216; decide, q2⟩)
theorem wE_lst0 (h : ∀ q, H q = none → Q (.ref q) (upd H q (.lst []))) : wE X (.List [] p) σ H Q := wE_of (pe_lst pa_nil) ⟨by rw [sizeLine_eq]; show 0 ≤ 16777216; decide, h⟩
/-- a walk that leans on what H0 knows -/
def TIk (X : Cx) (σ : L2.St) (H0 H : Hp) (tg iter : Expr) (xs : List α) : Prop := ∀ R : It → Hp → Prop, (∀ J H2, Ex H H2 → ItOk X.K J (Ex H0) xs → R J H2) → wI X tg iter σ H R
theorem tik_list (j : Nat) {v : V} (d : Hd X.K H0 v xs) (k : Ex H0 H) (hσ : σ[j]? = some (some v) := by rfl) (hN : X.N[j]? = some n := by rfl) (hv : Vis X.env.scope n := by first | exact .inl rfl | exact .inr (.inl rfl) | exact .inr (.inr rfl)) (hd : (n == ("__debug__" : Str)) = false := by decide) (hcd : (n == ("__classdict__" : Str)) = false := by decide) : TIk X σ H0 H tg (.Name n p) xs := fun R q => by
  obtain ⟨l, vs, rfl, h1, h2⟩ := d.list
  exact wI_of (pi_list (pe_var (i := j) hN hv hd hcd)) ⟨_, hσ, l, rfl, ⟨vs, ex_l k h1⟩, q _ H (Ex.refl _) (itok_list (vs := vs) fun H3 k3 => ⟨ex_l k3 h1, h2.ex k3⟩)⟩
theorem tik_tup (j : Nat) {v : V} (d : Hd X.K H0 v (Tup.mk xs)) (k : Ex H0 H) (hσ : σ[j]? = some (some v) := by rfl) (hN : X.N[j]? = some n := by rfl) (hv : Vis X.env.scope n := by first | exact .inl rfl | exact .inr (.inl rfl) | exact .inr (.inr rfl)) (hd : (n == ("__debug__" : Str)) = false := by decide) (hcd : (n == ("__classdict__" : Str)) = false := by decide) : TIk X σ H0 H tg (.Name n p) xs := fun R q => by
  obtain ⟨l, vs, rfl, h1, h2⟩ := d.tup
  exact wI_of (pi_tup (pe_var (i := j) hN hv hd hcd)) ⟨_, hσ, l, rfl, ⟨vs, ex_t k h1⟩, q _ H (Ex.refl _) (itok_tup (vs := vs) fun H3 k3 => ⟨ex_t k3 h1, h2.ex k3⟩)⟩
theorem tik_enum (j : Nat) {v : V} {pe : Pos} {elts : List Expr} {kk : Nat} {tpos : Pos} (hm : X.mg "enumerate" = none) (d : Hd X.K H0 v xs) (k : Ex H0 H) (hσ : σ[j]? = some (some v) := by rfl) (hN : X.N[j]? = some n := by rfl) (hv : Vis X.env.scope n := by first | exact .inl rfl | exact .inr (.inl rfl) | exact .inr (.inr rfl)) (hd : (n == ("__debug__" : Str)) = false := by decide) (hcd : (n == ("__classdict__" : Str)) = false := by decide) (hg : Gl X "enumerate" := by rfl)
    (hs : starEach [.Name n p] X.env = [(false, eval (.Name n p) X.env)] := by rfl) : TIk X σ H0 H (.Tuple elts kk tpos) (.Call (.Name "enumerate" pe) [.Name n p] [] pos) (enumd xs) := fun R q => by
  obtain ⟨l, vs, rfl, h1, h2⟩ := d.list
  exact wI_of (pi_enum hg hm (pa_cons (pe_var (i := j) hN hv hd hcd) pa_nil hs) hs) ⟨_, hσ, l, vs, rfl, ex_l k h1, q _ H (Ex.refl _) (itok_enum (vs := vs) fun H3 k3 => ⟨ex_l k3 h1, h2.ex k3⟩)⟩
/-- a walk that leans on nothing (a range) -/
theorem tik_of (h : ∀ R : It → Hp → Prop, (∀ J H2, Ex H H2 → ItOk X.K J (fun _ => True) xs → R J H2) → wI X tg iter σ H R) : TIk X σ H0 H tg iter xs := fun R q => h R fun J H2 k ok => q J H2 k ⟨fun H i _ => ok.go H i trivial, fun H _ => ok.stop H trivial, fun H i v H' _ => ok.yld H i v H' trivial⟩
theorem tik_range1 {i : Int} {a : Expr} (hm : X.mg "range" = none) (ha : TX X σ H a i) (h1 : -(2 ^ 62) ≤ i) (h2 : i < 2 ^ 62) (hg : Gl X "range" := by rfl) (hs : starEach [a] X.env = [(false, eval a X.env)] := by rfl) :
    TIk X σ H0 H tg (.Call (.Name "range" p) [a] [] pos) (rng 0 i.toNat) := tik_of fun R q => wI_of (pi_range1 hg hm pA hs) (t1_mk ha hs H (Ex.refl _) _ fun v H2 k2 d => ⟨i, by rw [d.int], h1, h2, q _ H2 k2 itok_rng⟩)
theorem tik_range2 {i j : Int} {a b : Expr} (hm : X.mg "range" = none) (ha : T2 X σ H [a, b] i j) (h : -(2 ^ 62) ≤ i ∧ i < 2 ^ 62 ∧ -(2 ^ 62) ≤ j ∧ j < 2 ^ 62) (hg : Gl X "range" := by rfl) (hs : starEach [a, b] X.env = [(false, eval a X.env), (false, eval b X.env)] := by rfl) (hs2 : starEach [b] X.env = [(false, eval b X.env)] := by rfl) :
    TIk X σ H0 H tg (.Call (.Name "range" p) [a, b] [] pos) (rng i (j - i).toNat) := tik_of fun R q => wI_of (pi_range2 hg hm pA hs hs2) (ha H (Ex.refl _) _ fun v w H2 k2 d1 d2 => ⟨i, j, by rw [d1.int, d2.int], h, q _ H2 k2 itok_rng⟩)
theorem wS_forK {body : List Stmt} (hi : TIk X σ H0 H tg iter xs) (W : Nat → L2.St → Hp → Prop) (h0 : ∀ H1, Ex H H1 → W 0 σ H1) (hK : ∀ i σ' H', W i σ' H' → Ex H0 H')
    (turn : ∀ i x, xs[i]? = some x → ∀ σ H, W i σ H → ∀ v H', Ex H H' → Hd X.K H' v x → wG X tg v σ H' fun σ2 H2 => wB X body { D with nx := W (i + 1), ct := W (i + 1), bk := D.nx } σ2 H2)
    (done : ∀ σ H, W xs.length σ H → D.nx σ H) (hc : X.calm = true) (hp : PassesOwn (model X.prog X.w) X.A X.env X.xe) (hs : ∀ x, foldedSetIterable iter X.env x = pure x := by intro _; rfl) : wS X (.For tg iter body [] pos) D σ H :=
  wS_of (ps_for hp hc pI pG pB hs) (hi _ fun J H2 k ok => wS_for ok W (h0 H2 k) (fun i σ' H' w => hK i σ' H' w) turn done)
theorem wG_name {v : V} {Q : L2.St → Hp → Prop} (i : Nat) (hN : X.N.Nodup) (q : Q (σ.set i (some v)) H) (hi : X.N[i]? = some n := by rfl) (hx : Loc X.env.scope n := by first | exact .inl rfl | exact .inr rfl)
    (hf : X.fn n = true ∨ X.env.scope.names.lookup n = some .local := by first | exact .inl rfl | exact .inr rfl) : wG X (.Name n p) v σ H Q := tgt_name (p := p) i hN hi hx hf Q q
theorem wG_two {v : V} {Q : L2.St → Hp → Prop} {kk : Nat} {q : α × β} (i j : Nat) (hc : X.calm = true) (hN : X.N.Nodup) (d : Hd X.K H v q) (k : ∀ u w, Hd X.K H u q.1 → Hd X.K H w q.2 → Q ((σ.set i (some u)).set j (some w)) H) (hi : X.N[i]? = some n := by rfl) (hj : X.N[j]? = some m := by rfl) (hx : Loc X.env.scope n := by first | exact .inl rfl | exact .inr rfl) (hy : Loc X.env.scope m := by first | exact .inl rfl | exact .inr rfl)
    (hf : X.fn n = true ∨ X.env.scope.names.lookup n = some .local := by first | exact .inl rfl | exact .inr rfl) (hg : X.fn m = true ∨ X.env.scope.names.lookup m = some .local := by first | exact .inl rfl | exact .inr rfl) : wG X (.Tuple [.Name n p1, .Name m p2] kk p) v σ H Q := by
  obtain ⟨l, v1, v2, rfl, h1, h2, h3⟩ := d.pair
  exact tgt_two i j hc hN h1 hi hj hx hy hf hg Q (k v1 v2 h2 h3)
/-- l.append(e), e of any kind -/
theorem wE_appendC (j : Nat) {us : List V} (hl : H l = some (.lst us)) (ha : wE X a σ H fun v H2 => ∃ us, H2 l = some (.lst us) ∧ us.length < sizeLine ∧ Q .non (upd H2 l (.lst (us ++ [v])))) (hσ : σ[j]? = some (some (.ref l)) := by rfl) (hN : X.N[j]? = some n := by rfl)
    (hv : Vis X.env.scope n := by first | exact .inl rfl | exact .inr (.inl rfl) | exact .inr (.inr rfl)) (hd : (n == ("__debug__" : Str)) = false := by decide) (hcd : (n == ("__classdict__" : Str)) = false := by decide)
    (hline : (p1.endLine == pos.line) = true := by rfl) (hs : starEach (a :: []) X.env = (false, eval a X.env) :: starEach [] X.env := by rfl)
    (hfew : ((backTo pos (starEach (a :: []) X.env)).all (fun x => !x.1) && (backToKw pos (keywordEach [] X.env)).all (fun x => x.1.isSome) && decide ((a :: []).length + ([] : List Keyword).length + (if ([] : List Keyword).isEmpty then 0 else 1) < 30)) = true := by rfl) :
    wE X (.Call (.Attribute (.Name n p) "append" p1) [a] [] pos) σ H Q :=
  wE_of (pe_bm PySem.F.plainAttrs_list PySem.F.slot_list_append PySem.F.type_list_append mt_append (pe_var (i := j) hN hv hd hcd) (pa_cons pE pa_nil hs) rfl hfew hline hs rfl) ⟨_, hσ, .inl ⟨rfl, us, SqL.of hl⟩, wE_mono ha fun v H2 ⟨us, h1, h2, q⟩ => ⟨l, us, v, rfl, rfl, h1, h2, q⟩⟩
theorem wS_nx {st : Stmt} {N : L2.St → Hp → Prop} (h : wS X st { D with nx := N } σ H) (k : ∀ σ' H', N σ' H' → D.nx σ' H') : wS X st D σ H := fun pins s I => thn (h pins s I) fun f s' q => by
  cases f with
  | next => obtain ⟨σ', H', I', q⟩ := q; exact ⟨σ', H', I', k _ _ q⟩
  | brk => exact q
  | cont => exact q
  | ret u => exact q
/-- what holds between two statements -/
theorem wB_mid {st : Stmt} {sts : List Stmt} (N : L2.St → Hp → Prop) (h : wS X st { D with nx := N } σ H) (k : ∀ σ' H', N σ' H' → wB X sts D σ' H') : wB X (st :: sts) D σ H := wB_cons (wS_nx (N := N) h k)
/-- list(t), list(l): a new list -/
theorem wE_listT (hm : X.mg "list" = none) (ha : TX X σ H a (Tup.mk xs)) (q : ∀ l H1, Ex H H1 → H l = none → LAt X.K H1 l xs → Q (.ref l) H1) (hg : Gl X "list" := by rfl) (hs : starEach (a :: []) X.env = (false, eval a X.env) :: starEach [] X.env := by rfl) : wE X (.Call (.Name "list" p) [a] [] pos) σ H Q :=
  wE_of (pe_callTy call_list_of hg hm (by with_unfolding_all rfl) pA (by decide) (by decide) hs rfl) (t1_mk ha hs H (Ex.refl _) _ fun v H2 k2 d => by
    obtain ⟨l, vs, rfl, h1, h2⟩ := d.tup
    exact ⟨l, vs, rfl, .inr h1, fun l hl => q _ _ (k2.trans (Ex.new hl)) (fresh_back k2 hl) ⟨vs, upd_same, h2.ex (Ex.new hl)⟩⟩)
theorem wE_listL (hm : X.mg "list" = none) (ha : TX X σ H a xs) (q : ∀ l H1, Ex H H1 → H l = none → LAt X.K H1 l xs → Q (.ref l) H1) (hg : Gl X "list" := by rfl) (hs : starEach (a :: []) X.env = (false, eval a X.env) :: starEach [] X.env := by rfl) : wE X (.Call (.Name "list" p) [a] [] pos) σ H Q :=
  wE_of (pe_callTy call_list_of hg hm (by with_unfolding_all rfl) pA (by decide) (by decide) hs rfl) (t1_mk ha hs H (Ex.refl _) _ fun v H2 k2 d => by
    obtain ⟨l, vs, rfl, h1, h2⟩ := d.list
    exact ⟨l, vs, rfl, .inl h1, fun l hl => q _ _ (k2.trans (Ex.new hl)) (fresh_back k2 hl) ⟨vs, upd_same, h2.ex (Ex.new hl)⟩⟩)
theorem wS_break (h : D.bk σ H) : wS X (.Break pos) D σ H := wS_of ps_break h
end
section
variable {α : Type} [DecidableEq α] [DatumOrd α] {X : Cx} {σ : L2.St} {H : Hp} {a : Expr} {z : α} {zs : List α} {p pos : Pos}
theorem tx_minL (hu : X.A.units + 65 < cLine) (hc : X.calm = true) (hm : X.mg "min" = none) (ha : TX X σ H a (z :: zs)) (hd : Datum.depth α ≤ 64 := by decide) (hg : Gl X "min" := by rfl) (hs : starEach (a :: []) X.env = (false, eval a X.env) :: starEach [] X.env := by rfl) : TX X σ H (.Call (.Name "min" p) [a] [] pos) (minOf z zs) :=
  tx_cb1 (call_minL α hc hu hd) (by with_unfolding_all rfl) ha (fun H1 v _ d Q q => by
    obtain ⟨l, vs, rfl, h1, h2⟩ := d.list
    exact ⟨l, vs, z, zs, rfl, h1, h2, fun u du => q u H1 (Ex.refl _) du⟩) hm hg (by decide) (by decide) hs
end
end K95
namespace K95
open PySem PySem.Spec PySem.Calls PySem.W PyProof.Rows L2 Evl
/-! the text by places; what the top has written, in bundles -/
def top (i : Nat) : Stmt := PySem.Challenge.pw_deedpiles_k95_whole_trials_and_copies.main.body.getD i (.Pass ⟨0, 0, 0, 0⟩)
/-- a def at the top -/
def DefAt (K : Frag) (mg : Str → Option Value) (n : Str) (st : Stmt) (ps : List Str) : Prop := ∃ f fd, Fun K n n st f fd ∧ mg n = some (.ref f) ∧ keepIn K (.ref f) = true ∧ Binds K fd ps []
/-- a method -/
def MethAt (K : Frag) (C : Addr) (m q : Str) (st : Stmt) (f : Addr) (fd : FuncData) (ps : List Str) : Prop := Fun K m q st f fd ∧ findIn K (.ref C) m = some (some (.ref f)) ∧ isFn K (.ref f) = true ∧ keepIn K (.ref f) = true ∧ Binds K fd ps []
section
variable {P : Program} {w : World} {K : Frag} {mg : Str → Option Value} {base : Heap} {k : Nat} {n : Str} {st : Stmt} {ps : List Str} {sp : Sp}
theorem own_of (D : DefAt K mg n st ps) (F : ∀ f fd, Fun K n n st f fd → FnOk P w K mg base CX0 k f fd ps sp) : Own P w K mg base k n ps sp := by
  obtain ⟨f, fd, h1, h2, h3, h4⟩ := D
  exact ⟨f, fd, F f fd h1, h2, h3, h4⟩
theorem def_mk {h : Heap} {f : Addr} {od an : Option Addr} {sl : Array (Option Value)} {oc kV dc pm cd ct : Value} (X : K.In h) (G : h.Ns mainGlobals mg) (a : nsIn K mainGlobals n = some (some (.ref f))) (l : K.lookup f = some ⟨oc, od, .func (fnOf n n (defArgs st) (defBody st) (defScope st) .none kV dc pm an cd ct), sl⟩) (c : codeIn K cd n = true) (kp : keepIn K (.ref f) = true)
    (hb : ∀ us : List Value, us.length = ps.length → bindArgs (fnOf n n (defArgs st) (defBody st) (defScope st) .none kV dc pm an cd ct) ⟨us, []⟩ = pure (ps.zip us)) : DefAt K mg n st ps :=
  ⟨f, _, fun_mk l c kp, mg_of X G a, kp, Binds.all hb⟩
end
/-- names that stand for built-ins -/
structure Bn (mg : Str → Option Value) : Prop where
  len : mg "len" = none
  all : mg "all" = none
  any : mg "any" = none
  tuple : mg "tuple" = none
  list : mg "list" = none
  int : mg "int" = none
  isinstance : mg "isinstance" = none
  enumerate : mg "enumerate" = none
  zip : mg "zip" = none
  range : mg "range" = none
  min : mg "min" = none
  max : mg "max" = none
  repr : mg "repr" = none
  dict : mg "dict" = none
  str : mg "str" = none
  bool : mg "bool" = none
  super : mg "super" = none
  zde : mg "ZeroDivisionError" = none
  key : mg "KeyError" = none
def LETS : Str := "abcdefghijklmnopqrstuvwxyz"
/-- the text's constants -/
structure Cst (mg : Str → Option Value) : Prop where
  letters : ∃ t, mg "LETTERS" = some (.str LETS t)
  mletters : ∃ t, mg "MOST_LETTERS" = some (.int 6 t)
  mnames : ∃ t, mg "MOST_NAMES" = some (.int 6 t)
  msteps : ∃ t, mg "MOST_STEPS" = some (.int 60 t)
  mtimes : ∃ t, mg "MOST_TIMES" = some (.int 1000000000000000000000000000000 t)
section
variable {X : Cx} {σ : L2.St} {H : Hp} {n : Str} {p : Pos} {i : Int} {s : Str}
theorem tx_gint (h : ∃ t, X.mg n = some (.int i t)) (hg : Gl X n := by rfl) (hd : (n == ("__debug__" : Str)) = false := by decide) : TX X σ H (.Name n p) i := by
  obtain ⟨t, h⟩ := h
  exact tx_glob h (v := .int i) ⟨t, rfl⟩ hd_int hg hd
theorem tx_gstr (h : ∃ t, X.mg n = some (.str s t)) (hg : Gl X n := by rfl) (hd : (n == ("__debug__" : Str)) = false := by decide) : TX X σ H (.Name n p) s := by
  obtain ⟨t, h⟩ := h
  exact tx_glob h (v := .str s) ⟨t, rfl⟩ hd_str hg hd
end
theorem kit_same {K : Frag} {t : Value} : kitOne K t t = some true := if_pos (beq_self_eq_true _)
theorem kit_int_bool {K : Frag} : kitOne K (.type "int") (.type "bool") = some false := by with_unfolding_all rfl
end K95
namespace K95
open PySem PySem.Spec PySem.Calls PySem.W PyProof.Rows L2 Evl
section
variable {P : Program} {w : World} {K : Frag} {mg : Str → Option Value} {base : Heap}
/-! ### is_name -/
def isName (s : Str) : Bool := true && (((decide ((1 : Int) ≤ (s.length : Nat))) && decide (((s.length : Nat) : Int) ≤ 6)) && (((letters s).filter fun _ => true).map fun (z : Str) => decide (z.cps.getD 0 0 ∈ LETS.cps.toList)).all id)
theorem scName : FnScope ["value", "sign"] ["value"] (defScope (top 14)) := ⟨rfl, rfl, rfl, by decide +kernel, rfl, by decide +kernel, by decide +kernel⟩
theorem ok_is_name {f : Addr} {fd : FuncData} (F : Fun K "is_name" "is_name" (top 14) f fd) (B : Bn mg) (Z : Cst mg) : FnOk P w K mg base CX0 1 f fd ["value"] (Pu1 K (fun s : Str => s.length ≤ 100000) isName) := by
  refine F.ok scName (fun vs H Q E h => ?_) (fun cdv A outer s H vs Q E hr h => ?_)
  · obtain ⟨v, x, rfl, _⟩ := h
    rfl
  · obtain ⟨v, x, rfl, d, hx, k⟩ := h
    refine ⟨_, pB, ?_⟩
    refine wB_one (wS_ret (TX.go ?_ fun u H' e d' => k u H' e d'))
    refine tx_and (tx_isi B.isinstance B.str (by with_unfolding_all rfl) kit_same (tx_var 0 d)) fun _ => ?_
    refine tx_and (tx_chainLe tx_int (tx_lenS B.len hx (tx_var 0 d)) (tx_gint Z.mletters)) fun _ => tx_one ?_
    refine tx_all B.all rfl ?_
    refine tx_lc [("sign", 1)] rfl scName.nd (blkOk_by (N := ["value", "sign"]) (sc := defScope (top 14)) (by decide +kernel)) ?_ (ti_str (tx_var 0 d)) fun z hz v' H' e' d' => ⟨_, fun s0 H0 C cl fp => ⟨tgt_name 1 scName.nd, tbs_nil, fun _ => ?_⟩, rfl⟩
    · unfold letters; rw [List.length_map]; exact hx
    · obtain ⟨c, hc, rfl⟩ := List.mem_map.mp hz
      exact tx_inStr (tx_var 1 d') (tx_gstr Z.letters)
theorem hu64 {k : Nat} {A : Around} (hr : Room k A) : A.units + 64 < cLine := by have := hr.un; omega
theorem hu65 {k : Nat} {A : Around} (hr : Room k A) : A.units + 65 < cLine := by have := hr.un; omega
/-! ### are_rising -/
section
variable {α : Type} [DecidableEq α] [DatumOrd α]
def rising (row : Tup α) : Bool := (((row.items.zip (cutX row.items (some 1) none)).filter fun _ => true).map fun p => DatumOrd.lt p.1 p.2).all id
theorem scRis : FnScope ["row", "one", "other"] ["row"] (defScope (top 15)) := ⟨rfl, rfl, rfl, by decide +kernel, rfl, by decide +kernel, by decide +kernel⟩
theorem ok_rising (hd : Datum.depth α ≤ 64) {f : Addr} {fd : FuncData} (F : Fun K "are_rising" "are_rising" (top 15) f fd) (B : Bn mg) : FnOk P w K mg base CX0 1 f fd ["row"] (Pu1 K (fun s : Tup α => s.items.length ≤ 1000) rising) := by
  refine F.ok scRis (fun vs H Q E h => ?_) (fun cdv A outer s H vs Q E hr h => ?_)
  · obtain ⟨v, x, rfl, _⟩ := h
    rfl
  · obtain ⟨v, x, rfl, d, hx, k⟩ := h
    refine ⟨_, pB, ?_⟩
    refine wB_one (wS_ret (TX.go ?_ fun u H' e d' => k u H' e d'))
    refine tx_all B.all rfl ?_
    refine tx_lc [("one", 1), ("other", 2)] rfl scRis.nd (blkOk_by (N := ["row", "one", "other"]) (sc := defScope (top 15)) (by decide +kernel)) ?_ (ti_zipT B.zip (t2_mk (tx_var 0 d) (tx_slT (tx_var 0 d) (to_some tx_int) to_none))) fun z hz v' H' e' d' => ?_
    · rw [List.length_zip]; have := hx; omega
    · obtain ⟨l, v1, v2, rfl, h1, h2, h3⟩ := d'.pair
      exact ⟨_, fun s0 H0 C cl fp => ⟨tgt_two 1 2 rfl scRis.nd h1, tbs_nil, fun _ => tx_ltH (hu64 hr) (tx_var 1 h2) (tx_var 2 h3) hd⟩, rfl⟩
end
/-! ### are_names -/
def areNames (x : Tup Str) : Bool := ((x.items.filter fun _ => true).map isName).all id && rising x
/-- lengths that a tuple of names has -/
def NLen (x : Tup Str) : Prop := 1 ≤ x.items.length ∧ x.items.length ≤ 6 ∧ ∀ s ∈ x.items, s.length ≤ 6
theorem scNms : FnScope ["value", "name"] ["value"] (defScope (top 16)) := ⟨rfl, rfl, rfl, by decide +kernel, rfl, by decide +kernel, by decide +kernel⟩
theorem ok_are_names {f : Addr} {fd : FuncData} (F : Fun K "are_names" "are_names" (top 16) f fd) (B : Bn mg) (Z : Cst mg) (N : Own P w K mg base 1 "is_name" ["value"] (Pu1 K (fun s : Str => s.length ≤ 100000) isName)) (R : Own P w K mg base 1 "are_rising" ["row"] (Pu1 K (fun s : Tup Str => s.items.length ≤ 1000) rising)) :
    FnOk P w K mg base CX0 2 f fd ["value"] (Pu1 K NLen areNames) := by
  refine F.ok scNms (fun vs H Q E h => ?_) (fun cdv A outer s H vs Q E hr h => ?_)
  · obtain ⟨v, x, rfl, _⟩ := h
    rfl
  · obtain ⟨v, x, rfl, d, ⟨hx1, hx6, hs⟩, k⟩ := h
    have hr1 : Room 1 _ := hr
    refine ⟨_, pB, ?_⟩
    refine wB_cons (wS_if (TB.go (t := false) (TB.conv (TW.tb (tw_or (tb_not (tb_val (tx_isi B.isinstance B.tuple (by with_unfolding_all rfl) kit_same (tx_var 0 d)))) fun _ => tw_or1 (tb_not (tb_chainLe tx_int (tx_lenT B.len (tx_var 0 d)) (tx_gint Z.mnames))))) ?_) fun H1 e1 => ?_))
    · have h1 : decide ((1 : Int) ≤ ((x.items.length : Nat) : Int)) = true := decide_eq_true (by omega)
      have h2 : decide (((x.items.length : Nat) : Int) ≤ 6) = true := decide_eq_true (by omega)
      rw [h1, h2]; rfl
    · rw [if_neg (by decide)]
      refine wB_nil (wB_one (wS_ret (TX.go (TX.up ?_ e1) fun u H' e d' => k u H' (e1.trans e) d')))
      refine tx_and (tx_all B.all rfl (tx_lc [("name", 1)] rfl scNms.nd (blkOk_by (N := ["value", "name"]) (sc := defScope (top 16)) (by decide +kernel)) (by omega) (ti_tup (tx_var 0 d)) fun z hz v' H' e' d' => ⟨_, fun s0 H0 C cl fp => ⟨tgt_name 1 scNms.nd, tbs_nil, fun _ => tx_own1 N hr1 (tx_var 1 d') (Nat.le_trans (hs z hz) (by decide))⟩, rfl⟩)) fun _ => tx_one (tx_own1 R hr1 (tx_var 0 d) (by show x.items.length ≤ 1000; omega))
end
end K95
namespace K95
open PySem PySem.Spec PySem.Calls PySem.W PyProof.Rows L2 Evl
abbrev Fld := Tup Str × Tup (Str × Str)
abbrev Step := Str × Int
section
variable {P : Program} {w : World} {K : Frag} {mg : Str → Option Value} {base : Heap}
theorem pair_tup {H : Hp} {v : V} {q : Str × Str} (d : Hd K H v q) : Hd K H v (Tup.mk [q.1, q.2]) := d
/-! ### is_pair -/
def isPair (names : Tup Str) (v : Str × Str) : Bool := isIn v.1 names.items && (isIn v.2 names.items && DatumOrd.lt v.1 v.2)
theorem scPair : FnScope ["names", "value", "name"] ["names", "value"] (defScope (top 17)) := ⟨rfl, rfl, rfl, by decide +kernel, rfl, by decide +kernel, by decide +kernel⟩
theorem ok_is_pair {f : Addr} {fd : FuncData} (F : Fun K "is_pair" "is_pair" (top 17) f fd) (B : Bn mg) : FnOk P w K mg base CX0 1 f fd ["names", "value"] (Pu2 K (fun _ _ => True) isPair) := by
  refine F.ok scPair (fun vs H Q E h => ?_) (fun cdv A outer s H vs Q E hr h => ?_)
  · obtain ⟨v, v', x, y, rfl, _⟩ := h
    rfl
  · obtain ⟨v, v', x, y, rfl, d, d2, _, k⟩ := h
    refine ⟨_, pB, ?_⟩
    refine wB_cons (wS_if (TB.go (t := false) (TB.conv (TW.tb (tw_or (tb_not (tb_val (tx_isi B.isinstance B.tuple (by with_unfolding_all rfl) kit_same (tx_var 1 d2)))) fun _ =>
      tw_or (tb_ne (hu64 hr) (tx_lenP B.len (tx_var 1 d2)) tx_int) fun _ => tw_or1 (tb_not (tb_val (tx_all B.all rfl (tx_lc [("name", 2)] rfl scPair.nd (blkOk_by (N := ["names", "value", "name"]) (sc := defScope (top 17)) (by decide +kernel)) (by show 2 ≤ 100000; decide) (ti_tup (tx_var 1 (pair_tup d2)))
        fun z hz v' H' e' d' => ⟨_, fun s0 H0 C cl fp => ⟨tgt_name 2 scPair.nd, tbs_nil, fun _ => tx_isi B.isinstance B.str (by with_unfolding_all rfl) kit_same (tx_var 2 d')⟩, rfl⟩)))))) ?_) fun H1 e1 => ?_))
    · rfl
    · rw [if_neg (by decide)]
      refine wB_nil (wB_one (wS_ret (TX.go (TX.up ?_ e1) fun u H' e d' => k u H' (e1.trans e) d')))
      exact tx_and (tx_inT (hu65 hr) (tx_fst (tx_var 1 d2)) (tx_var 0 d)) fun _ => tx_and (tx_inT (hu65 hr) (tx_snd (tx_var 1 d2)) (tx_var 0 d)) fun _ => tx_one (tx_ltH (hu64 hr) (tx_fst (tx_var 1 d2)) (tx_snd (tx_var 1 d2)))
/-! ### need_field -/
def FldOk (F : Fld) : Prop := NLen F.1 ∧ areNames F.1 = true ∧ F.2.items.length ≤ 1000 ∧ ((F.2.items.filter fun _ => true).map (isPair F.1)).all id = true ∧ rising F.2 = true
theorem scNeed : FnScope ["field", "pair"] ["field"] (defScope (top 18)) := ⟨rfl, rfl, rfl, by decide +kernel, rfl, by decide +kernel, by decide +kernel⟩
theorem ok_need {f : Addr} {fd : FuncData} (F : Fun K "need_field" "need_field" (top 18) f fd) (B : Bn mg) (N : Own P w K mg base 2 "are_names" ["value"] (Pu1 K NLen areNames)) (R : Own P w K mg base 1 "are_rising" ["row"] (Pu1 K (fun s : Tup (Str × Str) => s.items.length ≤ 1000) rising))
    (I : Own P w K mg base 1 "is_pair" ["names", "value"] (Pu2 K (fun _ _ => True) isPair)) : FnOk P w K mg base CX0 3 f fd ["field"] (Pu1 K FldOk fun x => x) := by
  refine F.ok scNeed (fun vs H Q E h => ?_) (fun cdv A outer s H vs Q E hr h => ?_)
  · obtain ⟨v, x, rfl, _⟩ := h
    rfl
  · obtain ⟨v, x, rfl, d, ⟨o1, o2, o3, o4, o5⟩, k⟩ := h
    have hr2 : Room 2 _ := hr
    have hr1 : Room 1 _ := hr2.mono (by decide)
    refine ⟨_, pB, ?_⟩
    refine wB_cons (wS_if (TB.go (t := false) (TB.conv (TW.tb (tw_or (tb_not (tb_val (tx_isi B.isinstance B.tuple (by with_unfolding_all rfl) kit_same (tx_var 0 d)))) fun _ => tw_or1 (tb_ne (hu64 hr) (tx_lenP B.len (tx_var 0 d)) tx_int))) rfl) fun H1 e1 => ?_))
    rw [if_neg (by decide)]
    refine wB_nil (wB_cons (wS_if (TB.go (t := false) (TB.conv (TB.up (tb_not (tb_val (tx_own1 N hr2 (tx_fst (tx_var 0 d)) o1))) e1) (by rw [o2]; rfl)) fun H2 e2 => ?_)))
    rw [if_neg (by decide)]
    refine wB_nil (wB_cons (wS_if (TB.go (t := false) (TB.conv (TB.up (TW.tb (tw_or (tb_not (tb_val (tx_isi B.isinstance B.tuple (by with_unfolding_all rfl) kit_same (tx_snd (tx_var 0 d))))) fun _ => tw_or1 (tb_not (tb_val (tx_all B.all rfl (tx_lc [("pair", 1)] rfl scNeed.nd (blkOk_by (N := ["field", "pair"]) (sc := defScope (top 18)) (by decide +kernel)) (Nat.le_trans o3 (by decide)) (ti_tup (tx_snd (tx_var 0 d)))
        fun z hz v' H' e' d' => ⟨_, fun s0 H0 C cl fp => ⟨tgt_name 1 scNeed.nd, tbs_nil, fun _ => tx_own2 I hr1 (t2_mk (tx_fst (tx_var 0 (d.ex e'))) (tx_var 1 d')) trivial⟩, rfl⟩)))))) (e1.trans e2)) (by rw [o4]; rfl)) fun H3 e3 => ?_)))
    rw [if_neg (by decide)]
    refine wB_nil (wB_cons (wS_if (TB.go (t := false) (TB.conv (TB.up (tb_not (tb_val (tx_own1 R hr1 (tx_snd (tx_var 0 d)) o3))) ((e1.trans e2).trans e3)) (by rw [o5]; rfl)) fun H4 e4 => ?_)))
    rw [if_neg (by decide)]
    have e14 := ((e1.trans e2).trans e3).trans e4
    exact wB_nil (wB_one (wS_ret (TX.go (TX.up (tx_var 0 d) e14) fun u H' e d' => k u H' (e14.trans e) d')))
/-! ### are_apart -/
def apart (F : Fld) (one other : Str) : Bool := isIn (one, other) F.2.items || isIn (other, one) F.2.items
theorem scApt : FnScope ["field", "one", "other"] ["field", "one", "other"] (defScope (top 19)) := ⟨rfl, rfl, rfl, by decide +kernel, rfl, by decide +kernel, by decide +kernel⟩
theorem ok_apart {f : Addr} {fd : FuncData} (F : Fun K "are_apart" "are_apart" (top 19) f fd) : FnOk P w K mg base CX0 1 f fd ["field", "one", "other"] (Pu3 K (fun _ _ _ => True) apart) := by
  refine F.ok scApt (fun vs H Q E h => ?_) (fun cdv A outer s H vs Q E hr h => ?_)
  · obtain ⟨v, v', u, x, y, z, rfl, _⟩ := h
    rfl
  · obtain ⟨v, v', u, x, y, z, rfl, d, d2, d3, _, k⟩ := h
    refine ⟨_, pB, ?_⟩
    refine wB_one (wS_ret (TX.go ?_ fun u H' e d' => k u H' e d'))
    exact tx_or (tx_inT (hu65 hr) (tx_pair (t2_mk (tx_var 1 d2) (tx_var 2 d3))) (tx_snd (tx_var 0 d))) fun _ => tx_one (tx_inT (hu65 hr) (tx_pair (t2_mk (tx_var 2 d3) (tx_var 1 d2))) (tx_snd (tx_var 0 d)))
/-! ### is_times -/
def isTimes (i : Int) : Bool := decide (i ≠ 0) && ((decide (-1000000000000000000000000000000 ≤ i)) && decide (i ≤ 1000000000000000000000000000000))
theorem scTms : FnScope ["value"] ["value"] (defScope (top 23)) := ⟨rfl, rfl, rfl, by decide +kernel, rfl, by decide +kernel, by decide +kernel⟩
theorem ok_times {f : Addr} {fd : FuncData} (F : Fun K "is_times" "is_times" (top 23) f fd) (B : Bn mg) (Z : Cst mg) : FnOk P w K mg base CX0 1 f fd ["value"] (Pu1 K (fun _ => True) isTimes) := by
  refine F.ok scTms (fun vs H Q E h => ?_) (fun cdv A outer s H vs Q E hr h => ?_)
  · obtain ⟨v, x, rfl, _⟩ := h
    rfl
  · obtain ⟨v, x, rfl, d, _, k⟩ := h
    refine ⟨_, pB, ?_⟩
    refine wB_cons (wS_if (TB.go (t := false) (TB.conv (TW.tb (tw_or (tb_not (tb_val (tx_isi B.isinstance B.int (by with_unfolding_all rfl) kit_same (tx_var 0 d)))) fun _ => tw_or1 (tb_val (tx_isi B.isinstance B.bool (by with_unfolding_all rfl) kit_int_bool (tx_var 0 d))))) rfl) fun H1 e1 => ?_))
    rw [if_neg (by decide)]
    refine wB_nil (wB_one (wS_ret (TX.go (TX.up ?_ e1) fun u H' e d' => k u H' (e1.trans e) d')))
    exact tx_and (tx_ne (hu64 hr) (tx_var 0 d) tx_int) fun _ => tx_one (tx_chainLe (tx_neg (tx_gint Z.mtimes)) (tx_var 0 d) (tx_gint Z.mtimes))
/-! ### is_step -/
def isStep (names : Tup Str) (s : Step) : Bool := isIn s.1 names.items && isTimes s.2
/-- what is asked of it: a step, or None -/
def spStep (K : Frag) : Sp := fun vs H Q _ => ∃ (v v' : V) (names : Tup Str), vs = [v, v'] ∧ Hd K H v names ∧ ((v' = .non ∧ ∀ H', Ex H H' → Q (.bl false) H') ∨ ∃ s : Step, Hd K H v' s ∧ ∀ H', Ex H H' → Q (.bl (isStep names s)) H')
theorem scStp : FnScope ["names", "value"] ["names", "value"] (defScope (top 24)) := ⟨rfl, rfl, rfl, by decide +kernel, rfl, by decide +kernel, by decide +kernel⟩
theorem kit_none_tuple {K : Frag} : kitOne K (.type "NoneType") (.type "tuple") = some false := by with_unfolding_all rfl
theorem ok_step {f : Addr} {fd : FuncData} (F : Fun K "is_step" "is_step" (top 24) f fd) (B : Bn mg) (T : Own P w K mg base 1 "is_times" ["value"] (Pu1 K (fun _ => True) isTimes)) : FnOk P w K mg base CX0 2 f fd ["names", "value"] (spStep K) := by
  refine F.ok scStp (fun vs H Q E h => ?_) (fun cdv A outer s H vs Q E hr h => ?_)
  · obtain ⟨v, v', x, rfl, _⟩ := h
    rfl
  · obtain ⟨v, v', x, rfl, d, k⟩ := h
    have hr1 : Room 1 _ := hr
    refine ⟨_, pB, ?_⟩
    rcases k with ⟨rfl, k⟩ | ⟨st, d2, k⟩
    · refine wB_cons (wS_if (TB.go (t := true) (TB.conv (TW.tb (tw_or (s := true) (t := false) (tb_not (tb_val (t := false) ?_)) fun z => by cases z)) rfl) fun H1 e1 => ?_))
      · exact fun H1 k1 Q q => wE_of (pe_callB call_isi rfl B.isinstance (by with_unfolding_all rfl) (pa_cons (pe_var (i := 1) rfl (.inl rfl)) (pa_cons (pe_bltn (v := .ty "tuple") rfl B.tuple (by with_unfolding_all rfl) rfl) pa_nil)))
          ⟨.non, rfl, .non, .ty "tuple", .type "NoneType", .type "tuple", false, rfl, .ty "tuple", .base .non, kit_none_tuple, q _ H1 (Ex.refl _) hd_bl⟩
      · rw [if_pos rfl]
        exact wB_one (wS_ret (TX.go tx_bl fun u H' e d' => by rw [d'.bl]; exact k H' (e1.trans e)))
    · refine wB_cons (wS_if (TB.go (t := false) (TB.conv (TW.tb (tw_or (tb_not (tb_val (tx_isi B.isinstance B.tuple (by with_unfolding_all rfl) kit_same (tx_var 1 d2)))) fun _ =>
        tw_or (tb_ne (hu64 hr) (tx_lenP B.len (tx_var 1 d2)) tx_int) fun _ => tw_or1 (tb_not (tb_val (tx_isi B.isinstance B.str (by with_unfolding_all rfl) kit_same (tx_fst (tx_var 1 d2))))))) rfl) fun H1 e1 => ?_))
      rw [if_neg (by decide)]
      refine wB_nil (wB_one (wS_ret (TX.go (TX.up (tx_and (tx_inT (hu65 hr) (tx_fst (tx_var 1 d2)) (tx_var 0 d)) fun _ => tx_one (tx_own1 T hr1 (tx_snd (tx_var 1 d2)) trivial)) e1) fun u H' e d' => ?_)))
      rw [d'.bl]
      exact k H' (e1.trans e)
end
end K95
namespace K95
open PySem PySem.Spec PySem.Calls PySem.W PyProof.Rows L2 Evl
section
variable {P : Program} {w : World} {K : Frag} {mg : Str → Option Value} {base : Heap}
abbrev nst : Step := ("", 0)
/-! ### meeting -/
def meetGo (F : Fld) (st : List Step) (name : Str) : Nat → Int
  | 0 => -1
  | n + 1 => if apart F (st.getD n nst).1 name = true then meetGo F st name n else (n : Int)
def meetF (F : Fld) (st : List Step) (name : Str) : Int := meetGo F st name st.length
theorem scMeet : FnScope ["field", "steps", "name", "place"] ["field", "steps", "name"] (defScope (top 25)) := ⟨rfl, rfl, rfl, by decide +kernel, rfl, by decide +kernel, by decide +kernel⟩
theorem atI_nat {α : Type} {xs : List α} {n : Nat} {x : α} (h : xs[n]? = some x) : atI xs (n : Int) = some x := by
  unfold atI ixN
  have := (List.getElem?_eq_some_iff.mp h).1
  rw [if_pos (by omega), if_pos (by omega)]
  simpa using h
theorem getD_get {α : Type} {xs : List α} {n : Nat} {d : α} (h : n < xs.length) : xs[n]? = some (xs.getD n d) := by
  rw [List.getD_eq_getElem?_getD, List.getElem?_eq_getElem h]; rfl
theorem ok_meeting {f : Addr} {fd : FuncData} (F : Fun K "meeting" "meeting" (top 25) f fd) (B : Bn mg) (N : Own P w K mg base 1 "are_apart" ["field", "one", "other"] (Pu3 K (fun _ _ _ => True) apart)) :
    FnOk P w K mg base CX0 2 f fd ["field", "steps", "name"] (Pu3 K (fun _ (st : List Step) _ => st.length ≤ 1000) meetF) := by
  refine F.ok scMeet (fun vs H Q E h => ?_) (fun cdv A outer s H vs Q E hr h => ?_)
  · obtain ⟨v, v', u, x, y, z, rfl, _⟩ := h
    rfl
  · obtain ⟨v, v', u, x, y, z, rfl, d, d2, d3, hz, k⟩ := h
    have hr1 : Room 1 _ := hr
    refine ⟨_, pB, ?_⟩
    refine wB_cons (wS_set (i := 3) scMeet.nd rfl (TX.go (tx_sub (tx_lenL B.len (tx_var 1 d2)) tx_int) fun pv H1 e1 dp => ?_))
    rw [dp.int]
    refine wB_cons (wS_while (fun m σ H' => σ = [some v, some v', some u, some (.int ((m : Int) - 1))] ∧ Ex H H' ∧ meetF x y z = meetGo x y z m ∧ m ≤ y.length) ⟨y.length, rfl, e1, rfl, Nat.le_refl _⟩ PassesOwn.never fun m σ H2 hW => ?_)
    obtain ⟨rfl, e2, hm, hl⟩ := hW
    cases m with
    | zero =>
      refine TB.go (t := false) (TB.conv (TW.tb (tw_and (s := false) (t := false) (TB.conv (tb_ge (tx_var 3 (hd_int (i := ((0 : Nat) : Int) - 1))) tx_int) (by decide)) fun z => by cases z)) rfl) fun H3 e3 => ?_
      rw [if_neg (by decide)]
      refine wB_one (wS_ret (TX.go (tx_var 3 hd_int) fun w' H4 e4 d4 => k w' H4 ((e2.trans e3).trans e4) ?_))
      rw [hm]; exact d4
    | succ n =>
      have hn : n < y.length := hl
      have hi : ((n + 1 : Nat) : Int) - 1 = (n : Int) := by omega
      rw [hi]
      refine TB.go (TW.tb (tw_and (s := true) (TB.conv (tb_ge (tx_var 3 hd_int) tx_int) (decide_eq_true (by omega))) fun _ => tw_and1 (tb_val (tx_own3 N hr1 (t3_mk (tx_var 0 (d.ex e2)) (tx_fst (tx_ixL (tx_var 1 (d2.ex e2)) (tx_var 3 hd_int) (atI_nat (getD_get (d := nst) hn)))) (tx_var 2 (d3.ex e2))) trivial)))) fun H3 e3 => ?_
      rw [Bool.true_and]
      cases hap : apart x (y.getD n nst).1 z with
      | true =>
        rw [if_pos rfl]
        refine wB_one (wS_augSub 3 rfl scMeet.nd tx_int fun H4 e4 => ⟨n, Nat.lt_succ_self _, rfl, (e2.trans e3).trans e4, ?_, Nat.le_of_lt hn⟩)
        exact hm.trans (if_pos hap)
      | false =>
        rw [if_neg (by decide)]
        refine wB_one (wS_ret (TX.go (tx_var 3 (hd_int (i := (n : Int)))) fun w' H4 e4 d4 => k w' H4 ((e2.trans e3).trans e4) ?_))
        rw [hm.trans (if_neg (by rw [hap]; decide))]; exact d4
/-! ### push -/
def pushF (F : Fld) (st : List Step) (s : Step) : List Step :=
  if meetF F st s.1 < 0 ∨ (st.getD (meetF F st s.1).toNat nst).1 ≠ s.1 then st ++ [s]
  else if (st.getD (meetF F st s.1).toNat nst).2 + s.2 = 0 then st.eraseIdx (meetF F st s.1).toNat else st.set (meetF F st s.1).toNat (s.1, (st.getD (meetF F st s.1).toNat nst).2 + s.2)
theorem meetGo_lt (F : Fld) (st : List Step) (name : Str) : ∀ n, meetGo F st name n < (n : Int) ∧ -1 ≤ meetGo F st name n
  | 0 => ⟨by show (-1 : Int) < 0; omega, by show -1 ≤ (-1 : Int); omega⟩
  | n + 1 => by
    unfold meetGo
    have := meetGo_lt F st name n
    split
    · omega
    · omega
theorem meetF_lt {F : Fld} {st : List Step} {name : Str} (h : ¬ meetF F st name < 0) : ∃ m : Nat, meetF F st name = m ∧ m < st.length := by
  have := meetGo_lt F st name st.length
  unfold meetF at h ⊢
  exact ⟨(meetGo F st name st.length).toNat, by omega, by omega⟩
/-- push(field, l, step): only the list at l changes -/
def spPush (K : Frag) : Sp := fun vs H Q _ => ∃ (vF vS : V) (l : Addr) (F : Fld) (st : List Step) (s : Step), vs = [vF, .ref l, vS] ∧ Hd K H vF F ∧ LAt K H l st ∧ Hd K H vS s ∧ st.length ≤ 1000 ∧ ∀ H', But [l] H H' → LAt K H' l (pushF F st s) → Q .non H'
theorem scPush : FnScope ["field", "steps", "step", "name", "times", "place"] ["field", "steps", "step"] (defScope (top 26)) := ⟨rfl, rfl, rfl, by decide +kernel, rfl, by decide +kernel, by decide +kernel⟩
theorem ok_push {f : Addr} {fd : FuncData} (F : Fun K "push" "push" (top 26) f fd) (M : Own P w K mg base 2 "meeting" ["field", "steps", "name"] (Pu3 K (fun _ (st : List Step) _ => st.length ≤ 1000) meetF)) : FnOk P w K mg base CX0 3 f fd ["field", "steps", "step"] (spPush K) := by
  refine F.ok scPush (fun vs H Q E h => ?_) (fun cdv A outer s H vs Q E hr h => ?_)
  · obtain ⟨vF, vS, l, x, y, z, rfl, _⟩ := h
    rfl
  · obtain ⟨vF, vS, l, x, y, z, rfl, d, dl, ds, hz, k⟩ := h
    have hr2 : Room 2 _ := hr
    refine ⟨_, pB, ?_⟩
    -- name, times = step
    obtain ⟨q, vn, vt, rfl, hq, dn, dt⟩ := ds.pair
    refine wB_cons (wS_two 3 4 rfl scPush.nd (wE_var 2 rfl rfl ⟨q, vn, vt, rfl, hq, ?_⟩))
    -- place = meeting(..)
    refine wB_cons (wS_set (i := 5) scPush.nd rfl (TX.go (tx_own3 M hr2 (t3_mk (tx_var 0 d) (tx_var 1 dl.hd) (tx_var 3 dn)) hz) fun pv H1 e1 dp => ?_))
    obtain rfl := dp.int
    have dl1 := dl.ex e1
    have dn1 := dn.ex e1
    have dt1 := dt.ex e1
    have ds1 := ds.ex e1
    have but : ∀ {H2 : Hp} {o : HO}, Ex H1 H2 → But [l] H (upd H2 l o) := fun e => (But.of_ex (e1.trans e)).upd (List.mem_singleton.mpr rfl)
    by_cases hneg : meetF x y z.1 < 0
    · refine wB_one (wS_if (TB.go (t := true) (TB.conv (TW.tb (tw_or (s := true) (t := false) (TB.conv (tb_lt (tx_var 5 hd_int) tx_int) (decide_eq_true hneg)) fun z => by cases z)) rfl) fun H2 e2 => ?_))
      rw [if_pos rfl]
      refine wB_one (wS_expr (wE_append 1 (dl1.ex e2) (by omega) (tx_var 2 (ds1.ex e2)) fun v H3 e3 L => k _ (but (e2.trans e3)) ?_))
      unfold pushF; rw [if_pos (.inl hneg)]; exact L
    · obtain ⟨m, hm, hml⟩ := meetF_lt hneg
      have hg := getD_get (d := nst) hml
      have ix : ∀ {X : Cx} {σ : L2.St} {H2 : Hp} {a b : Expr} {p p2 p3 : Pos} {j : Nat}, TX X σ H2 a y → TX X σ H2 b (meetF x y z.1) → PlainIx b → TX X σ H2 (.Subscript a b p) (y.getD m nst) := fun ha hb hs => tx_ixL ha hb (by rw [hm]; exact atI_nat hg) hs
      have hk : (meetF x y z.1).toNat = m := by omega
      by_cases hne : (y.getD m nst).1 ≠ z.1
      · refine wB_one (wS_if (TB.go (t := true) (TB.conv (TW.tb (tw_or (TB.conv (tb_lt (tx_var 5 hd_int) tx_int) (decide_eq_false hneg)) fun _ => tw_or1 (tb_ne (hu64 hr) (tx_fst (tx_ixL (tx_var 1 dl1.hd) (tx_var 5 hd_int) (by rw [hm]; exact atI_nat hg))) (tx_var 3 dn1)))) (by rw [Bool.false_or]; exact decide_eq_true hne)) fun H2 e2 => ?_))
        rw [if_pos rfl]
        refine wB_one (wS_expr (wE_append 1 (dl1.ex e2) (by omega) (tx_var 2 (ds1.ex e2)) fun v H3 e3 L => k _ (but (e2.trans e3)) ?_))
        unfold pushF; rw [hk, if_pos (.inr hne)]; exact L
      · have heq : (y.getD m nst).1 = z.1 := Classical.byContradiction hne
        refine wB_one (wS_if (TB.go (t := false) (TB.conv (TW.tb (tw_or (TB.conv (tb_lt (tx_var 5 hd_int) tx_int) (decide_eq_false hneg)) fun _ => tw_or1 (tb_ne (hu64 hr) (tx_fst (tx_ixL (tx_var 1 dl1.hd) (tx_var 5 hd_int) (by rw [hm]; exact atI_nat hg))) (tx_var 3 dn1)))) (by rw [Bool.false_or]; exact decide_eq_false hne)) fun H2 e2 => ?_))
        rw [if_neg (by decide)]
        have dl2 := dl1.ex e2
        have pf : pushF x y z = if (y.getD m nst).2 + z.2 = 0 then y.eraseIdx m else y.set m (z.1, (y.getD m nst).2 + z.2) := by
          unfold pushF
          rw [hk, if_neg (by rintro (h | h); exact hneg h; exact hne h)]
        by_cases h0 : (y.getD m nst).2 + z.2 = 0
        · refine wB_one (wS_if (TB.go (t := true) (TB.conv (tb_eq (hu64 hr) (tx_add (tx_snd (tx_ixL (tx_var 1 dl2.hd) (tx_var 5 hd_int) (by rw [hm]; exact atI_nat hg))) (tx_var 4 (dt1.ex e2))) tx_int) (decide_eq_true h0)) fun H3 e3 => ?_))
          rw [if_pos rfl]
          refine wB_one (wS_expr (wE_popAt 1 (dl2.ex e3) (tx_var 5 hd_int) hm hg (by omega) fun u v H4 e4 L _ => k _ (but ((e2.trans e3).trans e4)) ?_))
          rw [pf, if_pos h0]; exact L
        · refine wB_one (wS_if (TB.go (t := false) (TB.conv (tb_eq (hu64 hr) (tx_add (tx_snd (tx_ixL (tx_var 1 dl2.hd) (tx_var 5 hd_int) (by rw [hm]; exact atI_nat hg))) (tx_var 4 (dt1.ex e2))) tx_int) (decide_eq_false h0)) fun H3 e3 => ?_))
          rw [if_neg (by decide)]
          refine wB_one (wS_setIx 1 (dl2.ex e3) (tx_pair (t2_mk (tx_var 3 ((dn1.ex e2).ex e3)) (tx_add (tx_snd (tx_ixL (tx_var 1 (dl2.ex e3).hd) (tx_var 5 hd_int) (by rw [hm]; exact atI_nat hg))) (tx_var 4 ((dt1.ex e2).ex e3))))) (tx_var 5 hd_int) hm hml fun v H4 e4 L => k _ (but ((e2.trans e3).trans e4)) ?_)
          rw [pf, if_neg h0]; exact L
end
end K95
namespace K95
open PySem PySem.Spec PySem.Calls PySem.W PyProof.Rows L2 Evl
section
variable {P : Program} {w : World} {K : Frag} {mg : Str → Option Value} {base : Heap}
/-! ### piled -/
def pilF (F : Fld) (st : List Step) : List Step := st.foldl (pushF F) []
theorem pushF_len (F : Fld) (st : List Step) (s : Step) : (pushF F st s).length ≤ st.length + 1 := by
  unfold pushF
  split
  · simp
  · split
    · rw [List.length_eraseIdx]; split <;> omega
    · simp
theorem foldl_len (F : Fld) : ∀ (st acc : List Step), (st.foldl (pushF F) acc).length ≤ acc.length + st.length
  | [], acc => Nat.le_refl _
  | s :: st, acc => by
    have := foldl_len F st (pushF F acc s)
    have := pushF_len F acc s
    simp only [List.foldl_cons, List.length_cons]
    omega
theorem scPiled : FnScope ["field", "steps", "found", "step"] ["field", "steps"] (defScope (top 27)) := ⟨rfl, rfl, rfl, by decide +kernel, rfl, by decide +kernel, by decide +kernel⟩
theorem ok_piled {f : Addr} {fd : FuncData} (F : Fun K "piled" "piled" (top 27) f fd) (N : Own P w K mg base 3 "push" ["field", "steps", "step"] (spPush K)) :
    FnOk P w K mg base CX0 4 f fd ["field", "steps"] (Pu2 K (fun _ (st : Tup Step) => st.items.length ≤ 500) fun F st => pilF F st.items) := by
  refine F.ok scPiled (fun vs H Q E h => ?_) (fun cdv A outer s H vs Q E hr h => ?_)
  · obtain ⟨v, v', x, y, rfl, _⟩ := h
    rfl
  · obtain ⟨v, v', x, y, rfl, d, d2, hz, k⟩ := h
    have hr1 : Room 3 _ := hr
    refine ⟨_, pB, ?_⟩
    refine wB_cons (wS_set (i := 2) scPiled.nd rfl (wE_lst0 fun l hl => ?_))
    refine wB_cons (wS_forK (xs := y.items) (H0 := H) (tik_tup 1 (v := v') d2 (Ex.new hl)) (fun i σ H' => ∃ sv, σ = [some v, some v', some (.ref l), sv] ∧ Ex H H' ∧ LAt K H' l ((y.items.take i).foldl (pushF x) [])) (fun H1 e1 => ⟨none, rfl, (Ex.new hl).trans e1, ?_⟩) (fun i σ' H' ⟨_, _, e, _⟩ => e) ?_ ?_ rfl PassesOwn.never)
    · exact LAt.ex ⟨[], upd_same, ha_nil⟩ e1
    · rintro i s hs σ H1 ⟨sv, rfl, e1, L1⟩ u H2 e2 ds
      refine wG_name 3 scPiled.nd ?_
      have dF := d.ex (e1.trans e2)
      have L2' := L1.ex e2
      refine wB_one (wS_expr (wE_own N hr1 (wA_of (pa_cons (pe_var (i := 0) rfl (.inl rfl)) (pa_cons (pe_var (i := 2) rfl (.inl rfl)) (pa_cons (pe_var (i := 3) rfl (.inl rfl)) pa_nil))) ⟨_, rfl, _, rfl, _, rfl, ?_⟩)))
      have hlen : ((y.items.take i).foldl (pushF x) []).length ≤ 1000 := by
        have := foldl_len x (y.items.take i) []
        have h2 := List.length_take_le i y.items
        have h3 : (y.items.take i).length ≤ y.items.length := List.length_take_le' i y.items
        simp only [List.length_nil] at this
        omega
      refine ⟨v, u, l, x, _, s, rfl, dF, L2', ds, hlen, fun H3 b L3 => ⟨some u, rfl, fun c o ho => b c o (fun z => ?_) (e2 c o (e1 c o ho)), ?_⟩⟩
      · obtain rfl : c = l := by simpa using z
        rw [hl] at ho; cases ho
      · rw [List.take_succ, hs, List.foldl_append]; exact L3
    · rintro σ H1 ⟨sv, rfl, e1, L1⟩
      rw [List.take_length] at L1
      exact wB_one (wS_ret (TX.go (tx_var 2 L1.hd) fun u H2 e2 du => k u H2 (e1.trans e2) du))
/-! ### first_places -/
def fpGo (F : Fld) : List (Int × Step) → List Str → List Int → List Int
  | [], _, f => f
  | (i, s) :: r, still, f => if still.filter (fun n => apart F n s.1) = [] then (if isIn s.1 still = true then f ++ [i] else f) else fpGo F r (still.filter fun n => apart F n s.1) (if isIn s.1 still = true then f ++ [i] else f)
def firstP (F : Fld) (st : List Step) : List Int := fpGo F (enumd st) F.1.items []
theorem scFirst : FnScope ["field", "steps", "found", "still", "place", "step", "name"] ["field", "steps"] (defScope (top 28)) := ⟨rfl, rfl, rfl, by decide +kernel, rfl, by decide +kernel, by decide +kernel⟩
theorem ok_first {f : Addr} {fd : FuncData} (F : Fun K "first_places" "first_places" (top 28) f fd) (B : Bn mg) (N : Own P w K mg base 1 "are_apart" ["field", "one", "other"] (Pu3 K (fun _ _ _ => True) apart)) :
    FnOk P w K mg base CX0 2 f fd ["field", "steps"] (Pu2 K (fun (F : Fld) (st : List Step) => st.length ≤ 1000 ∧ F.1.items.length ≤ 6) firstP) := by
  refine F.ok scFirst (fun vs H Q E h => ?_) (fun cdv A outer s H vs Q E hr h => ?_)
  · obtain ⟨v, v', x, y, rfl, _⟩ := h
    rfl
  · obtain ⟨v, v', x, y, rfl, d, d2, ⟨hz, hF⟩, k⟩ := h
    have hr1 : Room 1 _ := hr
    refine ⟨_, pB, ?_⟩
    refine wB_cons (wS_par 2 3 rfl scFirst.nd (wE_lst0 fun l hl => wE_listT B.list (tx_fst (tx_var 0 (d.ex (Ex.new hl)))) fun q H1 e1 hq Lq => ?_))
    have ql : q ≠ l := fun z => by rw [z, upd_same] at hq; cases hq
    have e01 : Ex H H1 := (Ex.new hl).trans e1
    have Ll1 : LAt K H1 l ([] : List Int) := LAt.ex ⟨[], upd_same, ha_nil⟩ e1
    refine wB_cons (wS_forK (xs := enumd y) (H0 := H) (tik_enum 1 (v := v') B.enumerate d2 e01) (fun i σ H' => ∃ q still found pv sv, σ = [some v, some v', some (.ref l), some (.ref q), pv, sv, none] ∧ Ex H H' ∧ LAt K H' l found ∧ LAt K H' q still ∧ q ≠ l ∧ still.length ≤ 6 ∧ found.length ≤ i ∧ firstP x y = fpGo x ((enumd y).drop i) still found)
      (fun H2 e2 => ⟨q, _, _, none, none, rfl, e01.trans e2, Ll1.ex e2, Lq.ex e2, ql, hF, Nat.le_refl _, rfl⟩) (fun i σ' H' ⟨_, _, _, _, _, _, e, _⟩ => e) ?_ ?_ rfl PassesOwn.never)
    · rintro i ps hs σ H2 ⟨q, still, found, pv, sv, rfl, e2, Lf, Ls, ql, hst, hfd, heq⟩ u H3 e3 du
      refine wG_two 4 5 rfl scFirst.nd du fun vp vs dp ds => ?_
      have dF := d.ex (e2.trans e3)
      have hi : i < (enumd y).length := (List.getElem?_eq_some_iff.mp hs).1
      have hdrop : (enumd y).drop i = ps :: (enumd y).drop (i + 1) := by
        rw [List.drop_eq_getElem_cons hi]
        have := (List.getElem?_eq_some_iff.mp hs).2
        rw [this]
      have d5 := ds
      refine wB_mid (fun σ4 H4 => σ4 = [some v, some v', some (.ref l), some (.ref q), some vp, some vs, none] ∧ Ex H H4 ∧ LAt K H4 l (if isIn ps.2.1 still = true then found ++ [ps.1] else found) ∧ LAt K H4 q still ∧ Hd K H4 vs ps.2) (wS_if (TB.go (tb_inL (hu65 hr) (tx_fst (tx_var 5 ds)) (tx_var 3 (Ls.ex e3).hd)) fun H4 e4 => ?_)) ?_
      · have e24 := e3.trans e4
        cases hin : isIn ps.2.1 still with
        | true =>
          rw [if_pos rfl]
          refine wB_one (wS_expr (wE_append 2 (Lf.ex e24) (by rw [enumd_length] at hi; omega) (tx_var 4 (dp.ex e4)) fun w' H5 e5 L5 => ?_))
          have Lf5 := (Lf.ex e24).ex e5
          have b5 : But [l] H5 (upd H5 l w') := But.refl.upd (List.mem_singleton.mpr rfl)
          refine ⟨rfl, fun c o ho => ?_, by rw [if_pos rfl]; exact L5, ((Ls.ex e24).ex e5).but b5 Lf5.no (by simpa using ql), ((ds.ex e4).ex e5).but b5 Lf5.no⟩
          exact b5 c o (fun z => by obtain rfl : c = l := by simpa using z
                                    rw [hl] at ho; cases ho) (e5 c o (e24 c o (e2 c o ho)))
        | false =>
          rw [if_neg (by decide)]
          exact wB_nil ⟨rfl, e2.trans e24, by rw [if_neg (by decide)]; exact Lf.ex e24, Ls.ex e24, ds.ex e4⟩
      · rintro σ4 H4 ⟨rfl, e4, Lf4, Ls4, ds4⟩
        have dF4 := d.ex e4
        refine wB_cons (wS_setLc (f := fun n => n) (pr := fun n => apart x n ps.2.1) 3 [("name", 6)] rfl scFirst.nd (blkOk_by (N := ["field", "steps", "found", "still", "place", "step", "name"]) (sc := defScope (top 28)) (by decide +kernel)) (by omega) (ti_list (tx_var 3 Ls4.hd)) (fun z hz v' H' e' d' => ⟨_, fun s0 H0 C cl fp => ⟨tgt_name 6 scFirst.nd, tbs_one (tb_val (tx_own3 N hr1 (t3_mk (tx_var 0 (dF4.ex e')) (tx_var 6 d') (tx_fst (tx_var 5 (ds4.ex e')))) trivial)), fun _ => tx_var 6 d'⟩, rfl⟩) (fun q' H5 e5 hq' Ls5 => ?_) (sw_true rfl rfl rfl (by decide +kernel)))
        have ql' : q' ≠ l := fun z => by
          obtain ⟨us, h1, _⟩ := Lf4.at_
          rw [z, h1] at hq'; cases hq'
        rw [List.map_id'] at Ls5
        have hlen : (still.filter fun n => apart x n ps.2.1).length ≤ 6 := Nat.le_trans (List.length_filter_le _ _) hst
        by_cases hnil : still.filter (fun n => apart x n ps.2.1) = []
        · refine wB_one (wS_if (TB.go (t := true) (TB.conv (tb_eq (hu64 hr) (tx_var 3 Ls5.hd) (tx_lst tl_nil (by decide))) (decide_eq_true hnil)) fun H6 e6 => ?_))
          rw [if_pos rfl]
          refine wB_one (wS_break ?_)
          refine wB_one (wS_ret (TX.go (tx_var 2 ((Lf4.ex e5).ex e6).hd) fun u H7 e7 du => k u H7 (((e4.trans e5).trans e6).trans e7) ?_))
          have z : fpGo x (ps :: (enumd y).drop (i + 1)) still found = (if isIn ps.2.1 still = true then found ++ [ps.1] else found) := if_pos hnil
          rw [heq, hdrop, z]
          exact du
        · refine wB_one (wS_if (TB.go (t := false) (TB.conv (tb_eq (hu64 hr) (tx_var 3 Ls5.hd) (tx_lst tl_nil (by decide))) (decide_eq_false hnil)) fun H6 e6 => ?_))
          rw [if_neg (by decide)]
          refine wB_nil ⟨q', _, _, _, _, rfl, (e4.trans e5).trans e6, (Lf4.ex e5).ex e6, Ls5.ex e6, ql', hlen, ?_, ?_⟩
          · split
            · simp; omega
            · omega
          · rw [heq, hdrop]
            exact if_neg hnil
    · rintro σ H2 ⟨q, still, found, pv, sv, rfl, e2, Lf, Ls, ql, hst, hfd, heq⟩
      rw [List.drop_length] at heq
      exact wB_one (wS_ret (TX.go (tx_var 2 Lf.hd) fun u H3 e3 du => k u H3 (e2.trans e3) (by rw [heq]; exact du)))
/-! ### arranged -/
def cand (F : Fld) (left : List Step) : List (Str × Int) := (firstP F left).map fun p => ((left.getD p.toNat nst).1, p)
def minC : List (Str × Int) → Int
  | [] => 0
  | z :: zs => (minOf z zs).2
def lp (F : Fld) (left : List Step) : Nat := (minC (cand F left)).toNat
def arrGo (F : Fld) : Nat → List Step → List Step
  | 0, _ => []
  | n + 1, left => left.getD (lp F left) nst :: arrGo F n (left.eraseIdx (lp F left))
def arrF (F : Fld) (st : List Step) : Tup Step := Tup.mk (arrGo F st.length st)
theorem fpGo_in (F : Fld) : ∀ (l : List (Int × Step)) (still : List Str) (f : List Int) (p : Int), p ∈ fpGo F l still f → p ∈ f ∨ ∃ s, (p, s) ∈ l
  | [], _, f, p, h => .inl h
  | (i, s) :: r, still, f, p, h => by
    have hf : ∀ q, q ∈ (if isIn s.1 still = true then f ++ [i] else f) → q ∈ f ∨ ∃ s', (q, s') ∈ (i, s) :: r := fun q hq => by
      split at hq
      · rcases List.mem_append.mp hq with hq | hq
        · exact .inl hq
        · obtain rfl : q = i := by simpa using hq
          exact .inr ⟨s, List.mem_cons_self⟩
      · exact .inl hq
    unfold fpGo at h
    split at h
    · exact hf p h
    · rcases fpGo_in F r _ _ p h with h | ⟨s', h⟩
      · exact hf p h
      · exact .inr ⟨s', List.mem_cons_of_mem _ h⟩
theorem fpGo_len (F : Fld) : ∀ (l : List (Int × Step)) (still : List Str) (f : List Int), (fpGo F l still f).length ≤ f.length + l.length
  | [], _, f => Nat.le_refl _
  | (i, s) :: r, still, f => by
    have hf : (if isIn s.1 still = true then f ++ [i] else f).length ≤ f.length + 1 := by
      split
      · simp
      · omega
    unfold fpGo
    split
    · simp only [List.length_cons]; omega
    · have := fpGo_len F r (still.filter fun n => apart F n s.1) (if isIn s.1 still = true then f ++ [i] else f)
      simp only [List.length_cons]; omega
theorem fpGo_pre (F : Fld) : ∀ (l : List (Int × Step)) (still : List Str) (f : List Int), ∃ m, fpGo F l still f = f ++ m
  | [], _, f => ⟨[], by simp [fpGo]⟩
  | (i, s) :: r, still, f => by
    have hf : ∃ m, (if isIn s.1 still = true then f ++ [i] else f) = f ++ m := by
      split
      · exact ⟨[i], rfl⟩
      · exact ⟨[], by simp⟩
    obtain ⟨m, hm⟩ := hf
    unfold fpGo
    split
    · exact ⟨m, hm⟩
    · obtain ⟨m', hm'⟩ := fpGo_pre F r (still.filter fun n => apart F n s.1) (if isIn s.1 still = true then f ++ [i] else f)
      exact ⟨m ++ m', by rw [hm', hm, List.append_assoc]⟩
theorem mem_enumd {α : Type} [DecidableEq α] [Datum α] {xs : List α} {p : Int} {x : α} (h : (p, x) ∈ enumd xs) : ∃ n : Nat, p = n ∧ xs[n]? = some x := by
  obtain ⟨n, hn⟩ := List.mem_iff_getElem?.mp h
  obtain ⟨e1, e2⟩ := enumd_get hn
  exact ⟨n, e1, e2⟩
theorem firstP_in {F : Fld} {st : List Step} {p : Int} (h : p ∈ firstP F st) : ∃ n : Nat, p = n ∧ n < st.length := by
  rcases fpGo_in F _ _ _ _ h with h | ⟨s, h⟩
  · cases h
  · obtain ⟨n, e1, e2⟩ := mem_enumd h
    exact ⟨n, e1, (List.getElem?_eq_some_iff.mp e2).1⟩
theorem enumd_cons_head {α : Type} [DecidableEq α] [Datum α] (x : α) (xs : List α) : ∃ r, enumd (x :: xs) = (0, x) :: r := by
  have : (enumd (x :: xs))[0]? = some ((0 : Int), x) := by
    unfold enumd
    rw [List.getElem?_zipWith]
    simp
  cases e : enumd (x :: xs) with
  | nil => rw [e] at this; cases this
  | cons a r => rw [e] at this; simp at this; exact ⟨r, by rw [this]⟩
theorem firstP_ne {F : Fld} {s : Step} {st : List Step} (h : s.1 ∈ F.1.items) : firstP F (s :: st) ≠ [] := by
  obtain ⟨r, hr⟩ := enumd_cons_head s st
  unfold firstP
  rw [hr]
  unfold fpGo
  rw [if_pos (isIn_iff.mpr h)]
  split
  · simp
  · obtain ⟨m, hm⟩ := fpGo_pre F r (F.1.items.filter fun n => apart F n s.1) ([] ++ [0])
    rw [hm]; simp
theorem minOf_mem {α : Type} [DecidableEq α] [DatumOrd α] : ∀ (xs : List α) (x : α), minOf x xs ∈ x :: xs
  | [], x => List.mem_cons_self
  | y :: ys, x => by
    have h := minOf_mem ys (if DatumOrd.lt y x = true then y else x)
    have e : minOf x (y :: ys) = minOf (if DatumOrd.lt y x = true then y else x) ys := rfl
    rw [e]
    rcases List.mem_cons.mp h with h | h
    · rw [h]
      split
      · exact List.mem_cons_of_mem _ List.mem_cons_self
      · exact List.mem_cons_self
    · exact List.mem_cons_of_mem _ (List.mem_cons_of_mem _ h)
/-- the place of the least candidate -/
theorem lp_ok {F : Fld} {s : Step} {st : List Step} (h : s.1 ∈ F.1.items) : ∃ z zs, cand F (s :: st) = z :: zs ∧ (minOf z zs).2 = (lp F (s :: st) : Int) ∧ lp F (s :: st) < (s :: st).length := by
  cases e : cand F (s :: st) with
  | nil => exact absurd (List.map_eq_nil_iff.mp e) (firstP_ne h)
  | cons z zs =>
    have hm : minOf z zs ∈ cand F (s :: st) := by rw [e]; exact minOf_mem zs z
    obtain ⟨p, hp, hq⟩ := List.mem_map.mp hm
    obtain ⟨n, rfl, hn⟩ := firstP_in hp
    have e2 : (minOf z zs).2 = (n : Int) := by rw [← hq]
    have e3 : lp F (s :: st) = n := by
      unfold lp
      rw [e]
      show ((minOf z zs).2).toNat = n
      rw [e2]; rfl
    exact ⟨z, zs, rfl, by rw [e2, e3], by rw [e3]; exact hn⟩
theorem scArr : FnScope ["field", "steps", "left", "found", "place"] ["field", "steps"] (defScope (top 29)) := ⟨rfl, rfl, rfl, by decide +kernel, rfl, by decide +kernel, by decide +kernel⟩
def NmOk (F : Fld) (st : List Step) : Prop := ∀ s ∈ st, s.1 ∈ F.1.items
theorem ok_arranged {f : Addr} {fd : FuncData} (F : Fun K "arranged" "arranged" (top 29) f fd) (B : Bn mg) (N : Own P w K mg base 2 "first_places" ["field", "steps"] (Pu2 K (fun (F : Fld) (st : List Step) => st.length ≤ 1000 ∧ F.1.items.length ≤ 6) firstP)) :
    FnOk P w K mg base CX0 3 f fd ["field", "steps"] (Pu2 K (fun (F : Fld) (st : List Step) => st.length ≤ 1000 ∧ F.1.items.length ≤ 6 ∧ NmOk F st) arrF) := by
  refine F.ok scArr (fun vs H Q E h => ?_) (fun cdv A outer s H vs Q E hr h => ?_)
  · obtain ⟨v, v', x, y, rfl, _⟩ := h
    rfl
  · obtain ⟨v, v', x, y, rfl, d, d2, ⟨hz, hF, hnm⟩, k⟩ := h
    have hr1 : Room 2 _ := hr
    refine ⟨_, pB, ?_⟩
    refine wB_cons (wS_two 2 3 rfl scArr.nd (wE_tup2 (wE_listL B.list (tx_var 1 d2) fun ll H1 e1 hll Ll => wE_lst0 fun lf hlf q hq => ⟨q, .ref ll, .ref lf, rfl, SqT.of upd_same, ?_⟩)))
    have hne : lf ≠ ll := fun z => by obtain ⟨us, h1, _⟩ := Ll.at_; rw [z, h1] at hlf; cases hlf
    have e2 := Ex.new (o := HO.lst []) hlf
    have e3 := Ex.new (o := HO.tup [.ref ll, .ref lf]) hq
    refine wB_cons (wS_while (fun m σ H' => ∃ left found pv, m = left.length ∧ σ = [some v, some v', some (.ref ll), some (.ref lf), pv] ∧ Ex H H' ∧ LAt K H' ll left ∧ LAt K H' lf found ∧ NmOk x left ∧ found.length + left.length ≤ 1000 ∧ found ++ arrGo x left.length left = arrGo x y.length y)
      ⟨y.length, y, [], none, rfl, rfl, (e1.trans e2).trans e3, (Ll.ex e2).ex e3, LAt.ex ⟨[], upd_same, ha_nil⟩ e3, hnm, by simpa using hz, rfl⟩ PassesOwn.never fun m σ H4 hW => ?_)
    obtain ⟨left, found, pv, rfl, rfl, e4, L4, Lf4, hn4, hz4, heq⟩ := hW
    cases left with
    | nil =>
      refine TB.go (t := false) (TB.conv (tb_ne (hu64 hr) (tx_var 2 L4.hd) (tx_lst tl_nil (by decide))) (by decide)) fun H5 e5 => ?_
      rw [if_neg (by decide)]
      refine wB_one (wS_ret (TX.go (tx_tuple B.tuple (tx_var 3 (Lf4.ex e5).hd)) fun u H6 e6 du => k u H6 ((e4.trans e5).trans e6) ?_))
      have z : arrF x y = Tup.mk found := by
        unfold arrF
        rw [← heq]
        show Tup.mk (found ++ []) = _
        rw [List.append_nil]
      rw [z]; exact du
    | cons s0 r0 =>
      refine TB.go (t := true) (TB.conv (tb_ne (hu64 hr) (tx_var 2 L4.hd) (tx_lst tl_nil (by decide))) (decide_eq_true (by simp))) fun H5 e5 => ?_
      rw [if_pos rfl]
      obtain ⟨z, zs, hc, hmin, hlt⟩ := lp_ok (st := r0) (hn4 s0 List.mem_cons_self)
      have L5 := L4.ex e5
      have d5 := d.ex (e4.trans e5)
      have hlen : (s0 :: r0).length ≤ 1000 := by omega
      refine wB_cons (wS_set (i := 4) scArr.nd rfl (TX.go (x := ((lp x (s0 :: r0) : Nat) : Int)) (TX.conv (tx_snd (tx_minL (z := z) (zs := zs) (hu65 hr) rfl B.min (TX.conv (tx_lc (f := fun p : Int => (((s0 :: r0).getD p.toNat nst).1, p)) [("place", 4)] rfl scArr.nd (blkOk_by (N := ["field", "steps", "left", "found", "place"]) (sc := defScope (top 29)) (by decide +kernel)) ?_ (ti_list (tx_own2 N hr1 (t2_mk (tx_var 0 d5) (tx_var 2 L5.hd)) ⟨hlen, hF⟩)) fun p hp v' H' e' d' => ⟨_, fun s0 H0 C cl fp => ⟨tgt_name 4 scArr.nd, tbs_nil, fun _ => ?_⟩, rfl⟩) ?_))) hmin) fun pv H6 e6 dp => ?_))
      · have := fpGo_len x (enumd (s0 :: r0)) x.1.items []
        rw [enumd_length] at this
        unfold firstP
        simp only [List.length_nil] at this
        omega
      · obtain ⟨n, rfl, hn⟩ := firstP_in hp
        exact tx_pair (t2_mk (tx_fst (tx_ixL (tx_var 2 (L5.hd.ex e')) (tx_var 4 d') (atI_nat (getD_get hn)))) (tx_var 4 d'))
      · rw [← hc]
        unfold cand
        rw [show (firstP x (s0 :: r0)).filter (fun _ => true) = firstP x (s0 :: r0) from List.filter_eq_self.mpr fun _ _ => rfl]
      · obtain rfl := dp.int
        have L6 := L5.ex e6
        have Lf6 := (Lf4.ex e5).ex e6
        obtain ⟨us6, hus6, _⟩ := Lf6.at_
        refine wB_one (wS_expr (wE_appendC 3 hus6 (wE_popAt 2 L6 (tx_var 4 hd_int) rfl (getD_get (d := nst) hlt) (by omega) fun u v H7 e7 L7 du => ?_)))
        have b7 : But [ll] H7 (upd H7 ll v) := But.refl.upd (List.mem_singleton.mpr rfl)
        have Lf7 : LAt K (upd H7 ll v) lf found := (Lf6.ex e7).but b7 (L6.ex e7).no (by simpa using hne)
        obtain ⟨us7, hus7, hA7⟩ := Lf7.at_
        refine ⟨us7, hus7, by rw [hA7.len, sizeLine_eq]; omega, ?_⟩
        have b8 : But [lf] (upd H7 ll v) (upd (upd H7 ll v) lf (.lst (us7 ++ [u]))) := But.refl.upd (List.mem_singleton.mpr rfl)
        have el : ((s0 :: r0).eraseIdx (lp x (s0 :: r0))).length + 1 = (s0 :: r0).length := by
          rw [List.length_eraseIdx, if_pos hlt]
          simp
        refine ⟨_, by omega, _, _, _, rfl, rfl, fun c o ho => ?_, L7.but b8 Lf7.no (by simpa using hne.symm), Lf7.set (hA7.snoc du), fun s hs => hn4 s (List.mem_of_mem_eraseIdx hs), ?_, ?_⟩
        · have n1 : c ≠ ll := fun z => by rw [z, hll] at ho; cases ho
          have n2 : c ≠ lf := fun z => by
            have := e1 c o ho
            rw [z, hlf] at this; cases this
          rw [upd_ne n2, upd_ne n1]
          exact e7 c o (e6 c o (e5 c o (e4 c o ho)))
        · rw [List.length_append, List.length_singleton]; omega
        · rw [← heq, ← el]
          show (found ++ [_]) ++ _ = found ++ (_ :: _)
          rw [List.append_assoc]
          rfl
/-! ### least_in -/
theorem pushF_nm {F : Fld} {st : List Step} {s : Step} (h : NmOk F st) (hs : s.1 ∈ F.1.items) : NmOk F (pushF F st s) := fun z hz => by
  unfold pushF at hz
  split at hz
  · rcases List.mem_append.mp hz with hz | hz
    · exact h z hz
    · obtain rfl : z = s := by simpa using hz
      exact hs
  · split at hz
    · exact h z (List.mem_of_mem_eraseIdx hz)
    · rcases List.mem_or_eq_of_mem_set hz with hz | hz
      · exact h z hz
      · rw [hz]; exact hs
theorem pilF_nm {F : Fld} : ∀ (st acc : List Step), NmOk F acc → NmOk F st → NmOk F (st.foldl (pushF F) acc)
  | [], acc, h, _ => h
  | s :: st, acc, h, k => pilF_nm st _ (pushF_nm h (k s List.mem_cons_self)) fun z hz => k z (List.mem_cons_of_mem _ hz)
def leastF (F : Fld) (st : Tup Step) : Tup Step := arrF F (pilF F st.items)
theorem scLeast : FnScope ["field", "steps"] ["field", "steps"] (defScope (top 30)) := ⟨rfl, rfl, rfl, by decide +kernel, rfl, by decide +kernel, by decide +kernel⟩
theorem ok_least {f : Addr} {fd : FuncData} (F : Fun K "least_in" "least_in" (top 30) f fd) (N : Own P w K mg base 4 "piled" ["field", "steps"] (Pu2 K (fun _ (st : Tup Step) => st.items.length ≤ 500) fun F st => pilF F st.items))
    (A : Own P w K mg base 3 "arranged" ["field", "steps"] (Pu2 K (fun (F : Fld) (st : List Step) => st.length ≤ 1000 ∧ F.1.items.length ≤ 6 ∧ NmOk F st) arrF)) :
    FnOk P w K mg base CX0 5 f fd ["field", "steps"] (Pu2 K (fun (F : Fld) (st : Tup Step) => st.items.length ≤ 500 ∧ F.1.items.length ≤ 6 ∧ NmOk F st.items) leastF) := by
  refine F.ok scLeast (fun vs H Q E h => ?_) (fun cdv A' outer s H vs Q E hr h => ?_)
  · obtain ⟨v, v', x, y, rfl, _⟩ := h
    rfl
  · obtain ⟨v, v', x, y, rfl, d, d2, ⟨hz, hF, hnm⟩, k⟩ := h
    have hr4 : Room 4 _ := hr
    refine ⟨_, pB, wB_one (wS_ret (TX.go (tx_own2 A (hr4.mono (by decide)) (t2_mk (tx_var 0 d) (tx_own2 N hr4 (t2_mk (tx_var 0 d) (tx_var 1 d2)) hz)) ⟨?_, hF, pilF_nm _ _ (fun z hz => nomatch hz) hnm⟩) fun u H' e du => k u H' e du))⟩
    have := foldl_len x y.items []
    unfold pilF
    simp only [List.length_nil] at this
    omega
end
end K95
namespace K95
open PySem PySem.Spec PySem.Calls PySem.W PyProof.Rows L2 Evl
section
variable {P : Program} {w : World} {K : Frag} {mg : Str → Option Value} {base : Heap}
/-! ### _law_mixed -/
def mixF (cell n : Int) : Int := (((((cell * (1 + 2 * n)) * 48271) % 2147483647 + (7919 * n) * n) + 104729 * n) * 69621) % 2147483629 / 7
theorem scMix : FnScope ["cell", "n", "blend"] ["cell", "n"] (defScope (top 36)) := ⟨rfl, rfl, rfl, by decide +kernel, rfl, by decide +kernel, by decide +kernel⟩
theorem mulR {i j : Int} (h1 : 0 ≤ j) (h2 : j < 1000000000000) : CMul i j := by
  have e : (2 : Int) ^ 64 = 18446744073709551616 := by decide
  refine .inr ⟨?_, ?_⟩ <;> rw [e] <;> omega
theorem ok_mixed {f : Addr} {fd : FuncData} (F : Fun K "_law_mixed" "_law_mixed" (top 36) f fd) (B : Bn mg) : FnOk P w K mg base CX0 1 f fd ["cell", "n"] (Pu2 K (fun _ (n : Int) => 0 ≤ n ∧ n ≤ 1000000000) mixF) := by
  refine F.ok scMix (fun vs H Q E h => ?_) (fun cdv A outer s H vs Q E hr h => ?_)
  · obtain ⟨v, v', x, y, rfl, _⟩ := h
    rfl
  · obtain ⟨v, v', x, y, rfl, d, d2, ⟨h0, h1⟩, k⟩ := h
    refine ⟨_, pB, ?_⟩
    refine wB_cons (wS_set (i := 2) scMix.nd rfl (TX.go (tx_add (tx_add (tx_mod (tx_int' B.int (tx_mul (tx_mul (tx_var 0 d) (tx_add tx_int (tx_mul tx_int (tx_var 1 d2) (mulR h0 (by omega)))) (mulR (by omega) (by omega))) tx_int (mulR (by decide) (by decide)))) tx_int (by decide))
      (tx_mul (tx_mul tx_int (tx_var 1 d2) (mulR h0 (by omega))) (tx_var 1 d2) (mulR h0 (by omega)))) (tx_mul tx_int (tx_var 1 d2) (mulR h0 (by omega)))) fun bv H1 e1 db => ?_))
    refine wB_one (wS_ret (TX.go (tx_fdiv (tx_mod (tx_int' B.int (tx_mul (tx_var 2 db) tx_int (mulR (by decide) (by decide)))) tx_int (by decide)) tx_int ⟨by decide, by decide⟩) fun u H2 e2 du => k u H2 (e1.trans e2) du))
/-! ### _law_folded: 64 ints -/
def spFold (K : Frag) : Sp := fun vs H Q _ => ∃ (v : V) (ns : List Int), vs = [v] ∧ Hd K H v ns ∧ ns.length ≤ 1000 ∧ ∀ (l : Addr) (H' : Hp) (cs : List Int), Ex H H' → H l = none → LAt K H' l cs → cs.length = 64 → Q (.ref l) H'
theorem scFold : FnScope ["script", "found", "n", "cell"] ["script"] (defScope (top 37)) := ⟨rfl, rfl, rfl, by decide +kernel, rfl, by decide +kernel, by decide +kernel⟩
theorem ok_folded {f : Addr} {fd : FuncData} (F : Fun K "_law_folded" "_law_folded" (top 37) f fd) (B : Bn mg) : FnOk P w K mg base CX0 1 f fd ["script"] (spFold K) := by
  refine F.ok scFold (fun vs H Q E h => ?_) (fun cdv A outer s H vs Q E hr h => ?_)
  · obtain ⟨v, ns, rfl, _⟩ := h
    rfl
  · obtain ⟨v, ns, rfl, d, hz, k⟩ := h
    refine ⟨_, pB, ?_⟩
    refine wB_cons (wS_setLc (f := fun n => 17 + n) (pr := fun _ => true) 1 [("n", 2)] rfl scFold.nd (blkOk_by (N := ["script", "found", "n", "cell"]) (sc := defScope (top 37)) (by decide +kernel)) (by rw [rng_length]; decide) (ti_range1 B.range tx_int (by decide) (by decide)) (fun z hz v' H' e' d' => ⟨_, fun s0 H0 C cl fp => ⟨tgt_name 2 scFold.nd, tbs_nil, fun _ => tx_add tx_int (tx_var 2 d')⟩, rfl⟩) (fun l H1 e1 hl Ll => ?_) (sw_true rfl rfl rfl (by decide +kernel)))
    have hlen : (((rng 0 (64 : Int).toNat).filter fun _ => true).map fun n => 17 + n).length = 64 := by decide +kernel
    -- W: a list of 64 at l, all else as it was
    refine wB_mid (fun σ2 H2 => ∃ cs a b, σ2 = [some v, some (.ref l), a, b] ∧ Ex H H2 ∧ LAt K H2 l cs ∧ cs.length = 64) (wS_forK (xs := enumd ns) (H0 := H) (tik_enum 0 (v := v) B.enumerate d e1) (fun i σ2 H2 => ∃ (cs : List Int) (a b : Option V), σ2 = [some v, some (.ref l), a, b] ∧ Ex H H2 ∧ LAt K H2 l cs ∧ cs.length = 64)
      (fun H2 e2 => ⟨_, none, none, rfl, e1.trans e2, Ll.ex e2, hlen⟩) (fun i σ' H' ⟨_, _, _, _, e, _⟩ => e) ?_ (fun σ' H' h => h) rfl PassesOwn.never) ?_
    · rintro i ps hs σ2 H2 ⟨cs, a, b, rfl, e2, L2', hc⟩ u H3 e3 du
      refine wG_two 2 3 rfl scFold.nd du fun vp vs dp ds => ?_
      obtain ⟨hp, _⟩ := enumd_get hs
      have hj : ∃ j : Nat, ps.1 % 64 = j ∧ j < 64 := ⟨(ps.1 % 64).toNat, by omega, by omega⟩
      obtain ⟨j, hj, hj64⟩ := hj
      refine wB_one (wS_setIx 1 (k := ps.1 % 64) (m := j) (L2'.ex e3) (tx_mod (tx_int' B.int (tx_add (tx_mul (tx_ixL (i := ps.1 % 64) (tx_var 1 (L2'.ex e3).hd) (tx_mod (tx_int' B.int (tx_var 2 dp)) tx_int (by decide)) (by rw [hj]; exact atI_nat (getD_get (d := 0) (by omega)))) tx_int (mulR (by decide) (by decide))) (tx_var 3 ds))) tx_int (by decide)) (tx_mod (tx_int' B.int (tx_var 2 dp)) tx_int (by decide)) hj (by omega) fun w' H4 e4 L4 => ⟨_, _, _, rfl, ?_, L4, by rw [List.length_set]; exact hc⟩)
      exact fun c o ho => by
        have hcl : c ≠ l := fun z => by rw [z, hl] at ho; cases ho
        rw [upd_ne hcl]
        exact e4 c o (e3 c o (e2 c o ho))
    · rintro σ2 H2 ⟨cs, a, b, rfl, e2, L2', hc⟩
      refine wB_cons (wS_forK (xs := rng 1 ((64 : Int) - 1).toNat) (H0 := H) (tik_range2 B.range (t2_mk tx_int tx_int) (by decide)) (fun i σ2 H2 => ∃ (cs : List Int) (a b : Option V), σ2 = [some v, some (.ref l), a, b] ∧ Ex H H2 ∧ LAt K H2 l cs ∧ cs.length = 64)
        (fun H3 e3 => ⟨cs, a, b, rfl, e2.trans e3, L2'.ex e3, hc⟩) (fun i σ' H' ⟨_, _, _, _, e, _⟩ => e) ?_ ?_ rfl PassesOwn.never)
      · rintro i z hz σ3 H3 ⟨cs, a, b, rfl, e3, L3, hc⟩ u H4 e4 du
        refine wG_name 2 scFold.nd ?_
        have hz1 := rng_get hz
        have hi : i < 63 := by
          have := (List.getElem?_eq_some_iff.mp hz).1
          rw [rng_length] at this
          exact this
        refine wB_one (wS_setIx 1 (k := z) (m := i + 1) (L3.ex e4) (tx_mod (tx_int' B.int (tx_add (tx_ixL (i := z) (tx_var 1 (L3.ex e4).hd) (tx_var 2 du) (by rw [hz1, show (1 : Int) + (i : Int) = ((i + 1 : Nat) : Int) by omega]; exact atI_nat (getD_get (d := 0) (by omega)))) (tx_mul (tx_ixL (i := z - 1) (tx_var 1 (L3.ex e4).hd) (tx_sub (tx_var 2 du) tx_int) (by rw [hz1, show (1 : Int) + (i : Int) - 1 = ((i : Nat) : Int) by omega]; exact atI_nat (getD_get (d := 0) (by omega)))) tx_int (mulR (by decide) (by decide))))) tx_int (by decide)) (tx_var 2 du) (by omega) (by omega) fun w' H5 e5 L5 => ⟨_, _, _, rfl, ?_, L5, by rw [List.length_set]; exact hc⟩)
        exact fun c o ho => by
          have hcl : c ≠ l := fun z => by rw [z, hl] at ho; cases ho
          rw [upd_ne hcl]
          exact e5 c o (e4 c o (e3 c o ho))
      · rintro σ3 H3 ⟨cs, a, b, rfl, e3, L3, hc⟩
        exact wB_one (wS_ret (wE_var 1 rfl rfl (k l H3 cs e3 hl L3 hc)))
/-! ### _law_apart -/
def smin (a b : Str) : Str := if DatumOrd.lt b a = true then b else a
def smax (a b : Str) : Str := if DatumOrd.lt a b = true then b else a
def lapart (F : Fld) (a b : Str) : Bool := isIn (smin a b, smax a b) F.2.items
theorem scLap : FnScope ["field", "one", "other"] ["field", "one", "other"] (defScope (top 42)) := ⟨rfl, rfl, rfl, by decide +kernel, rfl, by decide +kernel, by decide +kernel⟩
section
variable {X : Cx} {σ : L2.St} {H : Hp} {a b : Expr} {x y : Str} {p pos : Pos}
theorem tx_min2 (hc : X.calm = true) (hm : X.mg "min" = none) (ha : T2 X σ H [a, b] x y) (hg : Gl X "min" := by rfl) (hs : starEach (a :: [b]) X.env = (false, eval a X.env) :: starEach [b] X.env := by rfl) (hpl : (backTo pos (starEach [b] X.env)).any (·.1) = false := by rfl) : TX X σ H (.Call (.Name "min" p) [a, b] [] pos) (smin x y) := fun H1 k Q q =>
  wE_of (pe_callB (call_minS hc) hg hm (by with_unfolding_all rfl) pA (by decide) (by decide) hs hpl) (ha H1 k _ fun v w H2 k2 d1 d2 => ⟨x, y, by rw [d1.str, d2.str], q _ H2 k2 hd_str⟩)
theorem tx_max2 (hc : X.calm = true) (hm : X.mg "max" = none) (ha : T2 X σ H [a, b] x y) (hg : Gl X "max" := by rfl) (hs : starEach (a :: [b]) X.env = (false, eval a X.env) :: starEach [b] X.env := by rfl) (hpl : (backTo pos (starEach [b] X.env)).any (·.1) = false := by rfl) : TX X σ H (.Call (.Name "max" p) [a, b] [] pos) (smax x y) := fun H1 k Q q =>
  wE_of (pe_callB (call_maxS hc) hg hm (by with_unfolding_all rfl) pA (by decide) (by decide) hs hpl) (ha H1 k _ fun v w H2 k2 d1 d2 => ⟨x, y, by rw [d1.str, d2.str], q _ H2 k2 hd_str⟩)
end
theorem ok_lapart {f : Addr} {fd : FuncData} (F : Fun K "_law_apart" "_law_apart" (top 42) f fd) (B : Bn mg) : FnOk P w K mg base CX0 1 f fd ["field", "one", "other"] (Pu3 K (fun _ _ _ => True) lapart) := by
  refine F.ok scLap (fun vs H Q E h => ?_) (fun cdv A outer s H vs Q E hr h => ?_)
  · obtain ⟨v, v', u, x, y, z, rfl, _⟩ := h
    rfl
  · obtain ⟨v, v', u, x, y, z, rfl, d, d2, d3, _, k⟩ := h
    refine ⟨_, pB, ?_⟩
    refine wB_one (wS_ret (TX.go ?_ fun u H' e d' => k u H' e d'))
    exact tx_inT (hu65 hr) (tx_pair (t2_mk (tx_min2 rfl B.min (t2_mk (tx_var 1 d2) (tx_var 2 d3))) (tx_max2 rfl B.max (t2_mk (tx_var 1 d2) (tx_var 2 d3))))) (tx_snd (tx_var 0 d))
/-! ### _law_meet -/
/-- the next one behind the k-th that has its name, if all between are apart from it -/
def scanK (F : Fld) (st : List Step) (k : Nat) : Nat → Nat → Option Nat
  | 0, _ => none
  | n + 1, far => if (st.getD far nst).1 = (st.getD k nst).1 then some far else if lapart F (st.getD k nst).1 (st.getD far nst).1 = true then scanK F st k n (far + 1) else none
def lmeetGo (F : Fld) (st : List Step) : Nat → Nat → Option (Nat × Nat)
  | 0, _ => none
  | n + 1, k => match scanK F st k (st.length - (k + 1)) (k + 1) with
    | some far => some (k, far)
    | none => lmeetGo F st n (k + 1)
def lmeet (F : Fld) (st : List Step) : Option (Nat × Nat) := lmeetGo F st st.length 0
theorem scanK_lt (F : Fld) (st : List Step) (k : Nat) : ∀ n far j, scanK F st k n far = some j → far ≤ j ∧ j < far + n
  | 0, far, j, h => by cases h
  | n + 1, far, j, h => by
    unfold scanK at h
    split at h
    · cases h; omega
    · split at h
      · have := scanK_lt F st k n (far + 1) j h
        omega
      · cases h
theorem lmeetGo_lt (F : Fld) (st : List Step) : ∀ n k a b, n + k = st.length → lmeetGo F st n k = some (a, b) → a < b ∧ b < st.length ∧ scanK F st a (st.length - (a + 1)) (a + 1) = some b
  | 0, k, a, b, _, h => by cases h
  | n + 1, k, a, b, e, h => by
    unfold lmeetGo at h
    cases q : scanK F st k (st.length - (k + 1)) (k + 1) with
    | some far =>
      rw [q] at h
      cases h
      have := scanK_lt F st k _ _ _ q
      exact ⟨by omega, by omega, q⟩
    | none =>
      rw [q] at h
      exact lmeetGo_lt F st n (k + 1) a b (by omega) h
theorem lmeet_lt {F : Fld} {st : List Step} {a b : Nat} (h : lmeet F st = some (a, b)) : a < b ∧ b < st.length ∧ scanK F st a (st.length - (a + 1)) (a + 1) = some b := lmeetGo_lt F st _ _ _ _ (by omega) h
/-- a pair of numbers, or None -/
def HdO (K : Frag) (H : Hp) (v : V) : Option (Nat × Nat) → Prop
  | none => v = .non
  | some (a, b) => Hd K H v ((a : Int), (b : Int))
theorem HdO.ex {H H' : Hp} {v : V} {o : Option (Nat × Nat)} (d : HdO K H v o) (e : Ex H H') : HdO K H' v o := by
  cases o with
  | none => exact d
  | some q => exact Hd.ex d e
def spMeet (K : Frag) : Sp := fun vs H Q _ => ∃ (v v' : V) (F : Fld) (st : List Step), vs = [v, v'] ∧ Hd K H v F ∧ Hd K H v' st ∧ st.length ≤ 1000 ∧ ∀ (u : V) (H' : Hp), Ex H H' → HdO K H' u (lmeet F st) → Q u H'
theorem scLmt : FnScope ["field", "steps", "k", "far"] ["field", "steps"] (defScope (top 43)) := ⟨rfl, rfl, rfl, by decide +kernel, rfl, by decide +kernel, by decide +kernel⟩
theorem ok_lmeet {f : Addr} {fd : FuncData} (F : Fun K "_law_meet" "_law_meet" (top 43) f fd) (B : Bn mg) (N : Own P w K mg base 1 "_law_apart" ["field", "one", "other"] (Pu3 K (fun _ _ _ => True) lapart)) : FnOk P w K mg base CX0 2 f fd ["field", "steps"] (spMeet K) := by
  refine F.ok scLmt (fun vs H Q E h => ?_) (fun cdv A outer s H vs Q E hr h => ?_)
  · obtain ⟨v, v', x, y, rfl, _⟩ := h
    rfl
  · obtain ⟨v, v', x, y, rfl, d, d2, hz, k⟩ := h
    have hr1 : Room 1 _ := hr
    refine ⟨_, pB, ?_⟩
    refine wB_cons (wS_forK (xs := rng 0 ((y.length : Nat) : Int).toNat) (H0 := H) (tik_range1 B.range (tx_lenL B.len (tx_var 1 d2)) (by have : (2 : Int) ^ 62 = 4611686018427387904 := by decide
                                                                                                                                         omega) (by have : (2 : Int) ^ 62 = 4611686018427387904 := by decide
                                                                                                                                                    omega))
      (fun i σ H' => ∃ a b, σ = [some v, some v', a, b] ∧ Ex H H' ∧ lmeet x y = lmeetGo x y (y.length - i) i) (fun H1 e1 => ⟨none, none, rfl, e1, rfl⟩) (fun i σ' H' ⟨_, _, _, e, _⟩ => e) ?_ ?_ rfl PassesOwn.never)
    · rintro i z hz' σ H1 ⟨a, b, rfl, e1, heq⟩ u H2 e2 du
      refine wG_name 2 scLmt.nd ?_
      have hz1 := rng_get hz'
      have hi : i < y.length := by
        have := (List.getElem?_eq_some_iff.mp hz').1
        rw [rng_length] at this
        exact this
      obtain rfl : z = (i : Int) := by omega
      -- what the next turn leans on
      have nextW : ∀ (c : Option V) (H' : Hp), Ex H H' → scanK x y i (y.length - (i + 1)) (i + 1) = none → ∃ a b, [some v, some v', some (V.int i), c] = [some v, some v', a, b] ∧ Ex H H' ∧ lmeet x y = lmeetGo x y (y.length - (i + 1)) (i + 1) := fun c H' e hs => by
        refine ⟨_, _, rfl, e, ?_⟩
        rw [heq, show y.length - i = (y.length - (i + 1)) + 1 by omega]
        show (match scanK x y i (y.length - (i + 1)) (i + 1) with | some far => some (i, far) | none => lmeetGo x y (y.length - (i + 1)) (i + 1)) = _
        rw [hs]
      have obtain_u := du.int
      subst obtain_u
      have b62 : (2 : Int) ^ 62 = 4611686018427387904 := by decide
      refine wB_one (wS_forK (xs := rng ((i : Int) + 1) (((y.length : Nat) : Int) - ((i : Int) + 1)).toNat) (H0 := H) (tik_range2 B.range (t2_mk (tx_add (tx_var 2 hd_int) tx_int) (tx_lenL B.len (tx_var 1 (d2.ex (e1.trans e2))))) ⟨by omega, by omega, by omega, by omega⟩)
        (fun j σ H' => ∃ c, σ = [some v, some v', some (.int i), c] ∧ Ex H H' ∧ scanK x y i (y.length - (i + 1)) (i + 1) = scanK x y i (y.length - (i + 1) - j) (i + 1 + j)) (fun H3 e3 => ⟨_, rfl, (e1.trans e2).trans e3, rfl⟩) (fun i σ' H' ⟨_, _, e, _⟩ => e) ?_ ?_ rfl PassesOwn.never)
      · rintro j z hzj σ H3 ⟨c, rfl, e3, hsc⟩ u H4 e4 du4
        refine wG_name 3 scLmt.nd ?_
        have hz2 := rng_get hzj
        have hj : j < y.length - (i + 1) := by
          have := (List.getElem?_eq_some_iff.mp hzj).1
          rw [rng_length] at this
          omega
        have e34 := e3.trans e4
        have dF := d.ex e34
        have dS := d2.ex e34
        have hfar : i + 1 + j < y.length := by omega
        have hgi := getD_get (d := nst) hi
        have hgf := getD_get (d := nst) hfar
        have hzf : z = ((i + 1 + j : Nat) : Int) := by omega
        have ef : ∀ {X : Cx} {σ : L2.St} {H' : Hp} {a b : Expr} {p : Pos}, TX X σ H' a y → TX X σ H' b z → PlainIx b → TX X σ H' (.Subscript a b p) (y.getD (i + 1 + j) nst) := fun h1 h2 h3 => tx_ixL h1 h2 (by rw [hzf]; exact atI_nat hgf) h3
        have step : scanK x y i (y.length - (i + 1)) (i + 1) = if (y.getD (i + 1 + j) nst).1 = (y.getD i nst).1 then some (i + 1 + j) else if lapart x (y.getD i nst).1 (y.getD (i + 1 + j) nst).1 = true then scanK x y i (y.length - (i + 1) - (j + 1)) (i + 1 + (j + 1)) else none := by
          rw [hsc, show y.length - (i + 1) - j = (y.length - (i + 1) - (j + 1)) + 1 by omega]
          rfl
        by_cases hsame : (y.getD (i + 1 + j) nst).1 = (y.getD i nst).1
        · refine wB_cons (wS_if (TB.go (t := true) (TB.conv (tb_eq (hu64 hr) (tx_fst (tx_ixL (tx_var 1 dS) (tx_var 3 du4) (by rw [hzf]; exact atI_nat hgf))) (tx_fst (tx_ixL (tx_var 1 dS) (tx_var 2 hd_int) (atI_nat hgi)))) (decide_eq_true hsame)) fun H5 e5 => ?_))
          rw [if_pos rfl]
          refine wB_one (wS_ret (TX.go (tx_pair (t2_mk (tx_var 2 (hd_int (i := (i : Int)))) (tx_var 3 (du4.ex e5)))) fun w' H6 e6 dw => k w' H6 ((e34.trans e5).trans e6) ?_))
          have hres : lmeet x y = some (i, i + 1 + j) := by
            rw [heq, show y.length - i = (y.length - (i + 1)) + 1 by omega]
            show (match scanK x y i (y.length - (i + 1)) (i + 1) with | some far => some (i, far) | none => lmeetGo x y (y.length - (i + 1)) (i + 1)) = _
            rw [step, if_pos hsame]
          rw [hres]
          show Hd K H6 w' ((i : Int), ((i + 1 + j : Nat) : Int))
          rw [← hzf]; exact dw
        · refine wB_cons (wS_if (TB.go (t := false) (TB.conv (tb_eq (hu64 hr) (tx_fst (tx_ixL (tx_var 1 dS) (tx_var 3 du4) (by rw [hzf]; exact atI_nat hgf))) (tx_fst (tx_ixL (tx_var 1 dS) (tx_var 2 hd_int) (atI_nat hgi)))) (decide_eq_false hsame)) fun H5 e5 => ?_))
          rw [if_neg (by decide)]
          rw [if_neg hsame] at step
          have dF5 := dF.ex e5
          have dS5 := dS.ex e5
          have du5 := du4.ex e5
          refine wB_nil (wB_one (wS_if (TB.go (TB.conv (tb_not (tb_val (tx_own3 N hr1 (t3_mk (tx_var 0 dF5) (tx_fst (tx_ixL (tx_var 1 dS5) (tx_var 2 hd_int) (atI_nat hgi))) (tx_fst (tx_ixL (tx_var 1 dS5) (tx_var 3 du5) (by rw [hzf]; exact atI_nat hgf)))) trivial))) rfl) fun H6 e6 => ?_)))
          have e6' := (e34.trans e5).trans e6
          cases hap : lapart x (y.getD i nst).1 (y.getD (i + 1 + j) nst).1 with
          | true =>
            rw [if_neg (by decide)]
            rw [if_pos hap] at step
            exact wB_nil ⟨_, rfl, e6', step⟩
          | false =>
            rw [if_pos (show (!false) = true from rfl)]
            rw [if_neg (by rw [hap]; decide)] at step
            exact wB_one (wS_break (nextW _ _ e6' step))
      · rintro σ H3 ⟨c, rfl, e3, hsc⟩
        refine nextW _ _ e3 ?_
        rw [hsc, rng_length, show y.length - (i + 1) - (((y.length : Nat) : Int) - ((i : Int) + 1)).toNat = 0 by omega]
        rfl
    · rintro σ H1 ⟨a, b, rfl, e1, heq⟩
      rw [rng_length, show y.length - ((y.length : Nat) : Int).toNat = 0 by omega] at heq
      refine wB_one (wS_ret (wE_of pe_non ?_))
      exact k .non H1 e1 (by rw [heq]; rfl)
end
end K95
namespace K95
open PySem PySem.Spec PySem.Calls PySem.W PyProof.Rows L2 Evl
section
variable {α : Type} [DecidableEq α] [Datum α] {X : Cx} {σ : L2.St} {H : Hp} {e b : Expr} {x : α} {p p1 pos : Pos} {i : Int}
theorem cutX_take {xs : List α} {k : Nat} : cutX xs none (some (k : Int)) = xs.take k := by
  unfold cutX
  rw [HT.sIx_none, HT.sIx_nat, List.drop_zero, Nat.sub_zero]
  rcases Nat.le_total k xs.length with h | h
  · rw [Nat.min_eq_left h]
  · rw [Nat.min_eq_right h, List.take_length, List.take_of_length_le h]
theorem cutX_drop {xs : List α} {k : Nat} : cutX xs (some (k : Int)) none = xs.drop k := by
  unfold cutX
  rw [HT.sIx_none, HT.sIx_nat]
  rcases Nat.le_total k xs.length with h | h
  · rw [Nat.min_eq_left h]
    apply List.take_of_length_le
    rw [List.length_drop]
    omega
  · rw [Nat.min_eq_right h, List.drop_length, List.drop_eq_nil_of_le h, List.take_nil]
/-- [e] * k, k = 0 or 1 -/
theorem tx_rep (he : TX X σ H e x) (hb : TX X σ H b i) (hi : i = 0 ∨ i = 1) (hs : starEach (e :: []) X.env = (false, eval e X.env) :: starEach [] X.env := by rfl) : TX X σ H (.BinOp (.List [e] p1) .Mult b p) (List.replicate i.toNat x) := fun H1 k Q q =>
  wE_of (pe_op op_rep pE pE) (wE_of (pe_lst (pa_cons pE pa_nil hs)) (he H1 k _ fun v H2 k2 d => ⟨by rw [sizeLine_eq]; show 1 ≤ 16777216; decide, fun l hl => hb (upd H2 l (.lst [v])) ((k.trans k2).trans (Ex.new hl)) _ fun w H3 k3 d3 => by
    have hl3 := k3 _ _ (upd_same (H := H2) (a := l) (o := HO.lst [v]))
    refine ⟨l, i, [v], rfl, d3.int, hl3, ?_, ?_, ?_, fun l' hl' => ?_⟩
    · rcases hi with rfl | rfl <;> decide
    · rcases hi with rfl | rfl <;> decide
    · rw [sizeLine_eq]; rcases hi with rfl | rfl
      · show 1 * 0 ≤ 16777216; decide
      · show 1 * 1 ≤ 16777216; decide
    · refine q _ _ ((k2.trans (Ex.new hl)).trans (k3.trans (Ex.new hl'))) (hd_list (SqL.of upd_same) ?_)
      rcases hi with rfl | rfl
      · exact ha_nil
      · exact ha_cons (((d.ex (Ex.new hl)).ex k3).ex (Ex.new hl')) ha_nil⟩))
theorem tb_notNone {v : V} {n : Str} {j : Nat} {p' : Pos} (m : Nat) (hσ : σ[m]? = some (some v) := by rfl) (hN : X.N[m]? = some n := by rfl) (hv : Vis X.env.scope n := by first | exact .inl rfl | exact .inr (.inl rfl) | exact .inr (.inr rfl)) (hd : (n == ("__debug__" : Str)) = false := by decide) (hcd : (n == ("__classdict__" : Str)) = false := by decide) :
    TB X σ H (.Compare (.Name n p) [.IsNot] [.Constant .none j p'] pos) (!decide (v = .non)) := fun H1 k Q q => wT_of (pt_cmp (pc_notN (pe_var (i := m) hN hv hd hcd))) ⟨v, hσ, _, rfl, q H1 (Ex.refl _)⟩
theorem tb_isNone {v : V} {n : Str} {j : Nat} {p' : Pos} (m : Nat) (hσ : σ[m]? = some (some v) := by rfl) (hN : X.N[m]? = some n := by rfl) (hv : Vis X.env.scope n := by first | exact .inl rfl | exact .inr (.inl rfl) | exact .inr (.inr rfl)) (hd : (n == ("__debug__" : Str)) = false := by decide) (hcd : (n == ("__classdict__" : Str)) = false := by decide) :
    TB X σ H (.Compare (.Name n p) [.Is] [.Constant .none j p'] pos) (decide (v = .non)) := fun H1 k Q q => wT_of (pt_cmp (pc_isN (pe_var (i := m) hN hv hd hcd))) ⟨v, hσ, _, rfl, q H1 (Ex.refl _)⟩
end
section
variable {P : Program} {w : World} {K : Frag} {mg : Str → Option Value} {base : Heap}
/-! ### _law_pile -/
def jt (st : List Step) (a b : Nat) : Int := (st.getD a nst).2 + (st.getD b nst).2
def ljoin (st : List Step) (a b : Nat) : List Step :=
  ((st.take b ++ st.drop (b + 1)).take a ++ List.replicate (if decide (jt st a b ≠ 0) = true then 1 else 0) ((st.getD a nst).1, jt st a b)) ++ (st.take b ++ st.drop (b + 1)).drop (a + 1)
def lpileGo (F : Fld) : Nat → List Step → List Step
  | 0, st => st
  | n + 1, st => match lmeet F st with
    | none => st
    | some (a, b) => lpileGo F n (ljoin st a b)
def lpile (F : Fld) (st : List Step) : List Step := lpileGo F st.length st
theorem cut1_len {st : List Step} {b : Nat} (h : b < st.length) : (st.take b ++ st.drop (b + 1)).length = st.length - 1 := by
  rw [List.length_append, List.length_take, List.length_drop]; omega
theorem ljoin_lt {st : List Step} {a b : Nat} (h1 : a < b) (h2 : b < st.length) : (ljoin st a b).length < st.length := by
  have := cut1_len h2
  unfold ljoin
  rw [List.length_append, List.length_append, List.length_take, List.length_drop, List.length_replicate, this]
  split <;> omega
theorem lpileGo_fuel {F : Fld} : ∀ (n : Nat) (st : List Step), st.length ≤ n → lpileGo F n st = lpileGo F st.length st
  | 0, st, h => by rw [show st.length = 0 by omega]
  | n + 1, st, h => by
    cases hm : lmeet F st with
    | none =>
      have z : ∀ m, lpileGo F m st = st := fun m => by
        cases m with
        | zero => rfl
        | succ m => unfold lpileGo; rw [hm]
      rw [z, z]
    | some ab =>
      obtain ⟨a, b⟩ := ab
      obtain ⟨h1, h2, _⟩ := lmeet_lt hm
      have lt := ljoin_lt h1 h2
      obtain ⟨m, hl⟩ : ∃ m, st.length = m + 1 := ⟨st.length - 1, by omega⟩
      have z : ∀ m, lpileGo F (m + 1) st = lpileGo F m (ljoin st a b) := fun m => by
        show (match lmeet F st with | none => st | some (a, b) => lpileGo F m (ljoin st a b)) = _
        rw [hm]
      rw [hl, z, z, lpileGo_fuel n _ (by omega), lpileGo_fuel m _ (by omega)]
termination_by n => n
decreasing_by all_goals omega
theorem scLpl : FnScope ["field", "steps", "found", "pair", "name", "times"] ["field", "steps"] (defScope (top 44)) := ⟨rfl, rfl, rfl, by decide +kernel, rfl, by decide +kernel, by decide +kernel⟩
theorem ok_lpile {f : Addr} {fd : FuncData} (F : Fun K "_law_pile" "_law_pile" (top 44) f fd) (B : Bn mg) (N : Own P w K mg base 2 "_law_meet" ["field", "steps"] (spMeet K)) :
    FnOk P w K mg base CX0 3 f fd ["field", "steps"] (Pu2 K (fun (_ : Fld) (st : Tup Step) => st.items.length ≤ 1000) fun F st => lpile F st.items) := by
  refine F.ok scLpl (fun vs H Q E h => ?_) (fun cdv A outer s H vs Q E hr h => ?_)
  · obtain ⟨v, v', x, y, rfl, _⟩ := h
    rfl
  · obtain ⟨v, v', x, y, rfl, d, d2, hz, k⟩ := h
    have hr2 : Room 2 _ := hr
    refine ⟨_, pB, ?_⟩
    refine wB_cons (wS_set (i := 2) scLpl.nd rfl (TX.go (tx_listT B.list (tx_var 1 d2)) fun vf H1 e1 df => ?_))
    refine wB_cons (wS_set (i := 3) scLpl.nd rfl (wE_own N hr2 (T2.go (t2_mk (tx_var 0 (d.ex e1)) (tx_var 2 df)) fun v1 w1 H2 e2 dF dS => ⟨v1, w1, x, y.items, rfl, dF, dS, hz, fun pv H3 e3 dp => ?_⟩)))
    refine wB_cons (wS_while (fun m σ H' => ∃ found vf pv a b, m = found.length ∧ σ = [some v, some v', some vf, some pv, a, b] ∧ Ex H H' ∧ Hd K H' vf found ∧ HdO K H' pv (lmeet x found) ∧ found.length ≤ 1000 ∧ lpile x y.items = lpileGo x found.length found)
      ⟨_, y.items, vf, pv, none, none, rfl, rfl, (e1.trans e2).trans e3, (df.ex e2).ex e3, dp, hz, rfl⟩ PassesOwn.never fun m σ H4 hW => ?_)
    obtain ⟨found, vf, pv, a, b, rfl, rfl, e4, d4, dp4, hz4, heq⟩ := hW
    refine TB.go (tb_notNone 3) fun H5 e5 => ?_
    have d5 := d4.ex e5
    cases hm : lmeet x found with
    | none =>
      rw [hm] at dp4
      have : pv = .non := dp4
      subst this
      rw [if_neg (by decide)]
      refine wB_one (wS_ret (TX.go (tx_var 2 d5) fun u H6 e6 du => k u H6 ((e4.trans e5).trans e6) ?_))
      have z : lpile x y.items = found := by
        rw [heq]
        cases hf : found.length with
        | zero => rfl
        | succ n => unfold lpileGo; rw [hm]
      show Hd K H6 u (lpile x y.items)
      rw [z]; exact du
    | some ab =>
      obtain ⟨i, j⟩ := ab
      rw [hm] at dp4
      have dp4 : Hd K H4 pv ((i : Int), (j : Int)) := dp4
      have dp5 := dp4.ex e5
      obtain ⟨hij, hj, _⟩ := lmeet_lt hm
      have hi : i < found.length := by omega
      have ne : pv ≠ .non := by
        obtain ⟨q, _, _, rfl, _⟩ := dp4.pair
        intro z; cases z
      rw [if_pos (by rw [decide_eq_false ne]; rfl)]
      refine wB_cons (wS_par 4 5 rfl scLpl.nd (TX.go (tx_fst (tx_ixL (tx_var 2 d5) (tx_fst (tx_var 3 dp5)) (atI_nat (getD_get (d := nst) hi)))) fun vn H6 e6 dn => TX.go (tx_add (tx_snd (tx_ixL (tx_var 2 (d5.ex e6)) (tx_fst (tx_var 3 (dp5.ex e6))) (atI_nat (getD_get (d := nst) hi)))) (tx_snd (tx_ixL (tx_var 2 (d5.ex e6)) (tx_snd (tx_var 3 (dp5.ex e6))) (atI_nat (getD_get (d := nst) hj))))) fun vt H7 e7 dt => ?_))
      have d7 := (d5.ex e6).ex e7
      have dp7 := (dp5.ex e6).ex e7
      have dn7 := dn.ex e7
      have c1 : cutX found none (some ((i : Int), (j : Int)).2) ++ cutX found (some (((i : Int), (j : Int)).2 + 1)) none = found.take j ++ found.drop (j + 1) := by
        rw [show (((i : Int), (j : Int)).2) = (j : Int) from rfl, cutX_take, show (j : Int) + 1 = ((j + 1 : Nat) : Int) by omega, cutX_drop]
      have hz5 : found.length - 1 ≤ 1000 := by omega
      refine wB_cons (wS_set (i := 2) scLpl.nd rfl (TX.go (TX.conv (tx_catL ?_ (tx_slL (tx_var 2 d7) to_none (to_some (tx_snd (tx_var 3 dp7)))) (tx_slL (tx_var 2 d7) (to_some (tx_add (tx_snd (tx_var 3 dp7)) tx_int)) to_none)) c1) fun vf1 H8 e8 df1 => ?_))
      · have := congrArg List.length c1
        rw [List.length_append] at this
        rw [this, cut1_len hj]; omega
      have dp8 := dp7.ex e8
      have c2 : (cutX (found.take j ++ found.drop (j + 1)) none (some ((i : Int), (j : Int)).1) ++ List.replicate (if decide (jt found i j ≠ 0) = true then 1 else 0 : Int).toNat ((found.getD i nst).1, jt found i j)) ++ cutX (found.take j ++ found.drop (j + 1)) (some (((i : Int), (j : Int)).1 + 1)) none = ljoin found i j := by
        rw [show (((i : Int), (j : Int)).1) = (i : Int) from rfl, cutX_take, show (i : Int) + 1 = ((i + 1 : Nat) : Int) by omega, cutX_drop]
        unfold ljoin
        split <;> rfl
      have lj := ljoin_lt hij hj
      have lc2 := congrArg List.length c2
      rw [List.length_append, List.length_append] at lc2
      refine wB_cons (wS_set (i := 2) scLpl.nd rfl (TX.go (TX.conv (tx_catL ?_ (tx_catL ?_ (tx_slL (tx_var 2 df1) to_none (to_some (tx_fst (tx_var 3 dp8)))) (tx_rep (tx_pair (t2_mk (tx_var 4 (dn7.ex e8)) (tx_var 5 (dt.ex e8)))) (tx_intB B.int (tx_ne (hu64 hr) (tx_var 5 (dt.ex e8)) tx_int)) ?_)) (tx_slL (tx_var 2 df1) (to_some (tx_add (tx_fst (tx_var 3 dp8)) tx_int)) to_none)) c2) fun vf2 H9 e9 df2 => ?_))
      · rw [List.length_append]; exact Nat.le_trans (Nat.le_of_eq lc2) (by omega)
      · exact Nat.le_trans (Nat.le_add_right _ _) (Nat.le_trans (Nat.le_of_eq lc2) (by omega))
      · split
        · exact .inr rfl
        · exact .inl rfl
      have e49 := ((((e4.trans e5).trans e6).trans e7).trans e8).trans e9
      refine wB_one (wS_set (i := 3) scLpl.nd rfl (wE_own N hr2 (T2.go (t2_mk (tx_var 0 (d.ex e49)) (tx_var 2 df2)) fun v1 w1 HA eA dF dS => ⟨v1, w1, x, ljoin found i j, rfl, dF, dS, by omega, fun pv' HB eB dpB => ?_⟩)))
      refine ⟨_, lj, ljoin found i j, vf2, pv', _, _, rfl, rfl, (e49.trans eA).trans eB, (df2.ex eA).ex eB, dpB, by omega, ?_⟩
      rw [heq]
      obtain ⟨n, hn⟩ : ∃ n, found.length = n + 1 := ⟨found.length - 1, by omega⟩
      rw [hn]
      show (match lmeet x found with | none => found | some (a, b) => lpileGo x n (ljoin found a b)) = _
      rw [hm]
      exact lpileGo_fuel n _ (by omega)
/-! ### _law_firsts -/
def lfok (F : Fld) (st : List Step) (k : Nat) : Bool := decide ((st.take k).filter (fun s => !lapart F s.1 (st.getD k nst).1) = [])
def lfirsts (F : Fld) (st : List Step) : List Int := ((List.range st.length).filter (lfok F st)).map fun (k : Nat) => (k : Int)
theorem scLfi : FnScope ["field", "steps", "found", "k", "step"] ["field", "steps"] (defScope (top 45)) := ⟨rfl, rfl, rfl, by decide +kernel, rfl, by decide +kernel, by decide +kernel⟩
theorem ok_lfirsts {f : Addr} {fd : FuncData} (F : Fun K "_law_firsts" "_law_firsts" (top 45) f fd) (B : Bn mg) (N : Own P w K mg base 1 "_law_apart" ["field", "one", "other"] (Pu3 K (fun _ _ _ => True) lapart)) :
    FnOk P w K mg base CX0 2 f fd ["field", "steps"] (Pu2 K (fun (_ : Fld) (st : List Step) => st.length ≤ 1000) lfirsts) := by
  refine F.ok scLfi (fun vs H Q E h => ?_) (fun cdv A outer s H vs Q E hr h => ?_)
  · obtain ⟨v, v', x, y, rfl, _⟩ := h
    rfl
  · obtain ⟨v, v', x, y, rfl, d, d2, hz, k⟩ := h
    have hr1 : Room 1 _ := hr
    refine ⟨_, pB, ?_⟩
    have b62 : (2 : Int) ^ 62 = 4611686018427387904 := by decide
    have hz : y.length ≤ 1000 := hz
    refine wB_cons (wS_set (i := 2) scLfi.nd rfl (wE_lst0 fun l hl => ?_))
    have e0 := Ex.new (o := HO.lst []) hl
    refine wB_cons (wS_forK (xs := rng 0 ((y.length : Nat) : Int).toNat) (H0 := H) (tik_range1 B.range (tx_lenL B.len (tx_var 1 (d2.ex e0))) (by omega) (by omega))
      (fun i σ H' => ∃ a, σ = [some v, some v', some (.ref l), a, none] ∧ Ex H H' ∧ LAt K H' l (((List.range i).filter (lfok x y)).map fun (k : Nat) => (k : Int))) (fun H1 e1 => ⟨none, rfl, e0.trans e1, LAt.ex ⟨[], upd_same, ha_nil⟩ e1⟩) (fun i σ' H' ⟨_, _, e, _⟩ => e) ?_ ?_ rfl PassesOwn.never)
    · rintro i z hz' σ H1 ⟨a, rfl, e1, L1⟩ u H2 e2 du
      refine wG_name 3 scLfi.nd ?_
      have hz1 := rng_get hz'
      have hi : i < y.length := by
        have := (List.getElem?_eq_some_iff.mp hz').1
        rw [rng_length] at this
        exact this
      obtain rfl : z = (i : Int) := by omega
      obtain rfl := du.int
      have e12 := e1.trans e2
      have hgi := getD_get (d := nst) hi
      have lenL : (((List.range i).filter (lfok x y)).map fun (k : Nat) => (k : Int)).length ≤ 1000 := by
        rw [List.length_map]
        have := List.length_filter_le (lfok x y) (List.range i)
        rw [List.length_range] at this
        omega
      have step : ((List.range (i + 1)).filter (lfok x y)).map (fun (k : Nat) => (k : Int)) = ((List.range i).filter (lfok x y)).map (fun (k : Nat) => (k : Int)) ++ (if lfok x y i = true then [(i : Int)] else []) := by
        rw [List.range_succ, List.filter_append, List.map_append]
        cases hq : lfok x y i <;> simp [hq]
      refine wB_one (wS_if (TB.go (t := lfok x y i) (TB.conv (tb_eq (α := List Step) (y := []) (hu64 hr) (tx_lc (f := fun s => s) (pr := fun (s : Step) => !lapart x s.1 (y.getD i nst).1) [("step", 4)] rfl scLfi.nd (blkOk_by (N := ["field", "steps", "found", "k", "step"]) (sc := defScope (top 45)) (by decide +kernel)) ?_ (ti_list (tx_slL (tx_var 1 (d2.ex e12)) to_none (to_some (tx_var 3 hd_int))))
          fun z hz v' H' e' d' => ⟨_, fun s0 H0 C cl fp => ⟨tgt_name 4 scLfi.nd, tbs_one (tb_not (tb_val (tx_own3 N hr1 (t3_mk (tx_var 0 ((d.ex e12).ex e')) (tx_fst (tx_var 4 d')) (tx_fst (tx_ixL (tx_var 1 ((d2.ex e12).ex e')) (tx_var 3 hd_int) (atI_nat hgi)))) trivial))), fun _ => tx_var 4 d'⟩, rfl⟩) (tx_lst tl_nil (by decide))) ?_) fun H3 e3 => ?_))
      · rw [cutX_take, List.length_take]; omega
      · rw [List.map_id', cutX_take]; rfl
      · have e23 := e2.trans e3
        cases hq : lfok x y i with
        | true =>
          rw [if_pos rfl]
          refine wB_one (wS_expr (wE_append 2 (L1.ex e23) (by omega) (tx_var 3 (hd_int (i := (i : Int)))) fun w' H4 e4 L4 => ⟨_, rfl, ?_, by rw [step, hq, if_pos rfl]; exact L4⟩))
          intro c o ho
          have hcl : c ≠ l := fun z => by rw [z, hl] at ho; cases ho
          rw [upd_ne hcl]
          exact e4 c o (e23 c o (e1 c o ho))
        | false =>
          rw [if_neg (by decide)]
          refine wB_nil ⟨_, rfl, e1.trans e23, ?_⟩
          rw [step, hq, if_neg (by decide), List.append_nil]
          exact L1.ex e23
    · rintro σ H1 ⟨a, rfl, e1, L1⟩
      rw [rng_length, show (((y.length : Nat) : Int).toNat) = y.length from rfl] at L1
      exact wB_one (wS_ret (TX.go (tx_var 2 L1.hd) fun u H2 e2 du => k u H2 (e1.trans e2) du))
/-! ### _law_least -/
def lcand (F : Fld) (left : List Step) : List (Str × Int) := (lfirsts F left).map fun p => ((left.getD p.toNat nst).1, p)
def llp (F : Fld) (left : List Step) : Nat := (minC (lcand F left)).toNat
def llGo (F : Fld) : Nat → List Step → List Step
  | 0, _ => []
  | n + 1, left => left.getD (llp F left) nst :: llGo F n (left.take (llp F left) ++ left.drop (llp F left + 1))
def lleast (F : Fld) (st : Tup Step) : Tup Step := Tup.mk (llGo F (lpile F st.items).length (lpile F st.items))
theorem lfirsts_in {F : Fld} {st : List Step} {p : Int} (h : p ∈ lfirsts F st) : ∃ n : Nat, p = n ∧ n < st.length := by
  obtain ⟨n, hn, rfl⟩ := List.mem_map.mp h
  exact ⟨n, rfl, List.mem_range.mp (List.mem_filter.mp hn).1⟩
theorem lfirsts_ne {F : Fld} {s : Step} {st : List Step} : lfirsts F (s :: st) ≠ [] := by
  have : (0 : Int) ∈ lfirsts F (s :: st) := List.mem_map.mpr ⟨0, List.mem_filter.mpr ⟨List.mem_range.mpr (by simp), rfl⟩, rfl⟩
  intro z
  rw [z] at this
  cases this
theorem llp_ok {F : Fld} {s : Step} {st : List Step} : ∃ z zs, lcand F (s :: st) = z :: zs ∧ (minOf z zs).2 = (llp F (s :: st) : Int) ∧ llp F (s :: st) < (s :: st).length := by
  cases e : lcand F (s :: st) with
  | nil => exact absurd (List.map_eq_nil_iff.mp e) lfirsts_ne
  | cons z zs =>
    have hm : minOf z zs ∈ lcand F (s :: st) := by rw [e]; exact minOf_mem zs z
    obtain ⟨p, hp, hq⟩ := List.mem_map.mp hm
    obtain ⟨n, rfl, hn⟩ := lfirsts_in hp
    have e2 : (minOf z zs).2 = (n : Int) := by rw [← hq]
    have e3 : llp F (s :: st) = n := by
      unfold llp
      rw [e]
      show ((minOf z zs).2).toNat = n
      rw [e2]; rfl
    exact ⟨z, zs, rfl, by rw [e2, e3], by rw [e3]; exact hn⟩
theorem lpile_len (F : Fld) : ∀ (n : Nat) (st : List Step), (lpileGo F n st).length ≤ st.length
  | 0, st => Nat.le_refl _
  | n + 1, st => by
    unfold lpileGo
    split
    · exact Nat.le_refl _
    · rename_i a b hm
      obtain ⟨h1, h2, _⟩ := lmeet_lt hm
      have := ljoin_lt h1 h2
      have := lpile_len F n (ljoin st a b)
      omega
theorem scLle : FnScope ["field", "steps", "left", "found", "k", "far"] ["field", "steps"] (defScope (top 46)) := ⟨rfl, rfl, rfl, by decide +kernel, rfl, by decide +kernel, by decide +kernel⟩
theorem ok_lleast {f : Addr} {fd : FuncData} (F : Fun K "_law_least" "_law_least" (top 46) f fd) (B : Bn mg) (N : Own P w K mg base 3 "_law_pile" ["field", "steps"] (Pu2 K (fun (_ : Fld) (st : Tup Step) => st.items.length ≤ 1000) fun F st => lpile F st.items))
    (M : Own P w K mg base 2 "_law_firsts" ["field", "steps"] (Pu2 K (fun (_ : Fld) (st : List Step) => st.length ≤ 1000) lfirsts)) :
    FnOk P w K mg base CX0 4 f fd ["field", "steps"] (Pu2 K (fun (_ : Fld) (st : Tup Step) => st.items.length ≤ 1000) lleast) := by
  refine F.ok scLle (fun vs H Q E h => ?_) (fun cdv A outer s H vs Q E hr h => ?_)
  · obtain ⟨v, v', x, y, rfl, _⟩ := h
    rfl
  · obtain ⟨v, v', x, y, rfl, d, d2, hz, k⟩ := h
    have hr3 : Room 3 _ := hr
    have hr2 : Room 2 _ := hr3.mono (by decide)
    refine ⟨_, pB, ?_⟩
    have hpl : (lpile x y.items).length ≤ 1000 := Nat.le_trans (lpile_len x _ _) hz
    refine wB_cons (wS_two 2 3 rfl scLle.nd (wE_tup2 (TX.go (tx_own2 N hr3 (t2_mk (tx_var 0 d) (tx_var 1 d2)) hz) fun vl H1 e1 dl => TX.go (α := Tup Step) (tx_tup tl_nil (by decide)) fun vf H2 e2 df q hq => ⟨q, vl, vf, rfl, SqT.of upd_same, ?_⟩)))
    have e3 := Ex.new (o := HO.tup [vl, vf]) hq
    refine wB_cons (wS_while (fun m σ H' => ∃ left found vl vf a, m = left.length ∧ σ = [some v, some v', some vl, some vf, a, none] ∧ Ex H H' ∧ Hd K H' vl left ∧ Hd K H' vf (Tup.mk found) ∧ found.length + left.length ≤ 1000 ∧ found ++ llGo x left.length left = (lleast x y).items)
      ⟨_, _, [], vl, vf, none, rfl, rfl, (e1.trans e2).trans e3, (dl.ex e2).ex e3, df.ex e3, by simpa using hpl, rfl⟩ PassesOwn.never fun m σ H4 hW => ?_)
    obtain ⟨left, found, vl, vf, a, rfl, rfl, e4, dl4, df4, hz4, heq⟩ := hW
    cases left with
    | nil =>
      refine TB.go (t := false) (TB.conv (tb_ne (hu64 hr) (tx_var 2 dl4) (tx_lst tl_nil (by decide))) (by decide)) fun H5 e5 => ?_
      rw [if_neg (by decide)]
      refine wB_one (wS_ret (TX.go (tx_var 3 (df4.ex e5)) fun u H6 e6 du => k u H6 ((e4.trans e5).trans e6) ?_))
      have z : lleast x y = Tup.mk found := by
        have : (lleast x y).items = found := by
          rw [← heq]
          show found ++ [] = _
          rw [List.append_nil]
        rw [← this]
      rw [z]; exact du
    | cons s0 r0 =>
      refine TB.go (t := true) (TB.conv (tb_ne (hu64 hr) (tx_var 2 dl4) (tx_lst tl_nil (by decide))) (decide_eq_true (by simp))) fun H5 e5 => ?_
      rw [if_pos rfl]
      obtain ⟨z, zs, hc, hmin, hlt⟩ := llp_ok (F := x) (s := s0) (st := r0)
      have L5 := dl4.ex e5
      have d5 := d.ex (e4.trans e5)
      have hlen : (s0 :: r0).length ≤ 1000 := by omega
      refine wB_cons (wS_set (i := 4) scLle.nd rfl (TX.go (x := ((llp x (s0 :: r0) : Nat) : Int)) (TX.conv (tx_snd (tx_minL (z := z) (zs := zs) (hu65 hr) rfl B.min (TX.conv (tx_lc (f := fun p : Int => (((s0 :: r0).getD p.toNat nst).1, p)) [("far", 5)] rfl scLle.nd (blkOk_by (N := ["field", "steps", "left", "found", "k", "far"]) (sc := defScope (top 46)) (by decide +kernel)) ?_ (ti_list (tx_own2 M hr2 (t2_mk (tx_var 0 d5) (tx_var 2 L5)) hlen)) fun p hp v' H' e' d' => ⟨_, fun s0 H0 C cl fp => ⟨tgt_name 5 scLle.nd, tbs_nil, fun _ => ?_⟩, rfl⟩) ?_))) hmin) fun pv H6 e6 dp => ?_))
      · unfold lfirsts
        rw [List.length_map]
        have := List.length_filter_le (lfok x (s0 :: r0)) (List.range (s0 :: r0).length)
        rw [List.length_range] at this
        omega
      · obtain ⟨n, rfl, hn⟩ := lfirsts_in hp
        exact tx_pair (t2_mk (tx_fst (tx_ixL (tx_var 2 (L5.ex e')) (tx_var 5 d') (atI_nat (getD_get hn)))) (tx_var 5 d'))
      · rw [← hc]
        unfold lcand
        rw [show (lfirsts x (s0 :: r0)).filter (fun _ => true) = lfirsts x (s0 :: r0) from List.filter_eq_self.mpr fun _ _ => rfl]
      · obtain rfl := dp.int
        have L6 := L5.ex e6
        have df6 := (df4.ex e5).ex e6
        have hx := atI_nat (getD_get (d := nst) hlt)
        have lenE : ((s0 :: r0).take (llp x (s0 :: r0)) ++ (s0 :: r0).drop (llp x (s0 :: r0) + 1)).length = (s0 :: r0).length - 1 := cut1_len hlt
        have hcut : cutX (s0 :: r0) none (some ((llp x (s0 :: r0) : Nat) : Int)) ++ cutX (s0 :: r0) (some (((llp x (s0 :: r0) : Nat) : Int) + 1)) none = (s0 :: r0).take (llp x (s0 :: r0)) ++ (s0 :: r0).drop (llp x (s0 :: r0) + 1) := by
          rw [cutX_take, show ((llp x (s0 :: r0) : Nat) : Int) + 1 = ((llp x (s0 :: r0) + 1 : Nat) : Int) by omega, cutX_drop]
        have hsz := congrArg List.length hcut
        rw [List.length_append, lenE] at hsz
        refine wB_one (wS_two 3 2 rfl scLle.nd (wE_tup2 (TX.go (tx_catT (by rw [List.length_singleton]; omega) (tx_var 3 df6) (tx_tup (tl_cons (tx_ixL (tx_var 2 L6) (tx_var 4 hd_int) hx) tl_nil) (by show 1 ≤ 100000; decide))) fun vf' H7 e7 df' =>
          TX.go (TX.conv (tx_catL ?_ (tx_slL (tx_var 2 (L6.ex e7)) to_none (to_some (tx_var 4 hd_int))) (tx_slL (tx_var 2 (L6.ex e7)) (to_some (tx_add (tx_var 4 hd_int) tx_int)) to_none)) hcut) fun vl' H8 e8 dl' q hq => ⟨q, vf', vl', rfl, SqT.of upd_same, ?_⟩)))
        · omega
        · have e9 := Ex.new (o := HO.tup [vf', vl']) hq
          refine ⟨_, ?_, _, _, _, _, _, rfl, rfl, ((((e4.trans e5).trans e6).trans e7).trans e8).trans e9, dl'.ex e9, (df'.ex e8).ex e9, ?_, ?_⟩
          · rw [lenE]; simp
          · rw [List.length_append, List.length_singleton, lenE]
            have : (s0 :: r0).length = r0.length + 1 := rfl
            omega
          · rw [← heq, lenE, List.append_assoc]
            rfl
end
end K95
/-! KT7: heaps that agree but for some places and the code tables; dicts with text keys. -/
namespace K95
open PySem PySem.Spec PySem.Calls PySem.W PyProof.Rows L2 Evl
/-- H' is as H, but for the places in S and the code tables -/
def Kp (S : List Addr) (H H' : Hp) : Prop := ∀ b o, b ∉ S → (∀ ps, o ≠ .tbl ps) → H b = some o → H' b = some o
section
variable {S T : List Addr} {H H1 H2 : Hp} {l : Addr} {o : HO}
theorem Kp.refl : Kp S H H := fun _ _ _ _ e => e
theorem Kp.of_but (h : But S H H1) : Kp S H H1 := fun b o hb _ e => h b o hb e
theorem Kp.of_ex (h : Ex H H1) : Kp S H H1 := fun b o _ _ e => h b o e
theorem Kp.trans (h : Kp S H H1) (k : Kp S H1 H2) : Kp S H H2 := fun b o hb ht e => k b o hb ht (h b o hb ht e)
theorem Kp.mono (h : Kp S H H1) (k : ∀ b ∈ S, b ∈ T) : Kp T H H1 := fun b o hb e => h b o (fun z => hb (k b z)) e
theorem Kp.upd (h : Kp S H H1) (hl : l ∈ S) : Kp S H (L2.upd H1 l o) := fun b u hb ht e => by
  rw [upd_ne (fun z => hb (by rw [z]; exact hl))]
  exact h b u hb ht e
/-- a place that H does not know may be in S or not -/
theorem Kp.less (h : Kp (l :: S) H H1) (n : H l = none) : Kp S H H1 := fun b u hb ht e => h b u (fun z => by
  rcases List.mem_cons.mp z with z | z
  · rw [z, n] at e; cases e
  · exact hb z) ht e
end
section
variable {K : Frag} {S : List Addr} {H H1 H2 : Hp} {α : Type} [DecidableEq α] [Datum α] {v : V} {x : α} {vs : List V} {xs : List α} {l : Addr}
theorem sqt_kp (h : Kp S H H1) (hS : NoTup S H) : ∀ a us, SqT K H a us → SqT K H1 a us := fun a us q => by
  rcases q with q | q
  · rcases q with q | ⟨o, q⟩
    · exact .inl (.inl (h a _ (fun z => (hS a z us).1 q) (fun ps z => by cases z) q))
    · exact .inl (.inr ⟨o, h a _ (fun z => (hS a z us).2 o q) (fun ps z => by cases z) q⟩)
  · exact .inr q
theorem Hd.kp [Imm α] (d : Hd K H v x) (h : Kp S H H1) (n : NoTup S H) : Hd K H1 v x := d.keepT (sqt_kp h n)
theorem HdAll.kp [Imm α] (d : HdAll K H vs xs) (h : Kp S H H1) (n : NoTup S H) : HdAll K H1 vs xs := d.keepT (sqt_kp h n)
theorem LAt.kp [Imm α] (h : LAt K H l xs) (k : Kp S H H1) (n : NoTup S H) (hl : l ∉ S) : LAt K H1 l xs := by obtain ⟨us, h1, h2⟩ := h.at_; exact ⟨us, k _ _ hl (fun ps z => by cases z) h1, h2.kp k n⟩
/-- a list that only tuples' facts lean on: at any heap that keeps it and the tuples -/
theorem NoTup.cons {l : Addr} (h : ∀ us, H l ≠ some (.tup us) ∧ ∀ o, H l ≠ some (.frz o (.tup us))) (k : NoTup S H) : NoTup (l :: S) H := fun b hb => by
  rcases List.mem_cons.mp hb with z | z
  · subst z; exact h
  · exact k b z
theorem NoTup.nil : NoTup [] H := fun b hb => nomatch hb
theorem notup_lst {us : List V} (h : H l = some (.lst us)) : ∀ ws, H l ≠ some (.tup ws) ∧ ∀ o, H l ≠ some (.frz o (.tup ws)) := fun ws => ⟨fun z => (by rw [h] at z; cases z), fun o z => (by rw [h] at z; cases z)⟩
theorem notup_dK {us : List (Key × V)} (h : H l = some (.dK us)) : ∀ ws, H l ≠ some (.tup ws) ∧ ∀ o, H l ≠ some (.frz o (.tup ws)) := fun ws => ⟨fun z => (by rw [h] at z; cases z), fun o z => (by rw [h] at z; cases z)⟩
theorem notup_ins {C dx : Addr} {fs : List (Str × V)} (h : H l = some (.ins C dx fs)) : ∀ ws, H l ≠ some (.tup ws) ∧ ∀ o, H l ≠ some (.frz o (.tup ws)) := fun ws => ⟨fun z => (by rw [h] at z; cases z), fun o z => (by rw [h] at z; cases z)⟩
end
section
variable {X : Cx} {σ : L2.St} {H : Hp} {e o i : Expr} {a : Addr} {kvs : List (Key × V)} {k : Str} {v : V} {p p1 p2 pos : Pos} {j : Nat} {Q : VK} {D : Ends}
/-- d["k"] -/
theorem wE_dget (hu : X.A.units + 1 < cLine) (ho : wE X o σ H fun x H1 => ∃ a kvs v, x = .ref a ∧ H1 a = some (.dK kvs) ∧ valV kvs (.inr k) = some v ∧ Q v H1) (hs : NoSl (.Constant (.str k) j p1) := by intro _ _; rfl) : wE X (.Subscript o (.Constant (.str k) j p1) p) σ H Q :=
  wE_of (pe_dget hu pE pe_str hs) (wE_mono ho fun x H1 ⟨a, kvs, v, ex, h1, h2, q⟩ => ⟨a, v, ex, by have := DGet.k (k := Sum.inr k) h1; rw [h2] at this; exact this, q⟩)
/-- d["k"] = e -/
theorem wS_dput (hu : X.A.units + 1 < cLine) (he : wE X e σ H fun v H1 => wE X o σ H1 fun x H2 => ∃ a kvs, x = .ref a ∧ H2 a = some (.dK kvs) ∧ kvs.length ≤ 100 ∧ D.nx σ (upd H2 a (.dK (putK kvs (.inr k) v))))
    (hs : swapsWith e (some (.Subscript o (.Constant (.str k) j p1) p)) pos.line X.env = pure false := by rfl) : wS X (.Assign [.Subscript o (.Constant (.str k) j p1) p] e pos) D σ H :=
  wS_of (ps_dput hu pE pe_str pE hs) (wE_mono he fun v H1 q => wE_mono q fun x H2 ⟨a, kvs, ex, h1, hl, q2⟩ => ⟨a, _, ex, DPut.k (k := Sum.inr k) h1 (by rw [sizeLine_eq]; omega), q2⟩)
theorem wE_str {x : Str} (q : Q (.str x) H) : wE X (.Constant (.str x) j p) σ H Q := wE_of pe_str q
theorem wE_int {x : Int} (q : Q (.int x) H) : wE X (.Constant (.int x) j p) σ H Q := wE_of pe_int q
theorem wE_non (q : Q .non H) : wE X (.Constant .none j p) σ H Q := wE_of pe_non q
/-- values of typed expressions -/
theorem wE_tx {α : Type} [DecidableEq α] [Datum α] {x : α} (h : TX X σ H e x) (q : ∀ v H2, Ex H H2 → Hd X.K H2 v x → Q v H2) : wE X e σ H Q := h.go q
end
end K95
namespace K95
open PySem PySem.Spec PySem.Calls PySem.W PyProof.Rows L2 Evl
/-! what the draws lean on -/
abbrev mKvs (cl gl : Addr) (n : Int) : List (Key × V) := [(.inr "cells", .ref cl), (.inr "great", .ref gl), (.inr "spot", .int n)]
/-- its places: the dict, the list of cells, the list of great ones -/
structure Mp where
  am : Addr
  cl : Addr
  gl : Addr
/-- at am: the dict of the draws; r more of them may come -/
structure MS (K : Frag) (H : Hp) (mp : Mp) (r : Nat) : Prop where
  ex : ∃ (cs gs : List Int) (n : Int), H mp.am = some (.dK (mKvs mp.cl mp.gl n)) ∧ LAt K H mp.cl cs ∧ cs.length = 64 ∧ LAt K H mp.gl gs ∧ gs.length ≤ 1000 ∧ 0 ≤ n ∧ n + r ≤ 1000000 ∧ mp.cl ≠ mp.gl
section
variable {K : Frag} {H H1 : Hp} {mp : Mp} {r r' : Nat} {S : List Addr}
theorem MS.less (h : MS K H mp r) (k : r' ≤ r) : MS K H mp r' := by
  obtain ⟨cs, gs, n, h1, h2, h3, h4, h5, h6, h7, h8⟩ := h.ex
  exact ⟨cs, gs, n, h1, h2, h3, h4, h5, h6, by omega, h8⟩
theorem MS.ofEx (h : MS K H mp r) (e : Ex H H1) : MS K H1 mp r := by
  obtain ⟨cs, gs, n, h1, h2, h3, h4, h5, h6, h7, h8⟩ := h.ex
  exact ⟨cs, gs, n, e _ _ h1, h2.ex e, h3, h4.ex e, h5, h6, h7, h8⟩
theorem MS.kp (h : MS K H mp r) (k : Kp S H H1) (n : NoTup S H) (h1 : mp.am ∉ S) (h2 : mp.cl ∉ S) (h3 : mp.gl ∉ S) : MS K H1 mp r := by
  obtain ⟨cs, gs, m, a1, a2, a3, a4, a5, a6, a7, a8⟩ := h.ex
  exact ⟨cs, gs, m, k _ _ h1 (fun ps z => by cases z) a1, a2.kp k n h2, a3, a4.kp k n h3, a5, a6, a7, a8⟩
theorem MS.no (h : MS K H mp r) : NoTup [mp.am, mp.gl] H := by
  obtain ⟨cs, gs, m, a1, a2, a3, a4, a5, a6, a7, a8⟩ := h.ex
  obtain ⟨us, hus, _⟩ := a4.at_
  exact NoTup.cons (notup_dK a1) (NoTup.cons (notup_lst hus) NoTup.nil)
end
section
variable {P : Program} {w : World} {K : Frag} {mg : Str → Option Value} {base : Heap}
theorem kSC : ¬ ((Sum.inr "cells" : Key) = .inr "spot") := by decide
theorem valM1 {cl gl : Addr} {n : Int} : valV (mKvs cl gl n) (.inr "spot") = some (.int n) := rfl
theorem valM2 {cl gl : Addr} {n : Int} : valV (mKvs cl gl n) (.inr "great") = some (.ref gl) := rfl
theorem valM3 {cl gl : Addr} {n : Int} : valV (mKvs cl gl n) (.inr "cells") = some (.ref cl) := rfl
theorem putM1 {cl gl : Addr} {n n' : Int} : putK (mKvs cl gl n) (.inr "spot") (.int n') = mKvs cl gl n' := rfl
/-- a draw below lim -/
def spDraw (K : Frag) : Sp := fun vs H Q _ => ∃ (mp : Mp) (lim : Int) (r : Nat), vs = [.ref mp.am, .int lim] ∧ 1 ≤ lim ∧ lim ≤ 1000 ∧ MS K H mp (r + 1) ∧ ∀ (H' : Hp) (d : Int), But [mp.am, mp.gl] H H' → MS K H' mp r → 0 ≤ d → d < lim → Q (.int d) H'
theorem scDraw : FnScope ["m", "limit", "n", "lot", "here", "cell"] ["m", "limit"] (defScope (top 38)) := ⟨rfl, rfl, rfl, by decide +kernel, rfl, by decide +kernel, by decide +kernel⟩
theorem hu1 {k : Nat} {A : Around} (hr : Room k A) : A.units + 1 < cLine := by have := hr.un; omega
theorem ok_draw {f : Addr} {fd : FuncData} (F : Fun K "_law_draw" "_law_draw" (top 38) f fd) (B : Bn mg) (N : Own P w K mg base 1 "_law_mixed" ["cell", "n"] (Pu2 K (fun _ (n : Int) => 0 ≤ n ∧ n ≤ 1000000000) mixF)) :
    FnOk P w K mg base CX0 2 f fd ["m", "limit"] (spDraw K) := by
  refine F.ok scDraw (fun vs H Q E h => ?_) (fun cdv A outer s H vs Q E hr h => ?_)
  · obtain ⟨mp, lim, r, rfl, _⟩ := h
    rfl
  · obtain ⟨⟨am, cl, gl⟩, lim, r, rfl, hl1, hl2, hM, k⟩ := h
    obtain ⟨cs, gs, n, h1, h2, h3, h4, h5, h6, h7, h8⟩ := hM.ex
    dsimp only at h1 h2 h4 h8 k ⊢
    have hr1 : Room 1 _ := hr
    have hu := hu1 hr
    refine ⟨_, pB, ?_⟩
    -- n = m["spot"]; m["spot"] = n + 1
    refine wB_cons (wS_set (i := 2) scDraw.nd rfl (wE_dget hu (wE_var 0 rfl rfl ⟨am, _, _, rfl, h1, valM1, ?_⟩)))
    refine wB_cons (wS_dput hu (TX.go (tx_add (tx_var 2 (hd_int (i := n))) tx_int) fun v1 H1 e1 d1 => wE_var 0 rfl rfl ⟨am, _, rfl, e1 _ _ h1, by show 3 ≤ 100; decide, ?_⟩))
    obtain rfl := d1.int
    rw [putM1]
    obtain ⟨us, hus, hA⟩ := h4.at_
    have n1 : gl ≠ am := fun z => by rw [z, h1] at hus; cases hus
    have n2 : cl ≠ am := fun z => by obtain ⟨us, hus, _⟩ := h2.at_; rw [z, h1] at hus; cases hus
    have b1 : But [am] H1 (upd H1 am (.dK (mKvs cl gl (n + 1)))) := But.refl.upd (List.mem_singleton.mpr rfl)
    have nt : NoTup [am] H1 := NoTup.cons (notup_dK (e1 _ _ h1)) NoTup.nil
    have a1 : (upd H1 am (.dK (mKvs cl gl (n + 1)))) am = some (.dK (mKvs cl gl (n + 1))) := upd_same
    have c1 := (h2.ex e1).but b1 nt (by simpa using n2)
    have g1 := (h4.ex e1).but b1 nt (by simpa using n1)
    have bH : But [am, gl] H (upd H1 am (.dK (mKvs cl gl (n + 1)))) := (But.of_ex e1).upd List.mem_cons_self
    generalize upd H1 am (.dK (mKvs cl gl (n + 1))) = G at *
    -- what the last lines do
    refine wB_mid (fun σ2 H2 => ∃ a b c, σ2 = [some (.ref am), some (.int lim), some (.int n), a, b, c] ∧ Ex G H2) (wS_if (TB.go (TB.conv (tb_ne (α := List Int) (hu64 hr) (fun H3 e3 Q q => wE_dget hu (wE_var 0 rfl rfl ⟨am, _, _, rfl, e3 _ _ a1, valM2, q _ H3 (Ex.refl _) (g1.ex e3).hd⟩)) (tx_lst tl_nil (by decide))) rfl) fun H2 e2 => ?_)) ?_
    · by_cases hgs : gs = []
      · rw [if_neg (by rw [decide_eq_true_iff]; exact fun z => z hgs)]
        exact wB_nil ⟨none, none, none, rfl, e2⟩
      · rw [if_pos (decide_eq_true hgs)]
        have hpos : 0 < gs.length := List.length_pos_iff.mpr hgs
        refine wB_cons (wS_set (i := 3) scDraw.nd rfl (wE_dget hu (wE_var 0 rfl rfl ⟨am, _, _, rfl, e2 _ _ a1, valM2, ?_⟩)))
        have g2 := g1.ex e2
        refine wB_cons (wS_set (i := 4) scDraw.nd rfl (TX.go (tx_mod (tx_int' B.int (tx_var 2 (hd_int (i := n)))) (tx_lenL B.len (tx_var 3 g2.hd)) (by omega)) fun v3 H3 e3 d3 => ?_))
        obtain rfl := d3.int
        obtain ⟨j, hj, hjl⟩ : ∃ j : Nat, n % ((gs.length : Nat) : Int) = j ∧ j < gs.length := by
          have a := Int.emod_nonneg n (show ((gs.length : Nat) : Int) ≠ 0 by omega)
          have b := Int.emod_lt_of_pos n (show (0 : Int) < ((gs.length : Nat) : Int) by omega)
          exact ⟨(n % ((gs.length : Nat) : Int)).toNat, by omega, by omega⟩
        have hx := getD_get (d := (0 : Int)) hjl
        refine wB_cons (wS_set (i := 5) scDraw.nd rfl (TX.go (tx_ixL (i := n % ((gs.length : Nat) : Int)) (tx_var 3 (g2.ex e3).hd) (tx_var 4 hd_int) (by rw [hj]; exact atI_nat hx)) fun v4 H4 e4 d4 => ?_))
        obtain rfl := d4.int
        refine wB_one (wS_if (TB.go (tb_gt (tx_var 5 (hd_int (i := gs.getD j 0))) tx_int) fun H5 e5 => ?_))
        have e25 := ((e2.trans e3).trans e4).trans e5
        by_cases hc : 0 < gs.getD j 0
        · rw [if_pos (decide_eq_true hc)]
          have g5 := g1.ex e25
          refine wB_cons (wS_setIx 3 (k := n % ((gs.length : Nat) : Int)) (m := j) g5 (tx_fdiv (tx_var 5 (hd_int (i := gs.getD j 0))) (tx_var 1 (hd_int (i := lim))) ⟨by omega, by omega⟩) (tx_var 4 hd_int) hj hjl fun v6 H6 e6 L6 => ?_)
          refine wB_one (wS_ret (TX.go (tx_mod (tx_int' B.int (tx_var 5 (hd_int (i := gs.getD j 0)))) (tx_var 1 (hd_int (i := lim))) (by omega)) fun v7 H7 e7 d7 => ?_))
          obtain rfl := d7.int
          have e26 := e25.trans e6
          have bG : But [gl] H6 (upd H6 gl v6) := But.refl.upd (List.mem_singleton.mpr rfl)
          have cl6 : LAt K (upd H6 gl v6) cl cs := (c1.ex e26).but bG (g1.ex e26).no (by simpa using h8)
          refine k H7 _ ?_ ⟨cs, _, n + 1, e7 _ _ (by rw [upd_ne n1.symm]; exact e26 _ _ a1), cl6.ex e7, h3, L6.ex e7, by rw [List.length_set]; exact h5, by omega, by omega, h8⟩ (Int.emod_nonneg _ (by omega)) (Int.emod_lt_of_pos _ (by omega))
          exact (bH.trans ((But.of_ex e26).upd (by simp))).trans (But.of_ex e7)
        · rw [if_neg (by rw [decide_eq_true_iff]; exact hc)]
          exact wB_nil ⟨_, _, _, rfl, e25⟩
    · rintro σ2 H2 ⟨a, b, c, rfl, e2⟩
      refine wB_cons (wS_set (i := 3) scDraw.nd rfl (wE_dget hu (wE_var 0 rfl rfl ⟨am, _, _, rfl, e2 _ _ a1, valM3, ?_⟩)))
      have c2 := c1.ex e2
      obtain ⟨j, hj, hjl⟩ : ∃ j : Nat, n % 64 = j ∧ j < cs.length := ⟨(n % 64).toNat, by omega, by omega⟩
      have hx := getD_get (d := (0 : Int)) hjl
      refine wB_one (wS_ret (TX.go (tx_mod (tx_int' B.int (tx_own2 N hr1 (t2_mk (tx_own2 N hr1 (t2_mk (tx_add (tx_ixL (i := n % 64) (tx_var 3 c2.hd) (tx_mod (tx_int' B.int (tx_var 2 (hd_int (i := n)))) tx_int (by decide)) (by rw [hj]; exact atI_nat hx)) (tx_mul tx_int (tx_fdiv (tx_var 2 (hd_int (i := n))) tx_int ⟨by decide, by decide⟩) (mulR (by omega) (by omega)))) (tx_var 2 (hd_int (i := n)))) ⟨h6, by omega⟩) (tx_add (tx_var 2 (hd_int (i := n))) tx_int)) ⟨by omega, by omega⟩)) (tx_var 1 (hd_int (i := lim))) (by omega)) fun v3 H3 e3 d3 => ?_))
      obtain rfl := d3.int
      have e23 := e2.trans e3
      exact k H3 _ (bH.trans (But.of_ex e23)) ⟨cs, gs, n + 1, e23 _ _ a1, c1.ex e23, h3, g1.ex e23, h5, by omega, by omega, h8⟩ (Int.emod_nonneg _ (by omega)) (Int.emod_lt_of_pos _ (by omega))
end
end K95
namespace K95
open PySem PySem.Spec PySem.Calls PySem.W PyProof.Rows L2 Evl
section
variable {X : Cx} {σ : L2.St} {H : Hp} {e a b c d : Expr} {p p1 p2 p3 p4 pos : Pos} {j1 j2 j3 j4 : Nat} {Q : VK} {D : Ends} {k1 k2 k3 k4 : Str} {i m : Int}
theorem tx_pow (ha : TX X σ H a i) (hb : TX X σ H b m) (h : CPow i m) : TX X σ H (.BinOp a .Pow b p) (i ^ m.toNat) := tx_opR op_pow ha hb fun H1 v w k d1 d2 Q q => ⟨i, m, d1.int, d2.int, h, q _ H1 (Ex.refl _) hd_int⟩
/-- {k1: a, k2: b, k3: c} -/
theorem wE_disp3 (h : ∀ q, H q = none → wE X a σ (upd H q (.dK [])) fun x H1 => wE X b σ H1 fun y H2 => wE X c σ H2 fun z H3 => H3 q = some (.dK []) ∧ Q (.ref q) (upd H3 q (.dK (mergeK [] [(.inr k1, x), (.inr k2, y), (.inr k3, z)])))) :
    wE X (.Dict [some (.Constant (.str k1) j1 p1), some (.Constant (.str k2) j2 p2), some (.Constant (.str k3) j3 p3)] [a, b, c] pos) σ H Q :=
  wE_of (pe_disp (pps_cons pe_str pE (pps_cons pe_str pE (pps_cons pe_str pE pps_nil))) rfl rfl (by simp) (by show 3 ≤ 15; decide)) fun q hq => wE_mono (h q hq) fun x H1 q1 => wE_mono q1 fun y H2 q2 => wE_mono q2 fun z H3 ⟨hz, q3⟩ => ⟨hz, _, rfl, by show 3 ≤ 15; decide, q3⟩
theorem wE_disp4 (h : ∀ q, H q = none → wE X a σ (upd H q (.dK [])) fun x H1 => wE X b σ H1 fun y H2 => wE X c σ H2 fun z H3 => wE X d σ H3 fun u H4 => H4 q = some (.dK []) ∧ Q (.ref q) (upd H4 q (.dK (mergeK [] [(.inr k1, x), (.inr k2, y), (.inr k3, z), (.inr k4, u)])))) :
    wE X (.Dict [some (.Constant (.str k1) j1 p1), some (.Constant (.str k2) j2 p2), some (.Constant (.str k3) j3 p3), some (.Constant (.str k4) j4 p4)] [a, b, c, d] pos) σ H Q :=
  wE_of (pe_disp (pps_cons pe_str pE (pps_cons pe_str pE (pps_cons pe_str pE (pps_cons pe_str pE pps_nil)))) rfl rfl (by simp) (by show 4 ≤ 15; decide)) fun q hq => wE_mono (h q hq) fun x H1 q1 => wE_mono q1 fun y H2 q2 => wE_mono q2 fun z H3 q3 => wE_mono q3 fun u H4 ⟨hz, q4⟩ => ⟨hz, _, rfl, by show 4 ≤ 15; decide, q4⟩
end
section
variable {P : Program} {w : World} {K : Frag} {mg : Str → Option Value} {base : Heap}
/-! ### _law_begun -/
def spBegun (K : Frag) : Sp := fun vs H Q _ => ∃ (v : V) (ns : List Int), vs = [v] ∧ Hd K H v ns ∧ ns.length ≤ 1000 ∧ ∀ (mp : Mp) (H' : Hp), Ex H H' → H mp.am = none → H mp.cl = none → H mp.gl = none → MS K H' mp 1000000 → Q (.ref mp.am) H'
theorem scBegun : FnScope ["script", "m", "cell"] ["script"] (defScope (top 39)) := ⟨rfl, rfl, rfl, by decide +kernel, rfl, by decide +kernel, by decide +kernel⟩
theorem ok_begun {f : Addr} {fd : FuncData} (F : Fun K "_law_begun" "_law_begun" (top 39) f fd) (B : Bn mg) (N : Own P w K mg base 1 "_law_folded" ["script"] (spFold K)) : FnOk P w K mg base CX0 2 f fd ["script"] (spBegun K) := by
  refine F.ok scBegun (fun vs H Q E h => ?_) (fun cdv A outer s H vs Q E hr h => ?_)
  · obtain ⟨v, ns, rfl, _⟩ := h
    rfl
  · obtain ⟨v, ns, rfl, d, hz, k⟩ := h
    have hr1 : Room 1 _ := hr
    have hu := hu1 hr
    refine ⟨_, pB, ?_⟩
    refine wB_cons (wS_set (i := 1) scBegun.nd rfl (wE_disp3 fun q hq => wE_own N hr1 (t1_mk (tx_var 0 (d.ex (Ex.new hq))) rfl _ (Ex.refl _) _ fun v1 H1 e1 d1 => ⟨v1, ns, rfl, d1, hz, fun cl H2 cs e2 hcl Lc hcs => wE_lst0 fun l0 hl0 => wE_int ⟨?_, ?_⟩⟩)))
    · rw [upd_ne (fun z => by rw [← z] at hl0; have := e2 _ _ (e1 _ _ (upd_same (H := H) (a := q) (o := HO.dK []))); rw [this] at hl0; cases hl0)]
      exact e2 _ _ (e1 _ _ upd_same)
    · have hcl0 : upd H q (.dK []) cl = none := fresh_back e1 hcl
      have ncq : cl ≠ q := fun z => by rw [z, upd_same] at hcl0; cases hcl0
      have nlq : l0 ≠ q := fun z => by
        have := e2 _ _ (e1 _ _ (upd_same (H := H) (a := q) (o := HO.dK [])))
        rw [← z, hl0] at this; cases this
      have ncl : cl ≠ l0 := fun z => by obtain ⟨us, hus, _⟩ := Lc.at_; rw [z, hl0] at hus; cases hus
      have Lc1 : LAt K (upd H2 l0 (.lst [])) cl cs := Lc.ex (Ex.new hl0)
      have b2 : But [q] (upd H2 l0 (.lst [])) (upd (upd H2 l0 (.lst [])) q (.dK (mKvs cl l0 0))) := But.refl.upd (List.mem_singleton.mpr rfl)
      have hq2 : upd H2 l0 (.lst []) q = some (.dK []) := by rw [upd_ne nlq.symm]; exact e2 _ _ (e1 _ _ upd_same)
      have Lc2 := Lc1.but b2 (NoTup.cons (notup_dK hq2) NoTup.nil) (by simpa using ncq)
      have eG : Ex H (upd (upd H2 l0 (.lst [])) q (.dK (mKvs cl l0 0))) := fun c o ho => by
        have h1 : c ≠ q := fun z => by rw [z, hq] at ho; cases ho
        rw [upd_ne h1]
        exact Ex.new hl0 _ _ (e2 _ _ (e1 _ _ ((Ex.new hq) _ _ ho)))
      show wB _ _ _ _ (upd (upd H2 l0 (.lst [])) q (.dK (mKvs cl l0 0)))
      have aq : (upd (upd H2 l0 (.lst [])) q (.dK (mKvs cl l0 0))) q = some (.dK (mKvs cl l0 0)) := upd_same
      generalize upd (upd H2 l0 (.lst [])) q (.dK (mKvs cl l0 0)) = G at *
      have hlc : H cl = none := fresh_back (Ex.new hq) hcl0
      -- m["great"] = [..]
      refine wB_cons (wS_dput hu (wE_of (pe_lc (own := [("cell", 2)]) rfl scBegun.nd pI (blkOk_by (N := ["script", "m", "cell"]) (sc := defScope (top 39)) (by decide +kernel)) (fun s H C cl fp => ⟨fun pins sh σ' H' v u Q' I r h => h s H C cl fp pins sh u I r⟩) (fun s H C cl fp => ⟨fun pins sh σ' H' Q' I h => h s H C cl fp pins sh I⟩) (fun s H C cl fp => ⟨fun pins sh σ' H' Q' I h => h s H C cl fp pins sh I⟩))
        (lc_typed (f := fun c : Int => if decide (c ≥ 10 ^ (18 : Int).toNat) = true then c else 0) (pr := fun _ => true) (Nat.le_trans hz (by decide)) (ti_list (tx_var 0 (d.ex eG))) (fun z hz v' H' e' d' => ⟨_, fun s0 H0 C cl fp => ⟨tgt_name 2 scBegun.nd, tbs_nil, fun _ => tx_ifExp (tb_ge (tx_var 2 d') (tx_pow tx_int tx_int ⟨by decide, by decide, by decide⟩)) (fun h => TX.conv (tx_var 2 d') (by rw [if_pos h])) (fun h => TX.conv tx_int (by rw [if_neg (by rw [h]; decide)]))⟩, rfl⟩) (Ex.refl G) fun gl H3 e3 hgl Lg => ?_)) (by rfl))
      refine wE_var 1 rfl rfl ⟨q, _, rfl, e3 _ _ aq, by show 3 ≤ 100; decide, ?_⟩
      show wB _ _ _ _ (upd H3 q (.dK (mKvs cl gl 0)))
      have b3 : But [q] H3 (upd H3 q (.dK (mKvs cl gl 0))) := But.refl.upd (List.mem_singleton.mpr rfl)
      have nt3 : NoTup [q] H3 := NoTup.cons (notup_dK (e3 _ _ aq)) NoTup.nil
      have ngq : gl ≠ q := fun z => by rw [z, aq] at hgl; cases hgl
      have ncg : cl ≠ gl := fun z => by obtain ⟨us, hus, _⟩ := Lc2.at_; rw [z, hgl] at hus; cases hus
      refine wB_one (wS_ret (wE_var 1 rfl rfl (k ⟨q, cl, gl⟩ _ (fun c o ho => ?_) hq hlc (fresh_back eG hgl) ⟨cs, _, 0, upd_same, (Lc2.ex e3).but b3 nt3 (by simpa using ncq), hcs, Lg.but b3 nt3 (by simpa using ngq), ?_, by decide, by decide, ncg⟩)))
      · rw [upd_ne (fun z => by rw [z, hq] at ho; cases ho)]
        exact e3 _ _ (eG _ _ ho)
      · rw [List.length_map]
        exact Nat.le_trans (List.length_filter_le _ _) hz
/-! ### the sheet's state, and the law's own dict of it -/
abbrev Pr := Int × Step
abbrev Now := Tup Pr × Int
structure St2 where
  now : Now
  past : List Now
  later : List Now
abbrev oKvs (vF vN : V) (pa la : Addr) : List (Key × V) := [(.inr "field", vF), (.inr "now", vN), (.inr "past", .ref pa), (.inr "later", .ref la)]
/-- at ao: the law's dict of field F and state S; its lists lie apart from gl -/
structure OwnAt (K : Frag) (H : Hp) (ao gl : Addr) (F : Fld) (S : St2) : Prop where
  ex : ∃ vF vN pa la, H ao = some (.dK (oKvs vF vN pa la)) ∧ Hd K H vF F ∧ Hd K H vN S.now ∧ LAt K H pa S.past ∧ LAt K H la S.later ∧ pa ≠ gl ∧ la ≠ gl
def st0 : St2 := ⟨(Tup.mk [], 0), [], []⟩
def spOwn (K : Frag) : Sp := fun vs H Q _ => ∃ (v : V) (F : Fld), vs = [v] ∧ Hd K H v F ∧ ∀ (ao : Addr) (H' : Hp), Ex H H' → H ao = none → (∀ gl o, H gl = some o → OwnAt K H' ao gl F st0) → Q (.ref ao) H'
theorem scOwn : FnScope ["field"] ["field"] (defScope (top 48)) := ⟨rfl, rfl, rfl, by decide +kernel, rfl, by decide +kernel, by decide +kernel⟩
theorem ok_own {f : Addr} {fd : FuncData} (F : Fun K "_law_own" "_law_own" (top 48) f fd) : FnOk P w K mg base CX0 1 f fd ["field"] (spOwn K) := by
  refine F.ok scOwn (fun vs H Q E h => ?_) (fun cdv A outer s H vs Q E hr h => ?_)
  · obtain ⟨v, x, rfl, _⟩ := h
    rfl
  · obtain ⟨v, x, rfl, d, k⟩ := h
    refine ⟨_, pB, ?_⟩
    refine wB_one (wS_ret (wE_disp4 fun q hq => wE_var 0 rfl rfl (TX.go (α := Now) (tx_pair (t2_mk (tx_tup tl_nil (by decide)) tx_int)) fun vN H1 e1 dN => wE_lst0 fun pa hpa => wE_lst0 fun la hla => ⟨?_, ?_⟩)))
    · have h1 := e1 _ _ (upd_same (H := H) (a := q) (o := HO.dK []))
      exact Ex.new hla _ _ (Ex.new hpa _ _ h1)
    · have h1 := e1 _ _ (upd_same (H := H) (a := q) (o := HO.dK []))
      have npq : pa ≠ q := fun z => by rw [z, h1] at hpa; cases hpa
      have nlq : la ≠ q := fun z => by rw [z, upd_ne npq.symm, h1] at hla; cases hla
      have nlp : la ≠ pa := fun z => by rw [z, upd_same] at hla; cases hla
      have e3 : Ex H1 (upd (upd H1 pa (.lst [])) la (.lst [])) := (Ex.new hpa).trans (Ex.new hla)
      have b3 : But [q] (upd (upd H1 pa (.lst [])) la (.lst [])) (upd (upd (upd H1 pa (.lst [])) la (.lst [])) q (.dK (oKvs v vN pa la))) := But.refl.upd (List.mem_singleton.mpr rfl)
      have nt3 : NoTup [q] (upd (upd H1 pa (.lst [])) la (.lst [])) := NoTup.cons (notup_dK (e3 _ _ h1)) NoTup.nil
      have eH : Ex H H1 := (Ex.new hq).trans e1
      show Q (.ref q) (upd (upd (upd H1 pa (.lst [])) la (.lst [])) q (.dK (oKvs v vN pa la)))
      refine k q _ (fun c o ho => ?_) hq fun gl o hgl => ⟨v, vN, pa, la, upd_same, ((d.ex eH).ex e3).but b3 nt3, (dN.ex e3).but b3 nt3, ?_, ?_, ?_, ?_⟩
      · rw [upd_ne (fun z => by rw [z, hq] at ho; cases ho)]
        exact e3 _ _ (eH _ _ ho)
      · exact LAt.but ⟨[], by rw [upd_ne nlp.symm, upd_same], ha_nil⟩ b3 nt3 (by simpa using npq)
      · exact LAt.but ⟨[], upd_same, ha_nil⟩ b3 nt3 (by simpa using nlq)
      · intro z; rw [z, eH _ _ hgl] at hpa; cases hpa
      · intro z; rw [z, Ex.new hpa _ _ (eH _ _ hgl)] at hla; cases hla
end
end K95
namespace K95
open PySem PySem.Spec PySem.Calls PySem.W PyProof.Rows L2 Evl
section
variable {X : Cx} {σ : L2.St} {H : Hp} {e a b c d : Expr} {p p1 p2 p3 p4 pos : Pos} {Q : VK} {D : Ends} {n : Str}
/-- a + b, by values -/
theorem wE_addI (h : wE X a σ H fun x H1 => ∃ i, x = .int i ∧ wE X b σ H1 fun y H2 => ∃ j, y = .int j ∧ Q (.int (i + j)) H2) : wE X (.BinOp a .Add b p) σ H Q :=
  wE_of (pe_op op_add pE pE) (wE_mono h fun x H1 ⟨i, ex, q⟩ => wE_mono q fun y H2 ⟨j, ey, q2⟩ => ⟨i, j, ex, ey, q2⟩)
theorem wA_one {t : V → Hp → Prop} (h : wE X a σ H fun v H1 => Q v H1) (hs : starEach (a :: []) X.env = (false, eval a X.env) :: starEach [] X.env := by rfl) : wA X [a] σ H fun vs H1 => ∃ v, vs = [v] ∧ Q v H1 :=
  wA_of (pa_cons pE pa_nil hs) (wE_mono h fun v H1 q => ⟨v, rfl, q⟩)
theorem wA_two {Q : V → V → Hp → Prop} (h : wE X a σ H fun v H1 => wE X b σ H1 fun w H2 => Q v w H2) (hs : starEach (a :: [b]) X.env = (false, eval a X.env) :: starEach [b] X.env := by rfl) (hs2 : starEach (b :: []) X.env = (false, eval b X.env) :: starEach [] X.env := by rfl) : wA X [a, b] σ H fun vs H1 => ∃ v w, vs = [v, w] ∧ Q v w H1 :=
  wA_of (pa_cons pE (pa_cons pE pa_nil hs2) hs) (wE_mono h fun v H1 q => wE_mono q fun w H2 q2 => ⟨v, w, rfl, q2⟩)
/-- a draw: m and the bound as they stand -/
theorem wE_draw {k r : Nat} {mp : Mp} {lim : Int} {m : Expr} (N : Own X.prog X.w X.K X.mg X.base 2 "_law_draw" ["m", "limit"] (spDraw X.K)) (hr : Room 2 X.A) (hm : wE X m σ H fun x H1 => x = .ref mp.am ∧ wE X e σ H1 fun y H2 => y = .int lim ∧ 1 ≤ lim ∧ lim ≤ 1000 ∧ MS X.K H2 mp (r + 1) ∧ ∀ (H' : Hp) (d : Int), But [mp.am, mp.gl] H2 H' → MS X.K H' mp r → 0 ≤ d → d < lim → Q (.int d) H')
    (hg : Gl X "_law_draw" := by rfl) (hs : starEach (m :: [e]) X.env = (false, eval m X.env) :: starEach [e] X.env := by rfl) (hs2 : starEach (e :: []) X.env = (false, eval e X.env) :: starEach [] X.env := by rfl) (hpl : (backTo pos (starEach [e] X.env)).any (·.1) = false := by rfl) : wE X (.Call (.Name "_law_draw" p) [m, e] [] pos) σ H Q :=
  wE_own N hr (wA_of (pa_cons pE (pa_cons pE pa_nil hs2) hs) (wE_mono hm fun x H1 ⟨ex, q⟩ => wE_mono q fun y H2 ⟨ey, q1, q2, q3, q4⟩ => ⟨mp, lim, r, by rw [ex, ey], q1, q2, q3, q4⟩)) hg (by decide) hs hpl
end
theorem wE_catL {α : Type} [DecidableEq α] [Datum α] {xs ys : List α} (hz : xs.length + ys.length ≤ 100000) (ha : TX X σ H a xs) (hb : TX X σ H b ys) (q : ∀ l H2, Ex H H2 → H l = none → LAt X.K H2 l (xs ++ ys) → Q (.ref l) H2) : wE X (.BinOp a .Add b p) σ H Q :=
  wE_of (pe_op op_catS pE pE) (ha.go fun v H1 k1 d1 => (hb.up k1).go fun w H2 k2 d2 => by
    obtain ⟨l, vs, rfl, h1, h2⟩ := (d1.ex k2).list
    obtain ⟨l', vs', rfl, h3, h4⟩ := d2.list
    exact ⟨l, l', vs, vs', rfl, rfl, h1, h3, by rw [h2.len, h4.len, sizeLine_eq]; omega, fun q' hq => q _ _ ((k1.trans k2).trans (Ex.new hq)) (fresh_back (k1.trans k2) hq) ⟨_, upd_same, ((h2.append h4).ex (Ex.new hq))⟩⟩)
def gU (X : Cx) (scope : Scope) (tg : Expr) : TG := fun v σ H Q => ∀ s0 H0 C cl fp, wG (BL X scope s0 H0 C cl fp) tg v σ H Q
def tU (X : Cx) (scope : Scope) (ifs : List Expr) : TT := fun σ H Q => ∀ s0 H0 C cl fp, wTs (BL X scope s0 H0 C cl fp) ifs σ H Q
def eU (X : Cx) (scope : Scope) (elt : Expr) : TE := fun σ H Q => ∀ s0 H0 C cl fp, wE (BL X scope s0 H0 C cl fp) elt σ H Q
theorem wE_lc {elt tg iter : Expr} {ifs : List Expr} {scope : Scope} (own : List (Str × Nat)) (hc : X.calm = true) (hN : X.N.Nodup) (ok : BlkOk X.N X.env.scope scope own) (h : tLc (wI X tg iter) (gU X scope tg) (tU X scope ifs) (eU X scope elt) (own.map (·.2)) σ H Q)
    (hs : ∀ x, foldedSetIterable iter X.env x = pure x := by intro _; rfl) : wE X (.ListComp elt [⟨tg, iter, ifs, 0⟩] scope pos) σ H Q :=
  wE_of (pe_lc hc hN pI ok (fun s H C cl fp => ⟨fun pins sh σ' H' v u Q' I r h => h s H C cl fp pins sh u I r⟩) (fun s H C cl fp => ⟨fun pins sh σ' H' Q' I h => h s H C cl fp pins sh I⟩) (fun s H C cl fp => ⟨fun pins sh σ' H' Q' I h => h s H C cl fp pins sh I⟩) hs) h
/-- tuple(l) -/
theorem wE_tuple (hm : X.mg "tuple" = none) (h : wE X a σ H fun v H1 => ∃ l ys, v = .ref l ∧ SqL X.K H1 l ys ∧ ∀ q, H1 q = none → Q (.ref q) (upd H1 q (.tup ys))) (hg : Gl X "tuple" := by rfl) (hs : starEach (a :: []) X.env = (false, eval a X.env) :: starEach [] X.env := by rfl) : wE X (.Call (.Name "tuple" p) [a] [] pos) σ H Q :=
  wE_of (pe_callTy call_tuple_of hg hm (by with_unfolding_all rfl) pA (by decide) (by decide) hs rfl) (wA_of (pa_cons pE pa_nil hs) (wE_mono h fun v H1 ⟨l, ys, ev, h1, q⟩ => ⟨l, ys, by rw [ev], .inl ⟨h1, q⟩⟩))
/-! ### the fields that are drawn -/
def LT : List Str := ["a", "b", "c", "d", "e", "f"]
/-- the pairs of the first i names with later ones -/
def prs (ns : List Str) (i : Nat) : List (Str × Str) := ((List.range i).map fun k => (ns.drop (k + 1)).map fun o => (ns.getD k "", o)).flatten
theorem prs_succ (ns : List Str) (i : Nat) : prs ns (i + 1) = prs ns i ++ (ns.drop (i + 1)).map fun o => (ns.getD i "", o) := by
  unfold prs
  rw [List.range_succ, List.map_append, List.flatten_append]
  simp
structure GoodF (F : Fld) : Prop where
  ex : ∃ n, 1 ≤ n ∧ n ≤ 4 ∧ F.1.items = LT.take n ∧ F.2.items.Sublist (prs (LT.take n) n)
def spField (K : Frag) : Sp := fun vs H Q _ => ∃ (mp : Mp) (r : Nat), vs = [.ref mp.am, .int 4] ∧ MS K H mp (r + 20) ∧ ∀ (H' : Hp) (v : V) (F : Fld), But [mp.am, mp.gl] H H' → MS K H' mp r → Hd K H' v F → GoodF F → Q v H'
section
variable {P : Program} {w : World} {K : Frag} {mg : Str → Option Value} {base : Heap}
theorem scFld : FnScope ["m", "most", "names", "some", "k", "other", "pair"] ["m", "most"] (defScope (top 41)) := ⟨rfl, rfl, rfl, by decide +kernel, rfl, by decide +kernel, by decide +kernel⟩
theorem ok_lfield {f : Addr} {fd : FuncData} (F : Fun K "_law_field" "_law_field" (top 41) f fd) (B : Bn mg) (N : Own P w K mg base 2 "_law_draw" ["m", "limit"] (spDraw K)) : FnOk P w K mg base CX0 3 f fd ["m", "most"] (spField K) := by
  refine F.ok scFld (fun vs H Q E h => ?_) (fun cdv A outer s H vs Q E hr h => ?_)
  · obtain ⟨mp, r, rfl, _⟩ := h
    rfl
  · obtain ⟨mp, r, rfl, hM, k⟩ := h
    have hr2 : Room 2 _ := hr
    refine ⟨_, pB, ?_⟩
    -- names, some = (..)[:1 + draw], []
    refine wB_cons (wS_two 2 3 rfl scFld.nd (wE_tup2 (wE_of (pe_slice sl_tupA pE po_none (po_some pE)) (TX.go (x := Tup.mk LT) (tx_tup (tl_cons tx_str (tl_cons tx_str (tl_cons tx_str (tl_cons tx_str (tl_cons tx_str (tl_cons tx_str tl_nil)))))) (by decide)) fun v1 H1 e1 d1 =>
      wE_addI (wE_int ⟨1, rfl, wE_draw (r := r + 19) (mp := mp) (k := 2) N hr2 (wE_var 0 rfl rfl ⟨rfl, wE_var 1 rfl rfl ⟨rfl, by decide, by decide, hM.ofEx e1, fun H2 dd b2 M2 hd0 hd4 => ⟨dd, rfl, 1 + dd, rfl, ?_⟩⟩⟩)⟩)))))
    obtain ⟨l1, vs1, rfl, q1, q2⟩ := d1.tup
    have nt := (hM.ofEx e1).no
    have d2 : HdAll K H2 vs1 LT := q2.but b2 nt
    have q12 : SqT K H2 l1 vs1 := sqt_but b2 nt _ _ q1
    obtain ⟨n, hn, hn4⟩ : ∃ n : Nat, 1 + dd = ((n + 1 : Nat) : Int) ∧ n < 4 := ⟨dd.toNat, by omega, by omega⟩
    have hlen : vs1.length = 6 := d2.len
    refine ⟨l1, vs1, rfl, q12, fun hw => ?_, fun _ l2 hl2 => ?_⟩
    · rw [hn, HT.sIx_none, HT.sIx_nat, hlen] at hw
      omega
    have hcut : cutX LT none (some (1 + dd)) = LT.take (n + 1) := by rw [hn, cutX_take]
    have dN : Hd K (upd H2 l2 (.tup (cutV vs1 none (some (1 + dd))))) (.ref l2) (Tup.mk (LT.take (n + 1))) := by
      rw [← hcut]
      exact hd_tup (SqT.of upd_same) ((d2.cut none (some (1 + dd))).ex (Ex.new hl2))
    have e3 := Ex.new (o := HO.tup (cutV vs1 none (some (1 + dd)))) hl2
    have bH3 : But [mp.am, mp.gl] H (upd H2 l2 (.tup (cutV vs1 none (some (1 + dd))))) := ((But.of_ex e1).trans b2).trans (But.of_ex e3)
    have M3 := M2.ofEx e3
    generalize upd H2 l2 (.tup (cutV vs1 none (some (1 + dd)))) = H3 at *
    refine wE_lst0 fun ls hls q hq => ⟨q, .ref l2, .ref ls, rfl, SqT.of upd_same, ?_⟩
    have e5 := (Ex.new (o := HO.lst []) hls).trans (Ex.new (o := HO.tup [.ref l2, .ref ls]) hq)
    have dN5 := dN.ex e5
    have M5 := M3.ofEx e5
    have bH5 := bH3.trans (But.of_ex e5)
    have dS5 : LAt K (upd (upd H3 ls (.lst [])) q (.tup [.ref l2, .ref ls])) ls ([] : List (Str × Str)) := ⟨[], Ex.new hq _ _ upd_same, ha_nil⟩
    obtain ⟨_, _, _, _, _, _, g3, _⟩ := M3.ex
    obtain ⟨ug, hug, _⟩ := g3.at_
    have ngs : ls ≠ mp.gl := fun z => by rw [z, hug] at hls; cases hls
    have hug5 := e5 _ _ hug
    generalize upd (upd H3 ls (.lst [])) q (.tup [.ref l2, .ref ls]) = H5 at *
    have hNL : (LT.take (n + 1)).length = n + 1 := by rw [List.length_take]; show min (n + 1) 6 = n + 1; omega
    have b62 : (2 : Int) ^ 62 = 4611686018427387904 := by decide
    refine wB_mid (fun σ' H' => ∃ ls a b, σ' = [some (.ref mp.am), some (.int 4), some (.ref l2), some (.ref ls), a, b, none] ∧ Ex H5 H' ∧ LAt K H' ls (prs (LT.take (n + 1)) (n + 1)) ∧ ls ≠ mp.gl) (wS_forK (xs := rng 0 (((LT.take (n + 1)).length : Nat) : Int).toNat) (H0 := H5) (tik_range1 B.range (tx_lenT B.len (tx_var 2 dN5)) (by omega) (by omega))
      (fun i σ' H' => ∃ ls a b, σ' = [some (.ref mp.am), some (.int 4), some (.ref l2), some (.ref ls), a, b, none] ∧ Ex H5 H' ∧ LAt K H' ls (prs (LT.take (n + 1)) i) ∧ (prs (LT.take (n + 1)) i).length ≤ 6 * i ∧ ls ≠ mp.gl) (fun H6 e6 => ⟨ls, none, none, rfl, e6, dS5.ex e6, Nat.le_refl _, ngs⟩) (fun i σ' H' ⟨_, _, _, _, e, _⟩ => e) ?_ (fun σ' H' ⟨vs, a, b, e1, e2, e3, _, e4⟩ => ⟨vs, a, b, e1, e2, by rw [rng_length, hNL] at e3; exact e3, e4⟩) rfl PassesOwn.never) ?_
    · rintro i z hz σ' H6 ⟨ls, a, b, rfl, e6, d6, hl6, _⟩ u H7 e7 du
      refine wG_name 4 scFld.nd ?_
      have hz1 := rng_get hz
      have hi : i < n + 1 := by
        have := (List.getElem?_eq_some_iff.mp hz).1
        rw [rng_length, hNL] at this
        exact this
      obtain rfl : z = (i : Int) := by omega
      obtain rfl := du.int
      have e57 := e6.trans e7
      have dN7 := dN5.ex e57
      have hcd : ((cutX (LT.take (n + 1)) (some ((i : Int) + 1)) none).filter fun _ => true).map (fun o => ((LT.take (n + 1)).getD i "", o)) = ((LT.take (n + 1)).drop (i + 1)).map fun o => ((LT.take (n + 1)).getD i "", o) := by
        rw [show (i : Int) + 1 = ((i + 1 : Nat) : Int) by omega, cutX_drop, List.filter_eq_self.mpr fun _ _ => rfl]
      have hcl : (cutX (LT.take (n + 1)) (some ((i : Int) + 1)) none).length ≤ 6 := by
        rw [show (i : Int) + 1 = ((i + 1 : Nat) : Int) by omega, cutX_drop, List.length_drop, hNL]; omega
      refine wB_one (wS_set (i := 3) scFld.nd rfl (wE_catL ?_ (tx_var 3 (d6.ex e7).hd) (TX.conv (tx_lc (f := fun o => ((LT.take (n + 1)).getD i "", o)) (pr := fun _ => true) [("other", 5)] rfl scFld.nd (blkOk_by (N := ["m", "most", "names", "some", "k", "other", "pair"]) (sc := defScope (top 41)) (by decide +kernel)) (Nat.le_trans hcl (by decide)) (ti_tup (tx_slT (tx_var 2 dN7) (to_some (tx_add (tx_var 4 hd_int) tx_int)) to_none))
        fun z hz v' H' e' d' => ⟨_, fun s0 H0 C cl fp => ⟨tgt_name 5 scFld.nd, tbs_nil, fun _ => tx_pair (t2_mk (tx_ixT (tx_var 2 (dN7.ex e')) (tx_var 4 hd_int) (atI_nat (getD_get (by rw [hNL]; exact hi)))) (tx_var 5 d'))⟩, rfl⟩) hcd) fun ls' H8 e8 hls' d8 => ⟨_, _, _, rfl, e57.trans e8, by rw [prs_succ]; exact d8, ?_, ?_⟩))
      · rw [List.length_map, List.length_drop, hNL]; omega
      · rw [prs_succ, List.length_append, List.length_map, List.length_drop, hNL]; omega
      · intro z; rw [z, e57 _ _ hug5] at hls'; cases hls'
    · rintro σ' H6 ⟨l6, a, b, rfl, e6, d6, ng6⟩
      obtain ⟨us6, h6, hA6⟩ := d6.at_
      have M6 := M5.ofEx e6
      have nt6 := M6.no
      obtain ⟨cs, gs, nn, hm1, hm2, _, hm4, _, _, _, hm8⟩ := M6.ex
      have na6 : l6 ≠ mp.am := fun z => by rw [z, hm1] at h6; cases h6
      have L6 : (prs (LT.take (n + 1)) (n + 1)).length ≤ 6 := by
        rcases n with _ | _ | _ | _ | n
        · decide
        · decide
        · decide
        · decide
        · omega
      refine wB_one (wS_ret (wE_tup2 (wE_var 2 rfl rfl (wE_tuple B.tuple (wE_lc [("pair", 6)] rfl scFld.nd (blkOk_by (N := ["m", "most", "names", "some", "k", "other", "pair"]) (sc := defScope (top 41)) (by decide +kernel)) (wI_of (pi_list (pe_var (i := 3) rfl (.inl rfl))) ⟨_, rfl, l6, rfl, ⟨us6, SqL.of h6⟩, fun D hD => ?_⟩))))))
      have nD6 : l6 ≠ D := fun z => by rw [z, hD] at h6; cases h6
      have nDg : D ≠ mp.gl := fun z => by obtain ⟨u, hu, _⟩ := hm4.at_; rw [z, hu] at hD; cases hD
      have nDc : D ≠ mp.cl := fun z => by obtain ⟨u, hu, _⟩ := hm2.at_; rw [z, hu] at hD; cases hD
      have nDa : D ≠ mp.am := fun z => by rw [z, hm1] at hD; cases hD
      refine ⟨fun i m H' => m + i = (prs (LT.take (n + 1)) (n + 1)).length ∧ ∃ us ps, H' D = some (.lst us) ∧ HdAll K H' us ps ∧ ps.Sublist ((prs (LT.take (n + 1)) (n + 1)).take i) ∧ MS K H' mp (r + m) ∧ But [mp.am, mp.gl, D] H6 H', ⟨_, rfl, [], [], upd_same, ha_nil, List.nil_sublist _, (M6.ofEx (Ex.new hD)).less (by omega), (But.of_ex (Ex.new hD))⟩, fun i m H' ⟨hmi, us, ps, hus, hps, hsub, MH, bH⟩ => ?_⟩
      have nt3 : NoTup [mp.am, mp.gl, D] H6 := fun b hb => by
        rcases List.mem_cons.mp hb with z | hb
        · exact nt6 b (by rw [z]; exact List.mem_cons_self)
        · rcases List.mem_cons.mp hb with z | hb
          · exact nt6 b (by rw [z]; simp)
          · obtain rfl : b = D := by simpa using hb
            exact fun ws => ⟨fun z => (by rw [hD] at z; cases z), fun o z => (by rw [hD] at z; cases z)⟩
      have hl' : SqL K H' l6 us6 := SqL.of (bH _ _ (by simp only [List.mem_cons, List.mem_nil_iff, or_false, not_or]; exact ⟨na6, ng6, nD6⟩) h6)
      have hA' : HdAll K H' us6 (prs (LT.take (n + 1)) (n + 1)) := hA6.but bH nt3
      rcases Nat.lt_or_ge i (prs (LT.take (n + 1)) (n + 1)).length with hi | hi
      · have hiu : i < us6.length := by rw [hA6.len]; exact hi
        have hgx := List.getElem?_eq_getElem hi
        refine .inr ⟨⟨us6, _, hl', List.getElem?_eq_getElem hiu⟩, fun H'' => m - 1 + (i + 1) = (prs (LT.take (n + 1)) (n + 1)).length ∧ ∃ us ps, H'' D = some (.lst us) ∧ HdAll K H'' us ps ∧ ps.Sublist ((prs (LT.take (n + 1)) (n + 1)).take (i + 1)) ∧ MS K H'' mp (r + (m - 1)) ∧ But [mp.am, mp.gl, D] H6 H'', fun H'' h => ⟨m - 1, by omega, h⟩, fun x H'' hy => ?_⟩
        obtain ⟨rfl, hy⟩ := hy
        obtain ⟨z, ez, dz⟩ := hA'.at (hy us6 hl')
        rw [hgx] at ez
        have ez := Option.some.inj ez
        subst ez
        intro s0 H0 C cl fp
        refine wG_name 6 scFld.nd ⟨rfl, ?_⟩
        intro s0 H0 C cl fp
        refine wTs_of (pts_one (pt_cmpR op_eq pE pE (nomark _))) (wE_draw (r := r + (m - 1)) (mp := mp) (k := 2) N hr2 (wE_var 0 rfl rfl ⟨rfl, wE_int ⟨rfl, by decide, by decide, MH.less (by omega), fun H7 dd b7 M7 _ _ => wE_int ⟨rfl, _, rfl, ?_⟩⟩⟩))
        have nt7 := MH.no
        have bn : But [mp.am, mp.gl, D] H'' H7 := b7.mono fun b hb => by
          simp only [List.mem_cons, List.mem_nil_iff, or_false] at hb ⊢
          rcases hb with h | h <;> simp [h]
        have hD7 : H7 D = some (.lst us) := b7 _ _ (by simp only [List.mem_cons, List.mem_nil_iff, or_false, not_or]; exact ⟨nDa, nDg⟩) hus
        have hps7 := hps.but b7 nt7
        have take1 : (prs (LT.take (n + 1)) (n + 1)).take (i + 1) = (prs (LT.take (n + 1)) (n + 1)).take i ++ [(prs (LT.take (n + 1)) (n + 1))[i]] := by
          rw [List.take_succ, hgx]; rfl
        cases hb : decide (V.int dd = V.int 0) with
        | false =>
          dsimp only
          rw [if_neg (by decide)]
          exact ⟨by omega, us, ps, hD7, hps7, by rw [take1]; exact hsub.trans (List.sublist_append_left _ _), M7, bH.trans bn⟩
        | true =>
          dsimp only
          rw [if_pos rfl]
          intro s0 H0 C cl fp
          refine wE_var 6 rfl rfl ⟨us, hD7, ?_, ?_⟩
          · have := hsub.length_le
            rw [List.length_take] at this
            rw [hps7.len, sizeLine_eq]; omega
          · have bD : But [D] H7 (upd H7 D (.lst (us ++ [x]))) := But.refl.upd (List.mem_singleton.mpr rfl)
            have ntD : NoTup [D] H7 := NoTup.cons (notup_lst hD7) NoTup.nil
            refine ⟨by omega, _, ps ++ [_], upd_same, ((hps7.snoc (dz.but b7 nt7)).but bD ntD), by rw [take1]; exact hsub.append (List.Sublist.refl _), M7.kp (Kp.of_but bD) ntD (by simpa using nDa.symm) (by simpa using nDc.symm) (by simpa using nDg.symm), (bH.trans bn).upd (by simp)⟩
      · have e : i = (prs (LT.take (n + 1)) (n + 1)).length := by omega
        subst e
        have hm0 : m = 0 := by omega
        subst hm0
        rw [List.take_length] at hsub
        refine .inl ⟨⟨us6, hl', Nat.le_of_eq hA6.len⟩, D, us, rfl, SqL.of hus, fun q hq q2 hq2 => ?_⟩
        have e9 := (Ex.new (o := HO.tup us) hq).trans (Ex.new (o := HO.tup [.ref l2, .ref q]) hq2)
        have bH6 : But [mp.am, mp.gl] H H6 := bH5.trans (But.of_ex e6)
        have bHf : But [mp.am, mp.gl] H H' := fun c o hc ho => by
          have hc' : c ≠ mp.am ∧ c ≠ mp.gl := by simpa using hc
          have ncD : c ≠ D := fun z => by
            have := bH6 c o hc ho
            rw [z, hD] at this; cases this
          exact bH c o (by simp only [List.mem_cons, List.mem_nil_iff, or_false, not_or]; exact ⟨hc'.1, hc'.2, ncD⟩) (bH6 c o hc ho)
        have dN' : Hd K H' (.ref l2) (Tup.mk (LT.take (n + 1))) := (dN5.ex e6).but bH nt3
        refine k _ (.ref q2) (Tup.mk (LT.take (n + 1)), Tup.mk ps) (bHf.trans (But.of_ex e9)) (MH.ofEx e9) (hd_pair (SqT.of upd_same) (dN'.ex e9) ((hd_tup (SqT.of upd_same) (hps.ex (Ex.new hq))).ex (Ex.new hq2))) ⟨n + 1, by omega, by omega, rfl, hsub⟩
end
end K95
namespace K95
open PySem PySem.Spec PySem.Calls PySem.W PyProof.Rows L2 Evl
section
variable {X : Cx} {σ : L2.St} {H H0 : Hp} {e a b c d o iter tg : Expr} {p p1 p2 p3 p4 pos : Pos} {Q : VK} {D : Ends} {n k k' : Str} {j : Nat}
variable {α : Type} [DecidableEq α] [Datum α] {xs : List α}
/-- e[0], e[1] of a pair -/
theorem wE_fst {p' : Pos} (h : wE X a σ H fun v H1 => ∃ q u w, v = .ref q ∧ SqT X.K H1 q [u, w] ∧ Q u H1) (hs : PlainIx (.Constant (.int 0) j p') := by intro _ _; rfl) : wE X (.Subscript a (.Constant (.int 0) j p') p) σ H Q :=
  wE_of (pe_ix ix_tup pE pe_int hs) (wE_mono h fun v H1 ⟨q, u, w, ev, hq, k⟩ => ⟨q, _, 0, u, ev, rfl, hq, rfl, k⟩)
theorem wE_snd {p' : Pos} (h : wE X a σ H fun v H1 => ∃ q u w, v = .ref q ∧ SqT X.K H1 q [u, w] ∧ Q w H1) (hs : PlainIx (.Constant (.int 1) j p') := by intro _ _; rfl) : wE X (.Subscript a (.Constant (.int 1) j p') p) σ H Q :=
  wE_of (pe_ix ix_tup pE pe_int hs) (wE_mono h fun v H1 ⟨q, u, w, ev, hq, k⟩ => ⟨q, _, 1, w, ev, rfl, hq, rfl, k⟩)
theorem tik_tupE (h : wE X iter σ H fun v H2 => Hd X.K H0 v (Tup.mk xs) ∧ Ex H0 H2 ∧ Ex H H2) : TIk X σ H0 H tg iter xs := fun R q => wI_of (pi_tup pE) (wE_mono h fun v H2 ⟨d, e1, e2⟩ => by
  obtain ⟨l, vs, rfl, h1, h2⟩ := d.tup
  exact ⟨l, rfl, ⟨vs, ex_t e1 h1⟩, q _ H2 e2 (itok_tup (vs := vs) fun H3 k3 => ⟨ex_t k3 h1, h2.ex k3⟩)⟩)
/-- d[k], k a name that holds a text -/
theorem wE_dgetV (hu : X.A.units + 1 < cLine) (ho : wE X o σ H fun x H1 => ∃ a kvs v, x = .ref a ∧ H1 a = some (.dK kvs) ∧ valV kvs (.inr k) = some v ∧ Q v H1) (i : Nat) (hσ : σ[i]? = some (some (.str k)) := by rfl) (hN : X.N[i]? = some n := by rfl) (hs : NoSl (.Name n p1) := by intro _ _; rfl)
    (hv : Vis X.env.scope n := by first | exact .inl rfl | exact .inr (.inl rfl) | exact .inr (.inr rfl)) (hd : (n == ("__debug__" : Str)) = false := by decide) (hcd : (n == ("__classdict__" : Str)) = false := by decide) : wE X (.Subscript o (.Name n p1) p) σ H Q :=
  wE_of (pe_dget hu pE (pe_var (i := i) hN hv hd hcd) hs) (wE_mono ho fun x H1 ⟨a, kvs, v, ex, h1, h2, q⟩ => ⟨_, hσ, a, v, ex, by have := DGet.k (k := Sum.inr k) h1; rw [h2] at this; exact this, q⟩)
theorem wS_dputV (hu : X.A.units + 1 < cLine) (i : Nat) (he : wE X e σ H fun v H1 => wE X o σ H1 fun x H2 => ∃ a kvs, x = .ref a ∧ H2 a = some (.dK kvs) ∧ kvs.length ≤ 100 ∧ D.nx σ (upd H2 a (.dK (putK kvs (.inr k) v)))) (hσ : σ[i]? = some (some (.str k)) := by rfl) (hN : X.N[i]? = some n := by rfl)
    (hv : Vis X.env.scope n := by first | exact .inl rfl | exact .inr (.inl rfl) | exact .inr (.inr rfl)) (hd : (n == ("__debug__" : Str)) = false := by decide) (hcd : (n == ("__classdict__" : Str)) = false := by decide)
    (hs : swapsWith e (some (.Subscript o (.Name n p1) p)) pos.line X.env = pure false := by rfl) : wS X (.Assign [.Subscript o (.Name n p1) p] e pos) D σ H :=
  wS_of (ps_dput hu pE (pe_var (i := i) hN hv hd hcd) pE hs) (wE_mono he fun v H1 q => wE_mono q fun x H2 ⟨a, kvs, ex, h1, hl, q2⟩ => ⟨_, hσ, a, _, ex, DPut.k (k := Sum.inr k) h1 (by rw [sizeLine_eq]; omega), q2⟩)
/-- d["k"], d["k'"] = e, the dict a name -/
theorem wS_dput2 {i1 i2 : Expr} {t1 t2 : TE} {pt : Pos} {kt : Nat} (hu : X.A.units + 1 < cLine) (hc : X.calm = true) (m : Nat) {ad : Addr} (h1 : PE X i1 t1) (h2 : PE X i2 t2) (g1 : ∀ H Q, Q (.str k) H → t1 σ H Q) (g2 : ∀ H Q, Q (.str k') H → t2 σ H Q)
    (he : wE X e σ H fun v H1 => ∃ q u w kvs, v = .ref q ∧ SqT X.K H1 q [u, w] ∧ H1 ad = some (.dK kvs) ∧ kvs.length ≤ 90 ∧ D.nx σ (upd (upd H1 ad (.dK (putK kvs (.inr k) u))) ad (.dK (putK (putK kvs (.inr k) u) (.inr k') w))))
    (hσ : σ[m]? = some (some (.ref ad)) := by rfl) (hN : X.N[m]? = some n := by rfl)
    (hv : Vis X.env.scope n := by first | exact .inl rfl | exact .inr (.inl rfl) | exact .inr (.inr rfl)) (hd : (n == ("__debug__" : Str)) = false := by decide) (hcd : (n == ("__classdict__" : Str)) = false := by decide)
    (ha1 : ∀ u, assign (.Subscript (.Name n p1) i1 p2) X.env u = (do let ov ← holding [u] (eval (.Name n p1) X.env); let iv ← holding [u, ov] (eval i1 X.env); standAt p2; holding [u, ov, iv] (setItem ov iv u); release [u, ov, iv] []) := by intros; rfl)
    (ha2 : ∀ u, assign (.Subscript (.Name n p3) i2 p4) X.env u = (do let ov ← holding [u] (eval (.Name n p3) X.env); let iv ← holding [u, ov] (eval i2 X.env); standAt p4; holding [u, ov, iv] (setItem ov iv u); release [u, ov, iv] []) := by intros; rfl)
    (hs : swapsWithSole [.Tuple [.Subscript (.Name n p1) i1 p2, .Subscript (.Name n p3) i2 p4] kt pt] e pos.line X.env = pure false := by rfl) (hw : swappedStores [.Tuple [.Subscript (.Name n p1) i1 p2, .Subscript (.Name n p3) i2 p4] kt pt] e X.env = pure none := by rfl) :
    wS X (.Assign [.Tuple [.Subscript (.Name n p1) i1 p2, .Subscript (.Name n p3) i2 p4] kt pt] e pos) D σ H := by
  refine wS_of (ps_asg pE (pg_tup (n := 2) hc (pgs_cons (pg_sub (pe_var (i := m) hN hv hd hcd) h1 (set_dict hu) ha1) (pgs_cons (pg_sub (pe_var (i := m) hN hv hd hcd) h2 (set_dict hu) ha2) pgs_nil))) hs hw) (wE_mono he ?_)
  rintro v H1 ⟨q, u, w, kvs, ev, hq, hk, hl, h⟩
  have hl2 := length_putK kvs (.inr k : Key) u
  exact ⟨q, _, ev, hq, rfl, u, _, rfl, ⟨_, hσ, g1 _ _ ⟨ad, _, rfl, DPut.k (k := Sum.inr k) hk (by rw [sizeLine_eq]; omega), w, _, rfl, ⟨_, hσ, g2 _ _ ⟨ad, _, rfl, DPut.k (k := Sum.inr k') upd_same (by rw [sizeLine_eq]; omega), rfl, h⟩⟩⟩⟩⟩
end
section
variable {K : Frag} {H H1 : Hp} {ao gl : Addr} {F : Fld} {S : St2} {T : List Addr}
theorem OwnAt.ofEx (h : OwnAt K H ao gl F S) (e : Ex H H1) : OwnAt K H1 ao gl F S := by
  obtain ⟨vF, vN, pa, la, h1, h2, h3, h4, h5, h6, h7⟩ := h.ex
  exact ⟨vF, vN, pa, la, e _ _ h1, h2.ex e, h3.ex e, h4.ex e, h5.ex e, h6, h7⟩
/-- nothing at T is a list but perhaps that at gl -/
def OnlyGl (T : List Addr) (gl : Addr) (H : Hp) : Prop := ∀ b ∈ T, b = gl ∨ ∀ us, H b ≠ some (.lst us)
theorem OwnAt.kp (h : OwnAt K H ao gl F S) (k : Kp T H H1) (n : NoTup T H) (ho : ao ∉ T) (hg : OnlyGl T gl H) : OwnAt K H1 ao gl F S := by
  obtain ⟨vF, vN, pa, la, h1, h2, h3, h4, h5, h6, h7⟩ := h.ex
  obtain ⟨u1, e1, _⟩ := h4.at_
  obtain ⟨u2, e2, _⟩ := h5.at_
  have p1 : pa ∉ T := fun z => (hg pa z).elim h6 fun q => q _ e1
  have p2 : la ∉ T := fun z => (hg la z).elim h7 fun q => q _ e2
  exact ⟨vF, vN, pa, la, k _ _ ho (fun ps z => by cases z) h1, h2.kp k n, h3.kp k n, h4.kp k n p1, h5.kp k n p2, h6, h7⟩
theorem OwnAt.no (h : OwnAt K H ao gl F S) : NoTup [ao] H := by
  obtain ⟨vF, vN, pa, la, h1, _⟩ := h.ex
  exact NoTup.cons (notup_dK h1) NoTup.nil
theorem OwnAt.only (h : OwnAt K H ao gl F S) : OnlyGl [ao] gl H := fun b hb => by
  obtain rfl : b = ao := by simpa using hb
  obtain ⟨vF, vN, pa, la, h1, _⟩ := h.ex
  exact .inr fun us z => by rw [h1] at z; cases z
theorem valO1 {vF vN : V} {pa la : Addr} : valV (oKvs vF vN pa la) (.inr "field") = some vF := rfl
theorem valO2 {vF vN : V} {pa la : Addr} : valV (oKvs vF vN pa la) (.inr "now") = some vN := rfl
theorem valO3 {vF vN : V} {pa la : Addr} : valV (oKvs vF vN pa la) (.inr "past") = some (.ref pa) := rfl
theorem valO4 {vF vN : V} {pa la : Addr} : valV (oKvs vF vN pa la) (.inr "later") = some (.ref la) := rfl
end
section
variable {X : Cx} {σ : L2.St} {H : Hp} {o : Expr} {p p1 pos : Pos} {Q : VK} {j : Nat} {ao gl : Addr} {F : Fld} {S : St2} {n : Str}
/-- own["field"], own["now"], own["now"][0], own["now"][1], own the name in slot m -/
theorem tx_ownF (hu : X.A.units + 1 < cLine) (m : Nat) (h : OwnAt X.K H ao gl F S) (hσ : σ[m]? = some (some (.ref ao)) := by rfl) (hN : X.N[m]? = some n := by rfl) (hv : Vis X.env.scope n := by first | exact .inl rfl | exact .inr (.inl rfl) | exact .inr (.inr rfl)) (hd : (n == ("__debug__" : Str)) = false := by decide) (hcd : (n == ("__classdict__" : Str)) = false := by decide) :
    TX X σ H (.Subscript (.Name n p1) (.Constant (.str "field") j p) pos) F := fun H1 e Q q => by
  obtain ⟨vF, vN, pa, la, h1, h2, h3, h4, h5, h6, h7⟩ := (h.ofEx e).ex
  exact wE_dget hu (wE_var m hσ hN ⟨ao, _, _, rfl, h1, valO1, q _ H1 (Ex.refl _) h2⟩ hv hd hcd)
theorem tx_ownN (hu : X.A.units + 1 < cLine) (m : Nat) (h : OwnAt X.K H ao gl F S) (hσ : σ[m]? = some (some (.ref ao)) := by rfl) (hN : X.N[m]? = some n := by rfl) (hv : Vis X.env.scope n := by first | exact .inl rfl | exact .inr (.inl rfl) | exact .inr (.inr rfl)) (hd : (n == ("__debug__" : Str)) = false := by decide) (hcd : (n == ("__classdict__" : Str)) = false := by decide) :
    TX X σ H (.Subscript (.Name n p1) (.Constant (.str "now") j p) pos) S.now := fun H1 e Q q => by
  obtain ⟨vF, vN, pa, la, h1, h2, h3, h4, h5, h6, h7⟩ := (h.ofEx e).ex
  exact wE_dget hu (wE_var m hσ hN ⟨ao, _, _, rfl, h1, valO2, q _ H1 (Ex.refl _) h3⟩ hv hd hcd)
theorem tx_ownP (hu : X.A.units + 1 < cLine) (m : Nat) (h : OwnAt X.K H ao gl F S) (hσ : σ[m]? = some (some (.ref ao)) := by rfl) (hN : X.N[m]? = some n := by rfl) (hv : Vis X.env.scope n := by first | exact .inl rfl | exact .inr (.inl rfl) | exact .inr (.inr rfl)) (hd : (n == ("__debug__" : Str)) = false := by decide) (hcd : (n == ("__classdict__" : Str)) = false := by decide) :
    TX X σ H (.Subscript (.Name n p1) (.Constant (.str "past") j p) pos) S.past := fun H1 e Q q => by
  obtain ⟨vF, vN, pa, la, h1, h2, h3, h4, h5, h6, h7⟩ := (h.ofEx e).ex
  exact wE_dget hu (wE_var m hσ hN ⟨ao, _, _, rfl, h1, valO3, q _ H1 (Ex.refl _) h4.hd⟩ hv hd hcd)
theorem tx_ownL (hu : X.A.units + 1 < cLine) (m : Nat) (h : OwnAt X.K H ao gl F S) (hσ : σ[m]? = some (some (.ref ao)) := by rfl) (hN : X.N[m]? = some n := by rfl) (hv : Vis X.env.scope n := by first | exact .inl rfl | exact .inr (.inl rfl) | exact .inr (.inr rfl)) (hd : (n == ("__debug__" : Str)) = false := by decide) (hcd : (n == ("__classdict__" : Str)) = false := by decide) :
    TX X σ H (.Subscript (.Name n p1) (.Constant (.str "later") j p) pos) S.later := fun H1 e Q q => by
  obtain ⟨vF, vN, pa, la, h1, h2, h3, h4, h5, h6, h7⟩ := (h.ofEx e).ex
  exact wE_dget hu (wE_var m hσ hN ⟨ao, _, _, rfl, h1, valO4, q _ H1 (Ex.refl _) h5.hd⟩ hv hd hcd)
end
section
variable {P : Program} {w : World} {K : Frag} {mg : Str → Option Value} {base : Heap}
/-! ### _law_held -/
def lheldGo (F : Fld) (num : Int) : List Pr → List Str → List Int → List Int
  | [], _, found => found
  | (far, s) :: r, names, found => if decide (far = num) || decide ((names.filter fun n => !lapart F n s.1) ≠ []) then lheldGo F num r (names ++ [s.1]) (found ++ [far]) else lheldGo F num r names found
def lheld (F : Fld) (row : List Pr) (num : Int) : List Int := (lheldGo F num row [] []).drop 1
def spHeld (K : Frag) : Sp := fun vs H Q _ => ∃ (ao gl : Addr) (F : Fld) (S : St2) (num : Int), vs = [.ref ao, .int num] ∧ OwnAt K H ao gl F S ∧ S.now.1.items.length ≤ 500 ∧ ∀ u H', Ex H H' → Hd K H' u (lheld F S.now.1.items num) → Q u H'
theorem scHeld : FnScope ["own", "number", "found", "names", "far", "step", "holds", "name"] ["own", "number"] (defScope (top 49)) := ⟨rfl, rfl, rfl, by decide +kernel, rfl, by decide +kernel, by decide +kernel⟩
theorem ok_held {f : Addr} {fd : FuncData} (F : Fun K "_law_held" "_law_held" (top 49) f fd) (B : Bn mg) (N : Own P w K mg base 1 "_law_apart" ["field", "one", "other"] (Pu3 K (fun _ _ _ => True) lapart)) : FnOk P w K mg base CX0 2 f fd ["own", "number"] (spHeld K) := by
  refine F.ok scHeld (fun vs H Q E h => ?_) (fun cdv A outer s H vs Q E hr h => ?_)
  · obtain ⟨ao, gl, F, S, num, rfl, _⟩ := h
    rfl
  · obtain ⟨ao, gl, FF, S, num, rfl, hO, hz, k⟩ := h
    have hr1 : Room 1 _ := hr
    have hu := hu1 hr
    refine ⟨_, pB, ?_⟩
    refine wB_cons (wS_par 2 3 rfl scHeld.nd (wE_lst0 fun lf hlf => wE_lst0 fun ln hln => ?_))
    have e0 := (Ex.new (o := HO.lst []) hlf).trans (Ex.new (o := HO.lst []) hln)
    have nln : ln ≠ lf := fun z => by rw [z, upd_same] at hln; cases hln
    have hlnH : H ln = none := fresh_back (Ex.new hlf) hln
    have Lf0 : LAt K (upd (upd H lf (.lst [])) ln (.lst [])) lf ([] : List Int) := ⟨[], by rw [upd_ne nln.symm, upd_same], ha_nil⟩
    have Ln0 : LAt K (upd (upd H lf (.lst [])) ln (.lst [])) ln ([] : List Str) := ⟨[], upd_same, ha_nil⟩
    generalize upd (upd H lf (.lst [])) ln (.lst []) = G at *
    obtain ⟨vF, vN, pa, la, h1, h2, h3, h4, h5, h6, h7⟩ := hO.ex
    obtain ⟨qn, vr, vx, rfl, hqn, hrow, hfr⟩ := h3.pair
    refine wB_cons (wS_forK (xs := S.now.1.items) (H0 := H) (tik_tupE (wE_fst (wE_dget hu (wE_var 0 rfl rfl ⟨ao, _, _, rfl, e0 _ _ h1, valO2, qn, vr, vx, rfl, ex_t e0 hqn, hrow, e0, Ex.refl _⟩))))
      (fun i σ H' => ∃ names found a b c, σ = [some (.ref ao), some (.int num), some (.ref lf), some (.ref ln), a, b, c, none] ∧ Ex H H' ∧ LAt K H' lf found ∧ LAt K H' ln names ∧ found.length ≤ i ∧ names.length ≤ i ∧ lheldGo FF num S.now.1.items [] [] = lheldGo FF num (S.now.1.items.drop i) names found)
      (fun H2 e2 => ⟨_, _, none, none, none, rfl, e0.trans e2, Lf0.ex e2, Ln0.ex e2, Nat.le_refl _, Nat.le_refl _, rfl⟩) (fun i σ' H' ⟨_, _, _, _, _, _, e, _⟩ => e) ?_ ?_ rfl PassesOwn.never)
    · rintro i ps hs σ H2 ⟨names, found, a, b, c, rfl, e2, Lf, Ln, hlf2, hln2, heq⟩ u H3 e3 du
      refine wG_two 4 5 rfl scHeld.nd du fun vp vs dp ds => ?_
      have hi : i < S.now.1.items.length := (List.getElem?_eq_some_iff.mp hs).1
      have hdrop : S.now.1.items.drop i = ps :: S.now.1.items.drop (i + 1) := by
        rw [List.drop_eq_getElem_cons hi]
        have := (List.getElem?_eq_some_iff.mp hs).2
        rw [this]
      have e23 := e2.trans e3
      have O3 := hO.ofEx e23
      refine wB_cons (wS_set (i := 6) scHeld.nd rfl (TX.go (tx_ne (α := List Str) (hu64 hr) (TX.conv (tx_lc (f := fun n => n) (pr := fun n => !lapart FF n ps.2.1) [("name", 7)] rfl scHeld.nd (blkOk_by (N := ["own", "number", "found", "names", "far", "step", "holds", "name"]) (sc := defScope (top 49)) (by decide +kernel)) (by omega) (ti_list (tx_var 3 (Ln.ex e3).hd))
        fun z hz v' H' e' d' => ⟨_, fun s0 H0 C cl fp => ⟨tgt_name 7 scHeld.nd, tbs_one (tb_not (tb_val (tx_own3 N hr1 (t3_mk (tx_ownF hu 0 (O3.ofEx e')) (tx_var 7 d') (tx_fst (tx_var 5 (ds.ex e')))) trivial))), fun _ => tx_var 7 d'⟩, rfl⟩) (List.map_id' _)) (tx_lst tl_nil (by decide))) fun vh H4 e4 dh => ?_))
      have hcond : lheldGo FF num (ps :: S.now.1.items.drop (i + 1)) names found = if decide (ps.1 = num) || decide ((names.filter fun n => !lapart FF n ps.2.1) ≠ []) then lheldGo FF num (S.now.1.items.drop (i + 1)) (names ++ [ps.2.1]) (found ++ [ps.1]) else lheldGo FF num (S.now.1.items.drop (i + 1)) names found := rfl
      refine wB_one (wS_if (TB.go (TW.tb (tw_or (tb_eq (hu64 hr) (tx_var 4 (dp.ex e4)) (tx_var 1 (hd_int (i := num)))) fun _ => tw_or1 (tb_val (tx_var 6 dh)))) fun H5 e5 => ?_))
      have e35 := (e3.trans e4).trans e5
      cases hq : (decide (ps.1 = num) || decide ((names.filter fun n => !lapart FF n ps.2.1) ≠ [])) with
      | true =>
        rw [if_pos rfl]
        rw [hq, if_pos rfl] at hcond
        have e45 := e4.trans e5
        refine wB_cons (wS_expr (wE_append 3 (Ln.ex e35) (by omega) (tx_fst (tx_var 5 (ds.ex e45))) fun w6 H6 e6 L6 => ?_))
        have b6 : But [ln] H6 (upd H6 ln w6) := But.refl.upd (List.mem_singleton.mpr rfl)
        have nt6 := ((Ln.ex e35).ex e6).no
        have Lf6 := ((Lf.ex e35).ex e6).but b6 nt6 (by simpa using nln.symm)
        have dp6 := (((dp.ex e45).ex e6).but b6 nt6)
        refine wB_one (wS_expr (wE_append 2 Lf6 (by omega) (tx_var 4 dp6) fun w7 H7 e7 L7 => ?_))
        have b7 : But [lf] H7 (upd H7 lf w7) := But.refl.upd (List.mem_singleton.mpr rfl)
        refine ⟨_, _, _, _, _, rfl, fun cc o ho => ?_, L7, (L6.ex e7).but b7 (Lf6.ex e7).no (by simpa using nln), ?_, ?_, ?_⟩
        · have n1 : cc ≠ lf := fun z => by rw [z, hlf] at ho; cases ho
          have n2 : cc ≠ ln := fun z => by rw [z, hlnH] at ho; cases ho
          rw [upd_ne n1]
          refine e7 _ _ ?_
          rw [upd_ne n2]
          exact e6 _ _ (e35 _ _ (e2 _ _ ho))
        · rw [List.length_append, List.length_singleton]; omega
        · rw [List.length_append, List.length_singleton]; omega
        · rw [heq, hdrop, hcond]
      | false =>
        rw [if_neg (by decide)]
        rw [hq, if_neg (by decide)] at hcond
        exact wB_nil ⟨_, _, _, _, _, rfl, e2.trans e35, Lf.ex e35, Ln.ex e35, by omega, by omega, by rw [heq, hdrop, hcond]⟩
    · rintro σ H2 ⟨names, found, a, b, c, rfl, e2, Lf, Ln, hlf2, hln2, heq⟩
      rw [List.drop_length] at heq
      refine wB_one (wS_ret (TX.go (tx_slL (tx_var 2 Lf.hd) (to_some tx_int) to_none) fun u H3 e3 du => k u H3 (e2.trans e3) ?_))
      unfold lheld
      rw [heq]
      show Hd K H3 u (found.drop 1)
      rw [← cutX_drop]; exact du
end
end K95
namespace K95
open PySem PySem.Spec PySem.Calls PySem.W PyProof.Rows L2 Evl
section
variable {P : Program} {w : World} {K : Frag} {mg : Str → Option Value} {base : Heap}
/-- the great list stands -/
def Gk (H : Hp) (gl : Addr) : Prop := ∃ us, H gl = some (.lst us)
theorem Gk.ex {H H1 : Hp} {gl : Addr} (h : Gk H gl) (e : Ex H H1) : Gk H1 gl := by obtain ⟨us, h⟩ := h; exact ⟨us, e _ _ h⟩
theorem Gk.ne {H : Hp} {gl l : Addr} (h : Gk H gl) (n : H l = none) : l ≠ gl := fun z => by obtain ⟨us, h⟩ := h; rw [z, h] at n; cases n
theorem putO1 {vF vN vN' : V} {pa la : Addr} : putK (oKvs vF vN pa la) (.inr "now") vN' = oKvs vF vN' pa la := rfl
theorem putO2 {vF vN : V} {pa la pa' : Addr} : putK (oKvs vF vN pa la) (.inr "past") (.ref pa') = oKvs vF vN pa' la := rfl
theorem putO3 {vF vN : V} {pa la la' : Addr} : putK (oKvs vF vN pa la) (.inr "later") (.ref la') = oKvs vF vN pa la' := rfl
/-! ### _law_kept -/
def keptS (S : St2) (now : Now) : St2 := ⟨now, S.past ++ [S.now], []⟩
def spKept (K : Frag) : Sp := fun vs H Q _ => ∃ (ao gl : Addr) (F : Fld) (S : St2) (v : V) (now : Now), vs = [.ref ao, v] ∧ OwnAt K H ao gl F S ∧ Gk H gl ∧ Hd K H v now ∧ S.past.length ≤ 1000 ∧ ∀ H', But [ao] H H' → OwnAt K H' ao gl F (keptS S now) → Q .non H'
theorem scKept : FnScope ["own", "now"] ["own", "now"] (defScope (top 50)) := ⟨rfl, rfl, rfl, by decide +kernel, rfl, by decide +kernel, by decide +kernel⟩
theorem ok_kept {f : Addr} {fd : FuncData} (F : Fun K "_law_kept" "_law_kept" (top 50) f fd) : FnOk P w K mg base CX0 1 f fd ["own", "now"] (spKept K) := by
  refine F.ok scKept (fun vs H Q E h => ?_) (fun cdv A outer s H vs Q E hr h => ?_)
  · obtain ⟨ao, gl, F, S, v, now, rfl, _⟩ := h
    rfl
  · obtain ⟨ao, gl, FF, S, v, now, rfl, hO, hG, dn, hz, k⟩ := h
    have hu := hu1 hr
    obtain ⟨vF, vN, pa, la, h1, h2, h3, h4, h5, h6, h7⟩ := hO.ex
    refine ⟨_, pB, ?_⟩
    -- own["past"] = own["past"] + [own["now"]]
    refine wB_cons (wS_dput hu (wE_catL (by rw [List.length_singleton]; omega) (tx_ownP hu 0 hO) (tx_lst (tl_cons (tx_ownN hu 0 hO) tl_nil) (by show 1 ≤ 100000; decide)) fun pn H1 e1 hpn Lp => wE_var 0 rfl rfl ⟨ao, _, rfl, e1 _ _ h1, by show 4 ≤ 100; decide, ?_⟩))
    rw [putO2]
    have npo : pn ≠ ao := fun z => by rw [z, h1] at hpn; cases hpn
    have npg := hG.ne hpn
    have b1 : But [ao] H1 (upd H1 ao (.dK (oKvs vF vN pn la))) := But.refl.upd (List.mem_singleton.mpr rfl)
    have nt1 : NoTup [ao] H1 := (hO.ofEx e1).no
    have nla : la ≠ ao := fun z => by obtain ⟨u, hu, _⟩ := h5.at_; rw [z, h1] at hu; cases hu
    have G2 : But [ao] H (upd H1 ao (.dK (oKvs vF vN pn la))) := (But.of_ex e1).trans b1
    have a2 : upd H1 ao (.dK (oKvs vF vN pn la)) ao = some (.dK (oKvs vF vN pn la)) := upd_same
    have hF2 := (h2.ex e1).but b1 nt1
    have Lp2 := Lp.but b1 nt1 (by simpa using npo)
    have dn2 := (dn.ex e1).but b1 nt1
    have gk2 : Gk (upd H1 ao (.dK (oKvs vF vN pn la))) gl := by
      obtain ⟨us, hus⟩ := hG
      exact ⟨us, by rw [upd_ne (fun z => by rw [z, h1] at hus; cases hus)]; exact e1 _ _ hus⟩
    generalize upd H1 ao (.dK (oKvs vF vN pn la)) = H2 at *
    -- own["now"], own["later"] = (now, [])
    refine wB_one (wS_dput2 hu rfl 0 pe_str pe_str (fun _ _ q => q) (fun _ _ q => q) (wE_tup2 (wE_var 1 rfl rfl (wE_lst0 fun ln hln q hq => ⟨q, v, .ref ln, oKvs vF vN pn la, rfl, SqT.of upd_same, ?_, by show 4 ≤ 90; decide, ?_⟩))))
    · exact Ex.new hq _ _ (Ex.new hln _ _ a2)
    · rw [putO1, putO3, upd_upd]
      have e3 := (Ex.new (o := HO.lst []) hln).trans (Ex.new (o := HO.tup [v, .ref ln]) hq)
      have b3 : But [ao] (upd (upd H2 ln (.lst [])) q (.tup [v, .ref ln])) (upd (upd (upd H2 ln (.lst [])) q (.tup [v, .ref ln])) ao (.dK (oKvs vF v pn ln))) := But.refl.upd (List.mem_singleton.mpr rfl)
      have nt3 : NoTup [ao] (upd (upd H2 ln (.lst [])) q (.tup [v, .ref ln])) := NoTup.cons (notup_dK (e3 _ _ a2)) NoTup.nil
      have nlo : ln ≠ ao := fun z => by rw [z, a2] at hln; cases hln
      have nlq : ln ≠ q := fun z => by rw [← z, upd_same] at hq; cases hq
      refine k _ ((G2.trans (But.of_ex e3)).trans b3) ⟨vF, v, pn, ln, upd_same, (hF2.ex e3).but b3 nt3, (dn2.ex e3).but b3 nt3, (Lp2.ex e3).but b3 nt3 (by simpa using npo), ?_, npg, gk2.ne hln⟩
      exact LAt.but ⟨[], by rw [upd_ne nlq, upd_same], ha_nil⟩ b3 nt3 (by simpa using nlo)
/-! ### _law_without -/
def withoutS (S : St2) (ns : List Int) : St2 := keptS S (Tup.mk (S.now.1.items.filter fun q => !isIn q.1 ns), S.now.2)
def spWithout (K : Frag) : Sp := fun vs H Q _ => ∃ (ao gl : Addr) (F : Fld) (S : St2) (v : V) (ns : List Int), vs = [.ref ao, v] ∧ OwnAt K H ao gl F S ∧ Gk H gl ∧ Hd K H v ns ∧ S.past.length ≤ 1000 ∧ S.now.1.items.length ≤ 1000 ∧ ∀ H', But [ao] H H' → OwnAt K H' ao gl F (withoutS S ns) → Q .non H'
theorem scWithout : FnScope ["own", "numbers", "row", "pair"] ["own", "numbers"] (defScope (top 51)) := ⟨rfl, rfl, rfl, by decide +kernel, rfl, by decide +kernel, by decide +kernel⟩
theorem ok_without {f : Addr} {fd : FuncData} (F : Fun K "_law_without" "_law_without" (top 51) f fd) (B : Bn mg) (N : Own P w K mg base 1 "_law_kept" ["own", "now"] (spKept K)) : FnOk P w K mg base CX0 2 f fd ["own", "numbers"] (spWithout K) := by
  refine F.ok scWithout (fun vs H Q E h => ?_) (fun cdv A outer s H vs Q E hr h => ?_)
  · obtain ⟨ao, gl, F, S, v, now, rfl, _⟩ := h
    rfl
  · obtain ⟨ao, gl, FF, S, v, ns, rfl, hO, hG, dn, hz, hz2, k⟩ := h
    have hr1 : Room 1 _ := hr
    have hu := hu1 hr
    refine ⟨_, pB, ?_⟩
    refine wB_cons (wS_set (i := 2) scWithout.nd rfl (TX.go (tx_tuple B.tuple (tx_lc (f := fun q => q) (pr := fun q => !isIn q.1 ns) [("pair", 3)] rfl scWithout.nd (blkOk_by (N := ["own", "numbers", "row", "pair"]) (sc := defScope (top 51)) (by decide +kernel)) (Nat.le_trans hz2 (by decide)) (ti_tup (tx_fst (tx_ownN hu 0 hO)))
      fun z hz v' H' e' d' => ⟨_, fun s0 H0 C cl fp => ⟨tgt_name 3 scWithout.nd, tbs_one (by exact tb_notInL (hu65 hr) (tx_fst (tx_var 3 d')) (tx_var 1 (dn.ex e'))), fun _ => tx_var 3 d'⟩, rfl⟩)) fun vr H1 e1 dr => ?_))
    rw [List.map_id'] at dr
    refine wB_one (wS_expr (wE_own N hr1 (wA_of (pa_cons pE (pa_cons pE pa_nil)) (wE_var 0 rfl rfl (TX.go (α := Now) (tx_pair (t2_mk (tx_var 2 dr) (tx_snd (tx_ownN hu 0 (hO.ofEx e1))))) fun vn H2 e2 dn2 => ⟨ao, gl, FF, S, vn, _, rfl, hO.ofEx (e1.trans e2), hG.ex (e1.trans e2), dn2, hz, fun H3 b3 O3 => k H3 ((But.of_ex (e1.trans e2)).trans b3) O3⟩)))))
/-! ### _law_shift -/
/-- undo (b = true), redo -/
def shiftS (b : Bool) (S : St2) : St2 := if b then ⟨S.past.getLast?.getD S.now, S.past.dropLast, S.later ++ [S.now]⟩ else ⟨S.later.getLast?.getD S.now, S.past ++ [S.now], S.later.dropLast⟩
def canS (b : Bool) (S : St2) : Bool := if b then decide (S.past ≠ []) else decide (S.later ≠ [])
def kBeg (b : Bool) : Str := if b then "past" else "later"
def kGo (b : Bool) : Str := if b then "later" else "past"
def spShift (K : Frag) : Sp := fun vs H Q _ => ∃ (ao gl : Addr) (F : Fld) (S : St2) (b : Bool), vs = [.ref ao, .str (kBeg b), .str (kGo b)] ∧ OwnAt K H ao gl F S ∧ Gk H gl ∧ S.past.length ≤ 1000 ∧ S.later.length ≤ 1000 ∧
  (canS b S = false → ∀ H', Ex H H' → Q (.bl false) H') ∧ (canS b S = true → ∀ H', But [ao] H H' → OwnAt K H' ao gl F (shiftS b S) → Q (.bl true) H')
theorem scShift : FnScope ["own", "begin", "goal"] ["own", "begin", "goal"] (defScope (top 52)) := ⟨rfl, rfl, rfl, by decide +kernel, rfl, by decide +kernel, by decide +kernel⟩
theorem last_at {α : Type} {xs : List α} (h : xs ≠ []) (d : α) : atI xs (-1) = some (xs.getLast?.getD d) := by
  have hp : 0 < xs.length := List.length_pos_iff.mpr h
  unfold atI ixN
  rw [if_neg (by decide), if_pos (by omega)]
  show xs[((-1 : Int) + xs.length).toNat]? = _
  rw [show ((-1 : Int) + xs.length).toNat = xs.length - 1 by omega, ← List.getLast?_eq_getElem?]
  cases e : xs.getLast? with
  | none => exact absurd (List.getLast?_eq_none_iff.mp e) h
  | some x => rfl
theorem cutX_last {α : Type} [DecidableEq α] [Datum α] {xs : List α} : cutX xs none (some (-1)) = xs.dropLast := by
  unfold cutX
  rw [HT.sIx_none]
  show (xs.drop 0).take ((if (-1 : Int) < 0 then ((-1 : Int) + (xs.length : Int)).toNat else min (-1 : Int).toNat xs.length) - 0) = _
  rw [if_pos (by decide), List.drop_zero, List.dropLast_eq_take]
  congr 1
  omega
theorem wE_slL {X : Cx} {σ : L2.St} {H : Hp} {a : Expr} {p p2 : Pos} {Q : VK} {α : Type} [DecidableEq α] [Datum α] {xs : List α} {lo hi : Option Expr} {o o' : Option Int} (ha : TX X σ H a xs) (hl : TO' X σ H lo o) (hh : TO' X σ H hi o') (q : ∀ l H2, Ex H H2 → H l = none → LAt X.K H2 l (cutX xs o o') → Q (.ref l) H2) : wE X (.Subscript a (.Slice lo hi none p2) p) σ H Q :=
  wE_slice sl_list ha hl hh (Ex.refl H) fun v H2 k2 d => by
    obtain ⟨l, vs, rfl, h1, h2⟩ := d.list
    exact ⟨l, vs, rfl, h1, fun l' hl' => q _ _ (k2.trans (Ex.new hl')) (fresh_back k2 hl') ⟨_, upd_same, ((h2.cut o o').ex (Ex.new hl'))⟩⟩
/-- the dict by the side that is taken from (x) and the other (y) -/
def okv (b : Bool) (vF vN : V) (x y : Addr) : List (Key × V) := if b then oKvs vF vN x y else oKvs vF vN y x
theorem okv_len {b : Bool} {vF vN : V} {x y : Addr} : (okv b vF vN x y).length = 4 := by cases b <;> rfl
theorem valB {b : Bool} {vF vN : V} {x y : Addr} : valV (okv b vF vN x y) (.inr (kBeg b)) = some (.ref x) := by cases b <;> rfl
theorem valG {b : Bool} {vF vN : V} {x y : Addr} : valV (okv b vF vN x y) (.inr (kGo b)) = some (.ref y) := by cases b <;> rfl
theorem valN {b : Bool} {vF vN : V} {x y : Addr} : valV (okv b vF vN x y) (.inr "now") = some vN := by cases b <;> rfl
theorem putG {b : Bool} {vF vN : V} {x y y' : Addr} : putK (okv b vF vN x y) (.inr (kGo b)) (.ref y') = okv b vF vN x y' := by cases b <;> rfl
theorem putB {b : Bool} {vF vN : V} {x y x' : Addr} : putK (okv b vF vN x y) (.inr (kBeg b)) (.ref x') = okv b vF vN x' y := by cases b <;> rfl
theorem putN {b : Bool} {vF vN vN' : V} {x y : Addr} : putK (okv b vF vN x y) (.inr "now") vN' = okv b vF vN' x y := by cases b <;> rfl
def sBeg (b : Bool) (S : St2) : List Now := if b then S.past else S.later
def sGo (b : Bool) (S : St2) : List Now := if b then S.later else S.past
theorem own_side (b : Bool) {H : Hp} {ao gl : Addr} {F : Fld} {S : St2} (h : OwnAt K H ao gl F S) : ∃ vF vN x y, H ao = some (.dK (okv b vF vN x y)) ∧ Hd K H vF F ∧ Hd K H vN S.now ∧ LAt K H x (sBeg b S) ∧ LAt K H y (sGo b S) ∧ x ≠ gl ∧ y ≠ gl := by
  obtain ⟨vF, vN, pa, la, h1, h2, h3, h4, h5, h6, h7⟩ := h.ex
  cases b with
  | true => exact ⟨vF, vN, pa, la, h1, h2, h3, h4, h5, h6, h7⟩
  | false => exact ⟨vF, vN, la, pa, h1, h2, h3, h5, h4, h7, h6⟩
theorem side_own (b : Bool) {H : Hp} {ao gl x y : Addr} {F : Fld} {now : Now} {Lb Lg : List Now} {vF vN : V} (h1 : H ao = some (.dK (okv b vF vN x y))) (h2 : Hd K H vF F) (h3 : Hd K H vN now) (h4 : LAt K H x Lb) (h5 : LAt K H y Lg) (h6 : x ≠ gl) (h7 : y ≠ gl) :
    OwnAt K H ao gl F (if b then ⟨now, Lb, Lg⟩ else ⟨now, Lg, Lb⟩) := by
  cases b with
  | true => exact ⟨vF, vN, x, y, h1, h2, h3, h4, h5, h6, h7⟩
  | false => exact ⟨vF, vN, y, x, h1, h2, h3, h5, h4, h7, h6⟩
theorem canS_eq (b : Bool) (S : St2) : canS b S = decide (sBeg b S ≠ []) := by cases b <;> rfl
theorem shiftS_eq (b : Bool) (S : St2) : shiftS b S = (if b then ⟨(sBeg b S).getLast?.getD S.now, (sBeg b S).dropLast, sGo b S ++ [S.now]⟩ else ⟨(sBeg b S).getLast?.getD S.now, sGo b S ++ [S.now], (sBeg b S).dropLast⟩) := by cases b <;> rfl
theorem ok_shift {f : Addr} {fd : FuncData} (F : Fun K "_law_shift" "_law_shift" (top 52) f fd) : FnOk P w K mg base CX0 1 f fd ["own", "begin", "goal"] (spShift K) := by
  refine F.ok scShift (fun vs H Q E h => ?_) (fun cdv A outer s H vs Q E hr h => ?_)
  · obtain ⟨ao, gl, F, S, b, rfl, _⟩ := h
    rfl
  · obtain ⟨ao, gl, FF, S, b, rfl, hO, hG, hz, hz2, kf, kt⟩ := h
    have hu := hu1 hr
    obtain ⟨vF, vN, x, y, h1, h2, h3, h4, h5, h6, h7⟩ := own_side b hO
    have lb : (sBeg b S).length ≤ 1000 := by cases b; exact hz2; exact hz
    have lg : (sGo b S).length ≤ 1000 := by cases b; exact hz; exact hz2
    refine ⟨_, pB, ?_⟩
    refine wB_cons (wS_if (TB.go (t := decide (sBeg b S = [])) (tb_eq (α := List Now) (hu64 hr) (fun H1 e1 Q q => wE_dgetV hu (k := kBeg b) (wE_var 0 rfl rfl ⟨ao, _, _, rfl, e1 _ _ h1, valB, q _ H1 (Ex.refl _) (h4.ex e1).hd⟩) 1) (tx_lst tl_nil (by decide))) fun H1 e1 => ?_))
    by_cases hnil : sBeg b S = []
    · rw [if_pos (decide_eq_true hnil)]
      exact wB_one (wS_ret (TX.go tx_bl fun u H2 e2 du => by rw [du.bl]; exact kf (by rw [canS_eq, hnil]; rfl) H2 (e1.trans e2)))
    · rw [if_neg (by rw [decide_eq_true_iff]; exact hnil)]
      have kt := kt (by rw [canS_eq]; exact decide_eq_true hnil)
      have O1 := hO.ofEx e1
      refine wB_nil (wB_cons (wS_dputV hu (k := kGo b) 2 (wE_catL (xs := sGo b S) (by rw [List.length_singleton]; omega) (fun H2 e2 Q q => wE_dgetV hu (k := kGo b) (wE_var 0 rfl rfl ⟨ao, _, _, rfl, e2 _ _ (e1 _ _ h1), valG, q _ H2 (Ex.refl _) ((h5.ex e1).ex e2).hd⟩) 2) (tx_lst (tl_cons (tx_ownN hu 0 O1) tl_nil) (by show 1 ≤ 100000; decide)) fun ln H2 e2 hln Ll => wE_var 0 rfl rfl ⟨ao, _, rfl, e2 _ _ (e1 _ _ h1), by rw [okv_len]; decide, ?_⟩)))
      have e12 := e1.trans e2
      have h12 := e12 _ _ h1
      rw [putG]
      have nlo : ln ≠ ao := fun z => by rw [z, e1 _ _ h1] at hln; cases hln
      have nlg := (hG.ex e1).ne hln
      have b2 : But [ao] H2 (upd H2 ao (.dK (okv b vF vN x ln))) := But.refl.upd (List.mem_singleton.mpr rfl)
      have nt2 : NoTup [ao] H2 := (hO.ofEx e12).no
      have npa : x ≠ ao := fun z => by obtain ⟨u, hu, _⟩ := h4.at_; rw [z, h1] at hu; cases hu
      have G3 : But [ao] H (upd H2 ao (.dK (okv b vF vN x ln))) := (But.of_ex e12).trans b2
      have a3 : upd H2 ao (.dK (okv b vF vN x ln)) ao = some (.dK (okv b vF vN x ln)) := upd_same
      have hF3 := (h2.ex e12).but b2 nt2
      have Lp3 := (h4.ex e12).but b2 nt2 (by simpa using npa)
      have Ll3 := Ll.but b2 nt2 (by simpa using nlo)
      have gk3 : Gk (upd H2 ao (.dK (okv b vF vN x ln))) gl := by
        obtain ⟨us, hus⟩ := hG
        exact ⟨us, by rw [upd_ne (fun z => by rw [z, h1] at hus; cases hus)]; exact e12 _ _ hus⟩
      generalize upd H2 ao (.dK (okv b vF vN x ln)) = H3 at *
      -- own["now"], own[begin] = (own[begin][-1], own[begin][:-1])
      refine wB_cons (wS_dput2 (k := "now") (k' := kBeg b) hu rfl 0 pe_str (pe_var (i := 1) rfl (.inl rfl)) (fun _ _ q => q) (fun _ _ q => ⟨_, rfl, q⟩) (wE_tup2 (TX.go (x := (sBeg b S).getLast?.getD S.now) (tx_ixL (i := -1) (xs := sBeg b S) (fun H4 e4 Q q => wE_dgetV hu (k := kBeg b) (wE_var 0 rfl rfl ⟨ao, _, _, rfl, e4 _ _ a3, valB, q _ H4 (Ex.refl _) (Lp3.ex e4).hd⟩) 1) (tx_neg tx_int) (last_at hnil _)) fun vn H4 e4 dn =>
        wE_slL (xs := sBeg b S) (fun H5 e5 Q q => wE_dgetV hu (k := kBeg b) (wE_var 0 rfl rfl ⟨ao, _, _, rfl, e5 _ _ (e4 _ _ a3), valB, q _ H5 (Ex.refl _) ((Lp3.ex e4).ex e5).hd⟩) 1) to_none (to_some (tx_neg tx_int)) fun lc H5 e5 hlc Lc q hq => ⟨q, vn, .ref lc, okv b vF vN x ln, rfl, SqT.of upd_same, ?_, by rw [okv_len]; decide, ?_⟩)))
      · exact Ex.new hq _ _ (e5 _ _ (e4 _ _ a3))
      · rw [putN, putB, upd_upd]
        have e45 := e4.trans e5
        have eq := Ex.new (o := HO.tup [vn, .ref lc]) hq
        have e3q := e45.trans eq
        have a5 := e3q _ _ a3
        have b5 : But [ao] (upd H5 q (.tup [vn, .ref lc])) (upd (upd H5 q (.tup [vn, .ref lc])) ao (.dK (okv b vF vn lc ln))) := But.refl.upd (List.mem_singleton.mpr rfl)
        have nt5 : NoTup [ao] (upd H5 q (.tup [vn, .ref lc])) := NoTup.cons (notup_dK a5) NoTup.nil
        have ncl : lc ≠ ao := fun z => by rw [z, e4 _ _ a3] at hlc; cases hlc
        have ncg := (gk3.ex e4).ne hlc
        rw [cutX_last] at Lc
        have O5 := side_own b (gl := gl) (upd_same (H := upd H5 q (.tup [vn, .ref lc])) (a := ao) (o := HO.dK (okv b vF vn lc ln))) ((hF3.ex e3q).but b5 nt5) (((dn.ex e5).ex eq).but b5 nt5) ((Lc.ex eq).but b5 nt5 (by simpa using ncl)) ((Ll3.ex e3q).but b5 nt5 (by simpa using nlo)) ncg nlg
        rw [← shiftS_eq] at O5
        refine wB_one (wS_ret (TX.go tx_bl fun u H6 e6 du => by rw [du.bl]; exact kt H6 (((G3.trans (But.of_ex e3q)).trans b5).trans (But.of_ex e6)) (O5.ofEx e6)))
end
end K95
/-! KT8: attributes, methods, properties of own instances. -/
namespace K95
open PySem PySem.Spec PySem.Calls PySem.W PyProof.Rows L2 Evl
/-- a method that keeps sp and raises nothing; one that may raise -/
structure OwnM (P : Program) (w : World) (K : Frag) (mg : Str → Option Value) (base : Heap) (k : Nat) (C : Addr) (m : Str) (ps : List Str) (sp : Sp) : Prop where
  own : ∃ f fd, FnOk P w K mg base CX0 k f fd ps sp ∧ Meth K C m f ∧ Binds K fd ps []
structure OwnMX (P : Program) (w : World) (K : Frag) (mg : Str → Option Value) (base : Heap) (k : Nat) (C : Addr) (m : Str) (ps : List Str) (sp : Sp) : Prop where
  own : ∃ f fd, FnOk P w K mg base (L2.CX P w) k f fd ps sp ∧ Meth K C m f ∧ Binds K fd ps []
section
variable {X : Cx} {σ : L2.St} {H H0 : Hp} {e a b o value : Expr} {es : List Expr} {p p' apos pos : Pos} {Q : VK} {D : Ends} {n m f : Str} {j k : Nat} {C : Addr} {ps : List Str} {sp : Sp} {W : WX}
theorem wE_fld (ho : wE X o σ H fun x H1 => ∃ a C dx fs v, x = .ref a ∧ H1 a = some (.ins C dx fs) ∧ Cls X.K C ∧ NoAttr X.K C f ∧ fs.lookup f = some v ∧ Q v H1) (hb : attributeBase o f X.env (eval o X.env) = eval o X.env := by rfl) : wE X (.Attribute o f pos) σ H Q :=
  wE_of (pe_fld pE hb) ho
theorem wS_fld (hv : wE X value σ H fun y H1 => wE X o σ H1 fun x H2 => ∃ a C dx fs, x = .ref a ∧ H2 a = some (.ins C dx fs) ∧ Cls X.K C ∧ NoAttr X.K C f ∧ fs.length < 1000 ∧ D.nx σ (upd H2 a (.ins C dx (putF f y fs)))) (hs : swapsWith value (some (.Attribute o f p')) pos.line X.env = pure false := by rfl) : wS X (.Assign [.Attribute o f p'] value pos) D σ H :=
  wS_of (ps_fld pE pE hs) hv
theorem wE_meth0 {pl : Sem Bool} (M : OwnM X.prog X.w X.K X.mg X.base k C m ps sp) (c : Cls X.K C) (hr : Room k X.A) (ho : wE X o σ H fun x H1 => ∃ a dx fs, x = .ref a ∧ H1 a = some (.ins C dx fs) ∧ fs.lookup m = none ∧ sp [x] H1 Q noE)
    (ht : eval (.Call (.Attribute o m apos) [] [] pos) X.env = (do
      let ov ← eval o X.env
      standAt apos.atName
      let (f, first) ← holding [ov] (getMethod ov m pl)
      callWith pos f first (backTo pos (starEach [] X.env)) (backToKw pos (keywordEach [] X.env))) := by rfl) : wE X (.Call (.Attribute o m apos) [] [] pos) σ H Q := by
  obtain ⟨g, fd, F, hm, hb⟩ := M.own
  exact wE_of (pe_meth0 (dvs := []) pE c hm F hr hb .nil (passes0' (E := noE)) ht) (wE_mono ho fun x H1 ⟨a, dx, fs, e1, e2, e3, q⟩ => ⟨a, dx, fs, e1, e2, e3, q⟩)
theorem wE_meth {pl : Sem Bool} (M : OwnM X.prog X.w X.K X.mg X.base k C m ps sp) (c : Cls X.K C) (hr : Room k X.A) (ho : wE X o σ H fun x H1 => ∃ a dx fs, x = .ref a ∧ H1 a = some (.ins C dx fs) ∧ fs.lookup m = none ∧ wA X (e :: es) σ H1 fun vs H2 => sp (x :: vs) H2 Q noE)
    (hst : starEach (e :: es) X.env = (false, eval e X.env) :: starEach es X.env := by rfl) (hpl : (backTo pos (starEach es X.env)).any (·.1) = false := by rfl)
    (ht : eval (.Call (.Attribute o m apos) (e :: es) [] pos) X.env = (do
      let ov ← eval o X.env
      standAt apos.atName
      let (f, first) ← holding [ov] (getMethod ov m pl)
      callWith pos f first (backTo pos (starEach (e :: es) X.env)) (backToKw pos (keywordEach [] X.env))) := by rfl) : wE X (.Call (.Attribute o m apos) (e :: es) [] pos) σ H Q := by
  obtain ⟨g, fd, F, hm, hb⟩ := M.own
  exact wE_of (pe_meth (dvs := []) pE c hm F hr hb .nil (passes0' (E := noE)) pA hst hpl ht) (wE_mono ho fun x H1 ⟨a, dx, fs, e1, e2, e3, q⟩ => ⟨a, dx, fs, e1, e2, e3, wA_mono q fun vs H2 q2 => by rw [List.append_nil]; exact q2⟩)
/-- a call that may raise, what is raised wished for at the slots -/
theorem run_x {pins : List (Addr × Obj)} {s : Shared} {us : List Value} {vs : List V} {f : Addr} {fd : FuncData} (F : FnOk X.prog X.w X.K X.mg X.base (L2.CX X.prog X.w) k f fd ps sp) (hr : Room k X.A) (hb : Binds X.K fd ps []) (tk : Takes X W)
    (I : Inv X pins σ H s) (r : Vals vs us) (h : sp vs H Q (fun c d H' => W c d σ H')) : wpAny (model X.prog X.w) X.A (call (.ref f) us) (EP X pins σ Q) X.xe s := by
  have hl := F.len _ _ _ _ h
  have e0 := hb s us I.kIn (by rw [List.append_nil, ← r.length]; exact hl)
  rw [List.append_nil] at e0
  refine wpAny_call (codeAny_mono (F.run X.A X.stack s H ⟨us, []⟩ us vs Q _ hr I.env0 e0 r h) fun r s' hq => ?_)
  cases r with
  | error e => exact tk e s' (XE.of_call I (fun _ _ _ h => h) hq)
  | ok fl =>
    cases fl with
    | ret u => exact I.after hq
    | next => exact False.elim hq
    | brk => exact False.elim hq
    | cont => exact False.elim hq
theorem wE_methX {pl : Sem Bool} (M : OwnMX X.prog X.w X.K X.mg X.base k C m ps sp) (c : Cls X.K C) (hr : Room k X.A) (tk : Takes X W) (ho : wE X o σ H fun x H1 => ∃ a dx fs, x = .ref a ∧ H1 a = some (.ins C dx fs) ∧ fs.lookup m = none ∧ wA X (e :: es) σ H1 fun vs H2 => sp (x :: vs) H2 Q (fun c d H' => W c d σ H'))
    (hst : starEach (e :: es) X.env = (false, eval e X.env) :: starEach es X.env := by rfl) (hpl : (backTo pos (starEach es X.env)).any (·.1) = false := by rfl)
    (ht : eval (.Call (.Attribute o m apos) (e :: es) [] pos) X.env = (do
      let ov ← eval o X.env
      standAt apos.atName
      let (f, first) ← holding [ov] (getMethod ov m pl)
      callWith pos f first (backTo pos (starEach (e :: es) X.env)) (backToKw pos (keywordEach [] X.env))) := by rfl) : wE X (.Call (.Attribute o m apos) (e :: es) [] pos) σ H Q := by
  obtain ⟨g, fd, F, hm, hb⟩ := M.own
  intro pins s I
  refine PySem.W.methodCall_KW (pl := pl) (thn (ho pins s I) fun u s1 ⟨x, H1, I1, rx, a, dx, fs, ex, ea, l, q⟩ => ?_) ht
  subst ex
  obtain rfl : u = Value.ref a := rx
  refine getmeth_ok I1 ea c hm l ?_
  refine PySem.W.callWith_K (first := [.ref a]) (h₀ := X.base) I.ok.mod.kin hm.kp (thn (q pos pins s1 I1) fun us s2 ⟨vs, H2, I2, r, q2⟩ => ⟨I2.kIn, ?_⟩) hst hpl
  exact run_x (us := .ref a :: us) (vs := .ref a :: vs) F hr hb tk I2 (.cons rfl r) q2
/-- nothing is raised, as the promise says -/
theorem takesN : Takes X noW := takesNo
end
/-- a property's getter -/
structure OwnP (P : Program) (w : World) (K : Frag) (mg : Str → Option Value) (base : Heap) (k : Nat) (C : Addr) (m : Str) (ps : List Str) (sp : Sp) : Prop where
  own : ∃ g p fd, FnOk P w K mg base CX0 k g fd ps sp ∧ PropOf K C m p g ∧ Binds K fd ps []
section
variable {X : Cx} {σ : L2.St} {H H0 : Hp} {o : Expr} {pos : Pos} {Q : VK} {m : Str} {k : Nat} {C : Addr} {ps : List Str} {sp : Sp}
theorem wE_prop (M : OwnP X.prog X.w X.K X.mg X.base k C m ps sp) (c : Cls X.K C) (hr : Room (k + 1) X.A) (ho : wE X o σ H fun x H1 => ∃ a dx fs, x = .ref a ∧ H1 a = some (.ins C dx fs) ∧ sp [.ref a] H1 Q noE) (hb : attributeBase o m X.env (eval o X.env) = eval o X.env := by rfl) : wE X (.Attribute o m pos) σ H Q := by
  obtain ⟨g, p, fd, F, hp, hbd⟩ := M.own
  exact wE_of (pe_prop (dvs := []) pE c hp F hr hbd .nil (passes0' (E := noE)) hb) ho
end
end K95
namespace K95
open PySem PySem.Spec PySem.Calls PySem.W PyProof.Rows L2 Evl
/-! the class Sheet: what its objects hold -/
abbrev sFs (vF vN vP vL : V) : List (Str × V) := [("own_field", vF), ("now", vN), ("past", vP), ("later", vL)]
structure SheetAt (K : Frag) (H : Hp) (C sa : Addr) (F : Fld) (S : St2) : Prop where
  ex : ∃ dx vF vN vP vL, H sa = some (.ins C dx (sFs vF vN vP vL)) ∧ Hd K H vF F ∧ Hd K H vN S.now ∧ Hd K H vP (Tup.mk S.past) ∧ Hd K H vL (Tup.mk S.later)
/-- what the walk asks of the class -/
structure ShC (K : Frag) (mg : Str → Option Value) (C : Addr) : Prop where
  cl : Cls K C
  nF : NoAttr K C "own_field"
  nN : NoAttr K C "now"
  nP : NoAttr K C "past"
  nL : NoAttr K C "later"
  gC : mg "Sheet" = some (.ref C)
  ha : findIn K (.ref C) "__class__" = some (some (.builtin "object.__class__"))
  hn : specialIn K (.builtin "object.__class__") "__get__" = some (some (.builtin "getset_descriptor.__get__"))
  htk : takesIn K (.builtin "object.__class__") = some true
  hm : mroIn K C (.type "object") = some true
  kT : kitOne K (.type "tuple") (.ref C) = some false
  kI : kitOne K (.type "int") (.ref C) = some false
section
variable {K : Frag} {H H1 : Hp} {C sa : Addr} {F : Fld} {S : St2} {T : List Addr}
theorem SheetAt.ofEx (h : SheetAt K H C sa F S) (e : Ex H H1) : SheetAt K H1 C sa F S := by
  obtain ⟨dx, vF, vN, vP, vL, h1, h2, h3, h4, h5⟩ := h.ex
  exact ⟨dx, vF, vN, vP, vL, e _ _ h1, h2.ex e, h3.ex e, h4.ex e, h5.ex e⟩
theorem SheetAt.kp (h : SheetAt K H C sa F S) (k : Kp T H H1) (n : NoTup T H) (ho : sa ∉ T) : SheetAt K H1 C sa F S := by
  obtain ⟨dx, vF, vN, vP, vL, h1, h2, h3, h4, h5⟩ := h.ex
  exact ⟨dx, vF, vN, vP, vL, k _ _ ho (fun ps z => by cases z) h1, h2.kp k n, h3.kp k n, h4.kp k n, h5.kp k n⟩
theorem SheetAt.no (h : SheetAt K H C sa F S) : NoTup [sa] H := by
  obtain ⟨dx, vF, vN, vP, vL, h1, _⟩ := h.ex
  exact NoTup.cons (notup_ins h1) NoTup.nil
end
section
variable {X : Cx} {σ : L2.St} {H : Hp} {C sa : Addr} {F : Fld} {S : St2} {p p1 p' pos : Pos} {D : Ends} {n : Str} {value e a b : Expr} {α : Type} [DecidableEq α] [Datum α] {x : α} {xs : List α}
/-- the object's fields, the object in slot m -/
theorem tx_sF (T : ShC X.K X.mg C) (m : Nat) (h : SheetAt X.K H C sa F S) (hσ : σ[m]? = some (some (.ref sa)) := by rfl) (hN : X.N[m]? = some n := by rfl) (hv : Vis X.env.scope n := by first | exact .inl rfl | exact .inr (.inl rfl) | exact .inr (.inr rfl)) (hd : (n == ("__debug__" : Str)) = false := by decide) (hcd : (n == ("__classdict__" : Str)) = false := by decide)
    (hb : attributeBase (.Name n p) "own_field" X.env (eval (.Name n p) X.env) = eval (.Name n p) X.env := by rfl) : TX X σ H (.Attribute (.Name n p) "own_field" pos) F := fun H1 e Q q => by
  obtain ⟨dx, vF, vN, vP, vL, h1, h2, h3, h4, h5⟩ := (h.ofEx e).ex
  exact wE_fld (wE_var m hσ hN ⟨sa, C, dx, _, vF, rfl, h1, T.cl, T.nF, rfl, q _ H1 (Ex.refl _) h2⟩ hv hd hcd) hb
theorem tx_sN (T : ShC X.K X.mg C) (m : Nat) (h : SheetAt X.K H C sa F S) (hσ : σ[m]? = some (some (.ref sa)) := by rfl) (hN : X.N[m]? = some n := by rfl) (hv : Vis X.env.scope n := by first | exact .inl rfl | exact .inr (.inl rfl) | exact .inr (.inr rfl)) (hd : (n == ("__debug__" : Str)) = false := by decide) (hcd : (n == ("__classdict__" : Str)) = false := by decide)
    (hb : attributeBase (.Name n p) "now" X.env (eval (.Name n p) X.env) = eval (.Name n p) X.env := by rfl) : TX X σ H (.Attribute (.Name n p) "now" pos) S.now := fun H1 e Q q => by
  obtain ⟨dx, vF, vN, vP, vL, h1, h2, h3, h4, h5⟩ := (h.ofEx e).ex
  exact wE_fld (wE_var m hσ hN ⟨sa, C, dx, _, vN, rfl, h1, T.cl, T.nN, rfl, q _ H1 (Ex.refl _) h3⟩ hv hd hcd) hb
theorem tx_sP (T : ShC X.K X.mg C) (m : Nat) (h : SheetAt X.K H C sa F S) (hσ : σ[m]? = some (some (.ref sa)) := by rfl) (hN : X.N[m]? = some n := by rfl) (hv : Vis X.env.scope n := by first | exact .inl rfl | exact .inr (.inl rfl) | exact .inr (.inr rfl)) (hd : (n == ("__debug__" : Str)) = false := by decide) (hcd : (n == ("__classdict__" : Str)) = false := by decide)
    (hb : attributeBase (.Name n p) "past" X.env (eval (.Name n p) X.env) = eval (.Name n p) X.env := by rfl) : TX X σ H (.Attribute (.Name n p) "past" pos) (Tup.mk S.past) := fun H1 e Q q => by
  obtain ⟨dx, vF, vN, vP, vL, h1, h2, h3, h4, h5⟩ := (h.ofEx e).ex
  exact wE_fld (wE_var m hσ hN ⟨sa, C, dx, _, vP, rfl, h1, T.cl, T.nP, rfl, q _ H1 (Ex.refl _) h4⟩ hv hd hcd) hb
theorem tx_sL (T : ShC X.K X.mg C) (m : Nat) (h : SheetAt X.K H C sa F S) (hσ : σ[m]? = some (some (.ref sa)) := by rfl) (hN : X.N[m]? = some n := by rfl) (hv : Vis X.env.scope n := by first | exact .inl rfl | exact .inr (.inl rfl) | exact .inr (.inr rfl)) (hd : (n == ("__debug__" : Str)) = false := by decide) (hcd : (n == ("__classdict__" : Str)) = false := by decide)
    (hb : attributeBase (.Name n p) "later" X.env (eval (.Name n p) X.env) = eval (.Name n p) X.env := by rfl) : TX X σ H (.Attribute (.Name n p) "later" pos) (Tup.mk S.later) := fun H1 e Q q => by
  obtain ⟨dx, vF, vN, vP, vL, h1, h2, h3, h4, h5⟩ := (h.ofEx e).ex
  exact wE_fld (wE_var m hσ hN ⟨sa, C, dx, _, vL, rfl, h1, T.cl, T.nL, rfl, q _ H1 (Ex.refl _) h5⟩ hv hd hcd) hb
/-- x.now = e, .. -/
theorem wS_sN (T : ShC X.K X.mg C) (m : Nat) {now : Now} (h : SheetAt X.K H C sa F S) (he : TX X σ H value now) (q : ∀ H', But [sa] H H' → SheetAt X.K H' C sa F { S with now := now } → D.nx σ H') (hσ : σ[m]? = some (some (.ref sa)) := by rfl) (hN : X.N[m]? = some n := by rfl) (hv : Vis X.env.scope n := by first | exact .inl rfl | exact .inr (.inl rfl) | exact .inr (.inr rfl)) (hd : (n == ("__debug__" : Str)) = false := by decide) (hcd : (n == ("__classdict__" : Str)) = false := by decide)
    (hs : swapsWith value (some (.Attribute (.Name n p) "now" p')) pos.line X.env = pure false := by rfl) : wS X (.Assign [.Attribute (.Name n p) "now" p'] value pos) D σ H :=
  wS_fld (he.go fun v H1 e1 d => by
    obtain ⟨dx, vF, vN, vP, vL, h1, h2, h3, h4, h5⟩ := (h.ofEx e1).ex
    have b1 : But [sa] H1 (upd H1 sa (.ins C dx (sFs vF v vP vL))) := But.refl.upd (List.mem_singleton.mpr rfl)
    have nt := (h.ofEx e1).no
    exact wE_var m hσ hN ⟨sa, C, dx, _, rfl, h1, T.cl, T.nN, by show 4 < 1000; decide, q _ ((But.of_ex e1).trans b1) ⟨dx, vF, v, vP, vL, upd_same, h2.but b1 nt, d.but b1 nt, h4.but b1 nt, h5.but b1 nt⟩⟩ hv hd hcd) hs
theorem wS_sP (T : ShC X.K X.mg C) (m : Nat) {ps : List Now} (h : SheetAt X.K H C sa F S) (he : TX X σ H value (Tup.mk ps)) (q : ∀ H', But [sa] H H' → SheetAt X.K H' C sa F { S with past := ps } → D.nx σ H') (hσ : σ[m]? = some (some (.ref sa)) := by rfl) (hN : X.N[m]? = some n := by rfl) (hv : Vis X.env.scope n := by first | exact .inl rfl | exact .inr (.inl rfl) | exact .inr (.inr rfl)) (hd : (n == ("__debug__" : Str)) = false := by decide) (hcd : (n == ("__classdict__" : Str)) = false := by decide)
    (hs : swapsWith value (some (.Attribute (.Name n p) "past" p')) pos.line X.env = pure false := by rfl) : wS X (.Assign [.Attribute (.Name n p) "past" p'] value pos) D σ H :=
  wS_fld (he.go fun v H1 e1 d => by
    obtain ⟨dx, vF, vN, vP, vL, h1, h2, h3, h4, h5⟩ := (h.ofEx e1).ex
    have b1 : But [sa] H1 (upd H1 sa (.ins C dx (sFs vF vN v vL))) := But.refl.upd (List.mem_singleton.mpr rfl)
    have nt := (h.ofEx e1).no
    exact wE_var m hσ hN ⟨sa, C, dx, _, rfl, h1, T.cl, T.nP, by show 4 < 1000; decide, q _ ((But.of_ex e1).trans b1) ⟨dx, vF, vN, v, vL, upd_same, h2.but b1 nt, h3.but b1 nt, d.but b1 nt, h5.but b1 nt⟩⟩ hv hd hcd) hs
theorem wS_sL (T : ShC X.K X.mg C) (m : Nat) {ps : List Now} (h : SheetAt X.K H C sa F S) (he : TX X σ H value (Tup.mk ps)) (q : ∀ H', But [sa] H H' → SheetAt X.K H' C sa F { S with later := ps } → D.nx σ H') (hσ : σ[m]? = some (some (.ref sa)) := by rfl) (hN : X.N[m]? = some n := by rfl) (hv : Vis X.env.scope n := by first | exact .inl rfl | exact .inr (.inl rfl) | exact .inr (.inr rfl)) (hd : (n == ("__debug__" : Str)) = false := by decide) (hcd : (n == ("__classdict__" : Str)) = false := by decide)
    (hs : swapsWith value (some (.Attribute (.Name n p) "later" p')) pos.line X.env = pure false := by rfl) : wS X (.Assign [.Attribute (.Name n p) "later" p'] value pos) D σ H :=
  wS_fld (he.go fun v H1 e1 d => by
    obtain ⟨dx, vF, vN, vP, vL, h1, h2, h3, h4, h5⟩ := (h.ofEx e1).ex
    have b1 : But [sa] H1 (upd H1 sa (.ins C dx (sFs vF vN vP v))) := But.refl.upd (List.mem_singleton.mpr rfl)
    have nt := (h.ofEx e1).no
    exact wE_var m hσ hN ⟨sa, C, dx, _, rfl, h1, T.cl, T.nL, by show 4 < 1000; decide, q _ ((But.of_ex e1).trans b1) ⟨dx, vF, vN, vP, v, upd_same, h2.but b1 nt, h3.but b1 nt, h4.but b1 nt, d.but b1 nt⟩⟩ hv hd hcd) hs
/-- ( *t, e ) -/
theorem tx_starT {kk : Nat} (ha : TX X σ H a (Tup.mk xs)) (hb : TX X σ H b x) (hz : xs.length ≤ 10000) (hs : starEach (.Starred a p1 :: [b]) X.env = (true, eval a X.env) :: starEach [b] X.env := by rfl) (hs2 : starEach (b :: []) X.env = (false, eval b X.env) :: starEach [] X.env := by rfl) :
    TX X σ H (.Tuple [.Starred a p1, b] kk p) (Tup.mk (xs ++ [x])) := fun H1 k Q q => wE_of (pe_tup (StX.pa_star pE (pa_cons pE pa_nil hs2) hs)) (ha H1 k _ fun v H2 k2 d => by
  obtain ⟨l, vs, rfl, h1, h2⟩ := d.tup
  exact ⟨l, vs, rfl, .inl h1, hb H2 (k.trans k2) _ fun w H3 k3 d3 => ⟨by rw [List.length_append, h2.len, sizeLine_eq]; show xs.length + 1 ≤ _; omega, fun q' hq => q _ _ ((k2.trans k3).trans (Ex.new hq)) (hd_tup (SqT.of upd_same) (((h2.ex k3).snoc d3).ex (Ex.new hq)))⟩⟩)
end
/-- a promise of a getter, of a method without arguments that changes nothing -/
def spGet {δ : Type} [DecidableEq δ] [Datum δ] (K : Frag) (C : Addr) (ok : Fld → St2 → Prop) (f : Fld → St2 → δ) : Sp := fun vs H Q _ => ∃ (sa : Addr) (F : Fld) (S : St2), vs = [.ref sa] ∧ SheetAt K H C sa F S ∧ ok F S ∧ ∀ u H', Ex H H' → Hd K H' u (f F S) → Q u H'
abbrev mth (j : Nat) : Stmt := inClass (top 34) j
section
variable {P : Program} {w : World} {K : Frag} {mg : Str → Option Value} {base : Heap} {C : Addr}
theorem scSelf1 : FnScope ["self"] ["self"] (defScope (mth 1)) := ⟨rfl, rfl, rfl, by decide +kernel, rfl, by decide +kernel, by decide +kernel⟩
theorem ok_sfield {f : Addr} {fd : FuncData} (F : Fun K "field" "Sheet.field" (mth 1) f fd) (T : ShC K mg C) : FnOk P w K mg base CX0 1 f fd ["self"] (spGet K C (fun _ _ => True) fun F _ => F) := by
  refine F.ok scSelf1 (fun vs H Q E h => ?_) (fun cdv A outer s H vs Q E hr h => ?_)
  · obtain ⟨sa, FF, S, rfl, _⟩ := h; rfl
  · obtain ⟨sa, FF, S, rfl, hS, _, k⟩ := h
    exact ⟨_, pB, wB_one (wS_ret (TX.go (tx_sF T 0 hS) fun u H' e d => k u H' e d))⟩
theorem scSelf2 : FnScope ["self"] ["self"] (defScope (mth 2)) := ⟨rfl, rfl, rfl, by decide +kernel, rfl, by decide +kernel, by decide +kernel⟩
theorem ok_srow {f : Addr} {fd : FuncData} (F : Fun K "row" "Sheet.row" (mth 2) f fd) (T : ShC K mg C) : FnOk P w K mg base CX0 1 f fd ["self"] (spGet K C (fun _ _ => True) fun _ S => S.now.1) := by
  refine F.ok scSelf2 (fun vs H Q E h => ?_) (fun cdv A outer s H vs Q E hr h => ?_)
  · obtain ⟨sa, FF, S, rfl, _⟩ := h; rfl
  · obtain ⟨sa, FF, S, rfl, hS, _, k⟩ := h
    exact ⟨_, pB, wB_one (wS_ret (TX.go (tx_fst (tx_sN T 0 hS)) fun u H' e d => k u H' e d))⟩
def stepsS (S : St2) : Tup Step := Tup.mk (S.now.1.items.map fun q => q.2)
theorem scSelf3 : FnScope ["self", "number", "step"] ["self"] (defScope (mth 3)) := ⟨rfl, rfl, rfl, by decide +kernel, rfl, by decide +kernel, by decide +kernel⟩
theorem ok_ssteps {f : Addr} {fd : FuncData} (F : Fun K "steps" "Sheet.steps" (mth 3) f fd) (T : ShC K mg C) (B : Bn mg) : FnOk P w K mg base CX0 1 f fd ["self"] (spGet K C (fun _ S => S.now.1.items.length ≤ 1000) fun _ S => stepsS S) := by
  refine F.ok scSelf3 (fun vs H Q E h => ?_) (fun cdv A outer s H vs Q E hr h => ?_)
  · obtain ⟨sa, FF, S, rfl, _⟩ := h; rfl
  · obtain ⟨sa, FF, S, rfl, hS, hz, k⟩ := h
    refine ⟨_, pB, wB_one (wS_ret (TX.go (x := stepsS S) (tx_tuple B.tuple (TX.conv (tx_lc (f := fun q : Pr => q.2) (pr := fun _ => true) [("number", 1), ("step", 2)] rfl scSelf3.nd (blkOk_by (N := ["self", "number", "step"]) (sc := defScope (mth 3)) (by decide +kernel)) (Nat.le_trans hz (by decide)) (ti_tup (tx_fst (tx_sN T 0 hS))) fun z hz v' H' e' d' => ?_) (x' := S.now.1.items.map fun q => q.2) ?_)) fun u H' e d => k u H' e d))⟩
    · obtain ⟨l, v1, v2, rfl, h1, h2, h3⟩ := d'.pair
      exact ⟨_, fun s0 H0 C cl fp => ⟨tgt_two 1 2 rfl scSelf3.nd h1, tbs_nil, fun _ => tx_var 2 h3⟩, rfl⟩
    · rw [List.filter_eq_self.mpr fun _ _ => rfl]
theorem scSelf4 : FnScope ["self"] ["self"] (defScope (mth 4)) := ⟨rfl, rfl, rfl, by decide +kernel, rfl, by decide +kernel, by decide +kernel⟩
/-- the fields and steps for which the least pile is told -/
def LeOk (F : Fld) (S : St2) : Prop := S.now.1.items.length ≤ 500 ∧ F.1.items.length ≤ 6 ∧ NmOk F (stepsS S).items
theorem ok_sleast {f : Addr} {fd : FuncData} (F : Fun K "least" "Sheet.least" (mth 4) f fd) (T : ShC K mg C) (M : OwnP P w K mg base 1 C "steps" ["self"] (spGet K C (fun _ S => S.now.1.items.length ≤ 1000) fun _ S => stepsS S))
    (N : Own P w K mg base 5 "least_in" ["field", "steps"] (Pu2 K (fun (F : Fld) (st : Tup Step) => st.items.length ≤ 500 ∧ F.1.items.length ≤ 6 ∧ NmOk F st.items) leastF)) : FnOk P w K mg base CX0 6 f fd ["self"] (spGet K C LeOk fun F S => leastF F (stepsS S)) := by
  refine F.ok scSelf4 (fun vs H Q E h => ?_) (fun cdv A outer s H vs Q E hr h => ?_)
  · obtain ⟨sa, FF, S, rfl, _⟩ := h; rfl
  · obtain ⟨sa, FF, S, rfl, hS, ⟨h1, h2, h3⟩, k⟩ := h
    have hr5 : Room 5 _ := hr
    refine ⟨_, pB, wB_one (wS_ret (TX.go (tx_own2 N hr5 (t2_mk (tx_sF T 0 hS) (fun H1 e1 Q q => ?_)) ⟨by unfold stepsS; rw [List.length_map]; exact h1, h2, h3⟩) fun u H' e d => k u H' e d))⟩
    have S1 := hS.ofEx e1
    obtain ⟨dx, vF, vN, vP, vL, g1, _⟩ := S1.ex
    exact wE_prop M T.cl (hr5.mono (by decide)) (wE_var 0 rfl rfl ⟨sa, dx, _, rfl, g1, sa, FF, S, rfl, S1, Nat.le_trans h1 (by decide), fun u H2 e2 d2 => q u H2 e2 d2⟩)
theorem scSelf5 : FnScope ["self"] ["self"] (defScope (mth 5)) := ⟨rfl, rfl, rfl, by decide +kernel, rfl, by decide +kernel, by decide +kernel⟩
theorem ok_slen {f : Addr} {fd : FuncData} (F : Fun K "__len__" "Sheet.__len__" (mth 5) f fd) (T : ShC K mg C) (B : Bn mg) : FnOk P w K mg base CX0 1 f fd ["self"] (spGet K C (fun _ _ => True) fun _ S => ((S.now.1.items.length : Nat) : Int)) := by
  refine F.ok scSelf5 (fun vs H Q E h => ?_) (fun cdv A outer s H vs Q E hr h => ?_)
  · obtain ⟨sa, FF, S, rfl, _⟩ := h; rfl
  · obtain ⟨sa, FF, S, rfl, hS, _, k⟩ := h
    exact ⟨_, pB, wB_one (wS_ret (TX.go (tx_lenT B.len (tx_fst (tx_sN T 0 hS))) fun u H' e d => k u H' e d))⟩
end
end K95
namespace K95
open PySem PySem.Spec PySem.Calls PySem.W PyProof.Rows L2 Evl
/-! ### is it the number of a step that stands -/
def nums (S : St2) : List Int := S.now.1.items.map fun q => q.1
/-- what is asked of is_number: ints, None, bools, texts -/
inductive Sc | i (n : Int) | non | b (x : Bool) | s (x : Str)
def Sc.v : Sc → V
  | .i n => .int n
  | .non => .non
  | .b x => .bl x
  | .s x => .str x
def isNum (S : St2) : Sc → Bool
  | .i n => isIn n (nums S)
  | _ => false
def spIsNum (K : Frag) (C : Addr) : Sp := fun vs H Q _ => ∃ (sa : Addr) (F : Fld) (S : St2) (c : Sc), vs = [.ref sa, c.v] ∧ SheetAt K H C sa F S ∧ S.now.1.items.length ≤ 1000 ∧ ∀ H', Ex H H' → Q (.bl (isNum S c)) H'
section
variable {P : Program} {w : World} {K : Frag} {mg : Str → Option Value} {base : Heap} {C : Addr}
theorem kit_none_int {K : Frag} : kitOne K (.type "NoneType") (.type "int") = some false := by with_unfolding_all rfl
theorem kit_bool_int {K : Frag} : kitOne K (.type "bool") (.type "int") = some true := by with_unfolding_all rfl
theorem kit_str_int {K : Frag} : kitOne K (.type "str") (.type "int") = some false := by with_unfolding_all rfl
theorem scIsNum : FnScope ["self", "value", "pair"] ["self", "value"] (defScope (mth 9)) := ⟨rfl, rfl, rfl, by decide +kernel, rfl, by decide +kernel, by decide +kernel⟩
theorem ok_isnum {f : Addr} {fd : FuncData} (F : Fun K "is_number" "Sheet.is_number" (mth 9) f fd) (T : ShC K mg C) (B : Bn mg) : FnOk P w K mg base CX0 1 f fd ["self", "value"] (spIsNum K C) := by
  refine F.ok scIsNum (fun vs H Q E h => ?_) (fun cdv A outer s H vs Q E hr h => ?_)
  · obtain ⟨sa, FF, S, c, rfl, _⟩ := h; rfl
  · obtain ⟨sa, FF, S, c, rfl, hS, hz, k⟩ := h
    have hu := hu1 hr
    refine ⟨_, pB, ?_⟩
    cases c with
    | i n =>
      refine wB_one (wS_ret (TX.go (x := isIn n (nums S)) (TX.conv (tx_and (tx_isi B.isinstance B.int (by with_unfolding_all rfl) kit_same (tx_var 1 (hd_int (i := n)))) fun _ => tx_and (tx_not (tx_isi B.isinstance B.bool (by with_unfolding_all rfl) kit_int_bool (tx_var 1 (hd_int (i := n))))) fun _ => tx_one (tx_inL (hu65 hr) (tx_var 1 (hd_int (i := n)))
        (TX.conv (x' := nums S) (tx_lc (f := fun q : Pr => q.1) (pr := fun _ => true) [("pair", 2)] rfl scIsNum.nd (blkOk_by (N := ["self", "value", "pair"]) (sc := defScope (mth 9)) (by decide +kernel)) (Nat.le_trans hz (by decide)) (ti_tup (tx_fst (tx_sN T 0 hS))) fun z hz v' H' e' d' => ⟨_, fun s0 H0 C cl fp => ⟨tgt_name 2 scIsNum.nd, tbs_nil, fun _ => tx_fst (tx_var 2 d')⟩, rfl⟩) ?_))) rfl) fun u H' e d => ?_))
      · rw [List.filter_eq_self.mpr fun _ _ => rfl]; rfl
      · rw [d.bl]; exact k H' e
    | non =>
      refine wB_one (wS_ret (TX.go (x := false) (TX.conv (tx_and (s := false) (t := false) (fun H1 k1 Q q => wE_of (pe_callB call_isi rfl B.isinstance (by with_unfolding_all rfl) (pa_cons (pe_var (i := 1) rfl (.inl rfl)) (pa_cons (pe_bltn (v := .ty "int") rfl B.int (by with_unfolding_all rfl) rfl) pa_nil)))
          ⟨.non, rfl, .non, .ty "int", .type "NoneType", .type "int", false, rfl, .ty "int", .base .non, kit_none_int, q _ H1 (Ex.refl _) hd_bl⟩) fun z => by cases z) rfl) fun u H' e d => ?_))
      rw [d.bl]; exact k H' e
    | b x =>
      refine wB_one (wS_ret (TX.go (x := false) (TX.conv (tx_and (tx_isi B.isinstance B.int (by with_unfolding_all rfl) kit_bool_int (tx_var 1 (hd_bl (b := x)))) fun _ => tx_and (t := false) (tx_not (tx_isi B.isinstance B.bool (by with_unfolding_all rfl) kit_same (tx_var 1 (hd_bl (b := x))))) fun z => by cases z) rfl) fun u H' e d => ?_))
      rw [d.bl]; exact k H' e
    | s x =>
      refine wB_one (wS_ret (TX.go (x := false) (TX.conv (tx_and (t := false) (tx_isi B.isinstance B.int (by with_unfolding_all rfl) kit_str_int (tx_var 1 (hd_str (s := x)))) fun z => by cases z) rfl) fun u H' e d => ?_))
      rw [d.bl]; exact k H' e
theorem scCont : FnScope ["self", "number"] ["self", "number"] (defScope (mth 7)) := ⟨rfl, rfl, rfl, by decide +kernel, rfl, by decide +kernel, by decide +kernel⟩
theorem sheet_no {H : Hp} {sa : Addr} {F : Fld} {S : St2} (h : SheetAt K H C sa F S) {m : Str} (hm : ∀ vF vN vP vL, (sFs vF vN vP vL).lookup m = none) : ∃ dx fs, H sa = some (.ins C dx fs) ∧ fs.lookup m = none := by
  obtain ⟨dx, vF, vN, vP, vL, h1, _⟩ := h.ex
  exact ⟨dx, _, h1, hm _ _ _ _⟩
theorem ok_cont {f : Addr} {fd : FuncData} (F : Fun K "__contains__" "Sheet.__contains__" (mth 7) f fd) (T : ShC K mg C) (M : OwnM P w K mg base 1 C "is_number" ["self", "value"] (spIsNum K C)) : FnOk P w K mg base CX0 2 f fd ["self", "number"] (spIsNum K C) := by
  refine F.ok scCont (fun vs H Q E h => ?_) (fun cdv A outer s H vs Q E hr h => ?_)
  · obtain ⟨sa, FF, S, c, rfl, _⟩ := h; rfl
  · obtain ⟨sa, FF, S, c, rfl, hS, hz, k⟩ := h
    have hr1 : Room 1 _ := hr
    obtain ⟨dx, fs, h1, h2⟩ := sheet_no hS (m := "is_number") fun _ _ _ _ => rfl
    exact ⟨_, pB, wB_one (wS_ret (wE_meth M T.cl hr1 (wE_var 0 rfl rfl ⟨sa, dx, fs, rfl, h1, h2, wA_of (pa_cons pE pa_nil) (wE_var 1 rfl rfl ⟨sa, FF, S, c, rfl, hS, hz, k⟩)⟩)))⟩
/-! ### need_number: None, or BadNumber -/
def spNeed (K : Frag) (C CB : Addr) : Sp := fun vs H Q E => ∃ (sa : Addr) (F : Fld) (S : St2) (c : Sc), vs = [.ref sa, c.v] ∧ SheetAt K H C sa F S ∧ S.now.1.items.length ≤ 1000 ∧ (isNum S c = true → ∀ H', Ex H H' → Q .non H') ∧
  (isNum S c = false → ∀ H1 d, Ex H H1 → H1 d = none → E (.ref CB) (some d) (upd H1 d (.xd [("value", c.v)])))
theorem scNeedN : FnScope ["self", "value"] ["self", "value"] (defScope (mth 10)) := ⟨rfl, rfl, rfl, by decide +kernel, rfl, by decide +kernel, by decide +kernel⟩
theorem ok_needn {f CB fB : Addr} {fd : FuncData} (F : Fun K "need_number" "Sheet.need_number" (mth 10) f fd) (T : ShC K mg C) (M : OwnM P w K mg base 1 C "is_number" ["self", "value"] (spIsNum K C)) (EB : ExTxt P K mg "BadNumber" "value" CB fB) : FnOk P w K mg base (L2.CX P w) 2 f fd ["self", "value"] (spNeed K C CB) := by
  refine F.okX scNeedN (fun vs H Q E h => ?_) (fun cdv A outer s H vs Q E hr h => ?_)
  · obtain ⟨sa, FF, S, c, rfl, _⟩ := h; rfl
  · obtain ⟨sa, FF, S, c, rfl, hS, hz, kt, kf⟩ := h
    have hr1 : Room 1 _ := hr
    obtain ⟨dx, fs, h1, h2⟩ := sheet_no hS (m := "is_number") fun _ _ _ _ => rfl
    refine ⟨_, pB, ?_⟩
    refine wB_one (wS_if (TB.go (TB.conv (tb_not (tb_val (t := isNum S c) fun H1 e1 Q q => wE_meth M T.cl hr1 (wE_var 0 rfl rfl ⟨sa, dx, fs, rfl, e1 _ _ h1, h2, wA_of (pa_cons pE pa_nil) (wE_var 1 rfl rfl ⟨sa, FF, S, c, rfl, hS.ofEx e1, hz, fun H2 e2 => q _ H2 e2 hd_bl⟩)⟩))) rfl) fun H1 e1 => ?_))
    cases hn : isNum S c with
    | true =>
      rw [if_neg (by decide)]
      exact wB_nil (kt hn H1 e1)
    | false =>
      rw [if_pos (by rfl)]
      refine wB_one (wS_of (ps_raiseEx (W := fun cls d _ H => E cls d H) rfl EB hr1 (takes_of rfl rfl rfl rfl) (pa_cons (pe_var (i := 1) rfl (.inl rfl)) pa_nil)) ?_)
      exact ⟨_, rfl, _, rfl, fun d hd => kf hn H1 d e1 hd⟩
end
end K95
namespace K95
open PySem PySem.Spec PySem.Calls PySem.W PyProof.Rows L2 Evl
section
variable {P : Program} {w : World} {K : Frag} {mg : Str → Option Value} {base : Heap} {C : Addr}
/-! ### change -/
def spChange (K : Frag) (C : Addr) : Sp := fun vs H Q _ => ∃ (sa : Addr) (F : Fld) (S : St2) (v1 v2 : V) (row : Tup Pr) (fr : Int), vs = [.ref sa, v1, v2] ∧ SheetAt K H C sa F S ∧ Hd K H v1 row ∧ Hd K H v2 fr ∧ S.past.length ≤ 1000 ∧ ∀ H', But [sa] H H' → SheetAt K H' C sa F (keptS S (row, fr)) → Q .non H'
theorem scChange : FnScope ["self", "row", "fresh"] ["self", "row", "fresh"] (defScope (mth 11)) := ⟨rfl, rfl, rfl, by decide +kernel, rfl, by decide +kernel, by decide +kernel⟩
theorem ok_change {f : Addr} {fd : FuncData} (F : Fun K "change" "Sheet.change" (mth 11) f fd) (T : ShC K mg C) : FnOk P w K mg base CX0 1 f fd ["self", "row", "fresh"] (spChange K C) := by
  refine F.ok scChange (fun vs H Q E h => ?_) (fun cdv A outer s H vs Q E hr h => ?_)
  · obtain ⟨sa, FF, S, v1, v2, row, fr, rfl, _⟩ := h; rfl
  · obtain ⟨sa, FF, S, v1, v2, row, fr, rfl, hS, d1, d2, hz, k⟩ := h
    refine ⟨_, pB, ?_⟩
    refine wB_cons (wS_sP T 0 hS (tx_starT (tx_sP T 0 hS) (tx_sN T 0 hS) (Nat.le_trans hz (by decide))) fun H1 b1 S1 => ?_)
    have nt1 := hS.no
    have d11 := d1.but b1 nt1
    have d21 := d2.but b1 nt1
    refine wB_cons (wS_sN T 0 S1 (tx_pair (t2_mk (tx_var 1 d11) (tx_var 2 d21))) fun H2 b2 S2 => ?_)
    exact wB_one (wS_sL T 0 S2 (tx_tup tl_nil (by decide)) fun H3 b3 S3 => k H3 ((b1.trans b2).trans b3) S3)
/-! ### do -/
def doS (S : St2) (st : Step) : St2 := keptS S (Tup.mk (S.now.1.items ++ [(S.now.2, st)]), S.now.2 + 1)
def spDo (K : Frag) (C CB : Addr) : Sp := fun vs H Q E => ∃ (sa : Addr) (F : Fld) (S : St2) (v : V), vs = [.ref sa, v] ∧ SheetAt K H C sa F S ∧ S.past.length ≤ 1000 ∧ S.now.1.items.length < 60 ∧
  ((v = .non ∧ ∀ H1 d, Ex H H1 → H1 d = none → E (.ref CB) (some d) (upd H1 d (.xd [("place", .int 0)]))) ∨
    ∃ st : Step, Hd K H v st ∧ isStep F.1 st = true ∧ ∀ H', But [sa] H H' → SheetAt K H' C sa F (doS S st) → Q (.int S.now.2) H')
theorem scDo : FnScope ["self", "step", "row", "fresh"] ["self", "step"] (defScope (mth 12)) := ⟨rfl, rfl, rfl, by decide +kernel, rfl, by decide +kernel, by decide +kernel⟩
theorem ok_do {f CB fB : Addr} {fd : FuncData} (F : Fun K "do" "Sheet.do" (mth 12) f fd) (T : ShC K mg C) (B : Bn mg) (Z : Cst mg) (N : Own P w K mg base 2 "is_step" ["names", "value"] (spStep K)) (M : OwnM P w K mg base 1 C "change" ["self", "row", "fresh"] (spChange K C)) (EB : ExTxt P K mg "BadScript" "place" CB fB) :
    FnOk P w K mg base (L2.CX P w) 3 f fd ["self", "step"] (spDo K C CB) := by
  refine F.okX scDo (fun vs H Q E h => ?_) (fun cdv A outer s H vs Q E hr h => ?_)
  · obtain ⟨sa, FF, S, v, rfl, _⟩ := h; rfl
  · obtain ⟨sa, FF, S, v, rfl, hS, hz, hrow, h⟩ := h
    have hr2 : Room 2 _ := hr
    have hr1 : Room 1 _ := hr2.mono (by decide)
    refine ⟨_, pB, ?_⟩
    rcases h with ⟨rfl, kE⟩ | ⟨st, d, hst, k⟩
    · refine wB_cons (wS_if (TB.go (TB.conv (tb_not (tb_val (t := false) fun H1 e1 Q q => wE_own N hr2 (wA_of (pa_cons pE (pa_cons pE pa_nil)) (TX.go (tx_fst (tx_sF T 0 (hS.ofEx e1))) fun v1 H2 e2 d1 => wE_var 1 rfl rfl ⟨v1, .non, FF.1, rfl, d1, .inl ⟨rfl, fun H3 e3 => q _ H3 (e2.trans e3) hd_bl⟩⟩)))) rfl) fun H1 e1 => ?_))
      rw [if_pos (by rfl)]
      refine wB_one (wS_of (ps_raiseEx (W := fun cls d _ H => E cls d H) rfl EB hr1 (takes_of rfl rfl rfl rfl) (pa_cons pe_int pa_nil)) ?_)
      exact ⟨_, rfl, fun d hd => kE H1 d e1 hd⟩
    · refine wB_cons (wS_if (TB.go (TB.conv (tb_not (tb_val (t := true) fun H1 e1 Q q => wE_own N hr2 (wA_of (pa_cons pE (pa_cons pE pa_nil)) (TX.go (tx_fst (tx_sF T 0 (hS.ofEx e1))) fun v1 H2 e2 d1 => wE_var 1 rfl rfl ⟨v1, v, FF.1, rfl, d1, .inr ⟨st, (d.ex e1).ex e2, fun H3 e3 => by rw [hst]; exact q _ H3 (e2.trans e3) hd_bl⟩⟩)))) rfl) fun H1 e1 => ?_))
      rw [if_neg (by decide)]
      have S1 := hS.ofEx e1
      refine wB_nil (wB_cons (wS_two 2 3 rfl scDo.nd (TX.go (tx_sN T 0 S1) fun vN H2 e2 dN => ?_)))
      obtain ⟨q, vr, vf, rfl, hq, dr, df⟩ := dN.pair
      refine ⟨q, vr, vf, rfl, hq, ?_⟩
      obtain rfl := df.int
      refine wB_cons (wS_if (TB.go (t := false) (TB.conv (tb_eq (hu64 hr) (tx_lenT B.len (tx_var 2 dr)) (tx_gint Z.msteps)) (decide_eq_false (show ¬ (((S.now.1.items.length : Nat) : Int) = 60) by omega))) fun H3 e3 => ?_))
      rw [if_neg (by decide)]
      have S3 := (S1.ofEx e2).ofEx e3
      have dr3 := dr.ex e3
      have d3 := ((d.ex e1).ex e2).ex e3
      obtain ⟨dx, fs, g1, g2⟩ := sheet_no S3 (m := "change") fun _ _ _ _ => rfl
      refine wB_nil (wB_cons (wS_expr (wE_meth M T.cl hr1 (wE_var 0 rfl rfl ⟨sa, dx, fs, rfl, g1, g2, T2.go (t2_mk (tx_starT (tx_var 2 dr3) (tx_pair (t2_mk (tx_var 3 (hd_int (i := S.now.2))) (tx_var 1 d3))) (Nat.le_trans (Nat.le_of_lt hrow) (by decide))) (tx_add (tx_var 3 (hd_int (i := S.now.2))) tx_int)) fun u1 u2 H4 e4 du1 du2 => ⟨sa, FF, S, u1, u2, _, _, rfl, S3.ofEx e4, du1, du2, hz, fun H5 b5 S5 => ?_⟩⟩))))
      exact wB_one (wS_ret (wE_var 3 rfl rfl (k H5 ((But.of_ex (((e1.trans e2).trans e3).trans e4)).trans b5) S5)))
/-! ### holders -/
def holdGo (F : Fld) (num : Int) : List Pr → List Str → List Int → List Int
  | [], _, found => found
  | (o, s) :: r, names, found => if o = num then holdGo F num r (names ++ [s.1]) found
    else if (names.map fun n => !apart F n s.1).any id = true then holdGo F num r (names ++ [s.1]) (found ++ [o]) else holdGo F num r names found
def holdF (F : Fld) (S : St2) (num : Int) : List Int := holdGo F num S.now.1.items [] []
def spHolders (K : Frag) (C : Addr) : Sp := fun vs H Q _ => ∃ (sa : Addr) (F : Fld) (S : St2) (num : Int), vs = [.ref sa, .int num] ∧ SheetAt K H C sa F S ∧ S.now.1.items.length ≤ 500 ∧ ∀ u H', Ex H H' → Hd K H' u (holdF F S num) → Q u H'
theorem scHold : FnScope ["self", "number", "found", "names", "other", "step", "name"] ["self", "number"] (defScope (mth 13)) := ⟨rfl, rfl, rfl, by decide +kernel, rfl, by decide +kernel, by decide +kernel⟩
theorem ok_holders {f : Addr} {fd : FuncData} (F : Fun K "holders" "Sheet.holders" (mth 13) f fd) (T : ShC K mg C) (B : Bn mg) (N : Own P w K mg base 1 "are_apart" ["field", "one", "other"] (Pu3 K (fun _ _ _ => True) apart)) : FnOk P w K mg base CX0 2 f fd ["self", "number"] (spHolders K C) := by
  refine F.ok scHold (fun vs H Q E h => ?_) (fun cdv A outer s H vs Q E hr h => ?_)
  · obtain ⟨sa, FF, S, num, rfl, _⟩ := h; rfl
  · obtain ⟨sa, FF, S, num, rfl, hS, hz, k⟩ := h
    have hr1 : Room 1 _ := hr
    refine ⟨_, pB, ?_⟩
    refine wB_cons (wS_par 2 3 rfl scHold.nd (wE_lst0 fun lf hlf => wE_lst0 fun ln hln => ?_))
    have e0 := (Ex.new (o := HO.lst []) hlf).trans (Ex.new (o := HO.lst []) hln)
    have nln : ln ≠ lf := fun z => by rw [z, upd_same] at hln; cases hln
    have hlnH : H ln = none := fresh_back (Ex.new hlf) hln
    have Lf0 : LAt K (upd (upd H lf (.lst [])) ln (.lst [])) lf ([] : List Int) := ⟨[], by rw [upd_ne nln.symm, upd_same], ha_nil⟩
    have Ln0 : LAt K (upd (upd H lf (.lst [])) ln (.lst [])) ln ([] : List Str) := ⟨[], upd_same, ha_nil⟩
    generalize upd (upd H lf (.lst [])) ln (.lst []) = G at *
    obtain ⟨dx, vF, vN, vP, vL, h1, h2, h3, h4, h5⟩ := hS.ex
    obtain ⟨qn, vr, vx, rfl, hqn, hrow, hfr⟩ := h3.pair
    refine wB_cons (wS_forK (xs := S.now.1.items) (H0 := H) (tik_tupE (wE_fst (wE_fld (wE_var 0 rfl rfl ⟨sa, C, dx, _, _, rfl, e0 _ _ h1, T.cl, T.nN, rfl, qn, vr, vx, rfl, ex_t e0 hqn, hrow, e0, Ex.refl _⟩))))
      (fun i σ H' => ∃ names found a b, σ = [some (.ref sa), some (.int num), some (.ref lf), some (.ref ln), a, b, none] ∧ Ex H H' ∧ LAt K H' lf found ∧ LAt K H' ln names ∧ found.length ≤ i ∧ names.length ≤ i ∧ holdGo FF num S.now.1.items [] [] = holdGo FF num (S.now.1.items.drop i) names found)
      (fun H2 e2 => ⟨_, _, none, none, rfl, e0.trans e2, Lf0.ex e2, Ln0.ex e2, Nat.le_refl _, Nat.le_refl _, rfl⟩) (fun i σ' H' ⟨_, _, _, _, _, e, _⟩ => e) ?_ ?_ rfl PassesOwn.never)
    · rintro i ps hs σ H2 ⟨names, found, a, b, rfl, e2, Lf, Ln, hlf2, hln2, heq⟩ u H3 e3 du
      refine wG_two 4 5 rfl scHold.nd du fun vp vs dp ds => ?_
      have hi : i < S.now.1.items.length := (List.getElem?_eq_some_iff.mp hs).1
      have hdrop : S.now.1.items.drop i = ps :: S.now.1.items.drop (i + 1) := by
        rw [List.drop_eq_getElem_cons hi]
        have := (List.getElem?_eq_some_iff.mp hs).2
        rw [this]
      have e23 := e2.trans e3
      have S3 := hS.ofEx e23
      have hcond : holdGo FF num (ps :: S.now.1.items.drop (i + 1)) names found = if ps.1 = num then holdGo FF num (S.now.1.items.drop (i + 1)) (names ++ [ps.2.1]) found else if (names.map fun n => !apart FF n ps.2.1).any id = true then holdGo FF num (S.now.1.items.drop (i + 1)) (names ++ [ps.2.1]) (found ++ [ps.1]) else holdGo FF num (S.now.1.items.drop (i + 1)) names found := rfl
      by_cases hsame : ps.1 = num
      · refine wB_one (wS_if (TB.go (t := true) (TB.conv (tb_eq (hu64 hr) (tx_var 4 dp) (tx_var 1 (hd_int (i := num)))) (decide_eq_true hsame)) fun H4 e4 => ?_))
        rw [if_pos rfl]
        rw [if_pos hsame] at hcond
        have e34 := e3.trans e4
        refine wB_one (wS_expr (wE_append 3 (Ln.ex e34) (by omega) (tx_fst (tx_var 5 (ds.ex e4))) fun w6 H6 e6 L6 => ?_))
        have b6 : But [ln] H6 (upd H6 ln w6) := But.refl.upd (List.mem_singleton.mpr rfl)
        refine ⟨_, _, _, _, rfl, fun cc o ho => ?_, ((Lf.ex e34).ex e6).but b6 ((Ln.ex e34).ex e6).no (by simpa using nln.symm), L6, by omega, ?_, by rw [heq, hdrop, hcond]⟩
        · rw [upd_ne (fun z => by rw [z, hlnH] at ho; cases ho)]
          exact e6 _ _ (e34 _ _ (e2 _ _ ho))
        · rw [List.length_append, List.length_singleton]; omega
      · rw [if_neg hsame] at hcond
        refine wB_one (wS_if (TB.go (t := false) (TB.conv (tb_eq (hu64 hr) (tx_var 4 dp) (tx_var 1 (hd_int (i := num)))) (decide_eq_false hsame)) fun H4 e4 => ?_))
        rw [if_neg (by decide)]
        have e34 := e3.trans e4
        have S4 := S3.ofEx e4
        refine wB_one (wS_if (TB.go (t := (names.map fun n => !apart FF n ps.2.1).any id) (tb_val (tx_any B.any rfl (TX.conv (tx_lc (f := fun n => !apart FF n ps.2.1) (pr := fun _ => true) [("name", 6)] rfl scHold.nd (blkOk_by (N := ["self", "number", "found", "names", "other", "step", "name"]) (sc := defScope (mth 13)) (by decide +kernel)) (by omega) (ti_list (tx_var 3 (Ln.ex e34).hd))
          fun z hz v' H' e' d' => ⟨_, fun s0 H0 C cl fp => ⟨tgt_name 6 scHold.nd, tbs_nil, fun _ => tx_not (tx_own3 N hr1 (t3_mk (tx_sF T 0 (S4.ofEx e')) (tx_var 6 d') (tx_fst (tx_var 5 ((ds.ex e4).ex e')))) trivial)⟩, rfl⟩) (by rw [List.filter_eq_self.mpr fun _ _ => rfl])))) fun H5 e5 => ?_))
        have e35 := e34.trans e5
        have e45 := e4.trans e5
        cases hq : ((names.map fun n => !apart FF n ps.2.1).any id) with
        | true =>
          rw [if_pos rfl]
          rw [hq, if_pos rfl] at hcond
          refine wB_cons (wS_expr (wE_append 3 (Ln.ex e35) (by omega) (tx_fst (tx_var 5 (ds.ex e45))) fun w6 H6 e6 L6 => ?_))
          have b6 : But [ln] H6 (upd H6 ln w6) := But.refl.upd (List.mem_singleton.mpr rfl)
          have nt6 := ((Ln.ex e35).ex e6).no
          have Lf6 := ((Lf.ex e35).ex e6).but b6 nt6 (by simpa using nln.symm)
          have dp6 := (((dp.ex e45).ex e6).but b6 nt6)
          refine wB_one (wS_expr (wE_append 2 Lf6 (by omega) (tx_var 4 dp6) fun w7 H7 e7 L7 => ?_))
          have b7 : But [lf] H7 (upd H7 lf w7) := But.refl.upd (List.mem_singleton.mpr rfl)
          refine ⟨_, _, _, _, rfl, fun cc o ho => ?_, L7, (L6.ex e7).but b7 (Lf6.ex e7).no (by simpa using nln), ?_, ?_, ?_⟩
          · have n1 : cc ≠ lf := fun z => by rw [z, hlf] at ho; cases ho
            have n2 : cc ≠ ln := fun z => by rw [z, hlnH] at ho; cases ho
            rw [upd_ne n1]
            refine e7 _ _ ?_
            rw [upd_ne n2]
            exact e6 _ _ (e35 _ _ (e2 _ _ ho))
          · rw [List.length_append, List.length_singleton]; omega
          · rw [List.length_append, List.length_singleton]; omega
          · rw [heq, hdrop, hcond]
        | false =>
          rw [if_neg (by decide)]
          rw [hq, if_neg (by decide)] at hcond
          exact wB_nil ⟨_, _, _, _, rfl, e2.trans e35, Lf.ex e35, Ln.ex e35, by omega, by omega, by rw [heq, hdrop, hcond]⟩
    · rintro σ H2 ⟨names, found, a, b, rfl, e2, Lf, Ln, hlf2, hln2, heq⟩
      rw [List.drop_length] at heq
      refine wB_one (wS_ret (TX.go (tx_var 2 Lf.hd) fun u H3 e3 du => k u H3 (e2.trans e3) ?_))
      unfold holdF
      rw [heq]
      exact du
theorem holdGo_len (F : Fld) (num : Int) : ∀ (l : List Pr) (names : List Str) (found : List Int), (holdGo F num l names found).length ≤ found.length + l.length
  | [], _, _ => Nat.le_refl _
  | (o, s) :: r, names, found => by
    unfold holdGo
    split
    · have := holdGo_len F num r (names ++ [s.1]) found
      simp only [List.length_cons]; omega
    · split
      · have := holdGo_len F num r (names ++ [s.1]) (found ++ [o])
        simp only [List.length_cons, List.length_append, List.length_nil] at *; omega
      · have := holdGo_len F num r names found
        simp only [List.length_cons]; omega
theorem holdF_len (F : Fld) (S : St2) (num : Int) : (holdF F S num).length ≤ S.now.1.items.length := by
  have := holdGo_len F num S.now.1.items [] []
  simpa [holdF] using this
section
variable {X : Cx} {σ : L2.St} {H : Hp} {sa : Addr} {F : Fld} {S : St2} {e : Expr} {num : Int} {p apos pos : Pos} {n : Str} {k : Nat}
/-- self.holders(e) -/
theorem tx_holders {pl : Sem Bool} (M : OwnM X.prog X.w X.K X.mg X.base 2 C "holders" ["self", "number"] (spHolders X.K C)) (T : ShC X.K X.mg C) (hr : Room 2 X.A) (m : Nat) (h : SheetAt X.K H C sa F S) (hz : S.now.1.items.length ≤ 500) (he : TX X σ H e num) (hσ : σ[m]? = some (some (.ref sa)) := by rfl) (hN : X.N[m]? = some n := by rfl) (hv : Vis X.env.scope n := by first | exact .inl rfl | exact .inr (.inl rfl) | exact .inr (.inr rfl)) (hd : (n == ("__debug__" : Str)) = false := by decide) (hcd : (n == ("__classdict__" : Str)) = false := by decide)
    (hst : starEach (e :: []) X.env = (false, eval e X.env) :: starEach [] X.env := by rfl)
    (ht : eval (.Call (.Attribute (.Name n p) "holders" apos) [e] [] pos) X.env = (do
      let ov ← eval (.Name n p) X.env
      standAt apos.atName
      let (f, first) ← holding [ov] (getMethod ov "holders" pl)
      callWith pos f first (backTo pos (starEach [e] X.env)) (backToKw pos (keywordEach [] X.env))) := by rfl) : TX X σ H (.Call (.Attribute (.Name n p) "holders" apos) [e] [] pos) (holdF F S num) := fun H1 e1 Q q => by
  have S1 := h.ofEx e1
  obtain ⟨dx, fs, g1, g2⟩ := sheet_no S1 (m := "holders") fun _ _ _ _ => rfl
  exact wE_meth M T.cl hr (wE_var m hσ hN ⟨sa, dx, fs, rfl, g1, g2, t1_mk he hst H1 e1 _ fun v H2 e2 d => ⟨sa, F, S, num, by rw [d.int], S1.ofEx e2, hz, fun u H3 e3 du => q u H3 (e2.trans e3) du⟩⟩ hv hd hcd) hst rfl ht
end
/-! ### ahead_of -/
def spAhead (K : Frag) (C CB : Addr) : Sp := fun vs H Q E => ∃ (sa : Addr) (F : Fld) (S : St2) (num : Int), vs = [.ref sa, .int num] ∧ SheetAt K H C sa F S ∧ S.now.1.items.length ≤ 500 ∧ (isIn num (nums S) = true → ∀ u H', Ex H H' → Hd K H' u (Tup.mk (holdF F S num)) → Q u H') ∧
  (isIn num (nums S) = false → ∀ H1 d, Ex H H1 → H1 d = none → E (.ref CB) (some d) (upd H1 d (.xd [("value", .int num)])))
theorem scAhead : FnScope ["self", "number"] ["self", "number"] (defScope (mth 14)) := ⟨rfl, rfl, rfl, by decide +kernel, rfl, by decide +kernel, by decide +kernel⟩
theorem ok_ahead {f CB : Addr} {fd : FuncData} (F : Fun K "ahead_of" "Sheet.ahead_of" (mth 14) f fd) (T : ShC K mg C) (B : Bn mg) (N : OwnMX P w K mg base 2 C "need_number" ["self", "value"] (spNeed K C CB)) (M : OwnM P w K mg base 2 C "holders" ["self", "number"] (spHolders K C)) :
    FnOk P w K mg base (L2.CX P w) 3 f fd ["self", "number"] (spAhead K C CB) := by
  refine F.okX scAhead (fun vs H Q E h => ?_) (fun cdv A outer s H vs Q E hr h => ?_)
  · obtain ⟨sa, FF, S, num, rfl, _⟩ := h; rfl
  · obtain ⟨sa, FF, S, num, rfl, hS, hz, kt, kf⟩ := h
    have hr2 : Room 2 _ := hr
    refine ⟨_, pB, ?_⟩
    obtain ⟨dx, fs, g1, g2⟩ := sheet_no hS (m := "need_number") fun _ _ _ _ => rfl
    refine wB_cons (wS_expr (wE_methX (W := fun cls d _ H => E cls d H) N T.cl hr2 (takes_of rfl rfl rfl rfl) (wE_var 0 rfl rfl ⟨sa, dx, fs, rfl, g1, g2, wA_of (pa_cons pE pa_nil) (wE_var 1 rfl rfl ⟨sa, FF, S, .i num, rfl, hS, Nat.le_trans hz (by decide), fun hin H1 e1 => ?_, fun hin H1 d e1 hd => kf hin H1 d e1 hd⟩)⟩)))
    exact wB_one (wS_ret (TX.go (tx_tuple B.tuple (tx_holders M T hr2 0 (hS.ofEx e1) hz (tx_var 1 (hd_int (i := num))))) fun u H2 e2 du => kt hin u H2 (e1.trans e2) du))
/-! ### free -/
def freeF (F : Fld) (S : St2) : Tup Int := Tup.mk ((S.now.1.items.filter fun q => decide (holdF F S q.1 = [])).map fun q => q.1)
theorem scFree : FnScope ["self", "number", "step"] ["self"] (defScope (mth 15)) := ⟨rfl, rfl, rfl, by decide +kernel, rfl, by decide +kernel, by decide +kernel⟩
theorem ok_free {f : Addr} {fd : FuncData} (F : Fun K "free" "Sheet.free" (mth 15) f fd) (T : ShC K mg C) (B : Bn mg) (M : OwnM P w K mg base 2 C "holders" ["self", "number"] (spHolders K C)) : FnOk P w K mg base CX0 3 f fd ["self"] (spGet K C (fun _ S => S.now.1.items.length ≤ 500) freeF) := by
  refine F.ok scFree (fun vs H Q E h => ?_) (fun cdv A outer s H vs Q E hr h => ?_)
  · obtain ⟨sa, FF, S, rfl, _⟩ := h; rfl
  · obtain ⟨sa, FF, S, rfl, hS, hz, k⟩ := h
    have hr2 : Room 2 _ := hr
    refine ⟨_, pB, wB_one (wS_ret (TX.go (x := freeF FF S) (tx_tuple B.tuple (tx_lc (f := fun q : Pr => q.1) (pr := fun q : Pr => decide (holdF FF S q.1 = [])) [("number", 1), ("step", 2)] rfl scFree.nd (blkOk_by (N := ["self", "number", "step"]) (sc := defScope (mth 15)) (by decide +kernel)) (Nat.le_trans hz (by decide)) (ti_tup (tx_fst (tx_sN T 0 hS))) fun z hz' v' H' e' d' => ?_)) fun u H' e d => k u H' e d))⟩
    obtain ⟨l, v1, v2, rfl, h1, h2, h3⟩ := d'.pair
    exact ⟨_, fun s0 H0 Cc cl fp => ⟨tgt_two 1 2 rfl scFree.nd h1, tbs_one (by exact tb_eq (hu64 hr) (tx_holders M T hr2 0 (hS.ofEx e') hz (tx_var 1 h2)) (tx_lst tl_nil (by decide))), fun _ => tx_var 1 h2⟩, rfl⟩
end
end K95
namespace K95
open PySem PySem.Spec PySem.Calls PySem.W PyProof.Rows L2 Evl
section
variable {P : Program} {w : World} {K : Frag} {mg : Str → Option Value} {base : Heap} {C : Addr}
/-! ### take_back -/
def lessS (S : St2) (num : Int) : St2 := keptS S (Tup.mk (S.now.1.items.filter fun q => decide (q.1 ≠ num)), S.now.2)
def spTake (K : Frag) (C CB CH : Addr) : Sp := fun vs H Q E => ∃ (sa : Addr) (F : Fld) (S : St2) (num : Int), vs = [.ref sa, .int num] ∧ SheetAt K H C sa F S ∧ S.past.length ≤ 1000 ∧ S.now.1.items.length ≤ 500 ∧ isIn num (nums S) = true ∧
  (holdF F S num = [] → ∀ H', But [sa] H H' → SheetAt K H' C sa F (lessS S num) → Q .non H') ∧
  (∀ z zs, holdF F S num = z :: zs → ∀ H1 d, Ex H H1 → H1 d = none → E (.ref CH) (some d) (upd H1 d (.xd [("value", .int z)])))
theorem scTake : FnScope ["self", "number", "some", "pair"] ["self", "number"] (defScope (mth 16)) := ⟨rfl, rfl, rfl, by decide +kernel, rfl, by decide +kernel, by decide +kernel⟩
theorem ok_take {f CB CH fH : Addr} {fd : FuncData} (F : Fun K "take_back" "Sheet.take_back" (mth 16) f fd) (T : ShC K mg C) (B : Bn mg) (N : OwnMX P w K mg base 2 C "need_number" ["self", "value"] (spNeed K C CB)) (M : OwnM P w K mg base 2 C "holders" ["self", "number"] (spHolders K C)) (G : OwnM P w K mg base 1 C "change" ["self", "row", "fresh"] (spChange K C)) (EH : ExTxt P K mg "Held" "value" CH fH) :
    FnOk P w K mg base (L2.CX P w) 3 f fd ["self", "number"] (spTake K C CB CH) := by
  refine F.okX scTake (fun vs H Q E h => ?_) (fun cdv A outer s H vs Q E hr h => ?_)
  · obtain ⟨sa, FF, S, num, rfl, _⟩ := h; rfl
  · obtain ⟨sa, FF, S, num, rfl, hS, hz, hz2, hin, kt, kf⟩ := h
    have hr2 : Room 2 _ := hr
    have hr1 : Room 1 _ := hr2.mono (by decide)
    refine ⟨_, pB, ?_⟩
    obtain ⟨dx, fs, g1, g2⟩ := sheet_no hS (m := "need_number") fun _ _ _ _ => rfl
    refine wB_cons (wS_expr (wE_methX (W := fun cls d _ H => E cls d H) N T.cl hr2 (takes_of rfl rfl rfl rfl) (wE_var 0 rfl rfl ⟨sa, dx, fs, rfl, g1, g2, wA_of (pa_cons pE pa_nil) (wE_var 1 rfl rfl ⟨sa, FF, S, .i num, rfl, hS, Nat.le_trans hz2 (by decide), fun _ H1 e1 => ?_, fun hn H1 d e1 hd => by rw [show isNum S (.i num) = isIn num (nums S) from rfl, hin] at hn; cases hn⟩)⟩)))
    have S1 := hS.ofEx e1
    refine wB_cons (wS_set (i := 2) scTake.nd rfl (TX.go (tx_holders M T hr2 0 S1 hz2 (tx_var 1 (hd_int (i := num)))) fun vh H2 e2 dh => ?_))
    have S2 := S1.ofEx e2
    refine wB_cons (wS_if (TB.go (tb_ne (α := List Int) (hu64 hr) (tx_var 2 dh) (tx_lst tl_nil (by decide))) fun H3 e3 => ?_))
    have e13 := (e1.trans e2).trans e3
    cases hh : holdF FF S num with
    | cons z zs =>
      rw [if_pos (decide_eq_true (by simp))]
      refine wB_one (wS_of (ps_raiseEx (W := fun cls d _ H => E cls d H) rfl EH hr1 (takes_of rfl rfl rfl rfl) (pa_cons pE pa_nil)) ?_)
      refine TX.go (x := z) (tx_ixL (i := 0) (tx_var 2 (dh.ex e3)) tx_int (by rw [hh]; exact atI_nat (n := 0) rfl)) fun v4 H4 e4 d4 => ?_
      obtain rfl := d4.int
      exact ⟨_, rfl, fun d hd => kf z zs hh H4 d (e13.trans e4) hd⟩
    | nil =>
      rw [if_neg (by decide)]
      have S3 := S2.ofEx e3
      obtain ⟨dx, fs, g1, g2⟩ := sheet_no S3 (m := "change") fun _ _ _ _ => rfl
      refine wB_nil (wB_one (wS_expr (wE_meth G T.cl hr1 (wE_var 0 rfl rfl ⟨sa, dx, fs, rfl, g1, g2, T2.go (t2_mk (tx_tuple B.tuple (tx_lc (f := fun q : Pr => q) (pr := fun q : Pr => decide (q.1 ≠ num)) [("pair", 3)] rfl scTake.nd (blkOk_by (N := ["self", "number", "some", "pair"]) (sc := defScope (mth 16)) (by decide +kernel)) (Nat.le_trans hz2 (by decide)) (ti_tup (tx_fst (tx_sN T 0 S3)))
        fun z hz v' H' e' d' => ⟨_, fun s0 H0 Cc cl fp => ⟨tgt_name 3 scTake.nd, tbs_one (by exact tb_ne (hu64 hr) (tx_fst (tx_var 3 d')) (tx_var 1 (hd_int (i := num)))), fun _ => tx_var 3 d'⟩, rfl⟩)) (tx_snd (tx_sN T 0 S3))) fun u1 u2 H4 e4 du1 du2 => ⟨sa, FF, S, u1, u2, _, _, rfl, S3.ofEx e4, du1, du2, hz, fun H5 b5 S5 => ?_⟩⟩))))
      rw [List.map_id'] at S5
      exact kt hh H5 ((But.of_ex (e13.trans e4)).trans b5) S5
/-! ### take_all -/
def allF (F : Fld) (S : St2) (num : Int) : List Int := (holdF F S num).reverse ++ [num]
def allS (F : Fld) (S : St2) (num : Int) : St2 := keptS S (Tup.mk (S.now.1.items.filter fun q => !isIn q.1 (allF F S num)), S.now.2)
def spAll (K : Frag) (C : Addr) : Sp := fun vs H Q _ => ∃ (sa : Addr) (F : Fld) (S : St2) (num : Int), vs = [.ref sa, .int num] ∧ SheetAt K H C sa F S ∧ S.past.length ≤ 1000 ∧ S.now.1.items.length ≤ 500 ∧ isIn num (nums S) = true ∧
  ∀ u H', But [sa] H H' → SheetAt K H' C sa F (allS F S num) → Hd K H' u (Tup.mk (allF F S num)) → Q u H'
theorem scAll : FnScope ["self", "number", "some", "pair"] ["self", "number"] (defScope (mth 17)) := ⟨rfl, rfl, rfl, by decide +kernel, rfl, by decide +kernel, by decide +kernel⟩
theorem ok_all {f CB : Addr} {fd : FuncData} (F : Fun K "take_all" "Sheet.take_all" (mth 17) f fd) (T : ShC K mg C) (B : Bn mg) (N : OwnMX P w K mg base 2 C "need_number" ["self", "value"] (spNeed K C CB)) (M : OwnM P w K mg base 2 C "holders" ["self", "number"] (spHolders K C)) (G : OwnM P w K mg base 1 C "change" ["self", "row", "fresh"] (spChange K C)) :
    FnOk P w K mg base (L2.CX P w) 3 f fd ["self", "number"] (spAll K C) := by
  refine F.okX scAll (fun vs H Q E h => ?_) (fun cdv A outer s H vs Q E hr h => ?_)
  · obtain ⟨sa, FF, S, num, rfl, _⟩ := h; rfl
  · obtain ⟨sa, FF, S, num, rfl, hS, hz, hz2, hin, k⟩ := h
    have hr2 : Room 2 _ := hr
    have hr1 : Room 1 _ := hr2.mono (by decide)
    refine ⟨_, pB, ?_⟩
    obtain ⟨dx, fs, g1, g2⟩ := sheet_no hS (m := "need_number") fun _ _ _ _ => rfl
    refine wB_cons (wS_expr (wE_methX (W := fun cls d _ H => E cls d H) N T.cl hr2 (takes_of rfl rfl rfl rfl) (wE_var 0 rfl rfl ⟨sa, dx, fs, rfl, g1, g2, wA_of (pa_cons pE pa_nil) (wE_var 1 rfl rfl ⟨sa, FF, S, .i num, rfl, hS, Nat.le_trans hz2 (by decide), fun _ H1 e1 => ?_, fun hn H1 d e1 hd => by rw [show isNum S (.i num) = isIn num (nums S) from rfl, hin] at hn; cases hn⟩)⟩)))
    have S1 := hS.ofEx e1
    have hl := holdF_len FF S num
    refine wB_cons (wS_set (i := 2) scAll.nd rfl (wE_catL (xs := (holdF FF S num).reverse) (ys := [num]) (by rw [List.length_reverse, List.length_singleton]; omega) (tx_rev (tx_holders M T hr2 0 S1 hz2 (tx_var 1 (hd_int (i := num))))) (tx_lst (tl_cons (tx_var 1 (hd_int (i := num))) tl_nil) (by show 1 ≤ 100000; decide)) fun ls H2 e2 hls Ls => ?_))
    have S2 := S1.ofEx e2
    have dh : Hd K H2 (.ref ls) (allF FF S num) := Ls.hd
    obtain ⟨dx, fs, g1, g2⟩ := sheet_no S2 (m := "change") fun _ _ _ _ => rfl
    refine wB_cons (wS_expr (wE_meth G T.cl hr1 (wE_var 0 rfl rfl ⟨sa, dx, fs, rfl, g1, g2, T2.go (t2_mk (tx_tuple B.tuple (tx_lc (f := fun q : Pr => q) (pr := fun q : Pr => !isIn q.1 (allF FF S num)) [("pair", 3)] rfl scAll.nd (blkOk_by (N := ["self", "number", "some", "pair"]) (sc := defScope (mth 17)) (by decide +kernel)) (Nat.le_trans hz2 (by decide)) (ti_tup (tx_fst (tx_sN T 0 S2)))
        fun z hz v' H' e' d' => ⟨_, fun s0 H0 Cc cl fp => ⟨tgt_name 3 scAll.nd, tbs_one (by exact tb_notInL (hu65 hr) (tx_fst (tx_var 3 d')) (tx_var 2 (dh.ex e'))), fun _ => tx_var 3 d'⟩, rfl⟩)) (tx_snd (tx_sN T 0 S2))) fun u1 u2 H4 e4 du1 du2 => ⟨sa, FF, S, u1, u2, _, _, rfl, S2.ofEx e4, du1, du2, hz, fun H5 b5 S5 => ?_⟩⟩)))
    rw [List.map_id'] at S5
    have S4 := S2.ofEx e4
    have nls : ls ≠ sa := fun z => by
      obtain ⟨us, hus, _⟩ := Ls.at_
      obtain ⟨_, _, _, _, _, q, _⟩ := S2.ex
      rw [z, q] at hus; cases hus
    have L5 := (Ls.ex e4).but b5 S4.no (by simpa using nls)
    refine wB_one (wS_ret (TX.go (tx_tuple B.tuple (tx_var 2 L5.hd)) fun u H6 e6 du => k u H6 (((But.of_ex ((e1.trans e2).trans e4)).trans b5).trans (But.of_ex e6)) (S5.ofEx e6) du))
/-! ### undo, redo -/
def spUR (b : Bool) (K : Frag) (C : Addr) : Sp := fun vs H Q _ => ∃ (sa : Addr) (F : Fld) (S : St2), vs = [.ref sa] ∧ SheetAt K H C sa F S ∧ S.past.length ≤ 1000 ∧ S.later.length ≤ 1000 ∧
  (canS b S = false → ∀ H', Ex H H' → Q (.bl false) H') ∧ (canS b S = true → ∀ H', But [sa] H H' → SheetAt K H' C sa F (shiftS b S) → Q (.bl true) H')
theorem lastT {xs : List Now} (h : xs ≠ []) (d : Now) : atI xs (-1) = some (xs.getLast?.getD d) := last_at h d
theorem scUndo : FnScope ["self"] ["self"] (defScope (mth 18)) := ⟨rfl, rfl, rfl, by decide +kernel, rfl, by decide +kernel, by decide +kernel⟩
theorem tup_eq_nil {xs : List Now} : decide (Tup.mk xs = Tup.mk []) = decide (xs = []) := by
  by_cases h : xs = []
  · rw [h]; rfl
  · rw [decide_eq_false h, decide_eq_false (fun z => h (congrArg Tup.items z))]
theorem ok_undo {f : Addr} {fd : FuncData} (F : Fun K "undo" "Sheet.undo" (mth 18) f fd) (T : ShC K mg C) : FnOk P w K mg base CX0 1 f fd ["self"] (spUR true K C) := by
  refine F.ok scUndo (fun vs H Q E h => ?_) (fun cdv A outer s H vs Q E hr h => ?_)
  · obtain ⟨sa, FF, S, rfl, _⟩ := h; rfl
  · obtain ⟨sa, FF, S, rfl, hS, hz, hz2, kf, kt⟩ := h
    refine ⟨_, pB, ?_⟩
    refine wB_cons (wS_if (TB.go (TB.conv (tb_eq (α := Tup Now) (hu64 hr) (tx_sP T 0 hS) (tx_tup tl_nil (by decide))) tup_eq_nil) fun H1 e1 => ?_))
    have S1 := hS.ofEx e1
    by_cases hnil : S.past = []
    · rw [if_pos (decide_eq_true hnil)]
      exact wB_one (wS_ret (TX.go tx_bl fun u H2 e2 du => by rw [du.bl]; exact kf (by unfold canS; simp [hnil]) H2 (e1.trans e2)))
    · rw [if_neg (by rw [decide_eq_true_iff]; exact hnil)]
      have kt := kt (by unfold canS; simp [hnil])
      refine wB_nil (wB_cons (wS_sL T 0 S1 (tx_starT (tx_sL T 0 S1) (tx_sN T 0 S1) (Nat.le_trans hz2 (by decide))) fun H2 b2 S2 => ?_))
      refine wB_cons (wS_sN T 0 S2 (now := S.past.getLast?.getD S.now) (tx_ixT (i := -1) (tx_sP T 0 S2) (tx_neg tx_int) (last_at hnil _)) fun H3 b3 S3 => ?_)
      refine wB_cons (wS_sP T 0 S3 (ps := S.past.dropLast) (TX.conv (tx_slT (tx_sP T 0 S3) to_none (to_some (tx_neg tx_int))) (by rw [cutX_last])) fun H4 b4 S4 => ?_)
      exact wB_one (wS_ret (TX.go tx_bl fun u H5 e5 du => by rw [du.bl]; exact kt H5 ((((But.of_ex e1).trans b2).trans b3).trans (b4.trans (But.of_ex e5))) (S4.ofEx e5)))
theorem scRedo : FnScope ["self"] ["self"] (defScope (mth 19)) := ⟨rfl, rfl, rfl, by decide +kernel, rfl, by decide +kernel, by decide +kernel⟩
theorem ok_redo {f : Addr} {fd : FuncData} (F : Fun K "redo" "Sheet.redo" (mth 19) f fd) (T : ShC K mg C) : FnOk P w K mg base CX0 1 f fd ["self"] (spUR false K C) := by
  refine F.ok scRedo (fun vs H Q E h => ?_) (fun cdv A outer s H vs Q E hr h => ?_)
  · obtain ⟨sa, FF, S, rfl, _⟩ := h; rfl
  · obtain ⟨sa, FF, S, rfl, hS, hz, hz2, kf, kt⟩ := h
    refine ⟨_, pB, ?_⟩
    refine wB_cons (wS_if (TB.go (TB.conv (tb_eq (α := Tup Now) (hu64 hr) (tx_sL T 0 hS) (tx_tup tl_nil (by decide))) tup_eq_nil) fun H1 e1 => ?_))
    have S1 := hS.ofEx e1
    by_cases hnil : S.later = []
    · rw [if_pos (decide_eq_true hnil)]
      exact wB_one (wS_ret (TX.go tx_bl fun u H2 e2 du => by rw [du.bl]; exact kf (by unfold canS; simp [hnil]) H2 (e1.trans e2)))
    · rw [if_neg (by rw [decide_eq_true_iff]; exact hnil)]
      have kt := kt (by unfold canS; simp [hnil])
      refine wB_nil (wB_cons (wS_sP T 0 S1 (tx_starT (tx_sP T 0 S1) (tx_sN T 0 S1) (Nat.le_trans hz (by decide))) fun H2 b2 S2 => ?_))
      refine wB_cons (wS_sN T 0 S2 (now := S.later.getLast?.getD S.now) (tx_ixT (i := -1) (tx_sL T 0 S2) (tx_neg tx_int) (last_at hnil _)) fun H3 b3 S3 => ?_)
      refine wB_cons (wS_sL T 0 S3 (ps := S.later.dropLast) (TX.conv (tx_slT (tx_sL T 0 S3) to_none (to_some (tx_neg tx_int))) (by rw [cutX_last])) fun H4 b4 S4 => ?_)
      exact wB_one (wS_ret (TX.go tx_bl fun u H5 e5 du => by rw [du.bl]; exact kt H5 ((((But.of_ex e1).trans b2).trans b3).trans (b4.trans (But.of_ex e5))) (S4.ofEx e5)))
/-! ### == -/
def spEq (K : Frag) (C : Addr) : Sp := fun vs H Q _ => ∃ (sa : Addr) (F : Fld) (S : St2) (y : V), vs = [.ref sa, y] ∧ SheetAt K H C sa F S ∧
  ((∃ (sb : Addr) (F2 : Fld) (S2 : St2), y = .ref sb ∧ SheetAt K H C sb F2 S2 ∧ ∀ H', Ex H H' → Q (.bl (decide (F = F2) && decide (S.now.1 = S2.now.1))) H') ∨
    (((∃ t : Tup Pr, Hd K H y t) ∨ ∃ i : Int, y = .int i) ∧ ∀ H', Ex H H' → Q (.bl false) H'))
theorem scEq : FnScope ["self", "other"] ["self", "other"] (defScope (mth 8)) := ⟨rfl, rfl, rfl, by decide +kernel, rfl, by decide +kernel, by decide +kernel⟩
theorem ok_eq {f : Addr} {fd : FuncData} (F : Fun K "__eq__" "Sheet.__eq__" (mth 8) f fd) (T : ShC K mg C) (B : Bn mg) : FnOk P w K mg base CX0 1 f fd ["self", "other"] (spEq K C) := by
  refine F.ok scEq (fun vs H Q E h => ?_) (fun cdv A outer s H vs Q E hr h => ?_)
  · obtain ⟨sa, FF, S, y, rfl, _⟩ := h; rfl
  · obtain ⟨sa, FF, S, y, rfl, hS, h⟩ := h
    refine ⟨_, pB, ?_⟩
    rcases h with ⟨sb, F2, S2, rfl, hS2, k⟩ | ⟨hy, k⟩
    · obtain ⟨dx, vF, vN, vP, vL, g1, _⟩ := hS2.ex
      refine wB_one (wS_ret (TX.go (x := decide (FF = F2) && decide (S.now.1 = S2.now.1)) (TX.conv (tx_and (s := true) (fun H1 e1 Q q => wE_of (pe_callB call_isi rfl B.isinstance (by with_unfolding_all rfl) (pa_cons (pe_var (i := 1) rfl (.inl rfl)) (pa_cons (pe_glob (v := .ref C) rfl T.gC rfl) pa_nil)))
        ⟨_, rfl, .ref sb, .ref C, .ref C, .ref C, true, rfl, .own C, .base (.ins (e1 _ _ g1) T.cl T.ha T.hn T.htk T.hm), kit_same, q _ H1 (Ex.refl _) hd_bl⟩) fun _ => tx_and (tx_eq (α := Fld) (hu64 hr) (tx_sF T 0 hS) (tx_sF T 1 hS2)) fun _ => tx_one (tx_eq (α := Tup Pr) (hu64 hr) (tx_fst (tx_sN T 0 hS)) (tx_fst (tx_sN T 1 hS2)))) (Bool.true_and _)) fun u H1 e1 du => ?_))
      rw [du.bl]; exact k H1 e1
    · have hty : ∀ H1, Ex H H1 → ∃ t, TyX K H1 y t ∧ kitOne K t (.ref C) = some false := fun H1 e1 => by
        rcases hy with ⟨t, ht⟩ | ⟨i, rfl⟩
        · obtain ⟨l, vs, rfl, h1, _⟩ := (ht.ex e1).tup
          exact ⟨_, tyx_tup h1, T.kT⟩
        · exact ⟨_, .base (.int i), T.kI⟩
      refine wB_one (wS_ret (TX.go (x := false) (TX.conv (tx_and (s := false) (t := false) (fun H1 e1 Q q => ?_) fun z => by cases z) rfl) fun u H1 e1 du => ?_))
      · obtain ⟨t, h1, h2⟩ := hty H1 e1
        exact wE_of (pe_callB call_isi rfl B.isinstance (by with_unfolding_all rfl) (pa_cons (pe_var (i := 1) rfl (.inl rfl)) (pa_cons (pe_glob (v := .ref C) rfl T.gC rfl) pa_nil)))
          ⟨_, rfl, y, .ref C, t, .ref C, false, rfl, .own C, h1, h2, q _ H1 (Ex.refl _) hd_bl⟩
      · rw [du.bl]; exact k H1 e1
end
end K95
namespace K95
open PySem PySem.Spec PySem.Calls PySem.W PyProof.Rows L2 Evl
/-- an own class that is called: its __init__ keeps sp -/
structure OwnC (P : Program) (w : World) (K : Frag) (mg : Str → Option Value) (base : Heap) (k : Nat) (n : Str) (C : Addr) (ps : List Str) (sp : Sp) : Prop where
  own : ∃ f fd, FnOk P w K mg base CX0 k f fd ps sp ∧ Mk K C f ∧ mg n = some (.ref C) ∧ Binds K fd ps []
section
variable {X : Cx} {σ : L2.St} {H : Hp} {e : Expr} {es : List Expr} {p pos : Pos} {Q : VK} {n : Str} {k : Nat} {C : Addr} {ps : List Str} {sp : Sp}
theorem wE_make (M : OwnC X.prog X.w X.K X.mg X.base k n C ps sp) (hr : Room (k + 1) X.A) (h : wA X (e :: es) σ H fun vs H1 => ∀ x dx, H1 x = none → H1 dx = none → dx ≠ x → sp (.ref x :: vs) (upd (upd H1 dx (.own x)) x (.ins C dx [])) (fun v H2 => v = .non ∧ Q (.ref x) H2) noE) (hg : Gl X n := by rfl) (hdb : (n == ("__debug__" : Str)) = false := by decide)
    (he : starEach (e :: es) X.env = (false, eval e X.env) :: starEach es X.env := by rfl) (hpl : (backTo pos (starEach es X.env)).any (·.1) = false := by rfl) : wE X (.Call (.Name n p) (e :: es) [] pos) σ H Q := by
  obtain ⟨f, fd, F, m, hm, hb⟩ := M.own
  exact wE_of (pe_make (dvs := []) m F hr hg hm hb .nil (passes0' (E := noE)) pA hdb he hpl) (wA_mono h fun vs H1 q x dx h1 h2 h3 => by rw [List.append_nil]; exact q x dx h1 h2 h3)
end
section
variable {P : Program} {w : World} {K : Frag} {mg : Str → Option Value} {base : Heap} {C : Addr}
/-! ### Sheet(field) -/
def spInit (K : Frag) (C : Addr) : Sp := fun vs H Q _ => ∃ (sa dx : Addr) (v : V) (F : Fld), vs = [.ref sa, v] ∧ H sa = some (.ins C dx []) ∧ Hd K H v F ∧ FldOk F ∧ ∀ H', But [sa] H H' → SheetAt K H' C sa F st0 → Q .non H'
theorem scInit : FnScope ["self", "field"] ["self", "field"] (defScope (mth 0)) := ⟨rfl, rfl, rfl, by decide +kernel, rfl, by decide +kernel, by decide +kernel⟩
theorem ok_sinit {f : Addr} {fd : FuncData} (F : Fun K "__init__" "Sheet.__init__" (mth 0) f fd) (T : ShC K mg C) (N : Own P w K mg base 3 "need_field" ["field"] (Pu1 K FldOk fun x => x)) : FnOk P w K mg base CX0 4 f fd ["self", "field"] (spInit K C) := by
  refine F.ok scInit (fun vs H Q E h => ?_) (fun cdv A outer s H vs Q E hr h => ?_)
  · obtain ⟨sa, dx, v, FF, rfl, _⟩ := h; rfl
  · obtain ⟨sa, dx, v, FF, rfl, hs, d, hF, k⟩ := h
    have hr3 : Room 3 _ := hr
    refine ⟨_, pB, ?_⟩
    have nt : ∀ {H1 : Hp} {fs : List (Str × V)}, H1 sa = some (.ins C dx fs) → NoTup [sa] H1 := fun h => NoTup.cons (notup_ins h) NoTup.nil
    have b1 : ∀ {H1 : Hp} {o : HO}, But [sa] H1 (upd H1 sa o) := But.refl.upd (List.mem_singleton.mpr rfl)
    refine wB_cons (wS_fld (TX.go (tx_own1 N hr3 (tx_var 1 d) hF) fun vF H1 e1 dF => wE_var 0 rfl rfl ⟨sa, C, dx, [], rfl, e1 _ _ hs, T.cl, T.nF, by decide, ?_⟩))
    have a1 : (upd H1 sa (.ins C dx (putF "own_field" vF []))) sa = some (.ins C dx [("own_field", vF)]) := upd_same
    have dF1 := dF.but (b1 (o := .ins C dx (putF "own_field" vF []))) (nt (e1 _ _ hs))
    have B1 : But [sa] H (upd H1 sa (.ins C dx (putF "own_field" vF []))) := (But.of_ex e1).trans b1
    generalize upd H1 sa (.ins C dx (putF "own_field" vF [])) = G1 at *
    refine wB_cons (wS_fld (TX.go (α := Now) (tx_pair (t2_mk (tx_tup tl_nil (by decide)) tx_int)) fun vN H2 e2 dN => wE_var 0 rfl rfl ⟨sa, C, dx, _, rfl, e2 _ _ a1, T.cl, T.nN, by show 1 < 1000; decide, ?_⟩))
    have a2 : (upd H2 sa (.ins C dx (putF "now" vN [("own_field", vF)]))) sa = some (.ins C dx [("own_field", vF), ("now", vN)]) := upd_same
    have nt2 := nt (e2 _ _ a1)
    have dF2 := (dF1.ex e2).but (b1 (o := .ins C dx (putF "now" vN [("own_field", vF)]))) nt2
    have dN2 := dN.but (b1 (o := .ins C dx (putF "now" vN [("own_field", vF)]))) nt2
    have B2 : But [sa] H (upd H2 sa (.ins C dx (putF "now" vN [("own_field", vF)]))) := (B1.trans (But.of_ex e2)).trans b1
    generalize upd H2 sa (.ins C dx (putF "now" vN [("own_field", vF)])) = G2 at *
    refine wB_cons (wS_fld (TX.go (α := Tup Now) (tx_tup tl_nil (by decide)) fun vP H3 e3 dP => wE_var 0 rfl rfl ⟨sa, C, dx, _, rfl, e3 _ _ a2, T.cl, T.nP, by show 2 < 1000; decide, ?_⟩))
    have a3 : (upd H3 sa (.ins C dx (putF "past" vP [("own_field", vF), ("now", vN)]))) sa = some (.ins C dx [("own_field", vF), ("now", vN), ("past", vP)]) := upd_same
    have nt3 := nt (e3 _ _ a2)
    have dF3 := (dF2.ex e3).but (b1 (o := .ins C dx (putF "past" vP [("own_field", vF), ("now", vN)]))) nt3
    have dN3 := (dN2.ex e3).but (b1 (o := .ins C dx (putF "past" vP [("own_field", vF), ("now", vN)]))) nt3
    have dP3 := dP.but (b1 (o := .ins C dx (putF "past" vP [("own_field", vF), ("now", vN)]))) nt3
    have B3 : But [sa] H (upd H3 sa (.ins C dx (putF "past" vP [("own_field", vF), ("now", vN)]))) := (B2.trans (But.of_ex e3)).trans b1
    generalize upd H3 sa (.ins C dx (putF "past" vP [("own_field", vF), ("now", vN)])) = G3 at *
    refine wB_one (wS_fld (TX.go (α := Tup Now) (tx_tup tl_nil (by decide)) fun vL H4 e4 dL => wE_var 0 rfl rfl ⟨sa, C, dx, _, rfl, e4 _ _ a3, T.cl, T.nL, by show 3 < 1000; decide, ?_⟩))
    have nt4 := nt (e4 _ _ a3)
    exact k _ ((B3.trans (But.of_ex e4)).trans b1) ⟨dx, vF, vN, vP, vL, upd_same, (dF3.ex e4).but b1 nt4, (dN3.ex e4).but b1 nt4, (dP3.ex e4).but b1 nt4, dL.but b1 nt4⟩
/-- Sheet(e) -/
theorem wE_sheet {X : Cx} {σ : L2.St} {H : Hp} {e : Expr} {p pos : Pos} {Q : VK} {F : Fld} (M : OwnC X.prog X.w X.K X.mg X.base 4 "Sheet" C ["self", "field"] (spInit X.K C)) (hr : Room 5 X.A) (he : TX X σ H e F) (hF : FldOk F) (q : ∀ sa H', Ex H H' → H sa = none → SheetAt X.K H' C sa F st0 → Q (.ref sa) H') (hg : Gl X "Sheet" := by rfl)
    (hst : starEach (e :: []) X.env = (false, eval e X.env) :: starEach [] X.env := by rfl) : wE X (.Call (.Name "Sheet" p) [e] [] pos) σ H Q :=
  wE_make M hr (t1_mk he hst H (Ex.refl _) _ fun v H1 e1 d x dx hx hdx hne => by
    have e2 : Ex H1 (upd (upd H1 dx (.own x)) x (.ins C dx [])) := (Ex.new hdx).mut hx
    refine ⟨x, dx, v, F, rfl, upd_same, d.ex e2, hF, fun H' b S => ⟨rfl, q x H' ?_ (fresh_back e1 hx) S⟩⟩
    intro c o ho
    have h1 := e1 c o ho
    have hc : c ≠ x := fun z => by rw [z, hx] at h1; cases h1
    exact b c o (by simpa using hc) (e2 c o h1)) hg (by decide) hst rfl
/-! ### copy -/
def spCopy (K : Frag) (C : Addr) : Sp := fun vs H Q _ => ∃ (sa : Addr) (F : Fld) (S : St2), vs = [.ref sa] ∧ SheetAt K H C sa F S ∧ FldOk F ∧ ∀ sb H', Ex H H' → H sb = none → SheetAt K H' C sb F S → Q (.ref sb) H'
theorem scCopy : FnScope ["self", "found"] ["self"] (defScope (mth 20)) := ⟨rfl, rfl, rfl, by decide +kernel, rfl, by decide +kernel, by decide +kernel⟩
theorem ok_copy {f : Addr} {fd : FuncData} (F : Fun K "copy" "Sheet.copy" (mth 20) f fd) (T : ShC K mg C) (M : OwnC P w K mg base 4 "Sheet" C ["self", "field"] (spInit K C)) : FnOk P w K mg base CX0 6 f fd ["self"] (spCopy K C) := by
  refine F.ok scCopy (fun vs H Q E h => ?_) (fun cdv A outer s H vs Q E hr h => ?_)
  · obtain ⟨sa, FF, S, rfl, _⟩ := h; rfl
  · obtain ⟨sa, FF, S, rfl, hS, hF, k⟩ := h
    have hr5 : Room 5 _ := hr
    refine ⟨_, pB, ?_⟩
    refine wB_cons (wS_set (i := 1) scCopy.nd rfl (wE_sheet M hr5 (tx_sF T 0 hS) hF fun sb H1 e1 hsb B1 => ?_))
    have ne : sa ≠ sb := fun z => by
      obtain ⟨_, _, _, _, _, q, _⟩ := hS.ex
      rw [← z, q] at hsb; cases hsb
    have S1 := hS.ofEx e1
    refine wB_cons (wS_sN T 1 B1 (tx_sN T 0 S1) fun H2 b2 B2 => ?_)
    have S2 := S1.kp (Kp.of_but b2) B1.no (by simpa using ne)
    refine wB_cons (wS_sP T 1 B2 (tx_sP T 0 S2) fun H3 b3 B3 => ?_)
    have S3 := S2.kp (Kp.of_but b3) B2.no (by simpa using ne)
    refine wB_cons (wS_sL T 1 B3 (tx_sL T 0 S3) fun H4 b4 B4 => ?_)
    refine wB_one (wS_ret (wE_var 1 rfl rfl (k sb H4 (fun c o ho => ?_) hsb B4)))
    have hc : c ∉ [sb] := by simpa using fun z : c = sb => by rw [z, hsb] at ho; cases ho
    exact b4 c o hc (b3 c o hc (b2 c o hc (e1 c o ho)))
end
end K95
namespace K95
open PySem PySem.Spec PySem.Calls PySem.W PyProof.Rows L2 Evl
abbrev tFs (sa : Addr) (vN vP vL : V) : List (Str × V) := [("held_sheet", .ref sa), ("kept_now", vN), ("kept_past", vP), ("kept_later", vL)]
/-- at ta: a Trial of the sheet at sa that keeps the state S -/
structure TrialAt (K : Frag) (H : Hp) (CT ta sa : Addr) (S : St2) : Prop where
  ex : ∃ dx vN vP vL, H ta = some (.ins CT dx (tFs sa vN vP vL)) ∧ Hd K H vN S.now ∧ Hd K H vP (Tup.mk S.past) ∧ Hd K H vL (Tup.mk S.later)
structure TrC (K : Frag) (mg : Str → Option Value) (CT : Addr) : Prop where
  cl : Cls K CT
  nS : NoAttr K CT "held_sheet"
  nN : NoAttr K CT "kept_now"
  nP : NoAttr K CT "kept_past"
  nL : NoAttr K CT "kept_later"
section
variable {K : Frag} {H H1 : Hp} {CT ta sa : Addr} {S : St2} {T : List Addr}
theorem TrialAt.ofEx (h : TrialAt K H CT ta sa S) (e : Ex H H1) : TrialAt K H1 CT ta sa S := by
  obtain ⟨dx, vN, vP, vL, h1, h3, h4, h5⟩ := h.ex
  exact ⟨dx, vN, vP, vL, e _ _ h1, h3.ex e, h4.ex e, h5.ex e⟩
theorem TrialAt.kp (h : TrialAt K H CT ta sa S) (k : Kp T H H1) (n : NoTup T H) (ho : ta ∉ T) : TrialAt K H1 CT ta sa S := by
  obtain ⟨dx, vN, vP, vL, h1, h3, h4, h5⟩ := h.ex
  exact ⟨dx, vN, vP, vL, k _ _ ho (fun ps z => by cases z) h1, h3.kp k n, h4.kp k n, h5.kp k n⟩
theorem TrialAt.no (h : TrialAt K H CT ta sa S) : NoTup [ta] H := by
  obtain ⟨dx, vN, vP, vL, h1, _⟩ := h.ex
  exact NoTup.cons (notup_ins h1) NoTup.nil
end
section
variable {X : Cx} {σ : L2.St} {H : Hp} {CT ta sa : Addr} {S S' : St2} {p p1 p' pos : Pos} {D : Ends} {n : Str} {Q : VK} {C : Addr} {F : Fld}
/-- self.held_sheet -/
theorem wE_tS (T : TrC X.K X.mg CT) (m : Nat) (h : TrialAt X.K H CT ta sa S) (q : Q (.ref sa) H) (hσ : σ[m]? = some (some (.ref ta)) := by rfl) (hN : X.N[m]? = some n := by rfl) (hv : Vis X.env.scope n := by first | exact .inl rfl | exact .inr (.inl rfl) | exact .inr (.inr rfl)) (hd : (n == ("__debug__" : Str)) = false := by decide) (hcd : (n == ("__classdict__" : Str)) = false := by decide)
    (hb : attributeBase (.Name n p) "held_sheet" X.env (eval (.Name n p) X.env) = eval (.Name n p) X.env := by rfl) : wE X (.Attribute (.Name n p) "held_sheet" pos) σ H Q := by
  obtain ⟨dx, vN, vP, vL, h1, _⟩ := h.ex
  exact wE_fld (wE_var m hσ hN ⟨ta, CT, dx, _, _, rfl, h1, T.cl, T.nS, rfl, q⟩ hv hd hcd) hb
end
abbrev trm (j : Nat) : Stmt := inClass (top 33) j
section
variable {P : Program} {w : World} {K : Frag} {mg : Str → Option Value} {base : Heap} {C CT : Addr}
/-! ### Trial(sheet) -/
def spTInit (K : Frag) (C CT : Addr) : Sp := fun vs H Q _ => ∃ (ta dx sa : Addr) (F : Fld) (S : St2), vs = [.ref ta, .ref sa] ∧ H ta = some (.ins CT dx []) ∧ SheetAt K H C sa F S ∧ ∀ H', But [ta] H H' → TrialAt K H' CT ta sa S → Q .non H'
theorem scTInit : FnScope ["self", "sheet"] ["self", "sheet"] (defScope (trm 0)) := ⟨rfl, rfl, rfl, by decide +kernel, rfl, by decide +kernel, by decide +kernel⟩
theorem ok_tinit {f : Addr} {fd : FuncData} (F : Fun K "__init__" "Trial.__init__" (trm 0) f fd) (T : ShC K mg C) (R : TrC K mg CT) : FnOk P w K mg base CX0 1 f fd ["self", "sheet"] (spTInit K C CT) := by
  refine F.ok scTInit (fun vs H Q E h => ?_) (fun cdv A outer s H vs Q E hr h => ?_)
  · obtain ⟨ta, dx, sa, FF, S, rfl, _⟩ := h; rfl
  · obtain ⟨ta, dx, sa, FF, S, rfl, ht, hS, k⟩ := h
    refine ⟨_, pB, ?_⟩
    have nt : ∀ {H1 : Hp} {fs : List (Str × V)}, H1 ta = some (.ins CT dx fs) → NoTup [ta] H1 := fun h => NoTup.cons (notup_ins h) NoTup.nil
    have b1 : ∀ {H1 : Hp} {o : HO}, But [ta] H1 (upd H1 ta o) := But.refl.upd (List.mem_singleton.mpr rfl)
    have ne : sa ≠ ta := fun z => by
      obtain ⟨_, _, _, _, _, q, _⟩ := hS.ex
      rw [z, ht] at q; cases q
    -- self.held_sheet = sheet
    refine wB_cons (wS_fld (wE_var 1 rfl rfl (wE_var 0 rfl rfl ⟨ta, CT, dx, [], rfl, ht, R.cl, R.nS, by decide, ?_⟩)))
    have a1 : (upd H ta (.ins CT dx (putF "held_sheet" (.ref sa) []))) ta = some (.ins CT dx [("held_sheet", .ref sa)]) := upd_same
    have B1 : But [ta] H (upd H ta (.ins CT dx (putF "held_sheet" (.ref sa) []))) := b1
    have S1 := hS.kp (Kp.of_but B1) (nt ht) (by simpa using ne)
    generalize upd H ta (.ins CT dx (putF "held_sheet" (.ref sa) [])) = G1 at *
    refine wB_cons (wS_fld (TX.go (tx_sN T 1 S1) fun vN H2 e2 dN => wE_var 0 rfl rfl ⟨ta, CT, dx, _, rfl, e2 _ _ a1, R.cl, R.nN, by show 1 < 1000; decide, ?_⟩))
    have a2 : (upd H2 ta (.ins CT dx (putF "kept_now" vN [("held_sheet", .ref sa)]))) ta = some (.ins CT dx [("held_sheet", .ref sa), ("kept_now", vN)]) := upd_same
    have nt2 := nt (e2 _ _ a1)
    have b2 : But [ta] H2 (upd H2 ta (.ins CT dx (putF "kept_now" vN [("held_sheet", .ref sa)]))) := b1
    have S2 := (S1.ofEx e2).kp (Kp.of_but b2) nt2 (by simpa using ne)
    have dN2 := dN.but b2 nt2
    have B2 := (B1.trans (But.of_ex e2)).trans b2
    generalize upd H2 ta (.ins CT dx (putF "kept_now" vN [("held_sheet", .ref sa)])) = G2 at *
    refine wB_cons (wS_fld (TX.go (tx_sP T 1 S2) fun vP H3 e3 dP => wE_var 0 rfl rfl ⟨ta, CT, dx, _, rfl, e3 _ _ a2, R.cl, R.nP, by show 2 < 1000; decide, ?_⟩))
    have a3 : (upd H3 ta (.ins CT dx (putF "kept_past" vP [("held_sheet", .ref sa), ("kept_now", vN)]))) ta = some (.ins CT dx [("held_sheet", .ref sa), ("kept_now", vN), ("kept_past", vP)]) := upd_same
    have nt3 := nt (e3 _ _ a2)
    have b3 : But [ta] H3 (upd H3 ta (.ins CT dx (putF "kept_past" vP [("held_sheet", .ref sa), ("kept_now", vN)]))) := b1
    have S3 := (S2.ofEx e3).kp (Kp.of_but b3) nt3 (by simpa using ne)
    have dN3 := (dN2.ex e3).but b3 nt3
    have dP3 := dP.but b3 nt3
    have B3 := (B2.trans (But.of_ex e3)).trans b3
    generalize upd H3 ta (.ins CT dx (putF "kept_past" vP [("held_sheet", .ref sa), ("kept_now", vN)])) = G3 at *
    refine wB_one (wS_fld (TX.go (tx_sL T 1 S3) fun vL H4 e4 dL => wE_var 0 rfl rfl ⟨ta, CT, dx, _, rfl, e4 _ _ a3, R.cl, R.nL, by show 3 < 1000; decide, ?_⟩))
    have nt4 := nt (e4 _ _ a3)
    exact k _ ((B3.trans (But.of_ex e4)).trans b1) ⟨dx, vN, vP, vL, upd_same, (dN3.ex e4).but b1 nt4, (dP3.ex e4).but b1 nt4, dL.but b1 nt4⟩
/-! ### __enter__ -/
def spEnter (K : Frag) (C CT : Addr) : Sp := fun vs H Q _ => ∃ (ta sa : Addr) (F : Fld) (S0 S : St2), vs = [.ref ta] ∧ TrialAt K H CT ta sa S0 ∧ SheetAt K H C sa F S ∧ sa ≠ ta ∧ ∀ H', But [ta] H H' → TrialAt K H' CT ta sa S → SheetAt K H' C sa F S → Q (.ref sa) H'
theorem scEnter : FnScope ["self"] ["self"] (defScope (trm 1)) := ⟨rfl, rfl, rfl, by decide +kernel, rfl, by decide +kernel, by decide +kernel⟩
section
variable {X : Cx} {σ : L2.St} {H : Hp} {ta sa : Addr} {S S0 : St2} {p p1 p2 p' pos : Pos} {D : Ends} {n : Str} {F : Fld}
/-- self.held_sheet.now, .. -/
theorem tx_tN (T : ShC X.K X.mg C) (R : TrC X.K X.mg CT) (m : Nat) (h : TrialAt X.K H CT ta sa S0) (hS : SheetAt X.K H C sa F S) (hσ : σ[m]? = some (some (.ref ta)) := by rfl) (hN : X.N[m]? = some n := by rfl) (hv : Vis X.env.scope n := by first | exact .inl rfl | exact .inr (.inl rfl) | exact .inr (.inr rfl)) (hd : (n == ("__debug__" : Str)) = false := by decide) (hcd : (n == ("__classdict__" : Str)) = false := by decide)
    (hb : attributeBase (.Name n p) "held_sheet" X.env (eval (.Name n p) X.env) = eval (.Name n p) X.env := by rfl) (hb2 : attributeBase (.Attribute (.Name n p) "held_sheet" p1) "now" X.env (eval (.Attribute (.Name n p) "held_sheet" p1) X.env) = eval (.Attribute (.Name n p) "held_sheet" p1) X.env := by rfl) : TX X σ H (.Attribute (.Attribute (.Name n p) "held_sheet" p1) "now" pos) S.now := fun H1 e1 Q q => by
  obtain ⟨dx, vF, vN, vP, vL, h1, h2, h3, h4, h5⟩ := (hS.ofEx e1).ex
  exact wE_fld (wE_tS R m (h.ofEx e1) ⟨sa, C, dx, _, vN, rfl, h1, T.cl, T.nN, rfl, q _ H1 (Ex.refl _) h3⟩ hσ hN hv hd hcd hb) hb2
theorem tx_tP (T : ShC X.K X.mg C) (R : TrC X.K X.mg CT) (m : Nat) (h : TrialAt X.K H CT ta sa S0) (hS : SheetAt X.K H C sa F S) (hσ : σ[m]? = some (some (.ref ta)) := by rfl) (hN : X.N[m]? = some n := by rfl) (hv : Vis X.env.scope n := by first | exact .inl rfl | exact .inr (.inl rfl) | exact .inr (.inr rfl)) (hd : (n == ("__debug__" : Str)) = false := by decide) (hcd : (n == ("__classdict__" : Str)) = false := by decide)
    (hb : attributeBase (.Name n p) "held_sheet" X.env (eval (.Name n p) X.env) = eval (.Name n p) X.env := by rfl) (hb2 : attributeBase (.Attribute (.Name n p) "held_sheet" p1) "past" X.env (eval (.Attribute (.Name n p) "held_sheet" p1) X.env) = eval (.Attribute (.Name n p) "held_sheet" p1) X.env := by rfl) : TX X σ H (.Attribute (.Attribute (.Name n p) "held_sheet" p1) "past" pos) (Tup.mk S.past) := fun H1 e1 Q q => by
  obtain ⟨dx, vF, vN, vP, vL, h1, h2, h3, h4, h5⟩ := (hS.ofEx e1).ex
  exact wE_fld (wE_tS R m (h.ofEx e1) ⟨sa, C, dx, _, vP, rfl, h1, T.cl, T.nP, rfl, q _ H1 (Ex.refl _) h4⟩ hσ hN hv hd hcd hb) hb2
theorem tx_tL (T : ShC X.K X.mg C) (R : TrC X.K X.mg CT) (m : Nat) (h : TrialAt X.K H CT ta sa S0) (hS : SheetAt X.K H C sa F S) (hσ : σ[m]? = some (some (.ref ta)) := by rfl) (hN : X.N[m]? = some n := by rfl) (hv : Vis X.env.scope n := by first | exact .inl rfl | exact .inr (.inl rfl) | exact .inr (.inr rfl)) (hd : (n == ("__debug__" : Str)) = false := by decide) (hcd : (n == ("__classdict__" : Str)) = false := by decide)
    (hb : attributeBase (.Name n p) "held_sheet" X.env (eval (.Name n p) X.env) = eval (.Name n p) X.env := by rfl) (hb2 : attributeBase (.Attribute (.Name n p) "held_sheet" p1) "later" X.env (eval (.Attribute (.Name n p) "held_sheet" p1) X.env) = eval (.Attribute (.Name n p) "held_sheet" p1) X.env := by rfl) : TX X σ H (.Attribute (.Attribute (.Name n p) "held_sheet" p1) "later" pos) (Tup.mk S.later) := fun H1 e1 Q q => by
  obtain ⟨dx, vF, vN, vP, vL, h1, h2, h3, h4, h5⟩ := (hS.ofEx e1).ex
  exact wE_fld (wE_tS R m (h.ofEx e1) ⟨sa, C, dx, _, vL, rfl, h1, T.cl, T.nL, rfl, q _ H1 (Ex.refl _) h5⟩ hσ hN hv hd hcd hb) hb2
end
theorem ok_enter {f : Addr} {fd : FuncData} (F : Fun K "__enter__" "Trial.__enter__" (trm 1) f fd) (T : ShC K mg C) (R : TrC K mg CT) : FnOk P w K mg base CX0 1 f fd ["self"] (spEnter K C CT) := by
  refine F.ok scEnter (fun vs H Q E h => ?_) (fun cdv A outer s H vs Q E hr h => ?_)
  · obtain ⟨ta, sa, FF, S0, S, rfl, _⟩ := h; rfl
  · obtain ⟨ta, sa, FF, S0, S, rfl, ht, hS, ne, k⟩ := h
    refine ⟨_, pB, ?_⟩
    have b1 : ∀ {H1 : Hp} {o : HO}, But [ta] H1 (upd H1 ta o) := But.refl.upd (List.mem_singleton.mpr rfl)
    -- one store of a kept field
    refine wB_cons (wS_fld (TX.go (tx_tN T R 0 ht hS) fun vN H1 e1 dN => ?_))
    have t1 := ht.ofEx e1
    obtain ⟨dx, wN, wP, wL, g1, g2, g3, g4⟩ := t1.ex
    refine wE_var 0 rfl rfl ⟨ta, CT, dx, _, rfl, g1, R.cl, R.nN, by show 4 < 1000; decide, ?_⟩
    have T1 : TrialAt K (upd H1 ta (.ins CT dx (tFs sa vN wP wL))) CT ta sa { S0 with now := S.now } := ⟨dx, vN, wP, wL, upd_same, dN.but b1 t1.no, g3.but b1 t1.no, g4.but b1 t1.no⟩
    have S1 : SheetAt K (upd H1 ta (.ins CT dx (tFs sa vN wP wL))) C sa FF S := (hS.ofEx e1).kp (Kp.of_but b1) t1.no (by simpa using ne)
    have B1 : But [ta] H (upd H1 ta (.ins CT dx (tFs sa vN wP wL))) := (But.of_ex e1).trans b1
    show wB _ _ _ _ (upd H1 ta (.ins CT dx (tFs sa vN wP wL)))
    generalize upd H1 ta (.ins CT dx (tFs sa vN wP wL)) = G1 at *
    refine wB_cons (wS_fld (TX.go (tx_tP T R 0 T1 S1) fun vP H2 e2 dP => ?_))
    have t2 := T1.ofEx e2
    obtain ⟨dx, wN, wP, wL, g1, g2, g3, g4⟩ := t2.ex
    refine wE_var 0 rfl rfl ⟨ta, CT, dx, _, rfl, g1, R.cl, R.nP, by show 4 < 1000; decide, ?_⟩
    have T2 : TrialAt K (upd H2 ta (.ins CT dx (tFs sa wN vP wL))) CT ta sa { S0 with now := S.now, past := S.past } := ⟨dx, wN, vP, wL, upd_same, g2.but b1 t2.no, dP.but b1 t2.no, g4.but b1 t2.no⟩
    have S2 : SheetAt K (upd H2 ta (.ins CT dx (tFs sa wN vP wL))) C sa FF S := (S1.ofEx e2).kp (Kp.of_but b1) t2.no (by simpa using ne)
    have B2 : But [ta] H (upd H2 ta (.ins CT dx (tFs sa wN vP wL))) := (B1.trans (But.of_ex e2)).trans b1
    show wB _ _ _ _ (upd H2 ta (.ins CT dx (tFs sa wN vP wL)))
    generalize upd H2 ta (.ins CT dx (tFs sa wN vP wL)) = G2 at *
    refine wB_cons (wS_fld (TX.go (tx_tL T R 0 T2 S2) fun vL H3 e3 dL => ?_))
    have t3 := T2.ofEx e3
    obtain ⟨dx, wN, wP, wL, g1, g2, g3, g4⟩ := t3.ex
    refine wE_var 0 rfl rfl ⟨ta, CT, dx, _, rfl, g1, R.cl, R.nL, by show 4 < 1000; decide, ?_⟩
    have T3 : TrialAt K (upd H3 ta (.ins CT dx (tFs sa wN wP vL))) CT ta sa S := ⟨dx, wN, wP, vL, upd_same, g2.but b1 t3.no, g3.but b1 t3.no, dL.but b1 t3.no⟩
    have S3 : SheetAt K (upd H3 ta (.ins CT dx (tFs sa wN wP vL))) C sa FF S := (S2.ofEx e3).kp (Kp.of_but b1) t3.no (by simpa using ne)
    have B3 : But [ta] H (upd H3 ta (.ins CT dx (tFs sa wN wP vL))) := (B2.trans (But.of_ex e3)).trans b1
    show wB _ _ _ _ (upd H3 ta (.ins CT dx (tFs sa wN wP vL)))
    exact wB_one (wS_ret (wE_tS R 0 T3 (k _ B3 T3 S3)))
/-! ### __exit__ -/
def spExit (K : Frag) (C CT : Addr) : Sp := fun vs H Q _ => ∃ (ta sa : Addr) (F : Fld) (S0 S : St2) (a b c : V), vs = [.ref ta, a, b, c] ∧ TrialAt K H CT ta sa S0 ∧ SheetAt K H C sa F S ∧ sa ≠ ta ∧ ∀ H', But [sa] H H' → SheetAt K H' C sa F S0 → Q .non H'
theorem scExit : FnScope ["self", "kind", "value", "trace"] ["self", "kind", "value", "trace"] (defScope (trm 2)) := ⟨rfl, rfl, rfl, by decide +kernel, rfl, by decide +kernel, by decide +kernel⟩
theorem ok_exit {f : Addr} {fd : FuncData} (F : Fun K "__exit__" "Trial.__exit__" (trm 2) f fd) (T : ShC K mg C) (R : TrC K mg CT) : FnQ P w K mg base 1 f fd ["self", "kind", "value", "trace"] (spExit K C CT) := by
  obtain ⟨oc, od, kV, doc, pm, an, cdv, ct, osl, rfl, lk, hcd⟩ := F.ex
  refine fn_ofQ lk hcd scExit (fun vs H Q E h => ?_) (fun A outer s H vs Q E hr h => ?_)
  · obtain ⟨ta, sa, FF, S0, S, a, b, c, rfl, _⟩ := h; rfl
  · obtain ⟨ta, sa, FF, S0, S, a, b, c, rfl, ht, hS, ne, k⟩ := h
    refine ⟨_, pB, ?_⟩
    have b1 : ∀ {H1 : Hp} {o : HO}, But [sa] H1 (upd H1 sa o) := But.refl.upd (List.mem_singleton.mpr rfl)
    have tf : ∀ {H1 : Hp}, TrialAt K H1 CT ta sa S0 → ∃ dx vN vP vL, H1 ta = some (.ins CT dx (tFs sa vN vP vL)) ∧ Hd K H1 vN S0.now ∧ Hd K H1 vP (Tup.mk S0.past) ∧ Hd K H1 vL (Tup.mk S0.later) := fun h => h.ex
    obtain ⟨tx, tN, tP, tL, t1, t2, t3, t4⟩ := ht.ex
    obtain ⟨dx, vF, vN, vP, vL, h1, h2, h3, h4, h5⟩ := hS.ex
    refine wB_cons (wS_fld (wE_fld (wE_var 0 rfl rfl ⟨ta, CT, tx, _, tN, rfl, t1, R.cl, R.nN, rfl, wE_tS R 0 ht ⟨sa, C, dx, _, rfl, h1, T.cl, T.nN, by show 4 < 1000; decide, ?_⟩⟩)))
    have S1 : SheetAt K (upd H sa (.ins C dx (sFs vF tN vP vL))) C sa FF { S with now := S0.now } := ⟨dx, vF, tN, vP, vL, upd_same, h2.but b1 hS.no, t2.but b1 hS.no, h4.but b1 hS.no, h5.but b1 hS.no⟩
    have T1 : TrialAt K (upd H sa (.ins C dx (sFs vF tN vP vL))) CT ta sa S0 := ht.kp (Kp.of_but b1) hS.no (by simpa using ne.symm)
    have B1 : But [sa] H (upd H sa (.ins C dx (sFs vF tN vP vL))) := b1
    show wB _ _ _ _ (upd H sa (.ins C dx (sFs vF tN vP vL)))
    generalize upd H sa (.ins C dx (sFs vF tN vP vL)) = G1 at *
    obtain ⟨tx, tN, tP, tL, t1, t2, t3, t4⟩ := T1.ex
    obtain ⟨dx, vF, vN, vP, vL, h1, h2, h3, h4, h5⟩ := S1.ex
    refine wB_cons (wS_fld (wE_fld (wE_var 0 rfl rfl ⟨ta, CT, tx, _, tP, rfl, t1, R.cl, R.nP, rfl, wE_tS R 0 T1 ⟨sa, C, dx, _, rfl, h1, T.cl, T.nP, by show 4 < 1000; decide, ?_⟩⟩)))
    have S2 : SheetAt K (upd G1 sa (.ins C dx (sFs vF vN tP vL))) C sa FF { S with now := S0.now, past := S0.past } := ⟨dx, vF, vN, tP, vL, upd_same, h2.but b1 S1.no, h3.but b1 S1.no, t3.but b1 S1.no, h5.but b1 S1.no⟩
    have T2 : TrialAt K (upd G1 sa (.ins C dx (sFs vF vN tP vL))) CT ta sa S0 := T1.kp (Kp.of_but b1) S1.no (by simpa using ne.symm)
    have B2 : But [sa] H (upd G1 sa (.ins C dx (sFs vF vN tP vL))) := B1.trans b1
    show wB _ _ _ _ (upd G1 sa (.ins C dx (sFs vF vN tP vL)))
    generalize upd G1 sa (.ins C dx (sFs vF vN tP vL)) = G2 at *
    obtain ⟨tx, tN, tP, tL, t1, t2, t3, t4⟩ := T2.ex
    obtain ⟨dx, vF, vN, vP, vL, h1, h2, h3, h4, h5⟩ := S2.ex
    refine wB_one (wS_fld (wE_fld (wE_var 0 rfl rfl ⟨ta, CT, tx, _, tL, rfl, t1, R.cl, R.nL, rfl, wE_tS R 0 T2 ⟨sa, C, dx, _, rfl, h1, T.cl, T.nL, by show 4 < 1000; decide, ?_⟩⟩)))
    exact k _ (B2.trans b1) ⟨dx, vF, vN, vP, tL, upd_same, h2.but b1 S2.no, h3.but b1 S2.no, h4.but b1 S2.no, t4.but b1 S2.no⟩
/-! ### trial() -/
def spTrial (K : Frag) (C CT : Addr) : Sp := fun vs H Q _ => ∃ (sa : Addr) (F : Fld) (S : St2), vs = [.ref sa] ∧ SheetAt K H C sa F S ∧ ∀ ta H', Ex H H' → H ta = none → TrialAt K H' CT ta sa S → Q (.ref ta) H'
theorem scTrial : FnScope ["self"] ["self"] (defScope (mth 21)) := ⟨rfl, rfl, rfl, by decide +kernel, rfl, by decide +kernel, by decide +kernel⟩
theorem ok_trial {f : Addr} {fd : FuncData} (F : Fun K "trial" "Sheet.trial" (mth 21) f fd) (M : OwnC P w K mg base 1 "Trial" CT ["self", "sheet"] (spTInit K C CT)) : FnOk P w K mg base CX0 3 f fd ["self"] (spTrial K C CT) := by
  refine F.ok scTrial (fun vs H Q E h => ?_) (fun cdv A outer s H vs Q E hr h => ?_)
  · obtain ⟨sa, FF, S, rfl, _⟩ := h; rfl
  · obtain ⟨sa, FF, S, rfl, hS, k⟩ := h
    have hr2 : Room 2 _ := hr
    refine ⟨_, pB, wB_one (wS_ret (wE_make M hr2 (wA_of (pa_cons pE pa_nil) (wE_var 0 rfl rfl fun x dx hx hdx hne => ?_))))⟩
    have e2 : Ex H (upd (upd H dx (.own x)) x (.ins CT dx [])) := (Ex.new hdx).mut hx
    refine ⟨x, dx, sa, FF, S, rfl, upd_same, hS.ofEx e2, fun H' b T' => ⟨rfl, k x H' ?_ hx T'⟩⟩
    intro c o ho
    have hc : c ≠ x := fun z => by rw [z, hx] at ho; cases ho
    exact b c o (by simpa using hc) (e2 c o ho)
end
end K95
namespace K95
open PySem PySem.Spec PySem.Calls PySem.W PyProof.Rows L2 Evl
/-- a def that leans on it that no guard stands; by its global name -/
structure OwnG (P : Program) (w : World) (K : Frag) (mg : Str → Option Value) (base : Heap) (k : Nat) (n : Str) (ps : List Str) (sp : Sp) : Prop where
  own : ∃ f fd, FnG P w K mg base k f fd ps sp ∧ mg n = some (.ref f) ∧ keepIn K (.ref f) = true ∧ Binds K fd ps []
section
variable {P : Program} {w : World} {K : Frag} {mg : Str → Option Value} {base : Heap} {k j : Nat} {n : Str} {st : Stmt} {ps : List Str} {sp : Sp}
theorem ownG_of (D : DefAt K mg n st ps) (F : ∀ f fd, Fun K n n st f fd → FnG P w K mg base k f fd ps sp) : OwnG P w K mg base k n ps sp := by
  obtain ⟨f, fd, h1, h2, h3, h4⟩ := D
  exact ⟨f, fd, F f fd h1, h2, h3, h4⟩
theorem OwnG.mono (G : OwnG P w K mg base j n ps sp) (h : j ≤ k) : OwnG P w K mg base k n ps sp := by
  obtain ⟨f, fd, h1, h2, h3, h4⟩ := G.own
  exact ⟨f, fd, h1.mono h, h2, h3, h4⟩
end
section
variable {X : Cx} {σ : L2.St} {H : Hp} {e a b : Expr} {es : List Expr} {p pos : Pos} {Q : VK} {n : Str} {k : Nat} {ps : List Str} {sp : Sp} {W : WX}
theorem wE_ownG (G : OwnG X.prog X.w X.K X.mg X.base k n ps sp) (hr : Room k X.A) (hgd : X.A.guards = some []) (tk : Takes X W) (h : wA X (e :: es) σ H fun vs H1 => sp vs H1 Q (fun c d H' => W c d σ H')) (hg : Gl X n := by rfl) (hdb : (n == ("__debug__" : Str)) = false := by decide)
    (he : starEach (e :: es) X.env = (false, eval e X.env) :: starEach es X.env := by rfl) (hpl : (backTo pos (starEach es X.env)).any (·.1) = false := by rfl) : wE X (.Call (.Name n p) (e :: es) [] pos) σ H Q := by
  obtain ⟨f, fd, F, hm, hk, hb⟩ := G.own
  exact wE_of (pe_callG F hr hgd hg hm hk hb tk pA hdb he hpl) h
/-- repr(e) -/
theorem tx_repr {d : PyData} (hgd : X.A.guards = some []) (hu : X.A.units + 64 < cLine) (hm : X.mg "repr" = none) (ho : okD d = true) (hw : wt d ≤ 10000000) (hp : d.depth ≤ 60) (he : ∀ H1, Ex H H1 → ∀ Q : VK, (∀ v H2, Ex H1 H2 → Dp X.K H2 v d → Q v H2) → wE X e σ H1 Q) (hg : Gl X "repr" := by rfl)
    (hs : starEach (e :: []) X.env = (false, eval e X.env) :: starEach [] X.env := by rfl) : TX X σ H (.Call (.Name "repr" p) [e] [] pos) d.shown := fun H1 e1 Q q =>
  wE_of (pe_callB (call_reprD hgd hu) hg hm (by with_unfolding_all rfl) pA (by decide) (by decide) hs rfl) (wA_of (pa_cons pE pa_nil hs) (he H1 e1 _ fun v H2 e2 d2 => ⟨v, d, rfl, d2, ho, hw, hp, q _ H2 e2 hd_str⟩))
end
section
variable {K : Frag} {H H1 : Hp} {v : V} {d : PyData}
theorem Dp.ex (h : Dp K H v d) (e : Ex H H1) : Dp K H1 v d := dp_keep (fun _ _ => Evl.ex_t e) (fun _ _ => Evl.ex_l e) _ _ h
end
/-! ### _law_like -/
/-- data for which repr is told -/
structure OkR (d : PyData) : Prop where
  ok : okD d = true
  wt : wt d ≤ 10000000
  dp : d.depth ≤ 60
def spLike (K : Frag) : Sp := fun vs H Q _ => ∃ (v v' : V) (d : PyData), vs = [v, v'] ∧ Dp K H v d ∧ Dp K H v' d ∧ OkR d ∧ ∀ H', Ex H H' → Q (.bl true) H'
section
variable {P : Program} {w : World} {K : Frag} {mg : Str → Option Value} {base : Heap}
theorem scLike : FnScope ["answer", "due"] ["answer", "due"] (defScope (top 40)) := ⟨rfl, rfl, rfl, by decide +kernel, rfl, by decide +kernel, by decide +kernel⟩
theorem ok_like {f : Addr} {fd : FuncData} (F : Fun K "_law_like" "_law_like" (top 40) f fd) (B : Bn mg) : FnG P w K mg base 1 f fd ["answer", "due"] (spLike K) := by
  refine fn_ofG F scLike (fun vs H Q E h => ?_) (fun cdv A outer s H vs Q E hr hgd _ h => ?_)
  · obtain ⟨v, v', d, rfl, _⟩ := h; rfl
  · obtain ⟨v, v', d, rfl, d1, d2, ⟨ho, hw, hp⟩, k⟩ := h
    have var : ∀ {X : Cx} {σ : L2.St} {u : V} {n : Str} {p : Pos} (i : Nat), X.K = K → Dp K H u d → σ[i]? = some (some u) → X.N[i]? = some n → Vis X.env.scope n → (n == ("__debug__" : Str)) = false → (n == ("__classdict__" : Str)) = false → ∀ H1, Ex H H1 → ∀ Q : VK, (∀ v H2, Ex H1 H2 → Dp X.K H2 v d → Q v H2) → wE X (.Name n p) σ H1 Q :=
      fun i hK hd hσ hN hv h1 h2 H1 e1 Q q => wE_var i hσ hN (q _ H1 (Ex.refl _) (by rw [hK]; exact Dp.ex hd e1)) hv h1 h2
    refine ⟨_, pB, wB_one (wS_ret (TX.go (x := true) (TX.conv (tx_eq (α := Str) (hu64 hr) (tx_repr hgd (hu64 hr) B.repr ho hw hp (var 0 rfl d1 rfl rfl (.inl rfl) (by decide) (by decide))) (tx_repr hgd (hu64 hr) B.repr ho hw hp (var 1 rfl d2 rfl rfl (.inl rfl) (by decide) (by decide)))) (decide_eq_true rfl)) fun u H' e du => by rw [du.bl]; exact k H' e))⟩
/-! ### under -/
def tbU (X : Cx) (body : List Stmt) (W : WX) : TS := fun D σ H => ∀ (pn : List (Addr × Obj)) (xe : Value → Shared → Prop), Takes (X.tr pn xe) W → wB (X.tr pn xe) body D σ H
/-- with deed, a closure of one parameter -/
def spUnder (P : Program) (w : World) (K : Frag) (mg : Str → Option Value) (base : Heap) (C CT : Addr) (k : Nat) : Sp := fun vs H Q E => ∃ (ta sa f : Addr) (F : Fld) (S0 S : St2), vs = [.ref ta, .ref f] ∧ TrialAt K H CT ta sa S0 ∧ SheetAt K H C sa F S ∧ sa ≠ ta ∧
  ∀ H2, But [ta] H H2 → TrialAt K H2 CT ta sa S → SheetAt K H2 C sa F S → FnIn H2 f ∧ ∃ (j : Nat) (sp : Sp) (Φ : Hp → Prop), ClOk P w K mg base j f 1 sp Φ ∧ j ≤ k ∧ Φ H2 ∧
    ∀ (Q' : VK) (E' : XK), (∀ v H3 S3, TrialAt K H3 CT ta sa S → SheetAt K H3 C sa F S3 → (∀ H4, But [sa] H3 H4 → SheetAt K H4 C sa F S → Q v H4) → Q' v H3) →
      (∀ c d H3 S3, (∃ kv, RelV kv c) → TrialAt K H3 CT ta sa S → SheetAt K H3 C sa F S3 → (∀ H4, But [sa] H3 H4 → SheetAt K H4 C sa F S → E c d H4) → E' c d H3) → sp [.ref sa] H2 Q' E'
theorem scUnder : FnScope ["manager", "deed", "held"] ["manager", "deed"] (defScope (top 32)) := ⟨rfl, rfl, rfl, by decide +kernel, rfl, by decide +kernel, by decide +kernel⟩
theorem ok_under (k : Nat) {f C CT fE fX : Addr} {fd fdE fdX : FuncData} (F : Fun K "under" "under" (top 32) f fd) (kE : findIn K (.ref CT) "__enter__" = some (some (.ref fE))) (iE : isFn K (.ref fE) = true) (kX : findIn K (.ref CT) "__exit__" = some (some (.ref fX))) (iX : isFn K (.ref fX) = true)
    (FE : FnOk P w K mg base CX0 1 fE fdE ["self"] (spEnter K C CT)) (FX : FnQ P w K mg base 1 fX fdX ["self", "kind", "value", "trace"] (spExit K C CT)) (bE : Binds K fdE ["self"] []) (bX : Binds K fdX ["self", "kind", "value", "trace"] []) (hk : 1 ≤ k) :
    FnG P w K mg base (k + 1) f fd ["manager", "deed"] (spUnder P w K mg base C CT k) := by
  refine fn_ofG F scUnder (fun vs H Q E h => ?_) (fun cdv A outer s H vs Q E hr hgd _ h => ?_)
  · obtain ⟨ta, sa, g, FF, S0, S, rfl, _⟩ := h; rfl
  · obtain ⟨ta, sa, g, FF, S0, S, rfl, hT, hS, ne, h⟩ := h
    have hr1 := hr.mono hk
    obtain ⟨dx, vN, vP, vL, t1, _⟩ := hT.ex
    refine ⟨_, pB, wB_one (wS_of (ps_with (tb := tbU _ _) (Wout := fun cls d _ H => E cls d H) rfl rfl rfl (takes_of rfl rfl rfl rfl) kE iE kX iX FE FX bE bX hr1 hr1 scUnder.nd (i := 2) rfl rfl (pe_var (i := 0) rfl (.inl rfl)) (fun W pn xe tk _ => ⟨fun pins s σ H D I q => q pn xe tk pins s I⟩)) ?_)⟩
    refine ⟨.ref ta, rfl, ta, dx, _, rfl, t1, ta, sa, FF, S0, S, rfl, hT, hS, ne, fun H2 b2 T2 S2 => ?_⟩
    intro pn xe tk
    obtain ⟨hf, j, sp, Φ, cl, hj, hΦ, hsp⟩ := h H2 b2 T2 S2
    refine wB_one (wS_ret (wE_of (pe_callV (k := k) hr hgd tk (i := 1) rfl (.inl rfl) (pa_cons (pe_var (i := 2) rfl (.inl rfl)) pa_nil)) ⟨g, rfl, hf, _, rfl, hf, j, 1, sp, Φ, cl, hj, hΦ, rfl, ?_⟩))
    refine hsp _ _ (fun v H3 S3 T3 S3' q => ?_) (fun c d H3 S3 hk' T3 S3' q => ?_)
    · exact ⟨ta, sa, FF, S, S3, .non, .non, .non, rfl, T3, S3', ne, fun H4 b4 S4 => q H4 b4 S4⟩
    · exact ⟨hk', fun kv ev tv => ⟨ta, sa, FF, S, S3, kv, ev, tv, rfl, T3, S3', ne, fun H4 b4 S4 => ⟨rfl, q H4 b4 S4⟩⟩⟩
end
end K95
namespace K95
open PySem PySem.Spec PySem.Calls PySem.W PyProof.Rows L2 Evl
/-! ### the errors that the law looks at -/
/-- where the classes stand -/
structure Ec where
  pe : Addr
  tg : Addr
  bs : Addr
  bc : Addr
  bf : Addr
  bt : Addr
  bn : Addr
  un : Addr
  hd : Addr
inductive Kd | script | number | held
def Kd.cls (c : Ec) : Kd → Addr
  | .script => c.bs
  | .number => c.bn
  | .held => c.hd
def Kd.fl : Kd → Str
  | .script => "place"
  | .number => "value"
  | .held => "value"
def Kd.tag : Kd → Str
  | .script => "script"
  | .number => "number"
  | .held => "held"
def Kd.isS : Kd → Bool
  | .script => true
  | _ => false
def Kd.isN : Kd → Bool
  | .number => true
  | _ => false
def Kd.isH : Kd → Bool
  | .held => true
  | _ => false
structure EcOk (K : Frag) (mg : Str → Option Value) (c : Ec) : Prop where
  gpe : mg "PileError" = some (.ref c.pe)
  gtg : mg "TooGreat" = some (.ref c.tg)
  gbs : mg "BadScript" = some (.ref c.bs)
  gbc : mg "BadClaims" = some (.ref c.bc)
  gbf : mg "BadField" = some (.ref c.bf)
  gbt : mg "BadText" = some (.ref c.bt)
  gbn : mg "BadNumber" = some (.ref c.bn)
  gun : mg "Unlike" = some (.ref c.un)
  ghd : mg "Held" = some (.ref c.hd)
  exc : ∀ k : Kd, ExcC K (k.cls c) ∧ XfC K (k.cls c) ∧ findIn K (.ref (k.cls c)) k.fl = some none ∧ exmAny K (.ref (k.cls c)) [.ref c.pe, .ref c.tg] = some true
  zde : exmAny K (.type "ZeroDivisionError") [.ref c.pe, .ref c.tg] = some false
  key : exmAny K (.type "KeyError") [.ref c.pe, .ref c.tg] = some false
  isS : kitOne K (.ref c.bs) (.ref c.bs) = some true ∧ kitOne K (.ref c.bs) (.ref c.bc) = some false ∧ kitOne K (.ref c.bs) (.ref c.bf) = some false ∧ kitOne K (.ref c.bs) (.ref c.bt) = some false ∧ kitOne K (.ref c.bs) (.ref c.bn) = some false ∧ kitOne K (.ref c.bs) (.ref c.un) = some false ∧ kitOne K (.ref c.bs) (.ref c.hd) = some false ∧ kitOne K (.ref c.bs) (.ref c.tg) = some false
  isN : kitOne K (.ref c.bn) (.ref c.bs) = some false ∧ kitOne K (.ref c.bn) (.ref c.bc) = some false ∧ kitOne K (.ref c.bn) (.ref c.bf) = some false ∧ kitOne K (.ref c.bn) (.ref c.bt) = some false ∧ kitOne K (.ref c.bn) (.ref c.bn) = some true ∧ kitOne K (.ref c.bn) (.ref c.un) = some false ∧ kitOne K (.ref c.bn) (.ref c.hd) = some false ∧ kitOne K (.ref c.bn) (.ref c.tg) = some false
  isH : kitOne K (.ref c.hd) (.ref c.bs) = some false ∧ kitOne K (.ref c.hd) (.ref c.bc) = some false ∧ kitOne K (.ref c.hd) (.ref c.bf) = some false ∧ kitOne K (.ref c.hd) (.ref c.bt) = some false ∧ kitOne K (.ref c.hd) (.ref c.bn) = some false ∧ kitOne K (.ref c.hd) (.ref c.un) = some false ∧ kitOne K (.ref c.hd) (.ref c.hd) = some true ∧ kitOne K (.ref c.hd) (.ref c.tg) = some false
theorem EcOk.is {K : Frag} {mg : Str → Option Value} {c : Ec} (h : EcOk K mg c) (k : Kd) : kitOne K (.ref (k.cls c)) (.ref c.bs) = some k.isS ∧ kitOne K (.ref (k.cls c)) (.ref c.bc) = some false ∧ kitOne K (.ref (k.cls c)) (.ref c.bf) = some false ∧ kitOne K (.ref (k.cls c)) (.ref c.bt) = some false ∧
    kitOne K (.ref (k.cls c)) (.ref c.bn) = some k.isN ∧ kitOne K (.ref (k.cls c)) (.ref c.un) = some false ∧ kitOne K (.ref (k.cls c)) (.ref c.hd) = some k.isH ∧ kitOne K (.ref (k.cls c)) (.ref c.tg) = some false := by
  cases k with
  | script => exact h.isS
  | number => exact h.isN
  | held => exact h.isH
section
variable {X : Cx} {σ : L2.St} {H H1 : Hp} {p p1 p2 pos : Pos} {n m f : Str} {a D dd c : Addr} {fs : List (Str × V)} {b : Bool}
theorem ExAt.ex (h : ExAt H a D dd fs) (e : Ex H H1) : ExAt H1 a D dd fs := by
  obtain ⟨oe, h1, h2, h3, h4⟩ := h
  exact ⟨oe, e _ _ h1, h2, h3, e _ _ h4⟩
theorem ExAt.but {S : List Addr} (h : ExAt H a D dd fs) (k : But S H H1) (h1 : a ∉ S) (h2 : dd ∉ S) : ExAt H1 a D dd fs := by
  obtain ⟨oe, g1, g2, g3, g4⟩ := h
  exact ⟨oe, k _ _ h1 g1, g2, g3, k _ _ h2 g4⟩
/-- isinstance(e, C), e in slot i -/
theorem tx_isX (i : Nat) (hi : X.mg "isinstance" = none) (C : ExcC X.K D) (h : ExAt H a D dd fs) (hm : X.mg m = some (.ref c)) (hk : kitOne X.K (.ref D) (.ref c) = some b) (hσ : σ[i]? = some (some (.ref a)) := by rfl) (hN : X.N[i]? = some n := by rfl) (hv : Vis X.env.scope n := by first | exact .inl rfl | exact .inr (.inl rfl) | exact .inr (.inr rfl)) (hd : (n == ("__debug__" : Str)) = false := by decide) (hcd : (n == ("__classdict__" : Str)) = false := by decide)
    (hg : Gl X "isinstance" := by rfl) (hg2 : Gl X m := by rfl) (hd2 : (m == ("__debug__" : Str)) = false := by decide) (hs : starEach (.Name n p :: [.Name m p1]) X.env = (false, eval (.Name n p) X.env) :: starEach [.Name m p1] X.env := by rfl) : TX X σ H (.Call (.Name "isinstance" p2) [.Name n p, .Name m p1] [] pos) b := fun H1 e1 Q q =>
  wE_of (pe_callB call_isX hg hi (by with_unfolding_all rfl) (pa_cons (pe_var (i := i) hN hv hd hcd) (pa_cons (pe_glob (v := .ref c) hg2 hm rfl hd2) pa_nil rfl) hs) (by decide) (by decide) hs rfl) ⟨_, hσ, a, D, dd, fs, .ref c, .ref c, b, rfl, h.ex e1, C, (fun u r => r), hk, q _ H1 (Ex.refl _) hd_bl⟩
/-- e.f, an int -/
theorem tx_xf (i : Nat) {z : Int} (C : XfC X.K D) (h : ExAt H a D dd fs) (hf : findIn X.K (.ref D) f = some none) (hl : fs.lookup f = some (.int z)) (hσ : σ[i]? = some (some (.ref a)) := by rfl) (hN : X.N[i]? = some n := by rfl) (hv : Vis X.env.scope n := by first | exact .inl rfl | exact .inr (.inl rfl) | exact .inr (.inr rfl)) (hd : (n == ("__debug__" : Str)) = false := by decide) (hcd : (n == ("__classdict__" : Str)) = false := by decide)
    (hb : attributeBase (.Name n p) f X.env (eval (.Name n p) X.env) = eval (.Name n p) X.env := by rfl) : TX X σ H (.Attribute (.Name n p) f pos) z := fun H1 e1 Q q =>
  wE_of (pe_xfS (pe_var (i := i) hN hv hd hcd) hb) ⟨_, hσ, a, D, dd, fs, .int z, rfl, h.ex e1, C, hf, hl, q _ H1 (Ex.refl _) hd_int⟩
end
/-! ### _law_said -/
def tsU (X : Cx) (suite : List Stmt) : TS := fun D σ H => ∀ (a : Addr) (pn : List (Addr × Obj)), wB (X.suite a pn) suite D σ H
def spSaid (P : Program) (w : World) (K : Frag) (mg : Str → Option Value) (base : Heap) (c : Ec) (k : Nat) : Sp := fun vs H Q E => ∃ (f : Addr), vs = [.ref f] ∧ FnIn H f ∧
  ∃ (j : Nat) (sp : Sp) (Φ : Hp → Prop), ClOk P w K mg base j f 0 sp Φ ∧ j ≤ k ∧ ∀ H1, Ex H H1 → Φ H1 ∧ ∀ (Q' : VK) (E' : XK), (∀ v H2, (∀ l H3, Ex H2 H3 → H3 l = some (.lst [v]) → Q (.ref l) H3) → Q' v H2) →
    (∀ (kd : Kd) (dd : Addr) (n : Int) (H2 : Hp), H2 dd = some (.xd [(kd.fl, .int n)]) → (∀ v H3, Ex H2 H3 → Hd K H3 v (kd.tag, n) → Q v H3) → E' (.ref (kd.cls c)) (some dd) H2) →
    (∀ cl d H2, exmAny K cl [.ref c.pe, .ref c.tg] = some false → E cl d H2 → E' cl d H2) → sp [] H1 Q' E'
section
variable {P : Program} {w : World} {K : Frag} {mg : Str → Option Value} {base : Heap}
theorem scSaid : FnScope ["call", "told_so", "error", "e", "found", "some", "word", "is_so"] ["call"] (defScope (top 47)) := ⟨rfl, rfl, rfl, by decide +kernel, rfl, by decide +kernel, by decide +kernel⟩
theorem ok_said (k : Nat) {f : Addr} {fd : FuncData} {c : Ec} (F : Fun K "_law_said" "_law_said" (top 47) f fd) (B : Bn mg) (C : EcOk K mg c) : FnG P w K mg base (k + 1) f fd ["call"] (spSaid P w K mg base c k) := by
  refine fn_ofG F scSaid (fun vs H Q E h => ?_) (fun cdv A outer s H vs Q E hr hgd _ h => ?_)
  · obtain ⟨g, rfl, _⟩ := h; rfl
  · obtain ⟨g, rfl, hf, j, sp, Φ, cl, hj, h⟩ := h
    refine ⟨_, pB, ?_⟩
    refine wB_cons (wS_two 1 2 rfl scSaid.nd (wE_tup2 (wE_lst0 fun l0 hl0 => wE_non fun q0 hq0 => ⟨q0, .ref l0, .non, rfl, SqT.of upd_same, ?_⟩)))
    have e0 := (Ex.new (o := HO.lst []) hl0).trans (Ex.new (o := HO.tup [.ref l0, .non]) hq0)
    generalize upd (upd H l0 (.lst [])) q0 (.tup [.ref l0, .non]) = G0 at *
    obtain ⟨hΦ, hsp⟩ := h _ e0
    have hf1 : FnIn G0 g := by obtain ⟨o, fd', h1, h2⟩ := hf; exact ⟨o, fd', e0 _ _ h1, h2⟩
    refine wB_mid (fun σ2 H2 => (∃ v l, σ2 = [some (.ref g), some (.ref l), some .non, none, none, none, none, none] ∧ H2 l = some (.lst [v]) ∧ ∀ H3, Ex H2 H3 → Q (.ref l) H3) ∨
      (∃ (kd : Kd) (a dd : Addr) (n : Int), σ2 = [some (.ref g), some (.ref l0), some (.ref a), none, none, none, none, none] ∧ ExAt H2 a (kd.cls c) dd [(kd.fl, .int n)] ∧ ∀ v H3, Ex H2 H3 → Hd K H3 v (kd.tag, n) → Q v H3))
      (wS_of (ps_tryT_as (i := 3) (tb := tbU _ _) (ts := tsU _ _) (Wout := fun cls d _ H => E cls d H) rfl rfl rfl scSaid.nd rfl rfl (takes_of rfl rfl rfl rfl) (c₁ := .ref c.pe) (c₂ := .ref c.tg) ⟨rfl, by decide, Or.inl C.gpe⟩ ⟨rfl, by decide, Or.inl C.gtg⟩ (fun W pn xe tk _ => ⟨fun pins s σ H D I q => q pn xe tk pins s I⟩) (fun a pn => ⟨fun pins s σ H D I q => q a pn pins s I⟩)) ?_) ?_
    · intro pn xe tk
      refine wB_one (wS_set (i := 1) scSaid.nd rfl (wE_of (pe_lst (pa_cons (pe_callV0 (k := k) hr hgd tk (i := 0) rfl (.inl rfl)) pa_nil)) ⟨g, rfl, hf1, j, sp, Φ, cl, hj, hΦ, hsp _ _ (fun v H2 q => ?_) (fun kd dd n H2 hdd q => ?_) (fun cls d H2 hx hE => ?_)⟩))
      · -- it came to its end
        refine ⟨by rw [sizeLine_eq]; show 1 ≤ 16777216; decide, fun l hl => .inl ⟨v, l, rfl, upd_same, fun H3 e3 => q l H3 ((Ex.new hl).trans e3) (e3 _ _ upd_same)⟩⟩
      · -- an error of the package
        refine ⟨true, (C.exc kd).2.2.2, fun _ a oe ha hz hfs => ?_, fun z => by cases z⟩
        intro a' pn'
        refine wB_one (wS_set (i := 2) scSaid.nd rfl (wE_var 3 rfl rfl ?_))
        have eA := Ex.new (o := Std oe) ha
        exact .inr ⟨kd, a, dd, n, rfl, ⟨oe, upd_same, hz, hfs, eA _ _ hdd⟩, fun v H3 e3 d3 => q v H3 (eA.trans e3) d3⟩
      · -- any other passes
        exact ⟨false, hx, (fun z => nomatch z), fun _ => hE⟩
    · rintro σ2 H2 (⟨v, l, rfl, hl, q⟩ | ⟨kd, a, dd, n, rfl, hE, q⟩)
      · refine wB_cons (wS_if (TB.go (t := true) (TB.conv (tb_isNone 2) (by decide)) fun H3 e3 => ?_))
        rw [if_pos rfl]
        exact wB_one (wS_ret (wE_var 1 rfl rfl (q H3 e3)))
      · refine wB_cons (wS_if (TB.go (t := false) (TB.conv (tb_isNone (v := .ref a) 2) (decide_eq_false (by intro z; cases z))) fun H3 e3 => ?_))
        rw [if_neg (by decide)]
        have E3 := hE.ex e3
        obtain ⟨i1, i2, i3, i4, i5, i6, i7, i8⟩ := C.is kd
        obtain ⟨x1, x2, x3, _⟩ := C.exc kd
        have lk : ∀ f, f = kd.fl → ([(kd.fl, V.int n)] : List (Str × V)).lookup f = some (.int n) := fun f hf => by rw [hf]; simp [List.lookup]
        -- found
        refine wB_nil (wB_cons (wS_set (i := 4) scSaid.nd rfl (TX.go (x := if kd.isS = true then [(PySem.Str.ofString "script", n)] else []) (tx_ifExp (tb_val (tx_isX 2 B.isinstance x1 E3 C.gbs i1))
          (fun hb => TX.conv (tx_lst (tl_cons (tx_pair (t2_mk tx_str (tx_xf (z := n) 2 x2 E3 (by cases kd <;> first | exact x3 | cases hb) (lk _ (by cases kd <;> first | rfl | cases hb))))) tl_nil) (by show 1 ≤ 100000; decide)) (by rw [if_pos hb])) (fun hb => TX.conv (tx_lst tl_nil (by decide)) (by rw [if_neg (by rw [hb]; decide)]))) fun v4 H4 e4 d4 => ?_)))
        have hl4 : (if kd.isS = true then [(PySem.Str.ofString "script", n)] else []).length ≤ 1 := by split <;> simp
        have E4 := E3.ex e4
        refine wB_cons (wS_set (i := 4) scSaid.nd rfl (TX.go (TX.conv (tx_catL (ys := []) (by simp only [List.length_nil]; omega) (tx_var 4 d4) (tx_ifExp (s := false) (tb_val (tx_isX 2 B.isinstance x1 E4 C.gbc i2)) (fun hb => nomatch hb) (fun _ => tx_lst tl_nil (by decide)))) (List.append_nil _)) fun v5 H5 e5 d5 => ?_))
        have E5 := E4.ex e5
        refine wB_cons (wS_set (i := 4) scSaid.nd rfl (TX.go (TX.conv (tx_catL (ys := []) (by simp only [List.length_nil]; omega) (tx_var 4 d5) (tx_ifExp (s := false) (tb_val (tx_isX 2 B.isinstance x1 E5 C.gbf i3)) (fun hb => nomatch hb) (fun _ => tx_lst tl_nil (by decide)))) (List.append_nil _)) fun v6 H6 e6 d6 => ?_))
        have E6 := E5.ex e6
        refine wB_cons (wS_set (i := 4) scSaid.nd rfl (TX.go (TX.conv (tx_catL (ys := []) (by simp only [List.length_nil]; omega) (tx_var 4 d6) (tx_ifExp (s := false) (tb_val (tx_isX 2 B.isinstance x1 E6 C.gbt i4)) (fun hb => nomatch hb) (fun _ => tx_lst tl_nil (by decide)))) (List.append_nil _)) fun v7 H7 e7 d7 => ?_))
        have E7 := E6.ex e7
        -- some
        refine wB_cons (wS_set (i := 5) scSaid.nd rfl (wE_of (pe_lst (pa_cons pE (pa_cons pE pa_nil))) (TX.go (tx_pair (t2_mk tx_str (tx_isX 2 B.isinstance x1 E7 C.gbn i5))) fun v8 H8 e8 d8 => TX.go (tx_pair (t2_mk tx_str (tx_isX 2 B.isinstance x1 (E7.ex e8) C.gun i6))) fun v9 H9 e9 d9 => ⟨by rw [sizeLine_eq]; show 2 ≤ 16777216; decide, fun ls hls => ?_⟩)))
        have eL := Ex.new (o := HO.lst [v8, v9]) hls
        have Ls : LAt K (upd H9 ls (.lst [v8, v9])) ls [(PySem.Str.ofString "number", kd.isN), (PySem.Str.ofString "unlike", false)] := ⟨_, upd_same, ha_cons ((d8.ex e9).ex eL) (ha_cons (d9.ex eL) ha_nil)⟩
        have E9 := ((E7.ex e8).ex e9).ex eL
        have d9' := (d7.ex e8).ex e9
        have eL' : ∀ b o, H9 b = some o → b ≠ ls := fun b o hb z => by rw [z, hls] at hb; cases hb
        have e39 := (((((e3.trans e4).trans e5).trans e6).trans e7).trans (e8.trans e9)).trans eL
        generalize upd H9 ls (.lst [v8, v9]) = G9 at *
        refine wB_cons (wS_expr (wE_append 5 Ls (by show 2 ≤ 100000; decide) (tx_pair (t2_mk tx_str (tx_isX 2 B.isinstance x1 E9 C.ghd i7))) fun w10 H10 e10 L10 => ?_))
        have b10 : But [ls] H10 (upd H10 ls w10) := But.refl.upd (List.mem_singleton.mpr rfl)
        have hls10 : ∃ us, H10 ls = some (.lst us) := by obtain ⟨us, hus, _⟩ := (Ls.ex e10).at_; exact ⟨us, hus⟩
        have E10 := E9.ex e10
        have na : a ≠ ls := fun z => by
          obtain ⟨us, hus⟩ := hls10
          obtain ⟨oe, h1, _⟩ := E10
          rw [z, hus] at h1; cases h1
        have nd : dd ≠ ls := fun z => by
          obtain ⟨us, hus⟩ := hls10
          obtain ⟨oe, _, _, _, h1⟩ := E10
          rw [z, hus] at h1; cases h1
        have E11 := E10.but b10 (by simpa using na) (by simpa using nd)
        have e911 : Ex H9 (upd H10 ls w10) := fun b o hb => by
          rw [upd_ne (eL' b o hb)]
          exact e10 _ _ (eL _ _ hb)
        have d11 := d9'.ex e911
        have e2_11 : Ex H2 (upd H10 ls w10) := fun b o hb => e911 _ _ ((e8.trans e9) _ _ (((((e3.trans e4).trans e5).trans e6).trans e7) _ _ hb))
        generalize upd H10 ls w10 = H11 at *
        -- found + [(word, error.value) ..]
        have fE : ∀ z : Str × Bool, z ∈ [(PySem.Str.ofString "number", kd.isN), (PySem.Str.ofString "unlike", false)] ++ [(PySem.Str.ofString "held", kd.isH)] → z.2 = true → kd.fl = "value" := fun z hz hz2 => by
          cases kd with
          | number => rfl
          | held => rfl
          | script =>
            simp only [List.cons_append, List.nil_append, List.mem_cons, List.mem_nil_iff, or_false] at hz
            rcases hz with rfl | rfl | rfl <;> cases hz2
        have x3' : kd.fl = "value" → findIn K (.ref (kd.cls c)) "value" = some none := fun h => by rw [← h]; exact x3
        refine wB_cons (wS_set (i := 4) scSaid.nd rfl (TX.go (tx_catL ?_ (tx_var 4 d11) (tx_lc (f := fun z : Str × Bool => (z.1, n)) (pr := fun z => z.2) [("word", 6), ("is_so", 7)] rfl scSaid.nd (blkOk_by (N := ["call", "told_so", "error", "e", "found", "some", "word", "is_so"]) (sc := defScope (top 47)) (by decide +kernel)) (by show 3 ≤ 100000; decide) (ti_list (tx_var 5 L10.hd)) fun z hz v' H' e' d' => ?_)) fun v12 H12 e12 d12 => ?_))
        · have hh := List.length_filter_le (fun z : Str × Bool => z.2) ([(PySem.Str.ofString "number", kd.isN), (PySem.Str.ofString "unlike", false)] ++ [(PySem.Str.ofString "held", kd.isH)])
          rw [List.length_map]
          have : ([(PySem.Str.ofString "number", kd.isN), (PySem.Str.ofString "unlike", false)] ++ [(PySem.Str.ofString "held", kd.isH)]).length = 3 := rfl
          omega
        · obtain ⟨lq, v1, v2, rfl, g1, g2, g3⟩ := d'.pair
          exact ⟨_, fun s0 H0 Cc cl' fp => ⟨tgt_two 6 7 rfl scSaid.nd g1, tbs_one (tb_val (tx_var 7 g3)), fun hz2 => tx_pair (t2_mk (tx_var 6 g2) (tx_xf (z := n) 2 x2 (E11.ex e') (x3' (fE z hz hz2)) (lk _ (fE z hz hz2).symm)))⟩, rfl⟩
        have E12 := E11.ex e12
        refine wB_cons (wS_set (i := 4) scSaid.nd rfl (TX.go (TX.conv (tx_catL (ys := []) ?_ (tx_var 4 d12) (tx_ifExp (s := false) (tb_val (tx_isX 2 B.isinstance x1 E12 C.gtg i8)) (fun hb => nomatch hb) (fun _ => tx_lst tl_nil (by decide)))) (x' := [(kd.tag, n)]) ?_) fun v13 H13 e13 d13 => ?_))
        · rw [List.length_append, List.length_map, List.length_nil]
          have hh := List.length_filter_le (fun z : Str × Bool => z.2) ([(PySem.Str.ofString "number", kd.isN), (PySem.Str.ofString "unlike", false)] ++ [(PySem.Str.ofString "held", kd.isH)])
          have : ([(PySem.Str.ofString "number", kd.isN), (PySem.Str.ofString "unlike", false)] ++ [(PySem.Str.ofString "held", kd.isH)]).length = 3 := rfl
          omega
        · cases kd <;> rfl
        refine wB_one (wS_ret (TX.go (x := (kd.tag, n)) (tx_ifExp (s := true) (TB.conv (tb_eq (hu64 hr) (tx_lenL B.len (tx_var 4 d13)) tx_int) rfl) (fun _ => tx_ixL (i := 0) (tx_var 4 d13) tx_int (atI_nat (n := 0) rfl)) (fun hb => nomatch hb)) fun v14 H14 e14 d14 => q v14 H14 (((e2_11.trans e12).trans e13).trans e14) d14))
end
end K95
/-! KT9: list(range(n)). -/
namespace K95
open PySem PySem.Spec PySem.Calls PySem.W PyProof.Rows L2 Evl
theorem vals_of {xs : List V} : ∀ {us : List Value}, xs.length = us.length → (∀ (i : Nat) x u, xs[i]? = some x → us[i]? = some u → RelV x u) → Vals xs us := by
  induction xs with
  | nil => intro us h _; cases us with
    | nil => exact .nil
    | cons u us => cases h
  | cons x xs ih => intro us h k; cases us with
    | nil => cases h
    | cons u us => exact .cons (k 0 x u rfl rfl) (ih (by simpa using h) fun i x' u' e1 e2 => k (i + 1) x' u' (by simpa using e1) (by simpa using e2))
theorem vals_items {lo : Int} {n : Nat} {acc : Array Value} (h : ItemsOf (fun i v => ∃ t, v = .int (lo + i * 1) t) acc n) : Vals ((rng lo n).map V.int) acc.toList := by
  refine vals_of ?_ fun i x u e1 e2 => ?_
  · rw [List.length_map, rng_length, Array.length_toList, h.1]
  · rw [List.getElem?_map] at e1
    cases e3 : (rng lo n)[i]? with
    | none => rw [e3] at e1; cases e1
    | some z =>
      rw [e3] at e1
      cases e1
      have hz := rng_get e3
      obtain ⟨t, rfl⟩ := h.2 i u (by rw [← Array.getElem?_toList]; exact e2)
      exact ⟨t, by rw [hz, Int.mul_one]⟩
section
variable {X : Cx} {σ : L2.St} {H : Hp} {a : Expr} {p p2 pos pos2 : Pos} {Q : VK} {n : Int}
theorem tx_listRange (hc : X.calm = true) (hm : X.mg "list" = none) (hm2 : X.mg "range" = none) (ha : TX X σ H a n) (h0 : 0 ≤ n) (h1 : n ≤ 100000) (hg : Gl X "list" := by rfl) (hg2 : Gl X "range" := by rfl) (hs : starEach [a] X.env = [(false, eval a X.env)] := by rfl)
    (hs2 : starEach [.Call (.Name "range" p2) [a] [] pos2] X.env = [(false, eval (.Call (.Name "range" p2) [a] [] pos2) X.env)] := by rfl) : TX X σ H (.Call (.Name "list" p) [.Call (.Name "range" p2) [a] [] pos2] [] pos) (rng 0 n.toNat) := by
  intro H1 e1 Q q pins s I
  refine Call_ (ld_blt I hg hm boot_list (PyProof.Rows.callWith_type1 (PyProof.Rows.args_cons ?_ rfl) hs2 rfl))
  refine Call_ (ld_blt I hg2 hm2 boot_range (PyProof.Rows.callWith_type1 (thn (wA_of (pa_cons pE pa_nil hs) (show tCons (wE X a) tNil σ H1 (fun vs H2 => ∃ v, vs = [v] ∧ Ex H1 H2 ∧ Hd X.K H2 v n) from ha H1 e1 _ fun v H2 e2 d => ⟨v, rfl, e2, d⟩) pos2 pins s I) fun us s1 hh => ?_) hs rfl))
  obtain ⟨vs, H2, I2, r1, v, ev, e2, d⟩ := hh
  subst ev
  obtain rfl := d.int
  obtain ⟨u, rfl, ru⟩ := vals1 r1
  obtain ⟨t, rfl⟩ := ru
  refine call_range_1 ?_
  refine PyProof.Rows.args_nil ?_
  have k1 : ∀ b o, s1.heap.get? b = some o → (s1.heap.push { cls := .type "range", data := .fields #[.int 0 s1.toks, .int n t, .int 1 (s1.toks + 1)] }).get? b = some o := fun b o e => Heap.get?_push_of_some _ e
  have I3 : Inv X pins σ H2 { s1 with heap := s1.heap.push { cls := .type "range", data := .fields #[.int 0 s1.toks, .int n t, .int 1 (s1.toks + 1)] }, toks := s1.toks + 1 + 1 } := I2.kept k1
  have hsz : Builtin.Range.rangeSize 0 n 1 = ((n.toNat : Nat) : Int) := by rw [rangeSize_one]; split <;> omega
  have b62 : (2 : Int) ^ 62 = 4611686018427387904 := by decide
  refine call_list_range (I2.ok.hd hc) (IsRange.new ..) (small_one (by omega) (by omega) (by omega) (by omega)) hsz (by omega) fun h' tk acc' c' hk hS hI => ?_
  have rv := vals_items hI
  have nf : H2 (s1.heap.push { cls := .type "range", data := .fields #[.int 0 s1.toks, .int n t, .int 1 (s1.toks + 1)] }).objs.size = none := I3.fresh
  have I4 := I3.laid (t' := tk) (a := (s1.heap.push { cls := .type "range", data := .fields #[.int 0 s1.toks, .int n t, .int 1 (s1.toks + 1)] }).objs.size) (o := .lst ((rng 0 n.toNat).map V.int)) (h' := h') hk (Nat.le_refl _)
    ⟨by rw [List.length_map, rng_length, sizeLine_eq]; omega, acc'.toList, c', rv, by simpa using hS⟩
  exact ⟨.ref _, _, I4, rfl, q _ _ (e2.trans (Ex.new nf)) (hd_list (SqL.of upd_same) ha_ints)⟩
end
end K95
namespace K95
open PySem PySem.Spec PySem.Calls PySem.W PyProof.Rows L2 Evl
/-! what holds of a sheet's states -/
structure NowOk (F : Fld) (B : Nat) (x : Now) : Prop where
  len : x.1.items.length ≤ B
  fr0 : 0 ≤ x.2
  fr : x.2 ≤ B
  inc : (x.1.items.map fun q => q.1).Pairwise (· < ·)
  lo : ∀ q ∈ x.1.items, 0 ≤ q.1
  hi : ∀ q ∈ x.1.items, q.1 < x.2
  nm : ∀ q ∈ x.1.items, q.2.1 ∈ F.1.items
  nz : ∀ q ∈ x.1.items, q.2.2 ≠ 0
  sz : ∀ q ∈ x.1.items, -1000000000000000000000000000000 ≤ q.2.2 ∧ q.2.2 ≤ 1000000000000000000000000000000
structure StOk (F : Fld) (B : Nat) (S : St2) : Prop where
  now : NowOk F B S.now
  past : ∀ x ∈ S.past, NowOk F B x
  later : ∀ x ∈ S.later, NowOk F B x
  lpl : S.past.length + S.later.length ≤ B
theorem NowOk.mono {F : Fld} {B B' : Nat} {x : Now} (h : NowOk F B x) (k : B ≤ B') : NowOk F B' x := ⟨Nat.le_trans h.len k, h.fr0, by have := h.fr; omega, h.inc, h.lo, h.hi, h.nm, h.nz, h.sz⟩
theorem StOk.mono {F : Fld} {B B' : Nat} {S : St2} (h : StOk F B S) (k : B ≤ B') : StOk F B' S := ⟨h.now.mono k, fun x hx => (h.past x hx).mono k, fun x hx => (h.later x hx).mono k, Nat.le_trans h.lpl k⟩
theorem StOk.lp {F : Fld} {B : Nat} {S : St2} (h : StOk F B S) : S.past.length ≤ B := Nat.le_trans (Nat.le_add_right _ _) h.lpl
theorem StOk.ll {F : Fld} {B : Nat} {S : St2} (h : StOk F B S) : S.later.length ≤ B := Nat.le_trans (Nat.le_add_left _ _) h.lpl
end K95
/-! KM1: piles, plain mathematics: what a pile is by pushes (top first), that it does not change but for swaps of
neighbours that are apart by swaps and joins; the least order of a pile. -/
namespace K95
section
variable {α : Type} [DecidableEq α] (ap : α → α → Bool)
/-- a step comes to lie on one of its name: the pile behind that (the top first), or none -/
def mrg (s : α × Int) : List (α × Int) → Option (List (α × Int))
  | [] => none
  | t :: r => if t.1 = s.1 then some (if t.2 + s.2 = 0 then r else (s.1, t.2 + s.2) :: r)
      else if ap t.1 s.1 = true then (mrg s r).map (t :: ·) else none
def psh (s : α × Int) (l : List (α × Int)) : List (α × Int) := (mrg ap s l).getD (s :: l)
/-- many pushes -/
def pls (l : List (α × Int)) (w : List (α × Int)) : List (α × Int) := w.foldl (fun l s => psh ap s l) l
inductive Sw : List (α × Int) → List (α × Int) → Prop
  | here {x y : α × Int} {q : List (α × Int)} : ap x.1 y.1 = true → Sw (x :: y :: q) (y :: x :: q)
  | cons {t : α × Int} {l l' : List (α × Int)} : Sw l l' → Sw (t :: l) (t :: l')
inductive Sws : List (α × Int) → List (α × Int) → Prop
  | refl {l : List (α × Int)} : Sws l l
  | step {a b c : List (α × Int)} : Sw ap a b → Sws b c → Sws a c
variable {ap}
theorem Sws.one {a b : List (α × Int)} (h : Sw ap a b) : Sws ap a b := .step h .refl
theorem Sws.trans {a b c : List (α × Int)} (h : Sws ap a b) (k : Sws ap b c) : Sws ap a c := by
  induction h with
  | refl => exact k
  | step h _ ih => exact .step h (ih k)
theorem Sws.cons {t : α × Int} {a b : List (α × Int)} (h : Sws ap a b) : Sws ap (t :: a) (t :: b) := by
  induction h with
  | refl => exact .refl
  | step h _ ih => exact .step (.cons h) ih
theorem Sw.symm (hs : ∀ a b, ap a b = ap b a) {a b : List (α × Int)} (h : Sw ap a b) : Sw ap b a := by
  induction h with
  | here h => exact .here (by rw [hs]; exact h)
  | cons _ ih => exact .cons ih
theorem Sws.symm (hs : ∀ a b, ap a b = ap b a) {a b : List (α × Int)} (h : Sws ap a b) : Sws ap b a := by
  induction h with
  | refl => exact .refl
  | step h _ ih => exact ih.trans (.one (h.symm hs))
theorem Sws.eq {a b : List (α × Int)} (h : a = b) : Sws ap a b := h ▸ .refl
theorem Sw.app {a b : List (α × Int)} (h : Sw ap a b) (c : List (α × Int)) : Sw ap (a ++ c) (b ++ c) := by
  induction h with
  | here h => exact .here h
  | cons _ ih => exact .cons ih
theorem Sw.pre {a b : List (α × Int)} (h : Sw ap a b) : ∀ c : List (α × Int), Sw ap (c ++ a) (c ++ b)
  | [] => h
  | _ :: c => .cons (Sw.pre h c)
theorem Sw.rev (hs : ∀ a b, ap a b = ap b a) {a b : List (α × Int)} (h : Sw ap a b) : Sw ap a.reverse b.reverse := by
  induction h with
  | @here x y q h =>
    rw [List.reverse_cons, List.reverse_cons, List.append_assoc, List.reverse_cons, List.reverse_cons, List.append_assoc]
    exact Sw.pre (Sw.here (by rw [hs]; exact h)) _
  | cons _ ih => rw [List.reverse_cons, List.reverse_cons]; exact ih.app _
theorem Sws.rev (hs : ∀ a b, ap a b = ap b a) {a b : List (α × Int)} (h : Sws ap a b) : Sws ap a.reverse b.reverse := by
  induction h with
  | refl => exact .refl
  | step h _ ih => exact .step (h.rev hs) ih
/-! ### a push, by cases -/
theorem mrg_hit {s t : α × Int} {r : List (α × Int)} (h : t.1 = s.1) : mrg ap s (t :: r) = some (if t.2 + s.2 = 0 then r else (s.1, t.2 + s.2) :: r) := by
  rw [mrg, if_pos h]
theorem mrg_by {s t : α × Int} {r : List (α × Int)} (h : t.1 ≠ s.1) (a : ap t.1 s.1 = true) : mrg ap s (t :: r) = (mrg ap s r).map (t :: ·) := by
  rw [mrg, if_neg h, if_pos a]
theorem mrg_stop {s t : α × Int} {r : List (α × Int)} (h : t.1 ≠ s.1) (a : ap t.1 s.1 = false) : mrg ap s (t :: r) = none := by
  rw [mrg, if_neg h, if_neg (by rw [a]; decide)]
theorem mrg_name {s s' : α × Int} (e : s.1 = s'.1) : ∀ {l : List (α × Int)}, mrg ap s l = none → mrg ap s' l = none
  | [], _ => rfl
  | t :: r, h => by
    by_cases h1 : t.1 = s.1
    · rw [mrg_hit h1] at h; cases h
    · by_cases a : ap t.1 s.1 = true
      · rw [mrg_by h1 a] at h
        rw [mrg_by (by rw [← e]; exact h1) (by rw [← e]; exact a)]
        rw [Option.map_eq_none_iff] at h ⊢
        exact mrg_name e h
      · exact mrg_stop (by rw [← e]; exact h1) (by rw [← e]; simpa using a)
theorem psh_none {s : α × Int} {l : List (α × Int)} (h : mrg ap s l = none) : psh ap s l = s :: l := by rw [psh, h]; rfl
theorem psh_some {s : α × Int} {l a : List (α × Int)} (h : mrg ap s l = some a) : psh ap s l = a := by rw [psh, h]; rfl
theorem ne_of_ap (hi : ∀ a, ap a a = false) {a b : α} (h : ap a b = true) : a ≠ b := fun e => by
  rw [e, hi] at h; cases h
theorem mrg_sw (hs : ∀ a b, ap a b = ap b a) (hi : ∀ a, ap a a = false) (s : α × Int) {l l' : List (α × Int)} (h : Sw ap l l') :
    (mrg ap s l = none ∧ mrg ap s l' = none) ∨ ∃ a a', mrg ap s l = some a ∧ mrg ap s l' = some a' ∧ (a = a' ∨ Sw ap a a') := by
  induction h with
  | @here x y q h =>
    have hxy := ne_of_ap hi h
    have h' : ap y.1 x.1 = true := by rw [hs]; exact h
    by_cases hx : x.1 = s.1
    · have hy : y.1 ≠ s.1 := fun e => hxy (hx.trans e.symm)
      rw [mrg_hit hx, mrg_by hy (by rw [← hx]; exact h'), mrg_hit hx]
      refine .inr ⟨_, _, rfl, rfl, ?_⟩
      by_cases z : x.2 + s.2 = 0
      · rw [if_pos z, if_pos z]; exact .inl rfl
      · rw [if_neg z, if_neg z]; exact .inr (.here (by rw [← hx]; exact h))
    · by_cases hy : y.1 = s.1
      · rw [mrg_by hx (by rw [← hy]; exact h), mrg_hit hy, mrg_hit hy]
        refine .inr ⟨_, _, rfl, rfl, ?_⟩
        by_cases z : y.2 + s.2 = 0
        · rw [if_pos z, if_pos z]; exact .inl rfl
        · rw [if_neg z, if_neg z]; exact .inr (.here (by rw [← hy]; exact h))
      · by_cases ax : ap x.1 s.1 = true
        · by_cases ay : ap y.1 s.1 = true
          · rw [mrg_by hx ax, mrg_by hy ay, mrg_by hy ay, mrg_by hx ax]
            cases mrg ap s q with
            | none => exact .inl ⟨rfl, rfl⟩
            | some b => exact .inr ⟨_, _, rfl, rfl, .inr (.here h)⟩
          · have ay : ap y.1 s.1 = false := by simpa using ay
            rw [mrg_by hx ax, mrg_stop hy ay, mrg_stop hy ay]
            exact .inl ⟨rfl, rfl⟩
        · have ax : ap x.1 s.1 = false := by simpa using ax
          rw [mrg_stop hx ax]
          by_cases ay : ap y.1 s.1 = true
          · rw [mrg_by hy ay, mrg_stop hx ax]
            exact .inl ⟨rfl, rfl⟩
          · rw [mrg_stop hy (by simpa using ay)]
            exact .inl ⟨rfl, rfl⟩
  | @cons t l l' h ih =>
    by_cases ht : t.1 = s.1
    · rw [mrg_hit ht, mrg_hit ht]
      refine .inr ⟨_, _, rfl, rfl, .inr ?_⟩
      by_cases z : t.2 + s.2 = 0
      · rw [if_pos z, if_pos z]; exact h
      · rw [if_neg z, if_neg z]; exact .cons h
    · by_cases a : ap t.1 s.1 = true
      · rw [mrg_by ht a, mrg_by ht a]
        rcases ih with ⟨e1, e2⟩ | ⟨b, b', e1, e2, e3⟩
        · rw [e1, e2]; exact .inl ⟨rfl, rfl⟩
        · rw [e1, e2]
          refine .inr ⟨_, _, rfl, rfl, ?_⟩
          rcases e3 with e3 | e3
          · exact .inl (by rw [e3])
          · exact .inr (.cons e3)
      · have a : ap t.1 s.1 = false := by simpa using a
        rw [mrg_stop ht a, mrg_stop ht a]
        exact .inl ⟨rfl, rfl⟩
theorem psh_sw (hs : ∀ a b, ap a b = ap b a) (hi : ∀ a, ap a a = false) (s : α × Int) {l l' : List (α × Int)} (h : Sw ap l l') : Sws ap (psh ap s l) (psh ap s l') := by
  rcases mrg_sw hs hi s h with ⟨e1, e2⟩ | ⟨a, a', e1, e2, e3⟩
  · rw [psh_none e1, psh_none e2]; exact .one (.cons h)
  · rw [psh_some e1, psh_some e2]
    rcases e3 with e3 | e3
    · exact .eq e3
    · exact .one e3
theorem psh_sws (hs : ∀ a b, ap a b = ap b a) (hi : ∀ a, ap a a = false) (s : α × Int) {l l' : List (α × Int)} (h : Sws ap l l') : Sws ap (psh ap s l) (psh ap s l') := by
  induction h with
  | refl => exact .refl
  | step h _ ih => exact (psh_sw hs hi s h).trans ih
theorem pls_sws (hs : ∀ a b, ap a b = ap b a) (hi : ∀ a, ap a a = false) : ∀ (w : List (α × Int)) {l l' : List (α × Int)}, Sws ap l l' → Sws ap (pls ap l w) (pls ap l' w)
  | [], _, _, h => h
  | s :: w, _, _, h => pls_sws hs hi w (psh_sws hs hi s h)
theorem mrg_bind (hs : ∀ a b, ap a b = ap b a) (hi : ∀ a, ap a a = false) {s t : α × Int} (hst : ap s.1 t.1 = true) : ∀ {l a : List (α × Int)}, mrg ap s l = some a → mrg ap t a = (mrg ap t l).bind (mrg ap s)
  | [], _, h => by cases h
  | u :: r, a, h => by
    have ne := ne_of_ap hi hst
    have hts : ap t.1 s.1 = true := by rw [hs]; exact hst
    by_cases h1 : u.1 = s.1
    · rw [mrg_hit h1] at h
      cases h
      have h2 : u.1 ≠ t.1 := fun e => ne (h1.symm.trans e)
      rw [mrg_by h2 (by rw [h1]; exact hst)]
      by_cases z : u.2 + s.2 = 0
      · rw [if_pos z]
        cases e : mrg ap t r with
        | none => rfl
        | some b =>
          show _ = mrg ap s (u :: b)
          rw [mrg_hit h1, if_pos z]
      · rw [if_neg z, mrg_by (t := (s.1, u.2 + s.2)) ne hst]
        cases e : mrg ap t r with
        | none => rfl
        | some b =>
          show _ = mrg ap s (u :: b)
          rw [mrg_hit h1, if_neg z]
          rfl
    · by_cases a1 : ap u.1 s.1 = true
      · rw [mrg_by h1 a1] at h
        cases e : mrg ap s r with
        | none => rw [e] at h; cases h
        | some a0 =>
          rw [e] at h
          cases h
          have ih := mrg_bind hs hi hst e
          by_cases h2 : u.1 = t.1
          · show mrg ap t (u :: a0) = _
            rw [mrg_hit (r := r) h2, mrg_hit (r := a0) h2]
            show _ = mrg ap s _
            by_cases z : u.2 + t.2 = 0
            · rw [if_pos z, if_pos z, e]
            · rw [if_neg z, if_neg z, mrg_by (t := (t.1, u.2 + t.2)) (Ne.symm ne) hts, e]
              rfl
          · by_cases a2 : ap u.1 t.1 = true
            · show mrg ap t (u :: a0) = _
              rw [mrg_by h2 a2, mrg_by h2 a2, ih]
              cases mrg ap t r with
              | none => rfl
              | some b =>
                show Option.map _ (mrg ap s b) = mrg ap s (u :: b)
                rw [mrg_by h1 a1]
            · have a2 : ap u.1 t.1 = false := by simpa using a2
              show mrg ap t (u :: a0) = _
              rw [mrg_stop h2 a2, mrg_stop h2 a2]
              rfl
      · rw [mrg_stop h1 (by simpa using a1)] at h
        cases h
/-- two pushes of steps that are apart change places -/
theorem psh_comm (hs : ∀ a b, ap a b = ap b a) (hi : ∀ a, ap a a = false) {s t : α × Int} (hst : ap s.1 t.1 = true) (l : List (α × Int)) : Sws ap (psh ap t (psh ap s l)) (psh ap s (psh ap t l)) := by
  have ne := ne_of_ap hi hst
  have hts : ap t.1 s.1 = true := by rw [hs]; exact hst
  cases e1 : mrg ap s l with
  | none =>
    rw [psh_none e1]
    cases e2 : mrg ap t l with
    | none =>
      rw [psh_none e2, psh_none (s := t) (by rw [mrg_by ne hst, e2]; rfl), psh_none (s := s) (by rw [mrg_by (Ne.symm ne) hts, e1]; rfl)]
      exact .one (.here hts)
    | some b =>
      have e3 := mrg_bind hs hi hts e2
      rw [e1] at e3
      rw [psh_some e2, psh_none (s := s) e3, psh_some (s := t) (a := s :: b) (by rw [mrg_by ne hst, e2]; rfl)]
      exact .refl
  | some a =>
    rw [psh_some e1]
    have e3 := mrg_bind hs hi hst e1
    cases e2 : mrg ap t l with
    | none =>
      rw [e2] at e3
      rw [psh_none (s := t) e3, psh_none e2, psh_some (s := s) (a := t :: a) (by rw [mrg_by (Ne.symm ne) hts, e1]; rfl)]
      exact .refl
    | some b =>
      rw [e2] at e3
      have e3 : mrg ap t a = mrg ap s b := e3
      have e4 := mrg_bind hs hi hts e2
      rw [e1] at e4
      have e4 : mrg ap s b = mrg ap t a := e4
      rw [psh_some e2]
      cases e5 : mrg ap t a with
      | some c => rw [psh_some e5, psh_some (s := s) (by rw [← e3]; exact e5)]; exact .refl
      | none =>
        -- cannot be, but both ways are the same but for a swap
        exfalso
        have : ∀ {l a b : List (α × Int)}, mrg ap s l = some a → mrg ap t l = some b → mrg ap t a ≠ none := by
          intro l
          induction l with
          | nil => intro a b h; cases h
          | cons u r ih =>
            intro a b h1 h2
            by_cases g1 : u.1 = s.1
            · have g2 : u.1 ≠ t.1 := fun e => ne (g1.symm.trans e)
              rw [mrg_hit g1] at h1
              cases h1
              rw [mrg_by g2 (by rw [g1]; exact hst)] at h2
              cases e : mrg ap t r with
              | none => rw [e] at h2; cases h2
              | some b0 =>
                by_cases z : u.2 + s.2 = 0
                · rw [if_pos z, e]; simp
                · rw [if_neg z, mrg_by (t := (s.1, u.2 + s.2)) ne hst, e]; simp
            · by_cases a1 : ap u.1 s.1 = true
              · rw [mrg_by g1 a1] at h1
                cases e : mrg ap s r with
                | none => rw [e] at h1; cases h1
                | some a0 =>
                  rw [e] at h1
                  cases h1
                  by_cases g2 : u.1 = t.1
                  · show mrg ap t (u :: a0) ≠ none
                    rw [mrg_hit g2]; simp
                  · by_cases a2 : ap u.1 t.1 = true
                    · rw [mrg_by g2 a2] at h2
                      cases e' : mrg ap t r with
                      | none => rw [e'] at h2; cases h2
                      | some b0 =>
                        show mrg ap t (u :: a0) ≠ none
                        rw [mrg_by g2 a2, ne_eq, Option.map_eq_none_iff]
                        exact ih e e'
                    · rw [mrg_stop g2 (by simpa using a2)] at h2; cases h2
              · rw [mrg_stop g1 (by simpa using a1)] at h1; cases h1
        exact this e1 e2 e5
/-! ### piles in which nothing can come together -/
def Irr : List (α × Int) → Prop
  | [] => True
  | t :: r => t.2 ≠ 0 ∧ mrg ap t r = none ∧ Irr r
theorem irr_mrg (hs : ∀ a b, ap a b = ap b a) (hi : ∀ a, ap a a = false) {s : α × Int} : ∀ {l a : List (α × Int)}, Irr (ap := ap) l → mrg ap s l = some a → Irr (ap := ap) a
  | [], _, _, h => by cases h
  | t :: r, a, ⟨i1, i2, i3⟩, h => by
    by_cases h1 : t.1 = s.1
    · rw [mrg_hit h1] at h
      cases h
      by_cases z : t.2 + s.2 = 0
      · rw [if_pos z]; exact i3
      · rw [if_neg z]; exact ⟨z, mrg_name (s' := (s.1, t.2 + s.2)) h1 i2, i3⟩
    · by_cases a1 : ap t.1 s.1 = true
      · rw [mrg_by h1 a1] at h
        cases e : mrg ap s r with
        | none => rw [e] at h; cases h
        | some a0 =>
          rw [e] at h
          cases h
          refine ⟨i1, ?_, irr_mrg hs hi i3 e⟩
          rw [mrg_bind hs hi (t := t) (by rw [hs]; exact a1) e, i2]
          rfl
      · rw [mrg_stop h1 (by simpa using a1)] at h; cases h
theorem irr_psh (hs : ∀ a b, ap a b = ap b a) (hi : ∀ a, ap a a = false) {s : α × Int} (h0 : s.2 ≠ 0) {l : List (α × Int)} (h : Irr (ap := ap) l) : Irr (ap := ap) (psh ap s l) := by
  cases e : mrg ap s l with
  | none => rw [psh_none e]; exact ⟨h0, e, h⟩
  | some a => rw [psh_some e]; exact irr_mrg hs hi h e
theorem irr_pls (hs : ∀ a b, ap a b = ap b a) (hi : ∀ a, ap a a = false) : ∀ {w : List (α × Int)} {l : List (α × Int)}, (∀ s ∈ w, s.2 ≠ 0) → Irr (ap := ap) l → Irr (ap := ap) (pls ap l w)
  | [], _, _, h => h
  | s :: w, _, h0, h => irr_pls (w := w) hs hi (fun t ht => h0 t (List.mem_cons_of_mem _ ht)) (irr_psh hs hi (h0 s List.mem_cons_self) h)
theorem psh_under (hs : ∀ a b, ap a b = ap b a) (hi : ∀ a, ap a a = false) {s t : α × Int} (h : ap t.1 s.1 = true) (l : List (α × Int)) : Sws ap (psh ap s (t :: l)) (t :: psh ap s l) := by
  have e := mrg_by (r := l) (ne_of_ap hi h) h
  cases q : mrg ap s l with
  | none =>
    rw [psh_none (s := s) (l := t :: l) (by rw [e, q]; rfl), psh_none q]
    exact .one (.here (by rw [hs]; exact h))
  | some a =>
    rw [psh_some (s := s) (l := t :: l) (a := t :: a) (by rw [e, q]; rfl), psh_some q]
    exact .refl
/-- the pile behind two pushes of one name -/
def jn (n : α) (a b : Int) : List (α × Int) := if a + b = 0 then [] else [(n, a + b)]
theorem psh_join (hs : ∀ a b, ap a b = ap b a) (hi : ∀ a, ap a a = false) {n : α} {a b : Int} (hb : b ≠ 0) : ∀ {l : List (α × Int)}, Irr (ap := ap) l → Sws ap (psh ap (n, b) (psh ap (n, a) l)) (pls ap l (jn n a b)) := by
  have flat : ∀ l : List (α × Int), mrg ap (n, a) l = none → Sws ap (psh ap (n, b) (psh ap (n, a) l)) (pls ap l (jn n a b)) := fun l e => by
    rw [psh_none e, psh_some (mrg_hit (s := (n, b)) (t := (n, a)) rfl)]
    unfold jn
    by_cases z : a + b = 0
    · rw [if_pos z, if_pos z]; exact .refl
    · rw [if_neg z, if_neg z]
      exact .eq (psh_none (s := (n, a + b)) (mrg_name (s := (n, a)) (s' := (n, a + b)) rfl e)).symm
  intro l
  induction l with
  | nil => intro _; exact flat [] rfl
  | cons t r ih =>
    rintro ⟨i1, i2, i3⟩
    by_cases h1 : t.1 = n
    · have c1 : psh ap (n, a) (t :: r) = if t.2 + a = 0 then r else (n, t.2 + a) :: r := psh_some (mrg_hit h1)
      rw [c1]
      obtain ⟨tn, c⟩ := t
      have h1 : tn = n := h1
      subst h1
      have i1 : c ≠ 0 := i1
      show Sws ap (psh ap (tn, b) (if c + a = 0 then r else (tn, c + a) :: r)) _
      unfold jn
      by_cases z : c + a = 0
      · rw [if_pos z, psh_none (mrg_name (s := (tn, c)) (s' := (tn, b)) rfl i2)]
        by_cases y : a + b = 0
        · rw [if_pos y]
          have : b = c := by omega
          rw [this]; exact .refl
        · rw [if_neg y]
          refine .eq (Eq.symm ((psh_some (s := (tn, a + b)) (l := (tn, c) :: r) (mrg_hit rfl)).trans ?_))
          have e : c + (a + b) = b := by omega
          show (if c + (a + b) = 0 then r else (tn, c + (a + b)) :: r) = _
          rw [e, if_neg hb]
      · rw [if_neg z, psh_some (s := (tn, b)) (l := (tn, c + a) :: r) (mrg_hit rfl)]
        show Sws ap (if c + a + b = 0 then r else (tn, c + a + b) :: r) _
        by_cases y : a + b = 0
        · rw [if_pos y]
          have e : c + a + b = c := by omega
          rw [e, if_neg i1]; exact .refl
        · rw [if_neg y]
          refine .eq (Eq.symm ((psh_some (s := (tn, a + b)) (l := (tn, c) :: r) (mrg_hit rfl)).trans ?_))
          show (if c + (a + b) = 0 then r else (tn, c + (a + b)) :: r) = _
          rw [Int.add_assoc]
    · by_cases a1 : ap t.1 n = true
      · have g1 := psh_sws hs hi (n, b) (psh_under hs hi (s := (n, a)) (t := t) a1 r)
        have g2 := psh_under hs hi (s := (n, b)) (t := t) a1 (psh ap (n, a) r)
        have g3 := (ih i3).cons (t := t)
        refine (g1.trans g2).trans (g3.trans ?_)
        unfold jn
        by_cases y : a + b = 0
        · rw [if_pos y]; exact .refl
        · rw [if_neg y]
          exact (psh_under hs hi (s := (n, a + b)) (t := t) a1 r).symm hs
      · exact flat _ (mrg_stop h1 (by simpa using a1))
theorem pls_app (l u v : List (α × Int)) : pls ap l (u ++ v) = pls ap (pls ap l u) v := List.foldl_append
/-- a step moves ahead of those that are apart from it -/
theorem pls_move (hs : ∀ a b, ap a b = ap b a) (hi : ∀ a, ap a a = false) {s : α × Int} : ∀ (mid : List (α × Int)) (l : List (α × Int)), (∀ m ∈ mid, ap m.1 s.1 = true) → Sws ap (pls ap l (mid ++ [s])) (pls ap l (s :: mid))
  | [], _, _ => .refl
  | m :: mid, l, h => by
    have h1 := pls_move hs hi mid (psh ap m l) fun x hx => h x (List.mem_cons_of_mem _ hx)
    exact h1.trans (pls_sws hs hi mid (psh_comm hs hi (h m List.mem_cons_self) l))
/-- two steps of one name with only steps between that are apart from it are joined -/
theorem pls_joined (hs : ∀ a b, ap a b = ap b a) (hi : ∀ a, ap a a = false) {n : α} {a b : Int} (hb : b ≠ 0) {u mid v : List (α × Int)} (hu : ∀ s ∈ u, s.2 ≠ 0) (h : ∀ m ∈ mid, ap m.1 n = true) :
    Sws ap (pls ap [] (u ++ ((n, a) :: mid ++ (n, b) :: v))) (pls ap [] (u ++ (jn n a b ++ (mid ++ v)))) := by
  have e : u ++ ((n, a) :: mid ++ (n, b) :: v) = u ++ ((n, a) :: ((mid ++ [(n, b)]) ++ v)) := by simp
  rw [e, pls_app, pls_app]
  have i := irr_pls (l := []) hs hi hu trivial
  generalize pls ap [] u = l at i ⊢
  show Sws ap (pls ap (psh ap (n, a) l) (mid ++ [(n, b)] ++ v)) _
  rw [pls_app, pls_app l (jn n a b), pls_app _ mid v]
  refine pls_sws hs hi v ((pls_move hs hi (s := (n, b)) mid (psh ap (n, a) l) h).trans ?_)
  exact pls_sws hs hi mid (psh_join hs hi hb i)
/-! ### a row of steps in which no two can come together is its own pile -/
def NoMeet (ap : α → α → Bool) (w : List (α × Int)) : Prop := ∀ u n a mid b v, w = u ++ ((n, a) :: mid ++ (n, b) :: v) → ∃ m ∈ mid, ap m.1 n = false
theorem mrg_where {s : α × Int} : ∀ {l a : List (α × Int)}, mrg ap s l = some a → ∃ mid c r, l = mid ++ (s.1, c) :: r ∧ ∀ m ∈ mid, ap m.1 s.1 = true
  | [], _, h => by cases h
  | t :: r, a, h => by
    by_cases h1 : t.1 = s.1
    · exact ⟨[], t.2, r, by rw [← h1]; rfl, fun m hm => by cases hm⟩
    · by_cases a1 : ap t.1 s.1 = true
      · rw [mrg_by h1 a1] at h
        cases e : mrg ap s r with
        | none => rw [e] at h; cases h
        | some a0 =>
          obtain ⟨mid, c, r', e1, e2⟩ := mrg_where e
          refine ⟨t :: mid, c, r', by rw [e1]; rfl, fun m hm => ?_⟩
          rcases List.mem_cons.mp hm with rfl | hm
          · exact a1
          · exact e2 m hm
      · rw [mrg_stop h1 (by simpa using a1)] at h; cases h
theorem pls_still : ∀ (w p : List (α × Int)), NoMeet ap (p ++ w) → pls ap p.reverse w = (p ++ w).reverse
  | [], p, _ => by simp [pls]
  | s :: w, p, h => by
    have e : mrg ap s p.reverse = none := by
      cases q : mrg ap s p.reverse with
      | none => rfl
      | some a =>
        obtain ⟨mid, c, r, e1, e2⟩ := mrg_where q
        have e3 : p = r.reverse ++ (s.1, c) :: mid.reverse := by
          have := congrArg List.reverse e1
          simpa using this
        obtain ⟨m, hm, hf⟩ := h r.reverse s.1 c mid.reverse s.2 w (by rw [e3]; simp)
        rw [e2 m (List.mem_reverse.mp hm)] at hf
        cases hf
    show pls ap (psh ap s p.reverse) w = _
    rw [psh_none e]
    have e4 : s :: p.reverse = (p ++ [s]).reverse := by simp
    rw [e4, pls_still w (p ++ [s]) (by rw [List.append_assoc]; exact h), List.append_assoc]
    rfl
/-! ### the least order -/
def fst1 (ap : α → α → Bool) (n : α) : List (α × Int) → Bool
  | [] => false
  | s :: l => if s.1 = n then true else ap s.1 n && fst1 ap n l
def get1 (n : α) : List (α × Int) → Option (α × Int)
  | [] => none
  | s :: l => if s.1 = n then some s else get1 n l
def era1 (n : α) : List (α × Int) → List (α × Int)
  | [] => []
  | s :: l => if s.1 = n then l else s :: era1 n l
theorem sw_facts (hs : ∀ a b, ap a b = ap b a) (hi : ∀ a, ap a a = false) (n : α) {l l' : List (α × Int)} (h : Sw ap l l') :
    fst1 ap n l = fst1 ap n l' ∧ get1 n l = get1 n l' ∧ (era1 n l = era1 n l' ∨ Sw ap (era1 n l) (era1 n l')) := by
  induction h with
  | @here x y q h =>
    have hxy := ne_of_ap hi h
    by_cases hx : x.1 = n
    · have hy : y.1 ≠ n := fun e => hxy (hx.trans e.symm)
      have h' : ap y.1 n = true := by rw [← hx, hs]; exact h
      refine ⟨?_, ?_, .inl ?_⟩
      · simp [fst1, hx, hy, h']
      · simp [get1, hx, hy]
      · simp [era1, hx, hy]
    · by_cases hy : y.1 = n
      · have h' : ap x.1 n = true := by rw [← hy]; exact h
        refine ⟨?_, ?_, .inl ?_⟩
        · simp [fst1, hx, hy, h']
        · simp [get1, hx, hy]
        · simp [era1, hx, hy]
      · refine ⟨?_, ?_, .inr ?_⟩
        · simp only [fst1, if_neg hx, if_neg hy]
          rw [← Bool.and_assoc, ← Bool.and_assoc, Bool.and_comm (ap x.1 n)]
        · simp only [get1, if_neg hx, if_neg hy]
        · simp only [era1, if_neg hx, if_neg hy]; exact .here h
  | @cons t l l' h ih =>
    obtain ⟨i1, i2, i3⟩ := ih
    by_cases ht : t.1 = n
    · refine ⟨?_, ?_, .inr ?_⟩
      · simp only [fst1, if_pos ht]
      · simp only [get1, if_pos ht]
      · simp only [era1, if_pos ht]; exact h
    · refine ⟨?_, ?_, ?_⟩
      · simp only [fst1, if_neg ht, i1]
      · simp only [get1, if_neg ht, i2]
      · simp only [era1, if_neg ht]
        rcases i3 with e | e
        · exact .inl (by rw [e])
        · exact .inr (.cons e)
theorem sws_facts (hs : ∀ a b, ap a b = ap b a) (hi : ∀ a, ap a a = false) (n : α) {l l' : List (α × Int)} (h : Sws ap l l') :
    fst1 ap n l = fst1 ap n l' ∧ get1 n l = get1 n l' ∧ Sws ap (era1 n l) (era1 n l') := by
  induction h with
  | refl => exact ⟨rfl, rfl, .refl⟩
  | step h _ ih =>
    obtain ⟨a1, a2, a3⟩ := sw_facts hs hi n h
    obtain ⟨b1, b2, b3⟩ := ih
    refine ⟨a1.trans b1, a2.trans b2, ?_⟩
    rcases a3 with e | e
    · rw [e]; exact b3
    · exact .step e b3
theorem Sws.len {l l' : List (α × Int)} (h : Sws ap l l') : l.length = l'.length := by
  have one : ∀ {l l' : List (α × Int)}, Sw ap l l' → l.length = l'.length := by
    intro l l' h
    induction h with
    | here _ => rfl
    | cons _ ih => simp [ih]
  induction h with
  | refl => rfl
  | step h _ ih => exact (one h).trans ih
/-- r is l in the least order -/
inductive Arr (ap : α → α → Bool) (lt : α → α → Prop) : List (α × Int) → List (α × Int) → Prop
  | nil : Arr ap lt [] []
  | step {l r : List (α × Int)} {n : α} {s : α × Int} : fst1 ap n l = true → (∀ m, fst1 ap m l = true → ¬ lt m n) → get1 n l = some s → Arr ap lt (era1 n l) r → Arr ap lt l (s :: r)
theorem Arr.the {lt : α → α → Prop} (hs : ∀ a b, ap a b = ap b a) (hi : ∀ a, ap a a = false) (tri : ∀ a b, ¬ lt a b → ¬ lt b a → a = b) {l r : List (α × Int)} (h : Arr ap lt l r) :
    ∀ {l' r' : List (α × Int)}, Sws ap l l' → Arr ap lt l' r' → r = r' := by
  induction h with
  | nil =>
    intro l' r' hw h'
    have e := hw.len
    cases h' with
    | nil => rfl
    | @step l' r' n s h1 _ _ _ =>
      cases l' with
      | nil => cases h1
      | cons _ _ => cases e
  | @step l r n s h1 h2 h3 _ ih =>
    intro l' r' hw h'
    cases h' with
    | nil =>
      have e := hw.len
      cases l with
      | nil => cases h1
      | cons _ _ => cases e
    | @step l' r' n' s' g1 g2 g3 g4 =>
      obtain ⟨f1, f2, f3⟩ := sws_facts hs hi n hw
      obtain ⟨f1', _, _⟩ := sws_facts hs hi n' hw
      have en : n = n' := tri n n' (g2 n (f1.symm.trans h1)) (h2 n' (f1'.trans g1))
      subst en
      have es : s = s' := Option.some.inj (h3.symm.trans (f2.trans g3))
      subst es
      rw [ih f3 g4]
/-- two ways to the least pile: by pushes, by joins -/
theorem least_same {lt : α → α → Prop} (hs : ∀ a b, ap a b = ap b a) (hi : ∀ a, ap a a = false) (tri : ∀ a b, ¬ lt a b → ¬ lt b a → a = b) {w L r r' : List (α × Int)}
    (h1 : Sws ap (pls ap [] w) (pls ap [] L)) (h2 : NoMeet ap L) (a1 : Arr ap lt (pls ap [] w).reverse r) (a2 : Arr ap lt L r') : r = r' := by
  have e : pls ap [] L = L.reverse := pls_still L [] h2
  rw [e] at h1
  have h3 := h1.rev hs
  rw [List.reverse_reverse] at h3
  exact Arr.the hs hi tri a1 h3 a2
end
end K95
/-! MP1: pushes, joins, least orders by places, against KM1; no program in sight. -/
namespace K95
section
variable {α : Type} [DecidableEq α]
/-! ### pushes by places -/
def mtGo (ap : α → α → Bool) (d : α × Int) (st : List (α × Int)) (name : α) : Nat → Int
  | 0 => -1
  | n + 1 => if ap (st.getD n d).1 name = true then mtGo ap d st name n else (n : Int)
variable {ap : α → α → Bool} {d : α × Int}
theorem getD_app1 {st : List (α × Int)} {t : α × Int} {n : Nat} (h : n < st.length) : (st ++ [t]).getD n d = st.getD n d := by
  rw [List.getD_eq_getElem?_getD, List.getD_eq_getElem?_getD, List.getElem?_append_left h]
theorem getD_app2 {st : List (α × Int)} {t : α × Int} : (st ++ [t]).getD st.length d = t := by
  rw [List.getD_eq_getElem?_getD, List.getElem?_append_right (Nat.le_refl _)]; simp
theorem mtGo_pre {st : List (α × Int)} {t : α × Int} {name : α} : ∀ n, n ≤ st.length → mtGo ap d (st ++ [t]) name n = mtGo ap d st name n
  | 0, _ => rfl
  | n + 1, h => by
    unfold mtGo
    rw [getD_app1 (show n < st.length from h), mtGo_pre n (by omega)]
theorem mtGo_snoc {st : List (α × Int)} {t : α × Int} {name : α} : mtGo ap d (st ++ [t]) name (st ++ [t]).length = if ap t.1 name = true then mtGo ap d st name st.length else (st.length : Int) := by
  rw [List.length_append, List.length_singleton]
  show (if ap ((st ++ [t]).getD st.length d).1 name = true then mtGo ap d (st ++ [t]) name st.length else (st.length : Int)) = _
  rw [getD_app2, mtGo_pre _ (Nat.le_refl _)]
theorem mtGo_lt (ap : α → α → Bool) (d : α × Int) (st : List (α × Int)) (name : α) : ∀ n, mtGo ap d st name n < (n : Int)
  | 0 => by show (-1 : Int) < 0; omega
  | n + 1 => by
    unfold mtGo
    have := mtGo_lt ap d st name n
    split <;> omega
theorem mt_mrg (hi : ∀ a, ap a a = false) (s : α × Int) : ∀ l : List (α × Int),
    (mrg ap s l = none → mtGo ap d l.reverse s.1 l.reverse.length < 0 ∨ (l.reverse.getD (mtGo ap d l.reverse s.1 l.reverse.length).toNat d).1 ≠ s.1) ∧
    (∀ a, mrg ap s l = some a → ∃ m : Nat, mtGo ap d l.reverse s.1 l.reverse.length = m ∧ m < l.reverse.length ∧ (l.reverse.getD m d).1 = s.1 ∧
      a.reverse = if (l.reverse.getD m d).2 + s.2 = 0 then l.reverse.eraseIdx m else l.reverse.set m (s.1, (l.reverse.getD m d).2 + s.2))
  | [] => ⟨fun _ => .inl (by show (-1 : Int) < 0; omega), fun a h => by cases h⟩
  | t :: r => by
    obtain ⟨ih1, ih2⟩ := mt_mrg hi s r
    rw [List.reverse_cons, mtGo_snoc]
    generalize hR : r.reverse = R at *
    by_cases h1 : t.1 = s.1
    · rw [mrg_hit h1, h1, hi, if_neg (show ¬ (false = true) from fun z => nomatch z)]
      refine ⟨fun h => (by cases h), fun a h => ⟨R.length, rfl, by simp, ?_⟩⟩
      rw [getD_app2]
      refine ⟨h1, ?_⟩
      have h := Option.some.inj h
      by_cases hz : t.2 + s.2 = 0
      · rw [if_pos hz] at h
        rw [if_pos hz, ← h, hR, List.eraseIdx_append_of_length_le (Nat.le_refl _)]
        simp
      · rw [if_neg hz] at h
        rw [if_neg hz, ← h, List.reverse_cons, hR, List.set_append_right _ _ (Nat.le_refl _)]
        simp
    · by_cases a1 : ap t.1 s.1 = true
      · rw [mrg_by h1 a1, if_pos a1]
        have lt := mtGo_lt ap d R s.1 R.length
        refine ⟨fun h => ?_, fun a h => ?_⟩
        · have h : mrg ap s r = none := by
            cases e : mrg ap s r with
            | none => rfl
            | some x => rw [e] at h; cases h
          rcases ih1 h with q | q
          · exact .inl q
          · by_cases hn : mtGo ap d R s.1 R.length < 0
            · exact .inl hn
            · right
              rw [getD_app1 (by omega)]
              exact q
        · cases e : mrg ap s r with
          | none => rw [e] at h; cases h
          | some x =>
            rw [e] at h
            have h := Option.some.inj h
            obtain ⟨m, g1, g2, g3, g4⟩ := ih2 x e
            refine ⟨m, g1, by rw [List.length_append]; omega, ?_⟩
            rw [getD_app1 g2]
            refine ⟨g3, ?_⟩
            rw [← h, List.reverse_cons, g4]
            split
            · rw [List.eraseIdx_append_of_lt_length g2]
            · rw [List.set_append_left _ _ g2]
      · have a1 : ap t.1 s.1 = false := by simpa using a1
        rw [mrg_stop h1 a1, a1, if_neg (by decide)]
        refine ⟨fun _ => .inr ?_, fun a h => by cases h⟩
        rw [show ((R.length : Nat) : Int).toNat = R.length from rfl, getD_app2]
        exact h1
def phF (ap : α → α → Bool) (d : α × Int) (st : List (α × Int)) (s : α × Int) : List (α × Int) :=
  if mtGo ap d st s.1 st.length < 0 ∨ (st.getD (mtGo ap d st s.1 st.length).toNat d).1 ≠ s.1 then st ++ [s]
  else if (st.getD (mtGo ap d st s.1 st.length).toNat d).2 + s.2 = 0 then st.eraseIdx (mtGo ap d st s.1 st.length).toNat else st.set (mtGo ap d st s.1 st.length).toNat (s.1, (st.getD (mtGo ap d st s.1 st.length).toNat d).2 + s.2)
theorem ph_psh (hi : ∀ a, ap a a = false) (s : α × Int) (l : List (α × Int)) : phF ap d l.reverse s = (psh ap s l).reverse := by
  obtain ⟨h1, h2⟩ := mt_mrg (d := d) hi s l
  cases e : mrg ap s l with
  | none =>
    rw [psh_none e, List.reverse_cons]
    exact if_pos (h1 e)
  | some a =>
    rw [psh_some e]
    obtain ⟨m, g1, g2, g3, g4⟩ := h2 a e
    unfold phF
    rw [g1, if_neg (by rintro (z | z); omega; exact z g3), g4]
    rfl
theorem ph_pls (hi : ∀ a, ap a a = false) : ∀ (w l : List (α × Int)), w.foldl (phF ap d) l.reverse = (pls ap l w).reverse
  | [], l => rfl
  | s :: w, l => by
    rw [List.foldl_cons, ph_psh hi, ph_pls hi w]; rfl
/-! ### joins by places -/
def scG (ap : α → α → Bool) (d : α × Int) (st : List (α × Int)) (k : Nat) : Nat → Nat → Option Nat
  | 0, _ => none
  | n + 1, far => if (st.getD far d).1 = (st.getD k d).1 then some far else if ap (st.getD k d).1 (st.getD far d).1 = true then scG ap d st k n (far + 1) else none
theorem scG_some {st : List (α × Int)} {k : Nat} : ∀ n far j, scG ap d st k n far = some j → far ≤ j ∧ j < far + n ∧ (st.getD j d).1 = (st.getD k d).1 ∧ ∀ i, far ≤ i → i < j → ap (st.getD k d).1 (st.getD i d).1 = true
  | 0, far, j, h => by cases h
  | n + 1, far, j, h => by
    unfold scG at h
    split at h
    · rename_i q
      cases h
      exact ⟨Nat.le_refl _, by omega, q, fun i h1 h2 => by omega⟩
    · split at h
      · rename_i q
        obtain ⟨h1, h2, h3, h4⟩ := scG_some n (far + 1) j h
        refine ⟨by omega, by omega, h3, fun i g1 g2 => ?_⟩
        rcases Nat.lt_or_ge far i with hlt | hge
        · exact h4 i hlt g2
        · obtain rfl : i = far := by omega
          exact q
      · cases h
theorem scG_none {st : List (α × Int)} {k : Nat} : ∀ n far, scG ap d st k n far = none → ∀ j, far ≤ j → j < far + n → (st.getD j d).1 = (st.getD k d).1 → ∃ i, far ≤ i ∧ i < j ∧ ap (st.getD k d).1 (st.getD i d).1 = false
  | 0, far, _, j, h1, h2, _ => by omega
  | n + 1, far, h, j, h1, h2, h3 => by
    unfold scG at h
    split at h
    · cases h
    · rename_i q
      have ne : far ≠ j := fun z => q (by rw [z]; exact h3)
      split at h
      · obtain ⟨i, g1, g2, g3⟩ := scG_none n (far + 1) h j (by omega) (by omega) h3
        exact ⟨i, by omega, g2, g3⟩
      · rename_i q2
        exact ⟨far, Nat.le_refl _, by omega, by simpa using q2⟩
/-- a list by two of its places -/
theorem two_places {st : List (α × Int)} {a b : Nat} (h1 : a < b) (h2 : b < st.length) : st = st.take a ++ (st.getD a d :: (st.drop (a + 1)).take (b - (a + 1)) ++ st.getD b d :: st.drop (b + 1)) := by
  have e1 : st.drop a = st.getD a d :: st.drop (a + 1) := by
    rw [List.getD_eq_getElem?_getD, List.getElem?_eq_getElem (by omega : a < st.length)]
    exact List.drop_eq_getElem_cons (by omega)
  have e2 : st.drop b = st.getD b d :: st.drop (b + 1) := by
    rw [List.getD_eq_getElem?_getD, List.getElem?_eq_getElem h2]
    exact List.drop_eq_getElem_cons h2
  have e3 : st.drop (a + 1) = (st.drop (a + 1)).take (b - (a + 1)) ++ st.drop b := by
    conv => lhs; rw [← List.take_append_drop (b - (a + 1)) (st.drop (a + 1))]
    rw [List.drop_drop, show a + 1 + (b - (a + 1)) = b by omega]
  conv => lhs; rw [← List.take_append_drop a st, e1, e3, e2]
  rfl
theorem mid_mem {st : List (α × Int)} {a b : Nat} {m : α × Int} (h2 : b < st.length) (h : m ∈ (st.drop (a + 1)).take (b - (a + 1))) : ∃ i, a + 1 ≤ i ∧ i < b ∧ st.getD i d = m := by
  obtain ⟨i, hi, e⟩ := List.getElem_of_mem h
  rw [List.length_take, List.length_drop] at hi
  refine ⟨a + 1 + i, by omega, by omega, ?_⟩
  rw [List.getElem_take, List.getElem_drop] at e
  rw [List.getD_eq_getElem?_getD, List.getElem?_eq_getElem (by omega)]
  exact e
theorem cut_take {st : List (α × Int)} {a b : Nat} (h1 : a < b) (h2 : b < st.length) : (st.take b ++ st.drop (b + 1)).take a = st.take a := by
  rw [List.take_append_of_le_length (by rw [List.length_take]; omega), List.take_take, show min a b = a by omega]
theorem cut_drop {st : List (α × Int)} {a b : Nat} (h1 : a < b) (h2 : b < st.length) : (st.take b ++ st.drop (b + 1)).drop (a + 1) = (st.drop (a + 1)).take (b - (a + 1)) ++ st.drop (b + 1) := by
  rw [List.drop_append_of_le_length (by rw [List.length_take]; omega), List.drop_take]
def jnG (d : α × Int) (st : List (α × Int)) (a b : Nat) : List (α × Int) :=
  ((st.take b ++ st.drop (b + 1)).take a ++ List.replicate (if decide ((st.getD a d).2 + (st.getD b d).2 ≠ 0) = true then 1 else 0) ((st.getD a d).1, (st.getD a d).2 + (st.getD b d).2)) ++ (st.take b ++ st.drop (b + 1)).drop (a + 1)
theorem jnG_eq {st : List (α × Int)} {a b : Nat} (h1 : a < b) (h2 : b < st.length) : jnG d st a b = st.take a ++ (jn (st.getD a d).1 (st.getD a d).2 (st.getD b d).2 ++ ((st.drop (a + 1)).take (b - (a + 1)) ++ st.drop (b + 1))) := by
  unfold jnG jn
  rw [cut_take h1 h2, cut_drop h1 h2, List.append_assoc]
  congr 2
  by_cases h : (st.getD a d).2 + (st.getD b d).2 = 0
  · rw [if_neg (by simpa using h), if_pos h]; rfl
  · rw [if_pos (by simpa using h), if_neg h]; rfl
theorem mem_jn {n : α} {a b : Int} {z : α × Int} (h : z ∈ jn n a b) : z = (n, a + b) ∧ a + b ≠ 0 := by
  unfold jn at h
  split at h
  · cases h
  · exact ⟨List.mem_singleton.mp h, ‹_›⟩
theorem jnG_nz {st : List (α × Int)} {a b : Nat} (h1 : a < b) (h2 : b < st.length) (hz : ∀ s ∈ st, s.2 ≠ 0) : ∀ s ∈ jnG d st a b, s.2 ≠ 0 := fun s hs => by
  rw [jnG_eq h1 h2] at hs
  rcases List.mem_append.mp hs with hs | hs
  · exact hz s (List.mem_of_mem_take hs)
  · rcases List.mem_append.mp hs with hs | hs
    · obtain ⟨rfl, h⟩ := mem_jn hs
      exact h
    · rcases List.mem_append.mp hs with hs | hs
      · exact hz s (List.mem_of_mem_drop (List.mem_of_mem_take hs))
      · exact hz s (List.mem_of_mem_drop hs)
theorem jnG_sws (hs : ∀ a b, ap a b = ap b a) (hi : ∀ a, ap a a = false) {st : List (α × Int)} {a b : Nat} (h1 : a < b) (h2 : b < st.length) (hz : ∀ s ∈ st, s.2 ≠ 0) (hn : (st.getD b d).1 = (st.getD a d).1)
    (hm : ∀ i, a + 1 ≤ i → i < b → ap (st.getD a d).1 (st.getD i d).1 = true) : Sws ap (pls ap [] st) (pls ap [] (jnG d st a b)) := by
  rw [jnG_eq h1 h2]
  have e := two_places (d := d) h1 h2
  have eb : st.getD b d = ((st.getD a d).1, (st.getD b d).2) := by rw [← hn]
  conv => arg 2; rw [e, eb]
  have hb : (st.getD b d).2 ≠ 0 := hz _ (by rw [List.getD_eq_getElem?_getD, List.getElem?_eq_getElem h2]; exact List.getElem_mem h2)
  refine pls_joined (n := (st.getD a d).1) (a := (st.getD a d).2) hs hi hb (fun s hs => hz s (List.mem_of_mem_take hs)) fun m hm' => ?_
  obtain ⟨i, g1, g2, rfl⟩ := mid_mem (d := d) h2 hm'
  rw [hs]
  exact hm i g1 g2
/-- no two can come together, told by places -/
theorem noMeet_of (hs : ∀ a b, ap a b = ap b a) {st : List (α × Int)} (h : ∀ k j, k < j → j < st.length → (st.getD j d).1 = (st.getD k d).1 → ∃ i, k + 1 ≤ i ∧ i < j ∧ ap (st.getD k d).1 (st.getD i d).1 = false) : NoMeet ap st := by
  intro u n a mid b v e
  have hg : ∀ i, st.getD i d = (u ++ ((n, a) :: mid ++ (n, b) :: v)).getD i d := fun i => by rw [← e]
  have hk : st.getD u.length d = (n, a) := by
    rw [hg, List.getD_eq_getElem?_getD, List.getElem?_append_right (Nat.le_refl _)]; simp
  have hj : st.getD (u.length + (mid.length + 1)) d = (n, b) := by
    rw [hg, List.getD_eq_getElem?_getD, List.getElem?_append_right (by omega), show u.length + (mid.length + 1) - u.length = mid.length + 1 by omega, List.cons_append, List.getElem?_cons_succ, List.getElem?_append_right (Nat.le_refl _)]; simp
  obtain ⟨i, g1, g2, g3⟩ := h u.length (u.length + (mid.length + 1)) (by omega) (by rw [e]; simp) (by rw [hk, hj])
  rw [hk] at g3
  have hm : i - (u.length + 1) < mid.length := by omega
  have hi' : st.getD i d = mid[i - (u.length + 1)] := by
    rw [hg, List.getD_eq_getElem?_getD, List.getElem?_append_right (by omega), show i - u.length = (i - (u.length + 1)) + 1 by omega, List.cons_append, List.getElem?_cons_succ, List.getElem?_append_left hm, List.getElem?_eq_getElem hm]; rfl
  rw [hi'] at g3
  exact ⟨_, List.getElem_mem hm, by rw [hs]; exact g3⟩
/-! ### the least order by places -/
theorem first_at (hi : ∀ a, ap a a = false) : ∀ {l : List (α × Int)} {p : Nat}, p < l.length → (∀ j, j < p → ap (l.getD j d).1 (l.getD p d).1 = true) →
    fst1 ap (l.getD p d).1 l = true ∧ get1 (l.getD p d).1 l = some (l.getD p d) ∧ era1 (l.getD p d).1 l = l.eraseIdx p
  | [], p, h, _ => by cases h
  | s :: l, 0, _, _ => by
    have e : (s :: l).getD 0 d = s := rfl
    rw [e]
    exact ⟨if_pos rfl, if_pos rfl, if_pos rfl⟩
  | s :: l, p + 1, h, k => by
    have e : ∀ j, (s :: l).getD (j + 1) d = l.getD j d := fun j => rfl
    have k0 : ap s.1 (l.getD p d).1 = true := k 0 (by omega)
    rw [e]
    obtain ⟨h1, h2, h3⟩ := first_at hi (l := l) (p := p) (by simpa using h) fun j hj => k (j + 1) (by omega)
    have ne : s.1 ≠ (l.getD p d).1 := fun z => by rw [z, hi] at k0; cases k0
    refine ⟨?_, ?_, ?_⟩
    · unfold fst1; rw [if_neg ne, k0, h1]; rfl
    · unfold get1; rw [if_neg ne]; exact h2
    · unfold era1; rw [if_neg ne, h3]; rfl
theorem first_where {m : α} : ∀ {l : List (α × Int)}, fst1 ap m l = true → ∃ i, i < l.length ∧ (l.getD i d).1 = m ∧ ∀ j, j < i → ap (l.getD j d).1 m = true
  | [], h => by cases h
  | s :: l, h => by
    unfold fst1 at h
    split at h
    · exact ⟨0, by simp, ‹_›, fun j hj => by omega⟩
    · rw [Bool.and_eq_true] at h
      obtain ⟨i, h1, h2, h3⟩ := first_where (l := l) h.2
      refine ⟨i + 1, by simpa using h1, h2, fun j hj => ?_⟩
      cases j with
      | zero => exact h.1
      | succ j => exact h3 j (by omega)
/-- one step of the least order: p is the place of the least name that can stand first -/
theorem arr_at {lt : α → α → Prop} (hi : ∀ a, ap a a = false) {l r : List (α × Int)} {p : Nat} (hp : p < l.length) (h1 : ∀ j, j < p → ap (l.getD j d).1 (l.getD p d).1 = true)
    (h2 : ∀ i, i < l.length → (∀ j, j < i → ap (l.getD j d).1 (l.getD i d).1 = true) → ¬ lt (l.getD i d).1 (l.getD p d).1) (h : Arr ap lt (l.eraseIdx p) r) : Arr ap lt l (l.getD p d :: r) := by
  obtain ⟨g1, g2, g3⟩ := first_at (d := d) hi hp h1
  refine .step g1 (fun m hm => ?_) g2 (by rw [g3]; exact h)
  obtain ⟨i, f1, f2, f3⟩ := first_where (d := d) hm
  rw [← f2]
  exact h2 i f1 (by rw [f2]; exact f3)
end
end K95
namespace K95
open PySem PySem.Spec PySem.Calls PySem.W PyProof.Rows L2 Evl
/-! ### the order of texts -/
theorem slt_irr (a : Str) : DatumOrd.lt a a = false := decide_eq_false (List.lt_irrefl _)
theorem slt_asymm {a b : Str} (h : DatumOrd.lt a b = true) : DatumOrd.lt b a = false := by
  have h : a.cps.toList < b.cps.toList := of_decide_eq_true h
  exact decide_eq_false (List.lt_asymm h)
theorem slt_trans {a b c : Str} (h : DatumOrd.lt a b = true) (k : DatumOrd.lt b c = true) : DatumOrd.lt a c = true := by
  have h : a.cps.toList < b.cps.toList := of_decide_eq_true h
  have k : b.cps.toList < c.cps.toList := of_decide_eq_true k
  exact decide_eq_true (List.lt_trans h k)
theorem slt_tri {a b : Str} (h : DatumOrd.lt a b = false) (k : DatumOrd.lt b a = false) : a = b := by
  have h : ¬ a.cps.toList < b.cps.toList := of_decide_eq_false h
  have k : ¬ b.cps.toList < a.cps.toList := of_decide_eq_false k
  have e : a.cps.toList = b.cps.toList := List.le_antisymm (List.not_lt.mp k) (List.not_lt.mp h)
  cases a; cases b
  exact congrArg Str.mk (Array.toList_inj.mp e)
theorem plt_irr (a : Str × Int) : DatumOrd.lt a a = false := by
  show (if a.1 = a.1 then DatumOrd.lt a.2 a.2 else DatumOrd.lt a.1 a.1) = false
  rw [if_pos rfl]
  exact decide_eq_false (Int.lt_irrefl _)
theorem plt_trans {a b c : Str × Int} (h : DatumOrd.lt a b = true) (k : DatumOrd.lt b c = true) : DatumOrd.lt a c = true := by
  have h : (if a.1 = b.1 then DatumOrd.lt a.2 b.2 else DatumOrd.lt a.1 b.1) = true := h
  have k : (if b.1 = c.1 then DatumOrd.lt b.2 c.2 else DatumOrd.lt b.1 c.1) = true := k
  show (if a.1 = c.1 then DatumOrd.lt a.2 c.2 else DatumOrd.lt a.1 c.1) = true
  by_cases e1 : a.1 = b.1
  · rw [if_pos e1] at h
    by_cases e2 : b.1 = c.1
    · rw [if_pos e2] at k
      rw [if_pos (e1.trans e2)]
      have h : a.2 < b.2 := of_decide_eq_true h
      have k : b.2 < c.2 := of_decide_eq_true k
      exact decide_eq_true (Int.lt_trans h k)
    · rw [if_neg e2] at k
      rw [if_neg (fun z => e2 (e1.symm.trans z)), e1]; exact k
  · rw [if_neg e1] at h
    by_cases e2 : b.1 = c.1
    · rw [← e2, if_neg e1]; exact h
    · rw [if_neg e2] at k
      have hk := slt_trans h k
      by_cases e3 : a.1 = c.1
      · rw [e3, slt_irr] at hk; cases hk
      · rw [if_neg e3]; exact hk
theorem minOf_le : ∀ (zs : List (Str × Int)) (z : Str × Int), ∀ y ∈ z :: zs, DatumOrd.lt y (minOf z zs) = false
  | [], z, y, hy => by
    rw [List.mem_singleton.mp hy]
    exact plt_irr z
  | w :: zs, z, y, hy => by
    have e : minOf z (w :: zs) = minOf (if DatumOrd.lt w z = true then w else z) zs := rfl
    rw [e]
    have ih := minOf_le zs (if DatumOrd.lt w z = true then w else z)
    have h0 := ih _ (List.mem_cons_self ..)
    rcases List.mem_cons.mp hy with rfl | hy
    · by_cases c : DatumOrd.lt w y = true
      · rw [if_pos c] at h0 ⊢
        cases q : DatumOrd.lt y (minOf w zs) with
        | false => rfl
        | true => rw [plt_trans c q] at h0; cases h0
      · rw [if_neg c] at h0 ⊢; exact h0
    · rcases List.mem_cons.mp hy with rfl | hy
      · by_cases c : DatumOrd.lt y z = true
        · rw [if_pos c] at h0 ⊢; exact h0
        · rw [if_neg c] at h0 ⊢
          cases q : DatumOrd.lt y (minOf z zs) with
          | false => rfl
          | true =>
            -- z is not less than the least; y is less than it, so y is less than z unless z is less ..
            have m := minOf_mem zs z
            rcases List.mem_cons.mp m with m | m
            · rw [m] at q; exact absurd q c
            · -- the least is less than z or its like
              have tri : DatumOrd.lt (minOf z zs) z = true ∨ minOf z zs = z := by
                by_cases e1 : (minOf z zs).1 = z.1
                · by_cases e2 : (minOf z zs).2 = z.2
                  · exact .inr (Prod.ext e1 e2)
                  · left
                    show (if (minOf z zs).1 = z.1 then DatumOrd.lt (minOf z zs).2 z.2 else _) = true
                    rw [if_pos e1]
                    have h0 : (if z.1 = (minOf z zs).1 then DatumOrd.lt z.2 (minOf z zs).2 else DatumOrd.lt z.1 (minOf z zs).1) = false := h0
                    rw [if_pos e1.symm] at h0
                    have h0 : ¬ z.2 < (minOf z zs).2 := of_decide_eq_false h0
                    exact decide_eq_true (by omega)
                · left
                  show (if (minOf z zs).1 = z.1 then DatumOrd.lt (minOf z zs).2 z.2 else DatumOrd.lt (minOf z zs).1 z.1) = true
                  rw [if_neg e1]
                  have h0 : (if z.1 = (minOf z zs).1 then DatumOrd.lt z.2 (minOf z zs).2 else DatumOrd.lt z.1 (minOf z zs).1) = false := h0
                  rw [if_neg (fun z => e1 z.symm)] at h0
                  cases q2 : DatumOrd.lt (minOf z zs).1 z.1 with
                  | true => rfl
                  | false => exact absurd (slt_tri q2 h0) e1
              rcases tri with t | t
              · exact absurd (plt_trans q t) c
              · rw [t] at q; exact absurd q c
      · exact ih y (List.mem_cons_of_mem _ hy)
/-! ### the fields -/
variable {F : Fld}
theorem good_lt (h : GoodF F) : ∀ p ∈ F.2.items, DatumOrd.lt p.1 p.2 = true := by
  obtain ⟨n, h1, h2, _, hs⟩ := h.ex
  intro p hp
  replace hp := hs.subset hp
  have : n = 1 ∨ n = 2 ∨ n = 3 ∨ n = 4 := by omega
  clear hs h1 h2
  revert p
  rcases this with rfl | rfl | rfl | rfl <;> decide +kernel
theorem apart_sym (F : Fld) (a b : Str) : apart F a b = apart F b a := Bool.or_comm _ _
theorem apart_irr (h : GoodF F) (a : Str) : apart F a a = false := by
  have k : isIn (a, a) F.2.items = false := by
    cases e : isIn (a, a) F.2.items with
    | false => rfl
    | true =>
      have := good_lt h _ (isIn_iff.mp e)
      rw [slt_irr] at this; cases this
  unfold apart
  rw [k]; rfl
theorem apart_eq (h : GoodF F) (a b : Str) : apart F a b = lapart F a b := by
  have no : ∀ x y : Str, DatumOrd.lt x y = false → isIn (x, y) F.2.items = false := fun x y e => by
    cases q : isIn (x, y) F.2.items with
    | false => rfl
    | true =>
      have := good_lt h _ (isIn_iff.mp q)
      rw [e] at this; cases this
  unfold apart lapart smin smax
  cases h1 : DatumOrd.lt a b with
  | true =>
    rw [slt_asymm h1, if_neg (by decide), if_pos rfl, no b a (slt_asymm h1), Bool.or_false]
  | false =>
    cases h2 : DatumOrd.lt b a with
    | true => rw [if_pos rfl, if_neg (by decide), no a b h1, Bool.false_or]
    | false => rw [no a b h1, no b a h2]; exact (no a a (slt_irr a)).symm
theorem apart_fun (h : GoodF F) : lapart F = apart F := funext fun a => funext fun b => (apart_eq h a b).symm
/-! ### pushes -/
theorem meetGo_mt (F : Fld) (st : List Step) (name : Str) : ∀ n, meetGo F st name n = mtGo (apart F) nst st name n
  | 0 => rfl
  | n + 1 => by
    unfold meetGo mtGo
    rw [meetGo_mt F st name n]
theorem pushF_ph (F : Fld) (st : List Step) (s : Step) : pushF F st s = phF (apart F) nst st s := by
  unfold pushF phF meetF
  rw [meetGo_mt]
theorem pilF_pls (h : GoodF F) (st : List Step) : pilF F st = (pls (apart F) [] st).reverse := by
  have e : pushF F = phF (apart F) nst := funext fun a => funext fun b => pushF_ph F a b
  unfold pilF
  rw [e]
  exact ph_pls (d := nst) (apart_irr h) st []
/-! ### joins -/
theorem scanK_sc (h : GoodF F) (st : List Step) (k : Nat) : ∀ n far, scanK F st k n far = scG (apart F) nst st k n far
  | 0, _ => rfl
  | n + 1, far => by
    unfold scanK scG
    rw [scanK_sc h st k n (far + 1), apart_fun h]
theorem lmeetGo_none {st : List Step} : ∀ n k, n + k = st.length → lmeetGo F st n k = none → ∀ i, k ≤ i → i < st.length → scanK F st i (st.length - (i + 1)) (i + 1) = none
  | 0, k, e, _, i, h1, h2 => by omega
  | n + 1, k, e, h, i, h1, h2 => by
    unfold lmeetGo at h
    cases q : scanK F st k (st.length - (k + 1)) (k + 1) with
    | some far => rw [q] at h; cases h
    | none =>
      rw [q] at h
      rcases Nat.lt_or_ge k i with hk | hk
      · exact lmeetGo_none n (k + 1) (by omega) h i hk h2
      · obtain rfl : i = k := by omega
        exact q
theorem ljoin_jn (st : List Step) (a b : Nat) : ljoin st a b = jnG nst st a b := rfl
theorem lpile_facts (h : GoodF F) : ∀ (n : Nat) (st : List Step), st.length ≤ n → (∀ s ∈ st, s.2 ≠ 0) → Sws (apart F) (pls (apart F) [] st) (pls (apart F) [] (lpileGo F n st)) ∧ NoMeet (apart F) (lpileGo F n st)
  | 0, st, hl, hz => by
    obtain rfl : st = [] := List.length_eq_zero_iff.mp (by omega)
    exact ⟨.refl, fun u n a mid b v e => by cases u <;> cases e⟩
  | n + 1, st, hl, hz => by
    unfold lpileGo
    cases hm : lmeet F st with
    | none =>
      refine ⟨.refl, ?_⟩
      show NoMeet (apart F) st
      refine noMeet_of (d := nst) (apart_sym F) fun k j h1 h2 h3 => ?_
      have q := lmeetGo_none st.length 0 rfl hm k (Nat.zero_le _) (by omega)
      rw [scanK_sc h] at q
      obtain ⟨i, g1, g2, g3⟩ := scG_none _ _ q j (by omega) (by omega) h3
      exact ⟨i, g1, g2, g3⟩
    | some ab =>
      obtain ⟨a, b⟩ := ab
      obtain ⟨h1, h2, h3⟩ := lmeet_lt hm
      rw [scanK_sc h] at h3
      obtain ⟨_, _, g3, g4⟩ := scG_some _ _ _ h3
      have lt := ljoin_lt h1 h2
      obtain ⟨f1, f2⟩ := lpile_facts h n (ljoin st a b) (by omega) (jnG_nz (d := nst) h1 h2 hz)
      exact ⟨(jnG_sws (d := nst) (apart_sym F) (apart_irr h) h1 h2 hz g3 g4).trans f1, f2⟩
/-! ### least orders -/
abbrev sLt (a b : Str) : Prop := DatumOrd.lt a b = true
theorem min_step {l : List Step} {C : List Int} (hne : l ≠ []) (h1 : ∀ k : Nat, k < l.length → (∀ j, j < k → apart F (l.getD j nst).1 (l.getD k nst).1 = true) → (k : Int) ∈ C)
    (h2 : ∀ p ∈ C, ∃ k : Nat, p = k ∧ k < l.length ∧ ∀ j, j < k → apart F (l.getD j nst).1 (l.getD k nst).1 = true) {p : Nat} (hp : p = (minC (C.map fun p => ((l.getD p.toNat nst).1, p))).toNat) :
    p < l.length ∧ (∀ j, j < p → apart F (l.getD j nst).1 (l.getD p nst).1 = true) ∧ ∀ i, i < l.length → (∀ j, j < i → apart F (l.getD j nst).1 (l.getD i nst).1 = true) → ¬ sLt (l.getD i nst).1 (l.getD p nst).1 := by
  have hl : 0 < l.length := List.length_pos_iff.mpr hne
  have h0 := h1 0 hl fun j hj => by omega
  cases e : C.map fun p => ((l.getD p.toNat nst).1, p) with
  | nil => rw [List.map_eq_nil_iff.mp e] at h0; cases h0
  | cons z zs =>
    have mm := minOf_mem zs z
    rw [← e] at mm
    obtain ⟨q, hq, eq⟩ := List.mem_map.mp mm
    obtain ⟨k, rfl, hk, hap⟩ := h2 q hq
    have ep : p = k := by
      rw [hp, e]
      show ((minOf z zs).2).toNat = k
      rw [← eq]; rfl
    subst ep
    refine ⟨hk, hap, fun i hi ha lt => ?_⟩
    have mi : ((l.getD i nst).1, (i : Int)) ∈ z :: zs := by
      rw [← e]
      exact List.mem_map.mpr ⟨(i : Int), h1 i hi ha, rfl⟩
    have := minOf_le zs z _ mi
    rw [← eq] at this
    have this : (if (l.getD i nst).1 = (l.getD p nst).1 then DatumOrd.lt (i : Int) (p : Int) else DatumOrd.lt (l.getD i nst).1 (l.getD p nst).1) = false := this
    have ne : (l.getD i nst).1 ≠ (l.getD p nst).1 := fun z => by
      have lt : DatumOrd.lt (l.getD i nst).1 (l.getD p nst).1 = true := lt
      rw [z, slt_irr] at lt; cases lt
    rw [if_neg ne] at this
    rw [show DatumOrd.lt (l.getD i nst).1 (l.getD p nst).1 = true from lt] at this
    cases this
theorem getD_mem {l : List Step} {p : Nat} (h : p < l.length) : l.getD p nst ∈ l := by
  rw [List.getD_eq_getElem?_getD, List.getElem?_eq_getElem h]; exact List.getElem_mem h
theorem fpGo_mem (F : Fld) : ∀ (l : List (Int × Step)) (still : List Str) (f : List Int) (p : Int), p ∈ fpGo F l still f ↔ (p ∈ f ∨ ∃ pre s post, l = pre ++ (p, s) :: post ∧ s.1 ∈ still ∧ ∀ q ∈ pre, apart F s.1 q.2.1 = true)
  | [], still, f, p => ⟨fun h => .inl h, fun h => by
    rcases h with h | ⟨pre, s, post, e, _⟩
    · exact h
    · cases pre <;> cases e⟩
  | (i, s) :: r, still, f, p => by
    have hf : p ∈ (if isIn s.1 still = true then f ++ [i] else f) ↔ p ∈ f ∨ (p = i ∧ s.1 ∈ still) := by
      by_cases c : isIn s.1 still = true
      · rw [if_pos c, List.mem_append, List.mem_singleton]
        have := isIn_iff.mp c
        exact ⟨fun h => h.imp_right fun e => ⟨e, this⟩, fun h => h.imp_right fun e => e.1⟩
      · rw [if_neg c]
        exact ⟨fun h => .inl h, fun h => h.elim id fun e => absurd (isIn_iff.mpr e.2) c⟩
    have hr : (∃ pre s' post, (i, s) :: r = pre ++ (p, s') :: post ∧ s'.1 ∈ still ∧ ∀ q ∈ pre, apart F s'.1 q.2.1 = true) ↔ (p = i ∧ s.1 ∈ still) ∨ ∃ pre s' post, r = pre ++ (p, s') :: post ∧ s'.1 ∈ (still.filter fun n => apart F n s.1) ∧ ∀ q ∈ pre, apart F s'.1 q.2.1 = true := by
      constructor
      · rintro ⟨pre, s', post, e, h1, h2⟩
        cases pre with
        | nil =>
          cases e
          exact .inl ⟨rfl, h1⟩
        | cons q pre =>
          rw [List.cons_append] at e
          injection e with e1 e2
          subst e1
          exact .inr ⟨pre, s', post, e2, List.mem_filter.mpr ⟨h1, h2 (i, s) (List.mem_cons_self ..)⟩, fun q hq => h2 q (List.mem_cons_of_mem _ hq)⟩
      · rintro (⟨rfl, h⟩ | ⟨pre, s', post, rfl, h1, h2⟩)
        · exact ⟨[], s, r, rfl, h, fun q hq => nomatch hq⟩
        · obtain ⟨h3, h4⟩ := List.mem_filter.mp h1
          refine ⟨(i, s) :: pre, s', post, rfl, h3, fun q hq => ?_⟩
          rcases List.mem_cons.mp hq with rfl | hq
          · exact h4
          · exact h2 q hq
    unfold fpGo
    by_cases c : still.filter (fun n => apart F n s.1) = []
    · rw [if_pos c, hf, hr, c]
      exact ⟨fun h => h.imp_right .inl, fun h => h.imp_right fun h => h.elim id fun ⟨pre, s', post, _, h1, _⟩ => nomatch h1⟩
    · rw [if_neg c, fpGo_mem F r, hf, hr, or_assoc]
theorem enumd_at {l : List Step} {k : Nat} (h : k < l.length) : (enumd l)[k]? = some ((k : Int), l.getD k nst) := by
  have h' : k < (enumd l).length := by rw [enumd_length]; exact h
  rw [List.getElem?_eq_getElem h']
  obtain ⟨e1, e2⟩ := enumd_get (List.getElem?_eq_getElem h')
  congr 1
  refine Prod.ext e1 ?_
  rw [List.getD_eq_getElem?_getD, e2]; rfl
theorem firstP_char {l : List Step} (hn : NmOk F l) : (∀ k : Nat, k < l.length → (∀ j, j < k → apart F (l.getD j nst).1 (l.getD k nst).1 = true) → (k : Int) ∈ firstP F l) ∧
    ∀ p ∈ firstP F l, ∃ k : Nat, p = k ∧ k < l.length ∧ ∀ j, j < k → apart F (l.getD j nst).1 (l.getD k nst).1 = true := by
  refine ⟨fun k hk ha => ?_, fun p hp => ?_⟩
  · refine (fpGo_mem F _ _ _ _).mpr (.inr ⟨(enumd l).take k, l.getD k nst, (enumd l).drop (k + 1), ?_, hn _ (getD_mem hk), fun q hq => ?_⟩)
    · have h' : k < (enumd l).length := by rw [enumd_length]; exact hk
      have e := enumd_at hk
      rw [List.getElem?_eq_getElem h'] at e
      rw [← Option.some.inj e, ← List.drop_eq_getElem_cons h', List.take_append_drop]
    · obtain ⟨i, hi, e⟩ := List.getElem_of_mem hq
      rw [List.length_take, enumd_length] at hi
      have hi1 : i < l.length := by omega
      have e2 := enumd_at hi1
      rw [List.getElem_take] at e
      rw [List.getElem?_eq_getElem (by rw [enumd_length]; exact hi1), e] at e2
      have e2 := Option.some.inj e2
      rw [e2, apart_sym]
      exact ha i (by omega)
  · rcases (fpGo_mem F _ _ _ _).mp hp with h | ⟨pre, s, post, e, h1, h2⟩
    · cases h
    · have hl : pre.length < (enumd l).length := by rw [e]; simp
      have hk : pre.length < l.length := by rw [enumd_length] at hl; exact hl
      have ek := enumd_at hk
      rw [e, List.getElem?_append_right (Nat.le_refl _)] at ek
      simp only [Nat.sub_self, List.getElem?_cons_zero, Option.some.injEq, Prod.mk.injEq] at ek
      refine ⟨pre.length, ek.1, hk, fun j hj => ?_⟩
      have ej := enumd_at (show j < l.length by omega)
      rw [e, List.getElem?_append_left hj] at ej
      have := h2 _ (List.mem_of_getElem? ej)
      rw [← ek.2, apart_sym]
      exact this
theorem lfirsts_char (h : GoodF F) (l : List Step) : (∀ k : Nat, k < l.length → (∀ j, j < k → apart F (l.getD j nst).1 (l.getD k nst).1 = true) → (k : Int) ∈ lfirsts F l) ∧
    ∀ p ∈ lfirsts F l, ∃ k : Nat, p = k ∧ k < l.length ∧ ∀ j, j < k → apart F (l.getD j nst).1 (l.getD k nst).1 = true := by
  have ok : ∀ k, k < l.length → (lfok F l k = true ↔ ∀ j, j < k → apart F (l.getD j nst).1 (l.getD k nst).1 = true) := fun k hk => by
    unfold lfok
    rw [decide_eq_true_iff, List.filter_eq_nil_iff, apart_fun h]
    constructor
    · intro g j hj
      have hj' : j < (l.take k).length := by rw [List.length_take]; omega
      have m : l.getD j nst ∈ l.take k := by
        have : (l.take k)[j] = l.getD j nst := by
          rw [List.getElem_take, List.getD_eq_getElem?_getD, List.getElem?_eq_getElem (by omega)]; rfl
        rw [← this]; exact List.getElem_mem hj'
      have := g _ m
      simpa using this
    · intro g s hs
      obtain ⟨j, hj, e⟩ := List.getElem_of_mem hs
      rw [List.length_take] at hj
      have := g j (by omega)
      rw [List.getElem_take] at e
      rw [List.getD_eq_getElem?_getD, List.getElem?_eq_getElem (by omega : j < l.length), e] at this
      have this : apart F s.1 (l.getD k nst).1 = true := this
      rw [this]; decide
  refine ⟨fun k hk ha => List.mem_map.mpr ⟨k, List.mem_filter.mpr ⟨List.mem_range.mpr hk, (ok k hk).mpr ha⟩, rfl⟩, fun p hp => ?_⟩
  obtain ⟨k, hk, rfl⟩ := List.mem_map.mp hp
  obtain ⟨h1, h2⟩ := List.mem_filter.mp hk
  have h1 := List.mem_range.mp h1
  exact ⟨k, rfl, h1, (ok k h1).mp h2⟩
theorem arr_arrGo (h : GoodF F) : ∀ (n : Nat) (l : List Step), l.length = n → NmOk F l → Arr (apart F) sLt l (arrGo F n l)
  | 0, l, e, _ => by
    obtain rfl : l = [] := List.length_eq_zero_iff.mp e
    exact .nil
  | n + 1, l, e, hn => by
    obtain ⟨c1, c2⟩ := firstP_char hn
    obtain ⟨h1, h2, h3⟩ := min_step (p := lp F l) (fun z => by rw [z] at e; cases e) c1 c2 rfl
    exact arr_at (d := nst) (apart_irr h) h1 h2 h3 (arr_arrGo h n _ (by rw [List.length_eraseIdx, if_pos h1]; omega) fun s hs => hn s (List.mem_of_mem_eraseIdx hs))
theorem arr_llGo (h : GoodF F) : ∀ (n : Nat) (l : List Step), l.length = n → Arr (apart F) sLt l (llGo F n l)
  | 0, l, e => by
    obtain rfl : l = [] := List.length_eq_zero_iff.mp e
    exact .nil
  | n + 1, l, e => by
    obtain ⟨c1, c2⟩ := lfirsts_char h l
    obtain ⟨h1, h2, h3⟩ := min_step (p := llp F l) (fun z => by rw [z] at e; cases e) c1 c2 rfl
    have q := arr_llGo h n (l.eraseIdx (llp F l)) (by rw [List.length_eraseIdx, if_pos h1]; omega)
    unfold llGo
    rw [← List.eraseIdx_eq_take_drop_succ]
    exact arr_at (d := nst) (apart_irr h) h1 h2 h3 q
theorem least_same_steps (h : GoodF F) {st : List Step} (hn : NmOk F st) (hz : ∀ s ∈ st, s.2 ≠ 0) : arrGo F (pilF F st).length (pilF F st) = llGo F (lpile F st).length (lpile F st) := by
  obtain ⟨f1, f2⟩ := lpile_facts h st.length st (Nat.le_refl _) hz
  refine least_same (ap := apart F) (lt := sLt) (apart_sym F) (apart_irr h) (fun a b h1 h2 => slt_tri (by simpa using h1) (by simpa using h2)) f1 f2 ?_ (arr_llGo h _ _ rfl)
  rw [← pilF_pls h]
  exact arr_arrGo h _ _ rfl (pilF_nm st [] (fun s hs => nomatch hs) hn)
theorem least_eq {B : Nat} {S : St2} (h : GoodF F) (k : NowOk F B S.now) : leastF F (stepsS S) = lleast F (stepsS S) := by
  have q := least_same_steps h (st := (stepsS S).items) (fun s hs => by
    obtain ⟨q, hq, rfl⟩ := List.mem_map.mp hs
    exact k.nm q hq) fun s hs => by
    obtain ⟨q, hq, rfl⟩ := List.mem_map.mp hs
    exact k.nz q hq
  exact congrArg Tup.mk q
/-! ### what holds a step -/
theorem any_holds (h : GoodF F) (names : List Str) (n : Str) : (names.map fun m => !apart F m n).any id = decide ((names.filter fun m => !lapart F m n) ≠ []) := by
  rw [apart_fun h, List.any_map]
  by_cases e : (names.filter fun m => !apart F m n) = []
  · rw [decide_eq_false (fun z => z e), List.any_eq_false]
    intro m hm
    exact List.filter_eq_nil_iff.mp e m hm
  · rw [decide_eq_true e, List.any_eq_true]
    obtain ⟨m, hm⟩ := List.exists_mem_of_ne_nil _ e
    obtain ⟨h1, h2⟩ := List.mem_filter.mp hm
    exact ⟨m, h1, h2⟩
/-- behind the step itself -/
theorem hold_after (h : GoodF F) (num : Int) : ∀ (l : List Pr) (names : List Str) (f : List Int), (∀ q ∈ l, q.1 ≠ num) → lheldGo F num l names (num :: f) = num :: holdGo F num l names f
  | [], names, f, _ => rfl
  | (o, s) :: r, names, f, hr => by
    have hne : o ≠ num := hr (o, s) (List.mem_cons_self ..)
    unfold lheldGo holdGo
    rw [if_neg hne, any_holds h, decide_eq_false hne, Bool.false_or]
    have ih := fun names f => hold_after h num r names f fun q hq => hr q (List.mem_cons_of_mem _ hq)
    split
    · exact ih (names ++ [s.1]) (f ++ [o])
    · exact ih names f
theorem hold_go (h : GoodF F) (num : Int) : ∀ (l : List Pr), (l.map fun q => q.1).Pairwise (· < ·) → num ∈ l.map (fun q => q.1) → lheldGo F num l [] [] = num :: holdGo F num l [] []
  | [], _, hm => nomatch hm
  | (o, s) :: r, hp, hm => by
    rw [List.map_cons, List.pairwise_cons] at hp
    by_cases e : o = num
    · subst e
      unfold lheldGo holdGo
      rw [decide_eq_true rfl, Bool.true_or, if_pos rfl, if_pos rfl]
      exact hold_after h o r _ [] fun q hq => by
        have : o < q.1 := hp.1 q.1 (List.mem_map.mpr ⟨q, hq, rfl⟩)
        omega
    · have hm : num ∈ r.map (fun q => q.1) := by
        rcases List.mem_cons.mp hm with z | z
        · exact absurd z.symm e
        · exact z
      unfold lheldGo holdGo
      rw [decide_eq_false e, if_neg e]
      exact hold_go h num r hp.2 hm
theorem hold_eq {B : Nat} {S : St2} (h : GoodF F) (k : NowOk F B S.now) {n : Int} (hn : n ∈ nums S) : holdF F S n = lheld F S.now.1.items n := by
  unfold lheld
  rw [hold_go h n _ k.inc hn]
  rfl
end K95
namespace K95
open PySem PySem.Spec PySem.Calls PySem.W PyProof.Rows L2 Evl
/-! the plain laws that the walks lean on: the fields that are drawn; what is shown -/
variable {F : Fld}
theorem good_n (h : GoodF F) : ∃ n, (n = 1 ∨ n = 2 ∨ n = 3 ∨ n = 4) ∧ F.1 = Tup.mk (LT.take n) ∧ F.2.items.Sublist (prs (LT.take n) n) := by
  obtain ⟨n, h1, h2, h3, h4⟩ := h.ex
  exact ⟨n, by omega, by cases q : F.1 with | mk l => rw [q] at h3; exact congrArg Tup.mk h3, h4⟩
theorem rising_of {α : Type} [DecidableEq α] [DatumOrd α] {xs : List α} (h : xs.Pairwise fun a b => DatumOrd.lt a b = true) : rising (Tup.mk xs) = true := by
  have e : cutX xs (some 1) none = xs.drop 1 := cutX_drop (k := 1)
  show (((xs.zip (cutX xs (some 1) none)).filter fun _ => true).map fun p => DatumOrd.lt p.1 p.2).all id = true
  rw [e, List.all_eq_true]
  intro b hb
  obtain ⟨p, hp, rfl⟩ := List.mem_map.mp hb
  obtain ⟨i, hi, rfl⟩ := List.getElem_of_mem (List.mem_filter.mp hp).1
  rw [List.length_zip, List.length_drop] at hi
  rw [List.getElem_zip, List.getElem_drop]
  exact List.pairwise_iff_getElem.mp h i (1 + i) (by omega) (by omega) (by omega)
theorem good_ris (h : GoodF F) : rising F.2 = true := by
  obtain ⟨n, hn, h1, h2⟩ := good_n h
  have k : (prs (LT.take n) n).Pairwise fun a b => DatumOrd.lt a b = true := by
    clear h1 h2
    rcases hn with rfl | rfl | rfl | rfl <;> decide +kernel
  exact rising_of (xs := F.2.items) (k.sublist h2)
theorem good_len (h : GoodF F) : F.1.items.length ≤ 4 ∧ F.2.items.length ≤ 6 ∧ (∀ s ∈ F.1.items, s.length = 1 ∧ s.cps.toList.all fun c => decide (c < 16 ^ 8)) ∧ (PySem.Str.ofString "a") ∈ F.1.items ∧ (PySem.Str.ofString "z") ∉ F.1.items := by
  obtain ⟨n, hn, h1, h2⟩ := good_n h
  have k := h2.length_le
  have k2 : (prs (LT.take n) n).length ≤ 6 := by
    clear h1 h2 k
    rcases hn with rfl | rfl | rfl | rfl <;> decide +kernel
  rw [h1]
  refine ⟨?_, Nat.le_trans k k2, ?_⟩
  · clear h1 h2 k k2
    rcases hn with rfl | rfl | rfl | rfl <;> decide +kernel
  · clear h1 h2 k k2
    rcases hn with rfl | rfl | rfl | rfl <;> decide +kernel
theorem good_pairs (h : GoodF F) : ∀ p ∈ F.2.items, isPair F.1 p = true ∧ isPair (Tup.mk (F.1.items ++ [PySem.Str.ofString "z"])) p = true ∧ p.1 ∈ F.1.items ∧ p.2 ∈ F.1.items := by
  obtain ⟨n, hn, h1, h2⟩ := good_n h
  intro p hp
  replace hp := h2.subset hp
  rw [h1]
  clear h1 h2
  revert p
  rcases hn with rfl | rfl | rfl | rfl <;> decide +kernel
theorem good_ok (h : GoodF F) : FldOk F := by
  have hl := (good_len h).2.1
  have hp := good_pairs h
  have hr := good_ris h
  obtain ⟨n, hn, h1, h2⟩ := good_n h
  refine ⟨?_, ?_, by omega, ?_, hr⟩
  · rw [h1]
    clear h1 h2 hl hp hr
    rcases hn with rfl | rfl | rfl | rfl <;> exact ⟨by decide, by decide, by decide +kernel⟩
  · rw [h1]
    clear h1 h2 hl hp hr
    rcases hn with rfl | rfl | rfl | rfl <;> decide +kernel
  · rw [List.all_eq_true]
    intro b hb
    obtain ⟨p, hq, rfl⟩ := List.mem_map.mp hb
    exact (hp p (List.mem_filter.mp hq).1).1
theorem good_okz (h : GoodF F) : FldOk (Tup.mk (F.1.items ++ [PySem.Str.ofString "z"]), F.2) := by
  have hl := (good_len h).2.1
  have hp := good_pairs h
  have hr := good_ris h
  obtain ⟨n, hn, h1, h2⟩ := good_n h
  refine ⟨?_, ?_, ?_, ?_, hr⟩
  · show NLen (Tup.mk (F.1.items ++ [PySem.Str.ofString "z"]))
    rw [h1]
    clear h1 h2 hl hp hr
    rcases hn with rfl | rfl | rfl | rfl <;> exact ⟨by decide, by decide, by decide +kernel⟩
  · show areNames (Tup.mk (F.1.items ++ [PySem.Str.ofString "z"])) = true
    rw [h1]
    clear h1 h2 hl hp hr
    rcases hn with rfl | rfl | rfl | rfl <;> decide +kernel
  · show F.2.items.length ≤ 1000
    omega
  · rw [List.all_eq_true]
    intro b hb
    obtain ⟨p, hq, rfl⟩ := List.mem_map.mp hb
    exact (hp p (List.mem_filter.mp hq).1).2.1
theorem leOk {B : Nat} {S : St2} (h : GoodF F) (k : NowOk F B S.now) (hB : B ≤ 500) : LeOk F S := ⟨Nat.le_trans k.len hB, Nat.le_trans (good_len h).1 (by decide), fun s hs => by
  obtain ⟨q, hq, rfl⟩ := List.mem_map.mp hs
  exact k.nm q hq⟩
/-! ### how great the numbers of a least pile are -/
def tot (l : List (Str × Int)) : Nat := (l.map fun s => s.2.natAbs).sum
theorem tot_cons (s : Str × Int) (l : List (Str × Int)) : tot (s :: l) = s.2.natAbs + tot l := by unfold tot; rw [List.map_cons, List.sum_cons]
theorem mrg_tot {ap : Str → Str → Bool} {s : Str × Int} : ∀ {l a : List (Str × Int)}, mrg ap s l = some a → tot a ≤ tot l + s.2.natAbs
  | [], a, h => by cases h
  | t :: r, a, h => by
    by_cases h1 : t.1 = s.1
    · rw [mrg_hit h1] at h
      have h := Option.some.inj h
      rw [← h, tot_cons]
      split
      · omega
      · rw [tot_cons]
        show (t.2 + s.2).natAbs + _ ≤ _
        omega
    · by_cases a1 : ap t.1 s.1 = true
      · rw [mrg_by h1 a1] at h
        cases e : mrg ap s r with
        | none => rw [e] at h; cases h
        | some x =>
          rw [e] at h
          rw [← Option.some.inj h, tot_cons, tot_cons]
          have := mrg_tot e
          omega
      · rw [mrg_stop h1 (by simpa using a1)] at h; cases h
theorem psh_tot {ap : Str → Str → Bool} {s : Str × Int} {l : List (Str × Int)} : tot (psh ap s l) ≤ tot l + s.2.natAbs := by
  cases e : mrg ap s l with
  | none => rw [psh_none e, tot_cons]; omega
  | some a => rw [psh_some e]; exact mrg_tot e
theorem pls_tot {ap : Str → Str → Bool} : ∀ (w l : List (Str × Int)), tot (pls ap l w) ≤ tot l + tot w
  | [], l => Nat.le_refl _
  | s :: w, l => by
    have h1 := pls_tot (ap := ap) w (psh ap s l)
    have h2 := psh_tot (ap := ap) (s := s) (l := l)
    rw [tot_cons]
    show tot (pls ap (psh ap s l) w) ≤ _
    omega
theorem tot_mem {l : List (Str × Int)} {s : Str × Int} (h : s ∈ l) : s.2.natAbs ≤ tot l := by
  induction l with
  | nil => cases h
  | cons t r ih =>
    rw [tot_cons]
    rcases List.mem_cons.mp h with rfl | h
    · omega
    · have := ih h
      omega
theorem tot_le {c : Nat} : ∀ {l : List (Str × Int)}, (∀ s ∈ l, s.2.natAbs ≤ c) → tot l ≤ l.length * c
  | [], _ => Nat.zero_le _
  | s :: l, h => by
    have h1 := h s (List.mem_cons_self ..)
    have h2 := tot_le (l := l) fun s hs => h s (List.mem_cons_of_mem _ hs)
    rw [tot_cons, List.length_cons, Nat.succ_mul]
    omega
theorem arrGo_mem (F : Fld) : ∀ (n : Nat) (l : List Step), l.length = n → NmOk F l → ∀ s ∈ arrGo F n l, s ∈ l
  | 0, l, _, _, s, hs => nomatch hs
  | n + 1, l, e, hn, s, hs => by
    match l, e, hn, hs with
    | t :: r, e, hn, hs =>
      obtain ⟨z, zs, _, _, hlt⟩ := lp_ok (F := F) (s := t) (st := r) (hn t (List.mem_cons_self ..))
      rcases List.mem_cons.mp hs with rfl | hs
      · exact getD_mem hlt
      · exact List.mem_of_mem_eraseIdx (arrGo_mem F n _ (by rw [List.length_eraseIdx, if_pos hlt]; omega) (fun s hs => hn s (List.mem_of_mem_eraseIdx hs)) s hs)
theorem arrGo_len (F : Fld) : ∀ (n : Nat) (l : List Step), (arrGo F n l).length = n
  | 0, _ => rfl
  | n + 1, l => by unfold arrGo; rw [List.length_cons, arrGo_len F n]
theorem least_small {B : Nat} {S : St2} (h : GoodF F) (k : NowOk F B S.now) (hB : B ≤ 60) : (leastF F (stepsS S)).items.length ≤ 60 ∧ ∀ s ∈ (leastF F (stepsS S)).items, s.1 ∈ F.1.items ∧ s.2.natAbs ≤ 60000000000000000000000000000000 := by
  have hn : NmOk F (stepsS S).items := fun s hs => by
    obtain ⟨q, hq, rfl⟩ := List.mem_map.mp hs
    exact k.nm q hq
  have hl : (stepsS S).items.length ≤ 60 := by
    show (S.now.1.items.map fun q => q.2).length ≤ 60
    rw [List.length_map]; exact Nat.le_trans k.len hB
  have hp := foldl_len F (stepsS S).items []
  have hm := pilF_nm (F := F) (stepsS S).items [] (fun s hs => nomatch hs) hn
  refine ⟨?_, fun s hs => ?_⟩
  · show (arrGo F (pilF F (stepsS S).items).length (pilF F (stepsS S).items)).length ≤ 60
    rw [arrGo_len]
    have hp : (pilF F (stepsS S).items).length ≤ 0 + (stepsS S).items.length := hp
    omega
  · have m := arrGo_mem F _ _ rfl hm s hs
    refine ⟨hm s m, ?_⟩
    have m2 : s ∈ pls (apart F) [] (stepsS S).items := by
      have m : s ∈ pilF F (stepsS S).items := m
      rw [pilF_pls h] at m
      exact List.mem_reverse.mp m
    have t1 := tot_mem m2
    have t2 := pls_tot (ap := apart F) (stepsS S).items []
    have t3 := tot_le (c := 1000000000000000000000000000000) (l := (stepsS S).items) fun s hs => by
      obtain ⟨q, hq, rfl⟩ := List.mem_map.mp hs
      have := k.sz q hq
      omega
    have t4 : tot [] = 0 := rfl
    have t5 : (stepsS S).items.length * 1000000000000000000000000000000 ≤ 60 * 1000000000000000000000000000000 := Nat.mul_le_mul_right _ hl
    omega
/-! ### data that can be shown -/
section
variable {α β : Type} [DecidableEq α] [Datum α] [DecidableEq β] [Datum β]
theorem okA_all : ∀ {ds : List PyData}, (∀ d ∈ ds, okD d = true) → okD.okA ds = true
  | [], _ => rfl
  | d :: ds, h => by
    unfold okD.okA
    rw [h d (List.mem_cons_self ..), okA_all fun d hd => h d (List.mem_cons_of_mem _ hd)]; rfl
theorem wtA_all {c : Nat} : ∀ {ds : List PyData}, (∀ d ∈ ds, wt d ≤ c) → wt.wtA ds ≤ ds.length * (c + 2)
  | [], _ => Nat.zero_le _
  | d :: ds, h => by
    have h1 := h d (List.mem_cons_self ..)
    have h2 := wtA_all (ds := ds) fun d hd => h d (List.mem_cons_of_mem _ hd)
    unfold wt.wtA
    rw [List.length_cons, Nat.succ_mul]
    omega
theorem dpA_all {c : Nat} : ∀ {ds : List PyData}, (∀ d ∈ ds, d.depth ≤ c) → PyData.depthAll ds ≤ c
  | [], _ => Nat.zero_le _
  | d :: ds, h => by
    rw [PyData.depthAll]
    exact Nat.max_le.mpr ⟨h d (List.mem_cons_self ..), dpA_all fun d hd => h d (List.mem_cons_of_mem _ hd)⟩
theorem okw_tup {xs : List α} {c : Nat} (h : ∀ x ∈ xs, okD (Datum.toD x) = true ∧ wt (Datum.toD x) ≤ c) : okD (Datum.toD (Tup.mk xs)) = true ∧ wt (Datum.toD (Tup.mk xs)) ≤ xs.length * (c + 2) + 3 := by
  have e : (Datum.toD (Tup.mk xs) : PyData) = .tuple (xs.map Datum.toD) := rfl
  rw [e]
  simp only [okD, wt]
  refine ⟨okA_all fun d hd => ?_, ?_⟩
  · obtain ⟨x, hx, rfl⟩ := List.mem_map.mp hd
    exact (h x hx).1
  · have := wtA_all (c := c) (ds := xs.map Datum.toD) fun d hd => by
      obtain ⟨x, hx, rfl⟩ := List.mem_map.mp hd
      exact (h x hx).2
    rw [List.length_map] at this
    omega
theorem okw_pair {x : α} {y : β} {c c' : Nat} (h1 : okD (Datum.toD x) = true ∧ wt (Datum.toD x) ≤ c) (h2 : okD (Datum.toD y) = true ∧ wt (Datum.toD y) ≤ c') : okD (Datum.toD (x, y)) = true ∧ wt (Datum.toD (x, y)) ≤ c + c' + 7 := by
  have e : (Datum.toD (x, y) : PyData) = .tuple [Datum.toD x, Datum.toD y] := rfl
  rw [e]
  simp only [okD, wt, okD.okA, wt.wtA, h1.1, h2.1]
  exact ⟨rfl, by omega⟩
theorem okw_int {i : Int} (h : i.natAbs ≤ 60000000000000000000000000000000) : okD (Datum.toD i) = true ∧ wt (Datum.toD i) ≤ 260 := by
  have e : (Datum.toD i : PyData) = .int i := rfl
  rw [e]
  simp only [okD, wt]
  exact ⟨decide_eq_true (Nat.lt_of_le_of_lt h (by decide)), Nat.le_refl _⟩
theorem okw_str {s : Str} (h : s.length = 1 ∧ s.cps.toList.all fun c => decide (c < 16 ^ 8)) : okD (Datum.toD s) = true ∧ wt (Datum.toD s) ≤ 12 := by
  have e : (Datum.toD s : PyData) = .str s := rfl
  rw [e]
  simp only [okD, wt]
  exact ⟨h.2, by omega⟩
theorem dp_of {x : α} (h : Datum.depth α ≤ 10) : (Datum.toD x : PyData).depth ≤ 10 := Nat.le_trans (Datum.depth_le x) h
end
/-- the data that _law_stands compares -/
def standD (F : Fld) (S : St2) : PyData := .list (([Datum.toD F, Datum.toD S.now.1, Datum.toD (stepsS S), Datum.toD (leastF F (stepsS S)), Datum.toD ((S.now.1.items.length : Nat) : Int), Datum.toD (freeF F S)] ++ ((rng 0 (S.now.2 + 1).toNat).map fun k => Datum.toD (isIn k (nums S)))) ++ [.bool false, .bool false, .bool false])
theorem stand_okR {B : Nat} {S : St2} (h : GoodF F) (k : NowOk F B S.now) (hB : B ≤ 60) : okD (standD F S) = true ∧ wt (standD F S) ≤ 10000000 ∧ (standD F S).depth ≤ 60 := by
  obtain ⟨g1, g2, g3, _⟩ := good_len h
  have gp := good_pairs h
  have hl := k.len
  have hfr := k.fr
  have hfr0 := k.fr0
  have small : ∀ q ∈ S.now.1.items, q.1.natAbs ≤ 60000000000000000000000000000000 ∧ q.2.2.natAbs ≤ 60000000000000000000000000000000 := fun q hq => by
    have a := k.lo q hq
    have b := k.hi q hq
    have c := k.sz q hq
    omega
  have stp : ∀ s : Step, s.1 ∈ F.1.items → s.2.natAbs ≤ 60000000000000000000000000000000 → okD (Datum.toD s) = true ∧ wt (Datum.toD s) ≤ 279 := fun s h1 h2 => okw_pair (okw_str (g3 _ h1)) (okw_int h2)
  have cut : ∀ {c n : Nat} {d : PyData}, n ≤ 60 → (okD d = true ∧ wt d ≤ n * (c + 2) + 3) → c ≤ 600 → okD d = true ∧ wt d ≤ 40000 := fun {c n d} hn hd hc => ⟨hd.1, by
    have := Nat.mul_le_mul hn (Nat.add_le_add_right hc 2)
    have := hd.2
    omega⟩
  have all : ∀ d ∈ (([Datum.toD F, Datum.toD S.now.1, Datum.toD (stepsS S), Datum.toD (leastF F (stepsS S)), Datum.toD ((S.now.1.items.length : Nat) : Int), Datum.toD (freeF F S)] ++ ((rng 0 (S.now.2 + 1).toNat).map fun k => Datum.toD (isIn k (nums S)))) ++ [PyData.bool false, .bool false, .bool false]), okD d = true ∧ wt d ≤ 40000 ∧ d.depth ≤ 10 := fun d hd => by
    have fin : ∀ {d : PyData}, (okD d = true ∧ wt d ≤ 40000) → d.depth ≤ 10 → okD d = true ∧ wt d ≤ 40000 ∧ d.depth ≤ 10 := fun a b => ⟨a.1, a.2, b⟩
    rcases List.mem_append.mp hd with hd | hd
    · rcases List.mem_append.mp hd with hd | hd
      · simp only [List.mem_cons, List.mem_nil_iff, or_false] at hd
        rcases hd with rfl | rfl | rfl | rfl | rfl | rfl
        · refine fin ?_ (dp_of (by decide))
          have a := okw_pair (x := F.1) (y := F.2) (okw_tup (xs := F.1.items) (c := 12) fun s hs => okw_str (g3 s hs)) (okw_tup (xs := F.2.items) (c := 31) fun p hp => okw_pair (okw_str (g3 _ (gp p hp).2.2.1)) (okw_str (g3 _ (gp p hp).2.2.2)))
          exact ⟨a.1, by have := a.2; show wt (Datum.toD (F.1, F.2)) ≤ 40000; omega⟩
        · exact fin (cut (by omega) (okw_tup (xs := S.now.1.items) (c := 546) fun q hq => okw_pair (okw_int (small q hq).1) (stp q.2 (k.nm q hq) (small q hq).2)) (by decide)) (dp_of (by decide))
        · refine fin (cut (n := (S.now.1.items.map fun q => q.2).length) (by rw [List.length_map]; omega) (okw_tup (xs := S.now.1.items.map fun q => q.2) (c := 279) fun s hs => ?_) (by decide)) (dp_of (by decide))
          obtain ⟨q, hq, rfl⟩ := List.mem_map.mp hs
          exact stp q.2 (k.nm q hq) (small q hq).2
        · obtain ⟨l1, l2⟩ := least_small h k hB
          exact fin (cut l1 (okw_tup (xs := (leastF F (stepsS S)).items) (c := 279) fun s hs => stp s (l2 s hs).1 (l2 s hs).2) (by decide)) (dp_of (by decide))
        · refine fin ?_ (dp_of (by decide))
          have a := okw_int (i := ((S.now.1.items.length : Nat) : Int)) (by omega)
          exact ⟨a.1, by have := a.2; omega⟩
        · refine fin (cut (n := (freeF F S).items.length) ?_ (okw_tup (xs := (freeF F S).items) (c := 260) fun i hi => ?_) (by decide)) (dp_of (by decide))
          · unfold freeF
            rw [List.length_map]
            have := List.length_filter_le (fun q : Pr => decide (holdF F S q.1 = [])) S.now.1.items
            omega
          · obtain ⟨q, hq, rfl⟩ := List.mem_map.mp hi
            exact okw_int (small q (List.mem_filter.mp hq).1).1
      · obtain ⟨i, _, rfl⟩ := List.mem_map.mp hd
        exact ⟨rfl, by show 5 ≤ 40000; decide, dp_of (by decide)⟩
    · simp only [List.mem_cons, List.mem_nil_iff, or_false] at hd
      rcases hd with rfl | rfl | rfl <;> exact ⟨rfl, by show 5 ≤ 40000; decide, by show PyData.depth (.bool false) ≤ 10; simp [PyData.depth]⟩
  have len : (([Datum.toD F, Datum.toD S.now.1, Datum.toD (stepsS S), Datum.toD (leastF F (stepsS S)), Datum.toD ((S.now.1.items.length : Nat) : Int), Datum.toD (freeF F S)] ++ ((rng 0 (S.now.2 + 1).toNat).map fun k => Datum.toD (isIn k (nums S)))) ++ [PyData.bool false, .bool false, .bool false]).length ≤ 100 := by
    rw [List.length_append, List.length_append, List.length_map, rng_length]
    simp only [List.length_cons, List.length_nil]
    omega
  unfold standD
  generalize (([Datum.toD F, Datum.toD S.now.1, Datum.toD (stepsS S), Datum.toD (leastF F (stepsS S)), Datum.toD ((S.now.1.items.length : Nat) : Int), Datum.toD (freeF F S)] ++ ((rng 0 (S.now.2 + 1).toNat).map fun k => Datum.toD (isIn k (nums S)))) ++ [PyData.bool false, .bool false, .bool false]) = ds at all len
  refine ⟨?_, ?_, ?_⟩
  · simp only [okD]
    exact okA_all fun d hd => (all d hd).1
  · simp only [wt]
    have := wtA_all fun d hd => (all d hd).2.1
    have := Nat.mul_le_mul_right 40002 len
    omega
  · simp only [PyData.depth]
    have := dpA_all fun d hd => (all d hd).2.2
    omega
end K95
namespace K95
open PySem PySem.Spec PySem.Calls PySem.W PyProof.Rows L2 Evl
/-! ### values told by their data -/
def TXD (X : Cx) (σ : L2.St) (H : Hp) (e : Expr) (d : PyData) : Prop := ∀ H1, Ex H H1 → ∀ Q : VK, (∀ v H2, Ex H1 H2 → Dp X.K H2 v d → Q v H2) → wE X e σ H1 Q
def TDs (X : Cx) (σ : L2.St) (H : Hp) (es : List Expr) (ds : List PyData) : Prop := ∀ H1, Ex H H1 → ∀ Q : List V → Hp → Prop, (∀ vs H2, Ex H1 H2 → DpAll X.K H2 vs ds → Q vs H2) → wA X es σ H1 Q
section
variable {X : Cx} {σ : L2.St} {H H1 : Hp} {e a b : Expr} {es : List Expr} {d : PyData} {ds xs ys : List PyData} {p pos : Pos} {Q : VK} {α : Type} [DecidableEq α] [Datum α] {x : α}
theorem DpAll.ex {K : Frag} {vs : List V} (h : DpAll K H vs ds) (e : Ex H H1) : DpAll K H1 vs ds := dpAll_keep (fun _ _ => Evl.ex_t e) (fun _ _ => Evl.ex_l e) h
theorem dpa_len {K : Frag} : ∀ {vs : List V} {ds : List PyData}, DpAll K H vs ds → vs.length = ds.length
  | _, _, .nil => rfl
  | _, _, .cons _ r => by rw [List.length_cons, List.length_cons, dpa_len r]
theorem dpa_app {K : Frag} : ∀ {vs ws : List V} {xs ys : List PyData}, DpAll K H vs xs → DpAll K H ws ys → DpAll K H (vs ++ ws) (xs ++ ys)
  | _, _, _, _, .nil, k => k
  | _, _, _, _, .cons a r, k => .cons a (dpa_app r k)
theorem TX.dat (h : TX X σ H e x) : TXD X σ H e (Datum.toD x) := h
theorem tds_nil : TDs X σ H [] [] := fun H1 _ Q q => wA_of pa_nil (q [] H1 (Ex.refl _) .nil)
theorem tds_cons (h : TXD X σ H e d) (r : TDs X σ H es ds) (hs : starEach (e :: es) X.env = (false, eval e X.env) :: starEach es X.env := by rfl) : TDs X σ H (e :: es) (d :: ds) := fun H1 k Q q =>
  wA_of (pa_cons pE pA hs) (h H1 k _ fun v H2 k2 d1 => r H2 (k.trans k2) _ fun vs H3 k3 ds => q _ H3 (k2.trans k3) (.cons (Dp.ex d1 k3) ds))
theorem txd_lst (h : TDs X σ H es ds) (hz : ds.length ≤ 100000) : TXD X σ H (.List es p) (.list ds) := fun H1 k Q q => wE_of (pe_lst pA) (h H1 k _ fun vs H2 k2 d => ⟨by rw [dpa_len d, sizeLine_eq]; omega, fun l hl => q _ _ (k2.trans (Ex.new hl)) (.lst (SqL.of upd_same) (DpAll.ex d (Ex.new hl)))⟩)
/-- a list laid anew -/
theorem wE_lstD (h : TDs X σ H es ds) (hz : ds.length ≤ 100000) (q : ∀ l us Hb, Ex H Hb → Hb l = none → DpAll X.K Hb us ds → Q (.ref l) (upd Hb l (.lst us))) : wE X (.List es p) σ H Q := wE_of (pe_lst pA) (h H (Ex.refl _) _ fun vs H2 k2 d => ⟨by rw [dpa_len d, sizeLine_eq]; omega, fun l hl => q l vs _ k2 hl d⟩)
theorem txd_cat (hz : xs.length + ys.length ≤ 100000) (ha : TXD X σ H a (.list xs)) (hb : TXD X σ H b (.list ys)) : TXD X σ H (.BinOp a .Add b p) (.list (xs ++ ys)) := fun H1 k Q q =>
  wE_of (pe_op op_catS pE pE) (ha H1 k _ fun v H2 k2 d1 => hb H2 (k.trans k2) _ fun w H3 k3 d2 => by
    have d1' := Dp.ex d1 k3
    cases d1' with
    | lst h1 h2 =>
      cases d2 with
      | lst h3 h4 => exact ⟨_, _, _, _, rfl, rfl, h1, h3, by rw [dpa_len h2, dpa_len h4, sizeLine_eq]; omega, fun q' hq => q _ _ ((k2.trans k3).trans (Ex.new hq)) (.lst (SqL.of upd_same) (DpAll.ex (dpa_app h2 h4) (Ex.new hq)))⟩)
/-- [x] * 3 -/
theorem txd_rep3 {j : Nat} {p1 p2 : Pos} (h : TXD X σ H e d) (hs : starEach (e :: []) X.env = (false, eval e X.env) :: starEach [] X.env := by rfl) : TXD X σ H (.BinOp (.List [e] p1) .Mult (.Constant (.int 3) j p2) p) (.list [d, d, d]) := fun H1 k Q q =>
  wE_of (pe_op op_rep pE pe_int) (wE_of (pe_lst (pa_cons pE pa_nil hs)) (h H1 k _ fun v H2 k2 d1 => ⟨by rw [sizeLine_eq]; show 1 ≤ 16777216; decide, fun l hl => ⟨l, 3, [v], rfl, rfl, upd_same, by decide, by decide, by rw [sizeLine_eq]; show 1 * 3 ≤ 16777216; decide, fun l' hl' => by
    have e2 := (Ex.new (o := HO.lst [v]) hl).trans (Ex.new (o := HO.lst [v, v, v]) hl')
    have d2 := Dp.ex d1 e2
    exact q _ _ (k2.trans e2) (.lst (SqL.of upd_same) (.cons d2 (.cons d2 (.cons d2 .nil))))⟩⟩))
end
/-! ### the class, all of it -/
/-- a special method -/
structure OwnS (P : Program) (w : World) (K : Frag) (mg : Str → Option Value) (base : Heap) (k : Nat) (C : Addr) (m : Str) (ps : List Str) (sp : Sp) : Prop where
  own : ∃ f fd, FnOk P w K mg base CX0 k f fd ps sp ∧ findIn K (.ref C) m = some (some (.ref f)) ∧ isFn K (.ref f) = true ∧ Binds K fd ps []
structure ShM (P : Program) (w : World) (K : Frag) (mg : Str → Option Value) (base : Heap) (c : Ec) (C CT : Addr) : Prop where
  T : ShC K mg C
  field : OwnP P w K mg base 1 C "field" ["self"] (spGet K C (fun _ _ => True) fun F _ => F)
  row : OwnP P w K mg base 1 C "row" ["self"] (spGet K C (fun _ _ => True) fun _ S => S.now.1)
  steps : OwnP P w K mg base 1 C "steps" ["self"] (spGet K C (fun _ S => S.now.1.items.length ≤ 1000) fun _ S => stepsS S)
  least : OwnM P w K mg base 6 C "least" ["self"] (spGet K C LeOk fun F S => leastF F (stepsS S))
  free : OwnM P w K mg base 3 C "free" ["self"] (spGet K C (fun _ S => S.now.1.items.length ≤ 500) freeF)
  len : OwnS P w K mg base 1 C "__len__" ["self"] (spGet K C (fun _ _ => True) fun _ S => ((S.now.1.items.length : Nat) : Int))
  cont : OwnS P w K mg base 2 C "__contains__" ["self", "number"] (spIsNum K C)
  eq : OwnS P w K mg base 1 C "__eq__" ["self", "other"] (spEq K C)
  ne : ∃ f, NeC K C f
  doM : OwnMX P w K mg base 3 C "do" ["self", "step"] (spDo K C c.bs)
  ahead : OwnMX P w K mg base 3 C "ahead_of" ["self", "number"] (spAhead K C c.bn)
  take : OwnMX P w K mg base 3 C "take_back" ["self", "number"] (spTake K C c.bn c.hd)
  all : OwnMX P w K mg base 3 C "take_all" ["self", "number"] (spAll K C)
  undo : OwnM P w K mg base 1 C "undo" ["self"] (spUR true K C)
  redo : OwnM P w K mg base 1 C "redo" ["self"] (spUR false K C)
  copy : OwnM P w K mg base 6 C "copy" ["self"] (spCopy K C)
  trial : OwnM P w K mg base 3 C "trial" ["self"] (spTrial K C CT)
  make : OwnC P w K mg base 4 "Sheet" C ["self", "field"] (spInit K C)
  nF : notFirst K C (.ref C) = true
  nT : notFirst K C (.type "tuple") = true
  nI : notFirst K C (.type "int") = true
section
variable {X : Cx} {σ : L2.St} {H : Hp} {e : Expr} {p p1 p2 apos pos : Pos} {n : Str} {C CT sa : Addr} {F : Fld} {S : St2} {c : Ec} {k : Nat} {Q : VK}
theorem tx_pField (M : ShM X.prog X.w X.K X.mg X.base c C CT) (hr : Room 2 X.A) (m : Nat) (h : SheetAt X.K H C sa F S) (hσ : σ[m]? = some (some (.ref sa)) := by rfl) (hN : X.N[m]? = some n := by rfl) (hv : Vis X.env.scope n := by first | exact .inl rfl | exact .inr (.inl rfl) | exact .inr (.inr rfl)) (hd : (n == ("__debug__" : Str)) = false := by decide) (hcd : (n == ("__classdict__" : Str)) = false := by decide)
    (hb : attributeBase (.Name n p) "field" X.env (eval (.Name n p) X.env) = eval (.Name n p) X.env := by rfl) : TX X σ H (.Attribute (.Name n p) "field" pos) F := fun H1 e1 Q q => by
  have S1 := h.ofEx e1
  obtain ⟨dx, vF, vN, vP, vL, g1, _⟩ := S1.ex
  exact wE_prop M.field M.T.cl hr (wE_var m hσ hN ⟨sa, dx, _, rfl, g1, sa, F, S, rfl, S1, trivial, fun u H2 e2 d2 => q u H2 e2 d2⟩ hv hd hcd) hb
theorem tx_pRow (M : ShM X.prog X.w X.K X.mg X.base c C CT) (hr : Room 2 X.A) (m : Nat) (h : SheetAt X.K H C sa F S) (hσ : σ[m]? = some (some (.ref sa)) := by rfl) (hN : X.N[m]? = some n := by rfl) (hv : Vis X.env.scope n := by first | exact .inl rfl | exact .inr (.inl rfl) | exact .inr (.inr rfl)) (hd : (n == ("__debug__" : Str)) = false := by decide) (hcd : (n == ("__classdict__" : Str)) = false := by decide)
    (hb : attributeBase (.Name n p) "row" X.env (eval (.Name n p) X.env) = eval (.Name n p) X.env := by rfl) : TX X σ H (.Attribute (.Name n p) "row" pos) S.now.1 := fun H1 e1 Q q => by
  have S1 := h.ofEx e1
  obtain ⟨dx, vF, vN, vP, vL, g1, _⟩ := S1.ex
  exact wE_prop M.row M.T.cl hr (wE_var m hσ hN ⟨sa, dx, _, rfl, g1, sa, F, S, rfl, S1, trivial, fun u H2 e2 d2 => q u H2 e2 d2⟩ hv hd hcd) hb
theorem tx_pSteps (M : ShM X.prog X.w X.K X.mg X.base c C CT) (hr : Room 2 X.A) (m : Nat) (h : SheetAt X.K H C sa F S) (hz : S.now.1.items.length ≤ 1000) (hσ : σ[m]? = some (some (.ref sa)) := by rfl) (hN : X.N[m]? = some n := by rfl) (hv : Vis X.env.scope n := by first | exact .inl rfl | exact .inr (.inl rfl) | exact .inr (.inr rfl)) (hd : (n == ("__debug__" : Str)) = false := by decide) (hcd : (n == ("__classdict__" : Str)) = false := by decide)
    (hb : attributeBase (.Name n p) "steps" X.env (eval (.Name n p) X.env) = eval (.Name n p) X.env := by rfl) : TX X σ H (.Attribute (.Name n p) "steps" pos) (stepsS S) := fun H1 e1 Q q => by
  have S1 := h.ofEx e1
  obtain ⟨dx, vF, vN, vP, vL, g1, _⟩ := S1.ex
  exact wE_prop M.steps M.T.cl hr (wE_var m hσ hN ⟨sa, dx, _, rfl, g1, sa, F, S, rfl, S1, hz, fun u H2 e2 d2 => q u H2 e2 d2⟩ hv hd hcd) hb
/-- a method without arguments that tells something -/
theorem tx_get0 {δ : Type} [DecidableEq δ] [Datum δ] {ok : Fld → St2 → Prop} {f : Fld → St2 → δ} {mn : Str} {pl : Sem Bool} (N : OwnM X.prog X.w X.K X.mg X.base k C mn ["self"] (spGet X.K C ok f)) (T : ShC X.K X.mg C) (hr : Room k X.A) (m : Nat) (h : SheetAt X.K H C sa F S) (ho : ok F S) (hno : ∀ vF vN vP vL, (sFs vF vN vP vL).lookup mn = none) (hσ : σ[m]? = some (some (.ref sa)) := by rfl) (hN : X.N[m]? = some n := by rfl) (hv : Vis X.env.scope n := by first | exact .inl rfl | exact .inr (.inl rfl) | exact .inr (.inr rfl)) (hd : (n == ("__debug__" : Str)) = false := by decide) (hcd : (n == ("__classdict__" : Str)) = false := by decide)
    (ht : eval (.Call (.Attribute (.Name n p) mn apos) [] [] pos) X.env = (do
      let ov ← eval (.Name n p) X.env
      standAt apos.atName
      let (f, first) ← holding [ov] (getMethod ov mn pl)
      callWith pos f first (backTo pos (starEach [] X.env)) (backToKw pos (keywordEach [] X.env))) := by rfl) : TX X σ H (.Call (.Attribute (.Name n p) mn apos) [] [] pos) (f F S) := fun H1 e1 Q q => by
  have S1 := h.ofEx e1
  obtain ⟨dx, fs, g1, g2⟩ := sheet_no S1 hno
  exact wE_meth0 N T.cl hr (wE_var m hσ hN ⟨sa, dx, fs, rfl, g1, g2, sa, F, S, rfl, S1, ho, fun u H2 e2 d2 => q u H2 e2 d2⟩ hv hd hcd) ht
theorem tx_lenS' (M : ShM X.prog X.w X.K X.mg X.base c C CT) (hm : X.mg "len" = none) (hr : Room 2 X.A) (m : Nat) (h : SheetAt X.K H C sa F S) (hz : S.now.1.items.length ≤ 1000) (hσ : σ[m]? = some (some (.ref sa)) := by rfl) (hN : X.N[m]? = some n := by rfl) (hv : Vis X.env.scope n := by first | exact .inl rfl | exact .inr (.inl rfl) | exact .inr (.inr rfl)) (hd : (n == ("__debug__" : Str)) = false := by decide) (hcd : (n == ("__classdict__" : Str)) = false := by decide)
    (hg : Gl X "len" := by rfl) (hs : starEach (.Name n p :: []) X.env = (false, eval (.Name n p) X.env) :: starEach [] X.env := by rfl) : TX X σ H (.Call (.Name "len" p1) [.Name n p] [] pos) ((S.now.1.items.length : Nat) : Int) := fun H1 e1 Q q => by
  have S1 := h.ofEx e1
  obtain ⟨dx, vF, vN, vP, vL, g1, _⟩ := S1.ex
  obtain ⟨f, fd, FF, h1, h2, hb⟩ := M.len.own
  exact wE_of (pe_callB (call_lenOwn h1 h2 FF hr hb) hg hm (by with_unfolding_all rfl) (pa_cons (pe_var (i := m) hN hv hd hcd) pa_nil hs) (by decide) (by decide) hs rfl) ⟨_, hσ, sa, dx, _, rfl, g1, sa, F, S, rfl, S1, trivial, fun u H2 e2 d2 => ⟨S.now.1.items.length, d2.int, by omega, q _ H2 e2 hd_int⟩⟩
/-- e in sheet -/
theorem tx_inS (M : ShM X.prog X.w X.K X.mg X.base c C CT) (hr : Room 2 X.A) (m : Nat) (h : SheetAt X.K H C sa F S) (hz : S.now.1.items.length ≤ 1000) (z : Sc) (he : ∀ H1, Ex H H1 → ∀ Q : VK, (∀ H2, Ex H1 H2 → Q z.v H2) → wE X e σ H1 Q) (hσ : σ[m]? = some (some (.ref sa)) := by rfl) (hN : X.N[m]? = some n := by rfl) (hv : Vis X.env.scope n := by first | exact .inl rfl | exact .inr (.inl rfl) | exact .inr (.inr rfl)) (hd : (n == ("__debug__" : Str)) = false := by decide) (hcd : (n == ("__classdict__" : Str)) = false := by decide)
    (hmk : behindInMarks .In (.Name n p) = false := by with_unfolding_all rfl) : TX X σ H (.Compare e [.In] [.Name n p] pos) (isNum S z) := fun H1 e1 Q q => by
  obtain ⟨f, fd, FF, h1, h2, hb⟩ := M.cont.own
  refine wE_of (pe_cmpR (op_inOwn h1 h2 FF hr hb) pE (pe_var (i := m) hN hv hd hcd) hmk) (he H1 e1 _ fun H2 e2 => ⟨_, hσ, ?_⟩)
  have S1 := (h.ofEx e1).ofEx e2
  obtain ⟨dx, vF, vN, vP, vL, g1, _⟩ := S1.ex
  exact ⟨sa, dx, _, rfl, g1, sa, F, S, z, rfl, S1, hz, fun H3 e3 => ⟨isNum S z, rfl, q _ H3 (e2.trans e3) hd_bl⟩⟩
end
end K95
namespace K95
open PySem PySem.Spec PySem.Calls PySem.W PyProof.Rows L2 Evl
def spStands (K : Frag) (C : Addr) : Sp := fun vs H Q _ => ∃ (sa ao gl : Addr) (F : Fld) (S : St2), vs = [.ref sa, .ref ao] ∧ SheetAt K H C sa F S ∧ OwnAt K H ao gl F S ∧ GoodF F ∧ NowOk F 60 S.now ∧ ∀ H', Ex H H' → Q (.bl true) H'
section
variable {X : Cx} {σ : L2.St} {H : Hp} {e : Expr} {p p1 pos : Pos} {n : Str} {ao gl : Addr} {F : Fld} {S : St2} {num : Int}
/-- _law_held(own, e) -/
theorem tx_held (N : Own X.prog X.w X.K X.mg X.base 2 "_law_held" ["own", "number"] (spHeld X.K)) (hr : Room 2 X.A) (m : Nat) (h : OwnAt X.K H ao gl F S) (hz : S.now.1.items.length ≤ 500) (he : TX X σ H e num) (hσ : σ[m]? = some (some (.ref ao)) := by rfl) (hN : X.N[m]? = some n := by rfl) (hv : Vis X.env.scope n := by first | exact .inl rfl | exact .inr (.inl rfl) | exact .inr (.inr rfl)) (hd : (n == ("__debug__" : Str)) = false := by decide) (hcd : (n == ("__classdict__" : Str)) = false := by decide)
    (hg : Gl X "_law_held" := by rfl) (hs : starEach (.Name n p1 :: [e]) X.env = (false, eval (.Name n p1) X.env) :: starEach [e] X.env := by rfl) (hs2 : starEach (e :: []) X.env = (false, eval e X.env) :: starEach [] X.env := by rfl) (hpl : (backTo pos (starEach [e] X.env)).any (·.1) = false := by rfl) : TX X σ H (.Call (.Name "_law_held" p) [.Name n p1, e] [] pos) (lheld F S.now.1.items num) := fun H1 e1 Q q =>
  wE_own N hr (wA_of (pa_cons (pe_var (i := m) hN hv hd hcd) (pa_cons pE pa_nil hs2) hs) ⟨_, hσ, he H1 e1 _ fun v H2 e2 d => ⟨ao, gl, F, S, num, by rw [d.int], (h.ofEx e1).ofEx e2, hz, fun u H3 e3 du => q u H3 (e2.trans e3) du⟩⟩) hg (by decide) hs hpl
end
section
variable {P : Program} {w : World} {K : Frag} {mg : Str → Option Value} {base : Heap}
theorem free_eq {F : Fld} {B : Nat} {S : St2} (h : GoodF F) (k : NowOk F B S.now) : ((nums S).filter fun n => decide (lheld F S.now.1.items n = [])) = (freeF F S).items := by
  unfold nums freeF
  rw [List.filter_map]
  congr 1
  refine List.filter_congr fun q hq => ?_
  show decide (lheld F S.now.1.items q.1 = []) = decide (holdF F S q.1 = [])
  rw [hold_eq h k (List.mem_map.mpr ⟨q, hq, rfl⟩)]
theorem scStands : FnScope ["sheet", "own", "row", "steps", "numbers", "told_so", "due", "some", "pair", "number", "k"] ["sheet", "own"] (defScope (top 53)) := ⟨rfl, rfl, rfl, by decide +kernel, rfl, by decide +kernel, by decide +kernel⟩
theorem ok_stands {f C CT : Addr} {fd : FuncData} {c : Ec} (F : Fun K "_law_stands" "_law_stands" (top 53) f fd) (B : Bn mg) (M : ShM P w K mg base c C CT) (NL : Own P w K mg base 4 "_law_least" ["field", "steps"] (Pu2 K (fun (_ : Fld) (st : Tup Step) => st.items.length ≤ 1000) lleast))
    (NH : Own P w K mg base 2 "_law_held" ["own", "number"] (spHeld K)) (GL : OwnG P w K mg base 1 "_law_like" ["answer", "due"] (spLike K)) : FnG P w K mg base 8 f fd ["sheet", "own"] (spStands K C) := by
  refine fn_ofG F scStands (fun vs H Q E h => ?_) (fun cdv A outer s H vs Q E hr hgd _ h => ?_)
  · obtain ⟨sa, ao, gl, FF, S, rfl, _⟩ := h; rfl
  · obtain ⟨sa, ao, gl, FF, S, rfl, hS, hO, hG, hK, k⟩ := h
    have hu := hu1 hr
    have hr7 : Room 7 _ := hr
    have hr2 := hr7.mono (show 2 ≤ 7 by decide)
    have hlen := hK.len
    have N' : List Str := ["sheet", "own", "row", "steps", "numbers", "told_so", "due", "some", "pair", "number", "k"]
    refine ⟨_, pB, ?_⟩
    refine wB_cons (wS_set (i := 2) scStands.nd rfl (TX.go (tx_fst (tx_ownN hu 1 hO)) fun vr H1 e1 dr => ?_))
    have S1 := hS.ofEx e1
    have O1 := hO.ofEx e1
    have comp : ∀ {β : Type} [DecidableEq β] [Datum β], True := fun {_ _ _} => trivial
    refine wB_cons (wS_two 3 4 rfl scStands.nd (wE_tup2 (TX.go (x := stepsS S) (tx_tuple B.tuple (TX.conv (x' := S.now.1.items.map fun q => q.2) (tx_lc (f := fun q : Pr => q.2) (pr := fun _ => true) [("pair", 8)] rfl scStands.nd (blkOk_by (N := ["sheet", "own", "row", "steps", "numbers", "told_so", "due", "some", "pair", "number", "k"]) (sc := defScope (top 53)) (by decide +kernel)) (Nat.le_trans hlen (by decide)) (ti_tup (tx_var 2 dr)) fun z hz v' H' e' d' => ⟨_, fun s0 H0 C cl fp => ⟨tgt_name 8 scStands.nd, tbs_nil, fun _ => tx_snd (tx_var 8 d')⟩, rfl⟩) (by rw [List.filter_eq_self.mpr fun _ _ => rfl]))) fun vst H2 e2 dst =>
      TX.go (x := nums S) (TX.conv (tx_lc (f := fun q : Pr => q.1) (pr := fun _ => true) [("pair", 8)] rfl scStands.nd (blkOk_by (N := ["sheet", "own", "row", "steps", "numbers", "told_so", "due", "some", "pair", "number", "k"]) (sc := defScope (top 53)) (by decide +kernel)) (Nat.le_trans hlen (by decide)) (ti_tup (tx_var 2 (dr.ex e2))) fun z hz v' H' e' d' => ⟨_, fun s0 H0 C cl fp => ⟨tgt_name 8 scStands.nd, tbs_nil, fun _ => tx_fst (tx_var 8 d')⟩, rfl⟩) (by rw [List.filter_eq_self.mpr fun _ _ => rfl]; rfl)) fun vnu H3 e3 dnu q hq => ⟨q, vst, vnu, rfl, SqT.of upd_same, ?_⟩)))
    have e4 := Ex.new (o := HO.tup [vst, vnu]) hq
    have e14 := (e2.trans e3).trans e4
    have S4 := S1.ofEx e14
    have O4 := O1.ofEx e14
    have dr4 := dr.ex e14
    have dst4 := (dst.ex e3).ex e4
    have dnu4 := dnu.ex e4
    have eH4 := e1.trans e14
    generalize upd H3 q (.tup [vst, vnu]) = H4 at *
    have lst : (stepsS S).items.length ≤ 1000 := by unfold stepsS; rw [List.length_map]; omega
    -- told_so
    refine wB_cons (wS_set (i := 5) scStands.nd rfl (txd_lst (tds_cons (TX.dat (tx_pField M hr2 0 S4)) (tds_cons (TX.dat (tx_pRow M hr2 0 S4)) (tds_cons (TX.dat (tx_pSteps M hr2 0 S4 (by omega))) (tds_cons (TX.dat (tx_get0 M.least M.T (hr7.mono (by decide)) 0 S4 (leOk hG hK (by decide)) (fun _ _ _ _ => rfl))) (tds_cons (TX.dat (tx_lenS' M B.len hr2 0 S4 (by omega))) (tds_cons (TX.dat (tx_get0 M.free M.T (hr7.mono (by decide)) 0 S4 (show _ ≤ 500 by omega) (fun _ _ _ _ => rfl))) tds_nil)))))) (by show 6 ≤ 100000; decide) H4 (Ex.refl _) _ fun vt H5 e5 dt => ?_))
    have S5 := S4.ofEx e5
    have O5 := O4.ofEx e5
    -- due
    refine wB_cons (wS_set (i := 6) scStands.nd rfl (wE_lstD (tds_cons (TX.dat (tx_ownF hu 1 O5)) (tds_cons (TX.dat (tx_var 2 (dr4.ex e5))) (tds_cons (TX.dat (tx_var 3 (dst4.ex e5))) (tds_cons (TX.dat (tx_own2 NL (hr7.mono (by decide)) (t2_mk (tx_ownF hu 1 O5) (tx_var 3 (dst4.ex e5))) lst)) (tds_cons (TX.dat (tx_lenT B.len (tx_var 2 (dr4.ex e5)))) tds_nil))))) (by show 5 ≤ 100000; decide) fun ld us Hb eb hld dU => ?_))
    have e6 := Ex.new (o := HO.lst us) hld
    have hld6 : upd Hb ld (.lst us) ld = some (.lst us) := upd_same
    have eb6 := eb.trans e6
    have S6 := S5.ofEx eb6
    have O6 := O5.ofEx eb6
    generalize upd Hb ld (.lst us) = H6 at *
    have dnu6 := (dnu4.ex e5).ex eb6
    -- due.append(tuple(..))
    refine wB_cons (wS_expr (wE_appendC 6 hld6 (TX.go (x := freeF FF S) (TX.conv (tx_tuple B.tuple (tx_lc (f := fun n : Int => n) (pr := fun n => decide (lheld FF S.now.1.items n = [])) [("number", 9)] rfl scStands.nd (blkOk_by (N := ["sheet", "own", "row", "steps", "numbers", "told_so", "due", "some", "pair", "number", "k"]) (sc := defScope (top 53)) (by decide +kernel)) (by unfold nums; rw [List.length_map]; omega) (ti_list (tx_var 4 dnu6))
      fun z hz v' H' e' d' => ⟨_, fun s0 H0 C cl fp => ⟨tgt_name 9 scStands.nd, tbs_one (by exact tb_eq (α := List Int) (hu64 hr) (tx_held NH hr2 1 (O6.ofEx e') (by omega) (tx_var 9 d')) (tx_lst tl_nil (by decide))), fun _ => tx_var 9 d'⟩, rfl⟩)) (by rw [List.map_id', free_eq hG hK])) fun vf H7 e7 df => ?_)))
    refine ⟨us, e7 _ _ hld6, by rw [dpa_len dU, sizeLine_eq]; show 5 < 16777216; decide, ?_⟩
    have hld7 := e7 _ _ hld6
    have b8 : But [ld] H7 (upd H7 ld (.lst (us ++ [vf]))) := But.refl.upd (List.mem_singleton.mpr rfl)
    have nt7 : NoTup [ld] H7 := NoTup.cons (notup_lst hld7) NoTup.nil
    have ebb : Ex Hb (upd H7 ld (.lst (us ++ [vf]))) := fun b o hb => by
      rw [upd_ne (fun z => by rw [z, hld] at hb; cases hb)]
      exact (e6.trans e7) _ _ hb
    have dU8 := dpa_app (DpAll.ex dU ebb) (.cons (df.but b8 nt7) .nil)
    have due8 : Dp K (upd H7 ld (.lst (us ++ [vf]))) (.ref ld) (.list ([Datum.toD FF, Datum.toD S.now.1, Datum.toD (stepsS S), Datum.toD (leastF FF (stepsS S)), Datum.toD ((S.now.1.items.length : Nat) : Int)] ++ [Datum.toD (freeF FF S)])) := by
      refine .lst (SqL.of upd_same) ?_
      rw [least_eq hG hK]
      exact dU8
    have dt8 := Dp.ex (Dp.ex dt eb) ebb
    have S8 := (S5.ofEx eb).ofEx ebb
    have O8 := (O5.ofEx eb).ofEx ebb
    have dnu8 := ((dnu4.ex e5).ex eb).ex ebb
    have eH8 := ((eH4.trans e5).trans eb).trans ebb
    generalize upd H7 ld (.lst (us ++ [vf])) = H8 at *
    -- some
    have hfr0 := hK.fr0
    have hfr := hK.fr
    have rl : (rng 0 (S.now.2 + 1).toNat).length ≤ 61 := by rw [rng_length]; omega
    refine wB_cons (wS_set (i := 7) scStands.nd rfl (TX.go (tx_listRange rfl B.list B.range (tx_add (tx_snd (tx_ownN hu 1 O8)) tx_int) (by omega) (by omega)) fun vs9 H9 e9 d9 => ?_))
    have S9 := S8.ofEx e9
    -- told_so + [k in sheet ..] + [..]
    have ls6 : ([Datum.toD FF, Datum.toD S.now.1, Datum.toD (stepsS S), Datum.toD (leastF FF (stepsS S)), Datum.toD ((S.now.1.items.length : Nat) : Int), Datum.toD (freeF FF S)] : List PyData).length = 6 := rfl
    refine wB_cons (wS_set (i := 5) scStands.nd rfl (txd_cat (xs := [Datum.toD FF, Datum.toD S.now.1, Datum.toD (stepsS S), Datum.toD (leastF FF (stepsS S)), Datum.toD ((S.now.1.items.length : Nat) : Int), Datum.toD (freeF FF S)] ++ ((rng 0 (S.now.2 + 1).toNat).map fun k => Datum.toD (isIn k (nums S)))) (ys := [.bool false, .bool false, .bool false]) ?_
      (txd_cat ?_ (fun H1 e1 Q q => wE_var 5 rfl rfl (q _ H1 (Ex.refl _) (Dp.ex (Dp.ex dt8 e9) e1))) (fun H1 e1 Q q => ?_))
      (txd_lst (tds_cons (TX.dat (tx_inS M (hr7.mono (by decide)) 0 S9 (by omega) .non fun H1 e1 Q q => wE_non (q H1 (Ex.refl _)))) (tds_cons (TX.dat (tx_inS M (hr7.mono (by decide)) 0 S9 (by omega) (.b true) fun H1 e1 Q q => wE_of pe_bl (q H1 (Ex.refl _)))) (tds_cons (TX.dat (tx_inS M (hr7.mono (by decide)) 0 S9 (by omega) (.s "0") fun H1 e1 Q q => wE_str (q H1 (Ex.refl _)))) tds_nil))) (by show 3 ≤ 100000; decide)) H9 (Ex.refl _) _ fun vt2 H10 e10 dt10 => ?_))
    · rw [List.length_append, List.length_map, ls6]; show _ + 3 ≤ 100000; omega
    · rw [List.length_map, ls6]; omega
    · refine (tx_lc (f := fun k : Int => isNum S (.i k)) (pr := fun _ => true) [("k", 10)] rfl scStands.nd (blkOk_by (N := ["sheet", "own", "row", "steps", "numbers", "told_so", "due", "some", "pair", "number", "k"]) (sc := defScope (top 53)) (by decide +kernel)) (by omega) (ti_list (tx_var 7 d9)) fun z hz v' H' e' d' => ⟨_, fun s0 H0 C cl fp => ⟨tgt_name 10 scStands.nd, tbs_nil, fun _ => tx_inS M (hr7.mono (by decide)) 0 (S9.ofEx e') (by omega) (.i z) fun H1 e1 Q q => wE_var 10 rfl rfl (by have := (d'.ex e1).int; subst this; exact q H1 (Ex.refl _))⟩, rfl⟩ : TX _ _ H9 _ _) H1 e1 _ fun v H2 e2 d2 => q v H2 e2 ?_
      have d2' : Dp _ H2 v (.list ((((rng 0 (S.now.2 + 1).toNat).filter fun _ => true).map fun k => isNum S (.i k)).map Datum.toD)) := d2
      rw [List.filter_eq_self.mpr fun _ _ => rfl, List.map_map] at d2'
      exact d2'
    · have dnu10 := (dnu8.ex e9).ex e10
      have d10 := d9.ex e10
      have due10 := Dp.ex (Dp.ex due8 e9) e10
      have dtd : Dp K H10 vt2 (standD FF S) := dt10
      have okR := stand_okR hG hK (by decide)
      refine wB_one (wS_ret (wE_ownG (W := noW) GL (hr7.mono (by decide)) hgd takesNo (wA_of (pa_cons (pe_var (i := 5) rfl (.inl rfl)) (pa_cons pE pa_nil)) ⟨_, rfl, txd_cat (xs := ([Datum.toD FF, Datum.toD S.now.1, Datum.toD (stepsS S), Datum.toD (leastF FF (stepsS S)), Datum.toD ((S.now.1.items.length : Nat) : Int)] ++ [Datum.toD (freeF FF S)]) ++ ((rng 0 (S.now.2 + 1).toNat).map fun k => Datum.toD (isIn k (nums S)))) (ys := [.bool false, .bool false, .bool false]) ?_
        (txd_cat ?_ (fun H1 e1 Q q => wE_var 6 rfl rfl (q _ H1 (Ex.refl _) (Dp.ex due10 e1))) (fun H1 e1 Q q => ?_)) (txd_rep3 fun H1 e1 Q q => wE_of pe_bl (q _ H1 (Ex.refl _) (.bl false))) H10 (Ex.refl _) _ fun vd H11 e11 dd => ⟨vt2, vd, standD FF S, rfl, Dp.ex dtd e11, dd, ⟨okR.1, okR.2.1, okR.2.2⟩, fun H12 e12 => k H12 ((((eH8.trans e9).trans e10).trans e11).trans e12)⟩⟩)))
      · rw [List.length_append, List.length_map]; show 6 + _ + 3 ≤ 100000; omega
      · rw [List.length_map]; show 6 + _ ≤ 100000; omega
      · refine (tx_lc (f := fun k : Int => isIn k (nums S)) (pr := fun _ => true) [("k", 10)] rfl scStands.nd (blkOk_by (N := ["sheet", "own", "row", "steps", "numbers", "told_so", "due", "some", "pair", "number", "k"]) (sc := defScope (top 53)) (by decide +kernel)) (by omega) (ti_list (tx_var 7 d10)) fun z hz v' H' e' d' => ⟨_, fun s0 H0 C cl fp => ⟨tgt_name 10 scStands.nd, tbs_nil, fun _ => tx_inL (hu65 hr) (tx_var 10 d') (tx_var 4 (dnu10.ex e'))⟩, rfl⟩ : TX _ _ H10 _ _) H1 e1 _ fun v H2 e2 d2 => q v H2 e2 ?_
        have d2' : Dp _ H2 v (.list ((((rng 0 (S.now.2 + 1).toNat).filter fun _ => true).map fun k => isIn k (nums S)).map Datum.toD)) := d2
        rw [List.filter_eq_self.mpr fun _ _ => rfl, List.map_map] at d2'
        exact d2'
end
end K95
/-! TT: the tables of code objects of lambdas, and what keeps them. -/
namespace K95
open PySem PySem.Spec PySem.Calls PySem.W PyProof.Rows L2 Evl
theorem among_snoc {pos : Pos} {a b : Int} {c cv : Value} (l : List Value) (h : TriplesOk l) (e : codeAmong pos (l ++ [rawInt a, rawInt b, c]) = some cv) : codeAmong pos l = some cv ∨ cv = c := by
  fun_induction TriplesOk l with
  | case1 =>
    right
    simp only [List.nil_append, rawInt, codeAmong] at e
    split at e
    · exact (Option.some.inj e).symm
    · cases e
  | case2 a' t b' u x rest ih =>
    simp only [List.cons_append, codeAmong] at e ⊢
    split at e
    · rename_i q
      left
      rw [if_pos q]; exact e
    · rename_i q
      rw [if_neg q]
      exact ih h e
  | case3 l h1 h2 => exact h.elim
/-- the tables that nm names: their level and the name of their code objects -/
def TInv (nm : Addr → Option (Nat × Str)) (H : Hp) : Prop := ∀ P n q, nm P = some (n, q) → ∃ ps : Array Value, H P = some (.tbl ps) ∧ TriplesOk ps.toList ∧ ∀ (pos : Pos) (cv : Value), codeAmong pos ps.toList = some cv →
  ∃ c P', cv = .ref c ∧ CodeAt H c P' q ∧ ∀ m, n = m + 1 → nm P' = some (m, q ++ ".<locals>." ++ "<lambda>")
theorem tabT_of {nm : Addr → Option (Nat × Str)} {H : Hp} (h : TInv nm H) : ∀ {n : Nat} {P : Addr} {q : Str}, nm P = some (n, q) → TabT H n P q
  | 0, P, q, e => by
    obtain ⟨ps, h1, h2, h3⟩ := h P 0 q e
    exact ⟨ps, h1, h2, fun pos cv k => by obtain ⟨c, P', a, b, _⟩ := h3 pos cv k; exact ⟨c, P', a, b⟩⟩
  | n + 1, P, q, e => by
    obtain ⟨ps, h1, h2, h3⟩ := h P (n + 1) q e
    refine ⟨ps, h1, h2, fun pos cv k => ?_⟩
    obtain ⟨c, P', a, b, d⟩ := h3 pos cv k
    have d := d n rfl
    refine ⟨c, P', a, b, fun z => ?_, tabT_of h d⟩
    rw [z, e] at d
    have := (Prod.mk.inj (Option.some.inj d)).1
    omega
theorem codeAt_tab {Pg : Program} {w : World} {H : Hp} {h : Heap} (ok : HOk Pg w H h) {c P P' : Addr} {q q' : Str} (h1 : CodeAt H c P q) (h2 : CodeAt H c P' q') : P = P' := by
  obtain ⟨o1, e1, f1⟩ := h1
  obtain ⟨o2, e2, f2⟩ := h2
  rw [e1] at e2
  have e2 := Option.some.inj e2
  cases e2
  have g := (ok c _ e1).1
  obtain ⟨⟨o, vs, _, _, _, _, _, _, _, a1, _, a2, a3, _⟩, _⟩ := f1 h g
  obtain ⟨⟨o', vs', _, _, _, _, _, _, _, b1, _, b2, b3, _⟩, _⟩ := f2 h g
  rw [a1] at b1; cases b1
  rw [a2] at b2; cases b2
  rw [a3] at b3; cases b3
  rfl
theorem CodeAt.kp {H H1 : Hp} {c P : Addr} {q : Str} (h : CodeAt H c P q) (k : ∀ o, H c = some (Std o) → H1 c = some (Std o)) : CodeAt H1 c P q := by
  obtain ⟨o, e, f⟩ := h
  exact ⟨o, k o e, f⟩
/-- the names with the new table -/
def nmx (nm : Addr → Option (Nat × Str)) (P' : Addr) (n : Nat) (q : Str) (b : Addr) : Option (Nat × Str) := if b = P' then (match n with | 0 => none | m + 1 => some (m, q ++ ".<locals>." ++ "<lambda>")) else nm b
theorem nmx_ne {nm : Addr → Option (Nat × Str)} {P' : Addr} {n : Nat} {q : Str} {b : Addr} (h : b ≠ P') : nmx nm P' n q b = nm b := if_neg h
theorem nmx_eq {nm : Addr → Option (Nat × Str)} {P' : Addr} {m : Nat} {q : Str} : nmx nm P' (m + 1) q P' = some (m, q ++ ".<locals>." ++ "<lambda>") := if_pos rfl
/-- a lambda made from a named table: the names grow, the tables stand -/
theorem tinv_lam {Pg : Program} {w : World} {h : Heap} {nm : Addr → Option (Nat × Str)} {H H1 : Hp} {P f c P' : Addr} {pos : Pos} {n : Nat} {q : Str} {lam : Addr → Obj → Prop} (ok : HOk Pg w H h) (T : TInv nm H) (hP : nm P = some (n, q)) (L : LamLeft P pos q lam H f c P' H1) :
    ∃ nm', TInv nm' H1 ∧ (∀ b x, nm b = some x → nm' b = some x) ∧ (∀ m, n = m + 1 → nm' P' = some (m, q ++ ".<locals>." ++ "<lambda>")) ∧ CodeAt H1 c P' q ∧ Kp [] H H1 ∧ H f = none ∧ ∃ ol, H1 f = some (Std ol) ∧ lam c ol := by
  cases L with
  | @old ps ol hp hc hca hf hl =>
    have e := Ex.new (o := Std ol) hf
    refine ⟨nm, fun P2 n2 q2 e2 => ?_, fun _ _ x => x, fun m hm => ?_, hca.kp fun o ho => e _ _ ho, Kp.of_ex e, hf, ol, upd_same, hl⟩
    · obtain ⟨ps2, h1, h2, h3⟩ := T P2 n2 q2 e2
      refine ⟨ps2, e _ _ h1, h2, fun pos2 cv k => ?_⟩
      obtain ⟨c2, P2', a, b, d⟩ := h3 pos2 cv k
      exact ⟨c2, P2', a, b.kp fun o ho => e _ _ ho, d⟩
    · obtain ⟨ps2, h1, h2, h3⟩ := T P n q hP
      rw [hp] at h1
      have h1 := Option.some.inj h1
      cases h1
      obtain ⟨c2, P2, a, b, d⟩ := h3 pos _ hc
      cases a
      rw [codeAt_tab ok hca b]
      exact d m hm
  | @new ps oc ol hp ht hc hnc hnP hnf ncP nfc nfP hcf hl =>
    have ncp : c ≠ P := fun z => by rw [z, hp] at hnc; cases hnc
    have nPp : P' ≠ P := fun z => by rw [z, hp] at hnP; cases hnP
    have nfp : f ≠ P := fun z => by rw [z, hp] at hnf; cases hnf
    have kept : ∀ b o, b ≠ P → H b = some o → (upd (upd (upd (upd H P (.tbl (ps ++ #[rawInt pos.line, rawInt pos.col, .ref c]))) c (Std oc)) P' (.tbl #[])) f (Std ol)) b = some o := fun b o hb ho => by
      rw [upd_ne (fun z => by rw [z, hnf] at ho; cases ho), upd_ne (fun z => by rw [z, hnP] at ho; cases ho), upd_ne (fun z => by rw [z, hnc] at ho; cases ho), upd_ne hb]
      exact ho
    have atP : (upd (upd (upd (upd H P (.tbl (ps ++ #[rawInt pos.line, rawInt pos.col, .ref c]))) c (Std oc)) P' (.tbl #[])) f (Std ol)) P = some (.tbl (ps ++ #[rawInt pos.line, rawInt pos.col, .ref c])) := by
      rw [upd_ne nfp.symm, upd_ne nPp.symm, upd_ne ncp.symm, upd_same]
    have atP' : (upd (upd (upd (upd H P (.tbl (ps ++ #[rawInt pos.line, rawInt pos.col, .ref c]))) c (Std oc)) P' (.tbl #[])) f (Std ol)) P' = some (.tbl #[]) := by
      rw [upd_ne nfP.symm, upd_same]
    have atC : CodeAt (upd (upd (upd (upd H P (.tbl (ps ++ #[rawInt pos.line, rawInt pos.col, .ref c]))) c (Std oc)) P' (.tbl #[])) f (Std ol)) c P' q := ⟨oc, by rw [upd_ne nfc.symm, upd_ne ncP, upd_same], hcf⟩
    have stdk : ∀ {c2 P2 q2}, CodeAt H c2 P2 q2 → CodeAt (upd (upd (upd (upd H P (.tbl (ps ++ #[rawInt pos.line, rawInt pos.col, .ref c]))) c (Std oc)) P' (.tbl #[])) f (Std ol)) c2 P2 q2 := fun {c2 P2 q2} b => b.kp fun o ho => kept _ _ (fun z => by rw [z, hp] at ho; cases ho) ho
    have nmP' : nm P' = none := by
      cases z : nm P' with
      | none => rfl
      | some x => obtain ⟨ps2, h1, _⟩ := T P' x.1 x.2 z; rw [hnP] at h1; cases h1
    refine ⟨nmx nm P' n q, fun P2 n2 q2 e2 => ?_, fun b x hx => ?_, fun m hm => ?_, atC, fun b o _ ht2 ho => kept b o (fun z => ht2 ps (by rw [z, hp] at ho; exact (Option.some.inj ho).symm)) ho, hnf, ol, upd_same, hl⟩
    · have up : ∀ {b x}, nm b = some x → nmx nm P' n q b = some x := fun {b x} hb => by
        rw [nmx_ne (fun z => by rw [z, nmP'] at hb; cases hb)]; exact hb
      by_cases h1 : P2 = P'
      · subst h1
        exact ⟨#[], atP', trivial, fun pos2 cv k => by cases k⟩
      · have e2 : nm P2 = some (n2, q2) := by rw [nmx_ne h1] at e2; exact e2
        obtain ⟨ps2, g1, g2, g3⟩ := T P2 n2 q2 e2
        by_cases h2 : P2 = P
        · rw [h2] at g1 e2 ⊢
          rw [hp] at g1
          have g1 := Option.some.inj g1
          cases g1
          rw [hP] at e2
          cases e2
          refine ⟨_, atP, by rw [Array.toList_append]; exact TriplesOk_snoc _ _ _ _ ht, fun pos2 cv k => ?_⟩
          rw [Array.toList_append] at k
          rcases among_snoc _ ht k with k | rfl
          · obtain ⟨c2, P2', a, b, d⟩ := g3 pos2 cv k
            exact ⟨c2, P2', a, stdk b, fun m hm => up (d m hm)⟩
          · exact ⟨c, P', rfl, atC, fun m hm => by subst hm; exact nmx_eq⟩
        · refine ⟨ps2, kept _ _ h2 g1, g2, fun pos2 cv k => ?_⟩
          obtain ⟨c2, P2', a, b, d⟩ := g3 pos2 cv k
          exact ⟨c2, P2', a, stdk b, fun m hm => up (d m hm)⟩
    · rw [nmx_ne (fun z => by rw [z, nmP'] at hx; cases hx)]; exact hx
    · subst hm
      exact nmx_eq
/-- the tables tb, of their levels and names, stand -/
def TTs (tb : List (Addr × Nat × Str)) (H : Hp) : Prop := ∃ nm, TInv nm H ∧ ∀ t ∈ tb, nm t.1 = some t.2
/-- what keeps all tables, and all that is never written -/
theorem TInv.but {nm : Addr → Option (Nat × Str)} {S : List Addr} {H H1 : Hp} (T : TInv nm H) (k : But S H H1) (n : ∀ b ∈ S, (∀ ps, H b ≠ some (.tbl ps)) ∧ ∀ o, H b ≠ some (Std o)) : TInv nm H1 := fun P m q e => by
  obtain ⟨ps, h1, h2, h3⟩ := T P m q e
  refine ⟨ps, k _ _ (fun z => (n P z).1 ps h1) h1, h2, fun pos cv hc => ?_⟩
  obtain ⟨c, P', a, b, d⟩ := h3 pos cv hc
  exact ⟨c, P', a, b.kp fun o ho => k _ _ (fun z => (n c z).2 o ho) ho, d⟩
theorem TTs.but {tb : List (Addr × Nat × Str)} {S : List Addr} {H H1 : Hp} (T : TTs tb H) (k : But S H H1) (n : ∀ b ∈ S, (∀ ps, H b ≠ some (.tbl ps)) ∧ ∀ o, H b ≠ some (Std o)) : TTs tb H1 := by
  obtain ⟨nm, t, a⟩ := T
  exact ⟨nm, t.but k n, a⟩
theorem TTs.ex {tb : List (Addr × Nat × Str)} {H H1 : Hp} (T : TTs tb H) (e : Ex H H1) : TTs tb H1 := T.but (S := []) (But.of_ex e) fun b hb => nomatch hb
/-! ### a lambda made from a named table -/
section
variable {X : Cx} {params : Arguments} {body : Expr} {scope : Scope} {pos p : Pos}
/-- lambda ..: body made from the table P that tb names -/
def tLamR (tb : List (Addr × Nat × Str)) (n : Nat) (P : Addr) (q : Str) (params : Arguments) (body : Expr) (scope : Scope) (cl : List (Str × Addr)) : TE := fun _ H Q =>
  TTs tb H ∧ (P, n, q) ∈ tb ∧ ∀ (f c P' : Addr) (H1 : Hp), H f = none → CodeAt H1 c P' q → Kp [] H H1 → (∃ pm ctv, H1 f = some (Std (lamObj q params body scope cl c pm ctv))) → TTs tb H1 → (∀ m, n = m + 1 → TTs ((P', m, q ++ ".<locals>." ++ "<lambda>") :: tb) H1) → Q (.ref f) H1
theorem lamR_go {pins : List (Addr × Obj)} {σ : L2.St} {H H1 : Hp} {s : Shared} {tb : List (Addr × Nat × Str)} {n : Nat} {P f c P' : Addr} {q : Str} {cl : List (Str × Addr)} {Q : V → Hp → Prop} (I : Inv X pins σ H s) (h : tLamR tb n P q params body scope cl σ H Q)
    (L : LamLeft P pos q (fun c ol => ∃ pm ctv, ol = lamObj q params body scope cl c pm ctv) H f c P' H1) : Q (.ref f) H1 := by
  obtain ⟨⟨nm, T, a⟩, m, g⟩ := h
  obtain ⟨nm', T', up, new, hc, kp, hf, ol, hol, pm, ctv, rfl⟩ := tinv_lam I.hok T (a _ m) L
  exact g f c P' H1 hf hc kp ⟨pm, ctv, hol⟩ ⟨nm', T', fun t ht => up _ _ (a t ht)⟩ fun m hm => ⟨nm', T', fun t ht => by
    rcases List.mem_cons.mp ht with rfl | ht
    · exact new m hm
    · exact up _ _ (a t ht)⟩
theorem tLamR_tab {σ : L2.St} {H : Hp} {tb : List (Addr × Nat × Str)} {n : Nat} {P : Addr} {q : Str} {cl : List (Str × Addr)} {Q : V → Hp → Prop} (h : tLamR tb n P q params body scope cl σ H Q) : TabT H n P q := by
  obtain ⟨⟨nm, T, a⟩, m, _⟩ := h
  exact tabT_of T (a _ m)
theorem pe_lamR {tb : List (Addr × Nat × Str)} {n : Nat} {c₀ P : Addr} (TB : LamX.TabB X.base X.mg c₀ P) (hcode : X.env.code = .ref c₀) (hdef : defaultsOf params X.env = ([], [])) (hfree : X.Ok → ∀ y ∈ scope.names, y.2 = .free → ∃ c, X.env.cells.lookup y.1 = some c) :
    PE X (.Lambda params body scope pos) (tLamR tb n P (X.env.qual ++ "<lambda>") params body scope (closX X scope)) := by
  refine ⟨fun pins s σ H Q I h => ?_⟩
  exact lam_make3 I (TB.code.keeps I.bk) (TB.bm.keeps I.bk) TB.gP hcode (tLamR_tab h) hdef (hfree I.ok) fun f c P' H1 s' I1 l _ => ⟨.ref f, H1, I1, rfl, lamR_go I h l⟩
theorem pe_lamR1 {tb : List (Addr × Nat × Str)} {n : Nat} {c₁ P₁ c₀ P : Addr} {q₀ : Str} (TB : LamX.TabB X.base X.mg c₁ P₁) (hcode : X.env.code = .ref c₀) (hdef : defaultsOf params X.env = ([], [])) (hfree : X.Ok → ∀ y ∈ scope.names, y.2 = .free → ∃ c, X.env.cells.lookup y.1 = some c) :
    PE X (.Lambda params body scope pos) (fun σ H Q => CodeAt H c₀ P q₀ ∧ tLamR tb n P (X.env.qual ++ "<lambda>") params body scope (closX X scope) σ H Q) := by
  refine ⟨fun pins s σ H Q I ⟨⟨oc, hoc, cf⟩, h⟩ => ?_⟩
  have tT := tLamR_tab h
  have tP : ∃ ps, H P = some (.tbl ps) := by
    cases n with
    | zero => exact ⟨_, tT.choose_spec.1⟩
    | succ n => exact ⟨_, tT.choose_spec.1⟩
  obtain ⟨ps, hP⟩ := tP
  have far : ∀ b o, X.base.get? b = some o → b ≠ P := fun b o e z => by
    have q := (I.bs b o e).2
    rw [z, hP] at q
    cases q
  have bP : s.heap.BuiltinsAt X.mg P := by
    obtain ⟨bm, ob, hbm, hne0, h3, hneP, hbo, r⟩ := TB.bm
    exact ⟨bm, ob, hbm, hne0, h3, far _ _ hbo, I.bk _ _ hbo, r⟩
  have gP : mainGlobals ≠ P := by
    obtain ⟨o, _, _, e, _⟩ := I.mod.glob
    exact far _ _ e
  exact lam_make3 I (cf _ (I.hok c₀ _ hoc).1).1 bP gP hcode tT hdef (hfree I.ok) fun f c P' H1 s' I1 l _ => ⟨.ref f, H1, I1, rfl, lamR_go I h l⟩
end
end K95
/-! KL: closures: what a lambda's value promises, a def called with one. -/
namespace K95
open PySem PySem.Spec PySem.Calls PySem.W PyProof.Rows L2 Evl
section
variable {Pg : Program} {w : World} {K : PySem.W.Frag} {mg : Str → Option Value} {base : Heap} {A : Around} {outer : List Env} {s s' : Shared} {H H' H1 : Hp} {cl : List (Str × Addr)}
/-- none of the cells is known -/
def NoC (H : Hp) (cl : List (Str × Addr)) : Prop := ∀ b ∈ adr cl, H b = none
theorem cr_show2 {Q : VK} {E : XK} {r : Result} (e : Env0 Pg w K mg base A outer s H) (t : StdAll H cl)
    (h : CR (L2.CX Pg w) outer Pg w (hideC H cl) s (fun v H' => NoC H' cl → Q v (showC H H' cl)) (fun c d H' => NoC H' cl → E c d (showC H H' cl)) r s') : CR (L2.CX Pg w) outer Pg w H s Q E r s' := by
  refine cr_show e t ?_
  have g : ∀ b ∈ adr cl, ∃ o, s.heap.get? b = some o := fun b hb => by
    obtain ⟨o, q⟩ := t b hb
    exact ⟨o, (e.hok b _ q).1⟩
  cases r with
  | error x =>
    obtain ⟨a, B, H', cls, d, rfl, fl, hok, ub, na, os, ag, hE⟩ := h
    refine ⟨a, B, H', cls, d, rfl, fl, hok, ub, na, os, ag, ?_⟩
    exact hE fun b hb => by
      obtain ⟨o, g⟩ := g b hb
      exact ub.free b o g (hideC_in hb)
  | ok f =>
    cases f with
    | ret u =>
      obtain ⟨v, H', os, ag, un, hok, rv, q⟩ := h
      exact ⟨v, H', os, ag, un, hok, rv, q fun b hb => by
        obtain ⟨o, g⟩ := g b hb
        exact un.free b o g (hideC_in hb) (fun z => nomatch z)⟩
    | next => exact h
    | brk => exact h
    | cont => exact h
theorem cr_hide2 {Q : VK} {E : XK} {r : Result} (a : AddC H cl H1) (e1 : Env0 Pg w K mg base A outer s H1)
    (h : CR (L2.CX Pg w) outer Pg w H1 s (fun v H' => StdAll H' cl → Q v (hideC H' cl)) (fun c d H' => StdAll H' cl → E c d (hideC H' cl)) r s') : CR (L2.CX Pg w) outer Pg w H s Q E r s' := by
  refine cr_hide a e1 ?_
  have std_ : ∀ (H' : Hp), (∀ b o u, H1 b = some (.frz o u) → H' b = some (.frz o u)) → StdAll H' cl := fun H' f b hb => by
    obtain ⟨o, z⟩ := a.inn b hb
    exact ⟨o, f b o _ z⟩
  cases r with
  | error x =>
    obtain ⟨ad, B, H', cls, d, rfl, fl, hok, ub, na, os, ag, hE⟩ := h
    exact ⟨ad, B, H', cls, d, rfl, fl, hok, ub, na, os, ag, hE (std_ H' ub.frzs)⟩
  | ok f =>
    cases f with
    | ret u =>
      obtain ⟨v, H', os, ag, un, hok, rv, q⟩ := h
      exact ⟨v, H', os, ag, un, hok, rv, q (std_ H' un.frzs)⟩
    | next => exact h
    | brk => exact h
    | cont => exact h
variable {q : Str} {params : Arguments} {body : Expr} {scope : Scope} {f c P' : Addr} {N ps : List Str} {vs : List V} {us : List Value} {σ : L2.St}
theorem lam_run2 {k : Nat} {Q : VK} {E : XK} (S : LamSc scope N ps) (C : Clos cl scope) (hb : ∀ (pm ctv : Value) (us : List Value), us.length = ps.length → bindArgs (PySem.W.kla_fn "<lambda>" q params body scope cl pm (.ref c) ctv) ⟨us, []⟩ = pure (ps.zip us))
    (hr : Room (k + 1) A) (e0 : Env0 Pg w K mg base A outer s H) (hl : LamAt H f q params body scope cl c) (hc : CodeAt H c P' q) (ho : CellsOk H cl) (r : Vals vs us) (hn : vs.length = ps.length) (hσ : LamSt H scope cl N ps vs σ)
    (hbody : Room k (A.deeper (PySem.W.envX q scope s.heap.objs.size f (.ref c) cl)) → wE (lamX Pg w K mg base N q scope f c cl A outer s (hideC H cl) (fun c d H' => NoC H' cl → E c d (showC H H' cl))) body σ (hideC H cl) (fun v H' => NoC H' cl → Q v (showC H H' cl))) :
    codeAny (model Pg w) A (.call (.ref f) ⟨us, []⟩) (CR (L2.CX Pg w) outer Pg w H s Q E) s := by
  refine codeAny_mono ?_ fun r s' h => cr_show2 e0 ho.std h
  obtain ⟨pm, ctv, hf⟩ := hl
  obtain ⟨oc, hoc, cf⟩ := hc
  have gf := (e0.hok f _ hf).1
  have gc := (e0.hok c _ hoc).1
  have lim : s.heap.NoLimit := e0.mod.nolimit.keeps fun b o e => (e0.bs b o e).1
  refine PySem.W.kla_callFunE hr.depth gf rfl S.co S.gen rfl (cf _ gc).2 ?_
  rw [hb pm ctv us (by rw [← hn, r.length])]
  refine wpAny_pure (wpAny_newFunctionEnv S.nocell (fun y hy => S.par _ (List.of_mem_zip hy).1) (fun h₁ hns hsb => ⟨lim.fresh _ hsb, ?_⟩) S.kind)
  show codeAny _ _ (.expr body (PySem.W.envX q scope s.heap.objs.size f (.ref c) cl)) _ _
  have kp : ∀ b o, s.heap.get? b = some o → h₁.get? b = some o := fun b o e => hsb.extBut b o (Nat.ne_of_lt (Heap.lt_size e)) (Heap.get?_push_of_some _ e)
  have J := lam_start (q := q) (f := f) (c := c) (tk := s.toks + (ps.zip us).length) (E := fun c d H' => NoC H' cl → E c d (showC H H' cl)) S C e0 hr.hd ho r hn hσ hns kp
  refine PySem.W.kla_codeExpr (wpAny_mono (hbody (hr.deeper _) [] _ J) (fun v s' hq => ?_) fun e s' hq => hq)
  obtain ⟨v', H', J', rv, q'⟩ := hq
  exact ⟨v', H', J'.os, J'.bare, J'.base, J'.hok, rv, q'⟩
end
section
variable {P : Program} {w : World} {K : Frag} {mg : Str → Option Value} {base : Heap} {cl : List (Str × Addr)} {q : Str} {params : Arguments} {body : Expr} {scope : Scope} {f c P' : Addr} {N ps : List Str} {k : Nat} {sp : Sp} {Φ : Hp → Prop}
/-- what a lambda's value promises -/
theorem cl_of (S : LamSc scope N ps) (C : Clos cl scope) (hb : ∀ (pm ctv : Value) (us : List Value), us.length = ps.length → bindArgs (PySem.W.kla_fn "<lambda>" q params body scope cl pm (.ref c) ctv) ⟨us, []⟩ = pure (ps.zip us))
    (hΦ : ∀ H, Φ H → LamAt H f q params body scope cl c ∧ CodeAt H c P' q ∧ CellsOk H cl)
    (h : ∀ (A : Around) (outer : List Env) (s : Shared) (H : Hp) (vs : List V) (Q : VK) (E : XK), Room k (lamX P w K mg base N q scope f c cl A outer s (hideC H cl) (fun c d H' => NoC H' cl → E c d (showC H H' cl))).A → (lamX P w K mg base N q scope f c cl A outer s (hideC H cl) (fun c d H' => NoC H' cl → E c d (showC H H' cl))).A.guards = some [] →
      Env0 P w K mg base A outer s H → Φ H → vs.length = ps.length → sp vs H Q E → ∃ σ, LamSt H scope cl N ps vs σ ∧ wE (lamX P w K mg base N q scope f c cl A outer s (hideC H cl) (fun c d H' => NoC H' cl → E c d (showC H H' cl))) body σ (hideC H cl) (fun v H' => NoC H' cl → Q v (showC H H' cl))) :
    ClOk P w K mg base (k + 1) f ps.length sp Φ := fun A outer s H us vs Q E hr hgd e0 φ hn r hs => by
  obtain ⟨h1, h2, h3⟩ := hΦ H φ
  have h4 := fun hr' => h A outer s H vs Q E hr' hgd e0 φ hn hs
  have hr' : Room k (lamX P w K mg base N q scope f c cl A outer s (hideC H cl) (fun c d H' => NoC H' cl → E c d (showC H H' cl))).A := hr.deeper _
  obtain ⟨σ, hσ, hw⟩ := h4 hr'
  exact lam_run2 S C hb hr e0 h1 h2 h3 r hn hσ fun _ => hw
end
section
variable {X : Cx} {k : Nat} {f : Addr} {fd : FuncData} {n : Str} {ps : List Str} {sp : Sp} {x : Str} {p pos : Pos} {e : Expr} {es : List Expr} {t : TA} {W : WX} {cl : List (Str × Addr)} {σ : L2.St} {H : Hp} {Q : VK}
/-- a def called with cells caught -/
theorem wE_callT (G : OwnG X.prog X.w X.K X.mg X.base k n ps sp) (hr : Room k X.A) (hgd : X.A.guards = some []) (tk : Takes X W) (hcl : OwnCells X cl)
    (h : wA X (e :: es) σ H fun vs H1 => ∀ H2, AddC H1 cl H2 → CellsOk H2 cl → Caught X σ cl H2 → sp vs H2 (fun v H3 => StdAll H3 cl → Q v (hideC H3 cl)) (fun c d H3 => StdAll H3 cl → W c d σ (hideC H3 cl)))
    (hg : Gl X n := by rfl) (hdb : (n == ("__debug__" : Str)) = false := by decide) (he : starEach (e :: es) X.env = (false, eval e X.env) :: starEach es X.env := by rfl) (hpl : (backTo pos (starEach es X.env)).any (·.1) = false := by rfl) :
    wE X (.Call (.Name n p) (e :: es) [] pos) σ H Q := by
  obtain ⟨f, fd, F, hm, hk, hb⟩ := G.own
  intro pins s I
  refine wpAny_Call_Name_kw (ld_glob I hg hm ?_ hdb)
  refine PySem.W.callWith_K (h₀ := X.base) I.ok.mod.kin hk (thn (h pos pins s I) fun us s1 ⟨vs, H1, I1, r, q⟩ => ⟨I1.kIn, ?_⟩) he hpl
  have cells := hcl pins σ H1 s1 I1
  have at_ : ∀ b ∈ adr cl, ∃ y, (y, b) ∈ cl := fun b hb => by
    obtain ⟨⟨y, c⟩, h1, rfl⟩ := List.mem_map.mp hb
    exact ⟨y, h1⟩
  have obj : ∀ b ∈ adr cl, ∃ o v, s1.heap.get? b = some o ∧ o.data = .cell v := fun b hb => by
    obtain ⟨y, hy⟩ := at_ b hb
    obtain ⟨v, o, e1, e2⟩ := I1.cell y b (cells _ hy).1
    exact ⟨o, v, e1, e2⟩
  have A2 : AddC H1 cl (fun b => if b ∈ adr cl then (s1.heap.get? b).map Std else H1 b) := ⟨fun b hb => if_neg hb, fun b hb => by
    obtain ⟨o, v, e1, _⟩ := obj b hb
    exact ⟨o, by show (if b ∈ adr cl then _ else _) = _; rw [if_pos hb, e1]; rfl⟩, fun b hb => by
    obtain ⟨y, hy⟩ := at_ b hb
    exact I1.freeC y b (cells _ hy).1⟩
  have in_ : ∀ b ∈ adr cl, (fun b => if b ∈ adr cl then (s1.heap.get? b).map Std else H1 b) b = (s1.heap.get? b).map Std := fun b hb => if_pos hb
  generalize hH2 : (fun b => if b ∈ adr cl then (s1.heap.get? b).map Std else H1 b) = H2 at A2 in_
  have E2 : Env0 X.prog X.w X.K X.mg X.base X.A X.stack s1 H2 := addC_env0 A2 I1.env0 (fun b hb o z => by
    obtain ⟨o', v, e1, _⟩ := obj b hb
    have e2 := in_ b hb
    rw [z, e1] at e2
    have e3 : Std o = Std o' := Option.some.inj e2
    cases e3
    exact e1) (fun b hb => by
    obtain ⟨y, hy⟩ := at_ b hb
    exact (cells _ hy).2.1) fun b hb => by
    obtain ⟨y, hy⟩ := at_ b hb
    exact (cells _ hy).2.2
  have q2 := q H2 A2 (fun b hb => by
    obtain ⟨o, v, e1, e2⟩ := obj b hb
    exact ⟨o, v, by rw [in_ b hb, e1]; rfl, e2⟩) (fun i y v c h1 h2 h3 h4 h5 => by
    obtain ⟨m, _, hl⟩ := I1.loc
    obtain ⟨u, ru, lk⟩ := hl i y v h1 h2 h4
    have hc := (cells _ (PySem.mem_of_lookup h3)).1
    rcases lk with ⟨z, _⟩ | ⟨_, c', e1, o, e2, e3⟩
    · exact absurd z h5
    · rw [hc] at e1
      cases e1
      refine ⟨o, u, ?_, e3, ru⟩
      rw [in_ _ (List.mem_map.mpr ⟨_, PySem.mem_of_lookup h3, rfl⟩), e2]
      rfl)
  have hl := F.len _ _ _ _ q2
  have rc : codeAny (model X.prog X.w) X.A (.call (.ref f) ⟨us, []⟩) (CR (L2.CX X.prog X.w) X.stack X.prog X.w H1 s1 Q (fun c d H' => W c d σ H')) s1 := by
    refine codeAny_mono (F.run X.A X.stack s1 H2 ⟨us, []⟩ us vs _ _ hr hgd E2 ?_ r q2) fun r s' h' => cr_hide2 A2 E2 h'
    have e0 := hb s1 us I1.kIn (by rw [List.append_nil, ← r.length]; exact hl)
    rw [List.append_nil] at e0
    exact e0
  refine wpAny_call (codeAny_mono rc fun r s' hq => ?_)
  cases r with
  | error e => exact tk e s' (XE.of_call I1 (fun _ _ _ h => h) hq)
  | ok fl =>
    cases fl with
    | ret u => exact I1.after hq
    | next => exact False.elim hq
    | brk => exact False.elim hq
    | cont => exact False.elim hq
end
/-! ### heaps with the cells, and without them -/
section
variable {S : List Addr} {H H1 H2 H3 H' : Hp} {cl : List (Str × Addr)} {K : Frag}
theorem AddC.ex (a : AddC H cl H1) : Ex H H1 := fun b o h => by
  rw [a.out b fun z => by rw [a.new b z] at h; cases h]; exact h
/-- from a ground without the cells -/
theorem ex_hideR (n : NoC H cl) (e : Ex H H') : Ex H (hideC H' cl) := fun b o h => by
  rw [hideC_out fun z => by rw [n b z] at h; cases h]; exact e _ _ h
theorem but_hideR (n : NoC H cl) (e : But S H H') : But S H (hideC H' cl) := fun b o hb h => by
  rw [hideC_out fun z => by rw [n b z] at h; cases h]; exact e _ _ hb h
theorem kp_hideR (n : NoC H cl) (e : Kp S H H') : Kp S H (hideC H' cl) := fun b o hb ht h => by
  rw [hideC_out fun z => by rw [n b z] at h; cases h]; exact e _ _ hb ht h
theorem ex_show (n : NoC H' cl) : Ex H' (showC H H' cl) := fun b o h => by
  rw [showC_out fun z => by rw [n b z] at h; cases h]; exact h
theorem but_show (n : But S (hideC H cl) H') : But S H (showC H H' cl) := fun b o hb h => by
  by_cases z : b ∈ adr cl
  · rw [showC_in z]; exact h
  · rw [showC_out z]; exact n _ _ hb (by rw [hideC_out z]; exact h)
theorem kp_show (n : Kp S (hideC H cl) H') : Kp S H (showC H H' cl) := fun b o hb ht h => by
  by_cases z : b ∈ adr cl
  · rw [showC_in z]; exact h
  · rw [showC_out z]; exact n _ _ hb ht (by rw [hideC_out z]; exact h)
theorem noC_hide : NoC (hideC H cl) cl := fun b hb => hideC_in hb
theorem rd_hide {a : Addr} {u : HO} (t : StdAll H cl) (h : Rd H a u) (n : ∀ o, u ≠ Std o) (n2 : u ≠ .own 0) : Rd (hideC H cl) a u := by
  rcases h with h | ⟨o, h⟩
  · exact .inl (hideC_of t h n)
  · exact .inr ⟨o, hideC_of t h fun o' z => n2 (HO.frz.inj z).2⟩
/-- data without the cells -/
theorem Hd.hide {α : Type} [DecidableEq α] [Datum α] {v : V} {x : α} (t : StdAll H cl) (h : Hd K H v x) : Hd K (hideC H cl) v x := dp_keep (fun _ _ h => by
    rcases h with h | h
    · exact .inl (rd_hide t h (fun o z => by cases z) fun z => by cases z)
    · exact .inr h) (fun _ _ h => by
    rcases h with h | h
    · exact .inl (rd_hide t h (fun o z => by cases z) fun z => by cases z)
    · exact .inr h) _ _ h
end
section
variable {H : Hp} {cl : List (Str × Addr)} {K : Frag} {C CT sa ta : Addr} {F : Fld} {S : St2}
theorem SheetAt.hide (t : StdAll H cl) (h : SheetAt K H C sa F S) : SheetAt K (hideC H cl) C sa F S := by
  obtain ⟨dx, vF, vN, vP, vL, h1, h2, h3, h4, h5⟩ := h.ex
  exact ⟨⟨dx, vF, vN, vP, vL, hideC_of t h1 (fun o z => by cases z), h2.hide t, h3.hide t, h4.hide t, h5.hide t⟩⟩
theorem TrialAt.hide (t : StdAll H cl) (h : TrialAt K H CT ta sa S) : TrialAt K (hideC H cl) CT ta sa S := by
  obtain ⟨dx, vN, vP, vL, h1, h3, h4, h5⟩ := h.ex
  exact ⟨⟨dx, vN, vP, vL, hideC_of t h1 (fun o z => by cases z), h3.hide t, h4.hide t, h5.hide t⟩⟩
end
end K95
/-! L5x: the law's world of m, a sheet, its own dict; one step. -/
namespace K95
open PySem PySem.Spec PySem.Calls PySem.W PyProof.Rows L2 Evl
section
variable {K : Frag} {C sa ao : Addr} {tb : List (Addr × Nat × Str)} {H0 H H1 : Hp} {mp : Mp} {r r' : Nat} {F : Fld} {S Z S' Z' : St2} {T : List Addr}
/-- m, the sheet in state S, own in state Z, the tables; all else is as in H0 -/
structure Al (K : Frag) (C : Addr) (tb : List (Addr × Nat × Str)) (H0 H : Hp) (mp : Mp) (r : Nat) (sa ao : Addr) (F : Fld) (S Z : St2) : Prop where
  ms : MS K H mp r
  sh : SheetAt K H C sa F S
  ow : OwnAt K H ao mp.gl F Z
  tt : TTs tb H
  fr : Kp [mp.am, mp.gl, sa, ao] H0 H
theorem Al.gk (a : Al K C tb H0 H mp r sa ao F S Z) : Gk H mp.gl := by
  obtain ⟨cs, gs, n, h1, h2, h3, h4, _⟩ := a.ms.ex
  obtain ⟨us, h, _⟩ := h4.at_
  exact ⟨us, h⟩
theorem Al.ex (a : Al K C tb H0 H mp r sa ao F S Z) (e : Ex H H1) : Al K C tb H0 H1 mp r sa ao F S Z := ⟨a.ms.ofEx e, a.sh.ofEx e, a.ow.ofEx e, a.tt.ex e, a.fr.trans (Kp.of_ex e)⟩
theorem Al.less (a : Al K C tb H0 H mp r sa ao F S Z) (h : r' ≤ r) : Al K C tb H0 H mp r' sa ao F S Z := ⟨a.ms.less h, a.sh, a.ow, a.tt, a.fr⟩
theorem Al.draw (a : Al K C tb H0 H mp r sa ao F S Z) (b : But [mp.am, mp.gl] H H1) (m : MS K H1 mp r') : Al K C tb H0 H1 mp r' sa ao F S Z := by
  have no := a.ms.no
  obtain ⟨cs, gs, n, h1, h2, h3, h4, h5⟩ := a.ms.ex
  obtain ⟨us, hgl, _⟩ := h4.at_
  obtain ⟨dx, vF, vN, vP, vL, s1, _⟩ := a.sh.ex
  obtain ⟨wF, wN, pa, la, o1, _⟩ := a.ow.ex
  have k := Kp.of_but b
  refine ⟨m, a.sh.kp k no ?_, a.ow.kp k no ?_ ?_, a.tt.but b ?_, a.fr.trans (k.mono fun b hb => ?_)⟩
  · intro z
    simp only [List.mem_cons, List.mem_nil_iff, or_false] at z
    rcases z with z | z
    · rw [z, h1] at s1; cases s1
    · rw [z, hgl] at s1; cases s1
  · intro z
    simp only [List.mem_cons, List.mem_nil_iff, or_false] at z
    rcases z with z | z
    · rw [z, h1] at o1
      have o1 := Option.some.inj o1
      injection o1 with o1
      injection o1 with o1 _
      injection o1 with o1 _
      exact absurd o1 (by decide)
    · rw [z, hgl] at o1; cases o1
  · intro b hb
    simp only [List.mem_cons, List.mem_nil_iff, or_false] at hb
    rcases hb with rfl | rfl
    · exact .inr fun us z => by rw [h1] at z; cases z
    · exact .inl rfl
  · intro b hb
    simp only [List.mem_cons, List.mem_nil_iff, or_false] at hb
    rcases hb with rfl | rfl
    · exact ⟨fun ps z => (by rw [h1] at z; cases z), fun o z => by rw [h1] at z; cases z⟩
    · exact ⟨fun ps z => (by rw [hgl] at z; cases z), fun o z => by rw [hgl] at z; cases z⟩
  · simp only [List.mem_cons, List.mem_nil_iff, or_false] at hb ⊢
    rcases hb with h | h
    · exact .inl h
    · exact .inr (.inl h)
theorem Al.sheet (a : Al K C tb H0 H mp r sa ao F S Z) (b : But [sa] H H1) (m : SheetAt K H1 C sa F S') : Al K C tb H0 H1 mp r sa ao F S' Z := by
  have no := a.sh.no
  obtain ⟨cs, gs, n, h1, h2, h3, h4, h5⟩ := a.ms.ex
  obtain ⟨us, hgl, _⟩ := h4.at_
  obtain ⟨us2, hcl, _⟩ := h2.at_
  obtain ⟨dx, vF, vN, vP, vL, s1, _⟩ := a.sh.ex
  obtain ⟨wF, wN, pa, la, o1, _⟩ := a.ow.ex
  have k := Kp.of_but b
  refine ⟨a.ms.kp k no ?_ ?_ ?_, m, a.ow.kp k no ?_ ?_, a.tt.but b ?_, a.fr.trans (k.mono fun b hb => ?_)⟩
  · intro z
    have z := List.mem_singleton.mp z
    rw [z, s1] at h1; cases h1
  · intro z
    have z := List.mem_singleton.mp z
    rw [z, s1] at hcl; cases hcl
  · intro z
    have z := List.mem_singleton.mp z
    rw [z, s1] at hgl; cases hgl
  · intro z
    have z := List.mem_singleton.mp z
    rw [z, s1] at o1; cases o1
  · intro b hb
    obtain rfl := List.mem_singleton.mp hb
    exact .inr fun us z => by rw [s1] at z; cases z
  · intro b hb
    obtain rfl := List.mem_singleton.mp hb
    exact ⟨fun ps z => (by rw [s1] at z; cases z), fun o z => by rw [s1] at z; cases z⟩
  · obtain rfl := List.mem_singleton.mp hb
    simp
theorem Al.own (a : Al K C tb H0 H mp r sa ao F S Z) (b : But [ao] H H1) (m : OwnAt K H1 ao mp.gl F Z') : Al K C tb H0 H1 mp r sa ao F S Z' := by
  have no := a.ow.no
  obtain ⟨cs, gs, n, h1, h2, h3, h4, h5⟩ := a.ms.ex
  obtain ⟨us, hgl, _⟩ := h4.at_
  obtain ⟨us2, hcl, _⟩ := h2.at_
  obtain ⟨dx, vF, vN, vP, vL, s1, _⟩ := a.sh.ex
  obtain ⟨wF, wN, pa, la, o1, _⟩ := a.ow.ex
  have k := Kp.of_but b
  refine ⟨a.ms.kp k no ?_ ?_ ?_, a.sh.kp k no ?_, m, a.tt.but b ?_, a.fr.trans (k.mono fun b hb => ?_)⟩
  · intro z
    have z := List.mem_singleton.mp z
    rw [z, o1] at h1
    have o1 := Option.some.inj h1
    injection o1 with o1
    injection o1 with o1 _
    injection o1 with o1 _
    exact absurd o1 (by decide)
  · intro z
    have z := List.mem_singleton.mp z
    rw [z, o1] at hcl; cases hcl
  · intro z
    have z := List.mem_singleton.mp z
    rw [z, o1] at hgl; cases hgl
  · intro z
    have z := List.mem_singleton.mp z
    rw [z, o1] at s1; cases s1
  · intro b hb
    obtain rfl := List.mem_singleton.mp hb
    exact ⟨fun ps z => (by rw [o1] at z; cases z), fun o z => by rw [o1] at z; cases z⟩
  · obtain rfl := List.mem_singleton.mp hb
    simp
end
end K95
namespace K95
open PySem PySem.Spec PySem.Calls PySem.W PyProof.Rows L2 Evl
section
variable {F : Fld} {B : Nat} {S : St2} {now : Now}
theorem kept_ok (h : StOk F B S) (n : NowOk F (B + 1) now) : StOk F (B + 1) (keptS S now) := ⟨n, fun x hx => by
  rcases List.mem_append.mp hx with hx | hx
  · exact (h.past x hx).mono (Nat.le_succ B)
  · rw [List.mem_singleton.mp hx]; exact h.now.mono (Nat.le_succ B), (fun x hx => nomatch hx), by
  show (S.past ++ [S.now]).length + 0 ≤ B + 1
  rw [List.length_append]
  have := h.lp
  simp only [List.length_cons, List.length_nil]; omega⟩
theorem do_ok (h : StOk F B S) {st : Step} (h1 : st.1 ∈ F.1.items) (h2 : st.2 ≠ 0) (h3 : -1000000000000000000000000000000 ≤ st.2 ∧ st.2 ≤ 1000000000000000000000000000000) : StOk F (B + 1) (doS S st) := by
  refine kept_ok h ?_
  have n := h.now
  have mem : ∀ q, q ∈ S.now.1.items ++ [(S.now.2, st)] → q ∈ S.now.1.items ∨ q = (S.now.2, st) := fun q hq => by
    rcases List.mem_append.mp hq with hq | hq
    · exact .inl hq
    · exact .inr (List.mem_singleton.mp hq)
  refine ⟨?_, ?_, ?_, ?_, ?_, ?_, ?_, ?_, ?_⟩
  · show (S.now.1.items ++ [(S.now.2, st)]).length ≤ B + 1
    rw [List.length_append]
    have := n.len
    simp only [List.length_cons, List.length_nil]; omega
  · have := n.fr0
    show 0 ≤ S.now.2 + 1
    omega
  · have := n.fr
    show S.now.2 + 1 ≤ ((B + 1 : Nat) : Int)
    omega
  · show ((S.now.1.items ++ [(S.now.2, st)]).map fun q => q.1).Pairwise (· < ·)
    rw [List.map_append, List.pairwise_append]
    refine ⟨n.inc, List.pairwise_singleton _ _, fun a ha b hb => ?_⟩
    obtain ⟨q, hq, rfl⟩ := List.mem_map.mp ha
    rw [List.mem_singleton.mp hb]
    exact n.hi q hq
  · intro q hq
    rcases mem q hq with hq | rfl
    · exact n.lo q hq
    · exact n.fr0
  · intro q hq
    show q.1 < S.now.2 + 1
    rcases mem q hq with hq | rfl
    · have := n.hi q hq
      omega
    · show S.now.2 < S.now.2 + 1
      omega
  · intro q hq
    rcases mem q hq with hq | rfl
    · exact n.nm q hq
    · exact h1
  · intro q hq
    rcases mem q hq with hq | rfl
    · exact n.nz q hq
    · exact h2
  · intro q hq
    rcases mem q hq with hq | rfl
    · exact n.sz q hq
    · exact h3
theorem filt_ok (h : StOk F B S) (p : Pr → Bool) : StOk F (B + 1) (keptS S (Tup.mk (S.now.1.items.filter p), S.now.2)) := by
  refine kept_ok h ?_
  have n := h.now
  refine ⟨Nat.le_trans (List.length_filter_le _ _) (Nat.le_succ_of_le n.len), n.fr0, by have := n.fr; show S.now.2 ≤ ((B + 1 : Nat) : Int); omega, ?_, fun q hq => n.lo q ((List.mem_filter.mp hq).1), fun q hq => n.hi q ((List.mem_filter.mp hq).1), fun q hq => n.nm q ((List.mem_filter.mp hq).1), fun q hq => n.nz q ((List.mem_filter.mp hq).1), fun q hq => n.sz q ((List.mem_filter.mp hq).1)⟩
  exact n.inc.sublist ((List.filter_sublist).map _)
theorem shift_ok (h : StOk F B S) {b : Bool} (c : canS b S = true) : StOk F B (shiftS b S) := by
  have last : ∀ (l : List Now), (∀ x ∈ l, NowOk F B x) → NowOk F B (l.getLast?.getD S.now) := fun l hl => by
    cases e : l.getLast? with
    | none => exact h.now
    | some x => exact hl x (List.mem_of_getLast? e)
  have more : ∀ (l : List Now), (∀ x ∈ l, NowOk F B x) → ∀ x ∈ l ++ [S.now], NowOk F B x := fun l hl x hx => by
    rcases List.mem_append.mp hx with hx | hx
    · exact hl x hx
    · rw [List.mem_singleton.mp hx]; exact h.now
  have less : ∀ (l : List Now), (∀ x ∈ l, NowOk F B x) → ∀ x ∈ l.dropLast, NowOk F B x := fun l hl x hx => hl x ((List.dropLast_sublist _).subset hx)
  have hl := h.lpl
  cases b with
  | true =>
    have ne : S.past ≠ [] := of_decide_eq_true c
    have := List.length_pos_iff.mpr ne
    exact ⟨last _ h.past, less _ h.past, more _ h.later, by show S.past.dropLast.length + (S.later ++ [S.now]).length ≤ B; rw [List.length_append, List.length_dropLast]; simp only [List.length_cons, List.length_nil]; omega⟩
  | false =>
    have ne : S.later ≠ [] := of_decide_eq_true c
    have := List.length_pos_iff.mpr ne
    exact ⟨last _ h.later, more _ h.past, less _ h.later, by show (S.past ++ [S.now]).length + S.later.dropLast.length ≤ B; rw [List.length_append, List.length_dropLast]; simp only [List.length_cons, List.length_nil]; omega⟩
end
theorem okR_ints {ns : List Int} (hl : ns.length ≤ 1000) (h : ∀ i ∈ ns, i.natAbs < 1000000) : OkR (Datum.toD (Tup.mk ns)) := by
  have a := okw_tup (xs := ns) (c := 260) fun i hi => okw_int (by have := h i hi; omega)
  refine ⟨a.1, ?_, Nat.le_trans (Datum.depth_le (Tup.mk ns)) (by decide)⟩
  have := a.2
  omega
end K95
/-! LL: lambdas that a def makes and hands on: their making, their cells. -/
namespace K95
open PySem PySem.Spec PySem.Calls PySem.W PyProof.Rows L2 Evl
/-- each name that the lambda catches is a cell of the maker, or caught by it -/
def freeB (sc scope : Scope) : Bool := scope.names.all fun y => !decide (y.2 = .free) || (decide (sc.names.lookup y.1 = some .cell) || decide (sc.names.lookup y.1 = some .free))
theorem free_has {X : Cx} {scope : Scope} (h : freeB X.env.scope scope = true) (ok : X.Ok) : ∀ y ∈ scope.names, y.2 = .free → ∃ c, X.env.cells.lookup y.1 = some c := fun y hy e => by
  have q := List.all_eq_true.mp h y hy
  rw [e] at q
  simp only [decide_true, Bool.not_true, Bool.false_or, Bool.or_eq_true, decide_eq_true_eq] at q
  exact ok.has y.1 q
section
variable {X : Cx} {params : Arguments} {body : Expr} {scope : Scope} {pos : Pos} {σ : L2.St} {H : Hp}
/-- a lambda as the last argument -/
theorem wA_lam {tb : List (Addr × Nat × Str)} {n : Nat} {c₀ P : Addr} {q : Str} {Q : List V → Hp → Prop} (TB : LamX.TabB X.base X.mg c₀ P) (hcode : X.env.code = .ref c₀) (hq : X.env.qual ++ "<lambda>" = q) (T : TTs tb H) (m : (P, n, q) ∈ tb)
    (h : ∀ f c P' H1, H f = none → CodeAt H1 c P' q → Kp [] H H1 → LamAt H1 f q params body scope (closX X scope) c → TTs tb H1 → (∀ m, n = m + 1 → TTs ((P', m, q ++ ".<locals>." ++ "<lambda>") :: tb) H1) → Q [.ref f] H1)
    (hfree : freeB X.env.scope scope = true) (hdef : defaultsOf params X.env = ([], []) := by rfl) (hs : starEach (.Lambda params body scope pos :: []) X.env = (false, eval (.Lambda params body scope pos) X.env) :: starEach [] X.env := by rfl) : wA X [.Lambda params body scope pos] σ H Q := by
  subst hq
  exact wA_of (pa_cons (pe_lamR TB hcode hdef (free_has hfree)) pa_nil hs) ⟨T, m, fun f c P' H1 a b c' d e g => h f c P' H1 a b c' d e g⟩
/-- .. its maker is itself a lambda, its code object made on the way -/
theorem wA_lam1 {tb : List (Addr × Nat × Str)} {n : Nat} {c₁ P₁ c₀ P : Addr} {q q₀ : Str} {Q : List V → Hp → Prop} (TB : LamX.TabB X.base X.mg c₁ P₁) (hcode : X.env.code = .ref c₀) (hq : X.env.qual ++ "<lambda>" = q) (hc : CodeAt H c₀ P q₀) (T : TTs tb H) (m : (P, n, q) ∈ tb)
    (h : ∀ f c P' H1, H f = none → CodeAt H1 c P' q → Kp [] H H1 → LamAt H1 f q params body scope (closX X scope) c → TTs tb H1 → Q [.ref f] H1)
    (hfree : freeB X.env.scope scope = true) (hdef : defaultsOf params X.env = ([], []) := by rfl) (hs : starEach (.Lambda params body scope pos :: []) X.env = (false, eval (.Lambda params body scope pos) X.env) :: starEach [] X.env := by rfl) : wA X [.Lambda params body scope pos] σ H Q := by
  subst hq
  exact wA_of (pa_cons (pe_lamR1 TB hcode hdef (free_has hfree)) pa_nil hs) ⟨hc, T, m, fun f c P' H1 a b c' d e g => h f c P' H1 a b c' d e⟩
theorem LamAt.ex {H H1 : Hp} {f c : Addr} {q : Str} {cl : List (Str × Addr)} (h : LamAt H f q params body scope cl c) (e : Ex H H1) : LamAt H1 f q params body scope cl c := by
  obtain ⟨pm, ctv, g⟩ := h
  exact ⟨pm, ctv, e _ _ g⟩
theorem CodeAt.ex {H H1 : Hp} {c P : Addr} {q : Str} (h : CodeAt H c P q) (e : Ex H H1) : CodeAt H1 c P q := h.kp fun o ho => e _ _ ho
theorem CellsOk.ex {H H1 : Hp} {cl : List (Str × Addr)} (h : CellsOk H cl) (e : Ex H H1) : CellsOk H1 cl := fun b hb => by
  obtain ⟨o, v, g, r⟩ := h b hb
  exact ⟨o, v, e _ _ g, r⟩
theorem CellAt.ex {H H1 : Hp} {c : Addr} {v : V} (h : CellAt H c v) (e : Ex H H1) : CellAt H1 c v := by
  obtain ⟨o, u, g, r⟩ := h
  exact ⟨o, u, e _ _ g, r⟩
theorem FnIn.ex {H H1 : Hp} {f : Addr} (h : FnIn H f) (e : Ex H H1) : FnIn H1 f := by
  obtain ⟨o, fd, g, r⟩ := h
  exact ⟨o, fd, e _ _ g, r⟩
/-- the same where only what is not frozen changes -/
theorem std_kp {S : List Addr} {H H1 : Hp} (k : Kp S H H1) (n : ∀ b ∈ S, ∀ o, H b ≠ some (Std o)) {a : Addr} {o : Obj} (h : H a = some (Std o)) : H1 a = some (Std o) := k a _ (fun z => n a z o h) (fun ps z => by cases z) h
theorem LamAt.kp {S : List Addr} {H H1 : Hp} {f c : Addr} {q : Str} {cl : List (Str × Addr)} (h : LamAt H f q params body scope cl c) (k : Kp S H H1) (n : ∀ b ∈ S, ∀ o, H b ≠ some (Std o)) : LamAt H1 f q params body scope cl c := by
  obtain ⟨pm, ctv, g⟩ := h
  exact ⟨pm, ctv, std_kp k n g⟩
theorem CellsOk.kp {S : List Addr} {H H1 : Hp} {cl : List (Str × Addr)} (h : CellsOk H cl) (k : Kp S H H1) (n : ∀ b ∈ S, ∀ o, H b ≠ some (Std o)) : CellsOk H1 cl := fun b hb => by
  obtain ⟨o, v, g, r⟩ := h b hb
  exact ⟨o, v, std_kp k n g, r⟩
theorem CellAt.kp {S : List Addr} {H H1 : Hp} {c : Addr} {v : V} (h : CellAt H c v) (k : Kp S H H1) (n : ∀ b ∈ S, ∀ o, H b ≠ some (Std o)) : CellAt H1 c v := by
  obtain ⟨o, u, g, r⟩ := h
  exact ⟨o, u, std_kp k n g, r⟩
theorem FnIn.kp {S : List Addr} {H H1 : Hp} {f : Addr} (h : FnIn H f) (k : Kp S H H1) (n : ∀ b ∈ S, ∀ o, H b ≠ some (Std o)) : FnIn H1 f := by
  obtain ⟨o, fd, g, r⟩ := h
  exact ⟨o, fd, std_kp k n g, r⟩
/-- nothing of the cells is known at the maker -/
theorem noC_clos {pins : List (Addr × Obj)} {s : Shared} (I : Inv X pins σ H s) (hm : ∀ p ∈ closX X scope, X.env.cells.lookup p.1 = some p.2) : NoC H (closX X scope) := fun b hb => by
  obtain ⟨p, hp, rfl⟩ := List.mem_map.mp hb
  exact I.freeC _ _ (hm p hp)
/-- what the maker's frame gives of the cells -/
theorem clos_at (ok : X.Ok) (hfree : freeB X.env.scope scope = true) : Clos (closX X scope) scope ∧ ∀ p ∈ closX X scope, X.env.cells.lookup p.1 = some p.2 := clos_of ok (free_has hfree ok)
end
/-- y is caught in cl and holds v -/
def Cv (H : Hp) (cl : List (Str × Addr)) (y : Str) (v : V) : Prop := ∃ c, cl.lookup y = some c ∧ CellAt H c v
theorem Cv.ex {H H1 : Hp} {cl : List (Str × Addr)} {y : Str} {v : V} (h : Cv H cl y v) (e : Ex H H1) : Cv H1 cl y v := by
  obtain ⟨c, a, b⟩ := h
  exact ⟨c, a, b.ex e⟩
theorem Cv.kp {S : List Addr} {H H1 : Hp} {cl : List (Str × Addr)} {y : Str} {v : V} (h : Cv H cl y v) (k : Kp S H H1) (n : ∀ b ∈ S, ∀ o, H b ≠ some (Std o)) : Cv H1 cl y v := by
  obtain ⟨c, a, b⟩ := h
  exact ⟨c, a, b.kp k n⟩
theorem caught_cv {X : Cx} {σ : L2.St} {scope : Scope} {H : Hp} {i : Nat} {y : Str} {v : V} (C : Clos (closX X scope) scope) (h : Caught X σ (closX X scope) H) (hf : scope.names.lookup y = some .free) (hN : X.N[i]? = some y := by rfl) (hσ : σ[i]? = some (some v) := by rfl)
    (hv : Vis X.env.scope y := by first | exact .inl rfl | exact .inr (.inl rfl) | exact .inr (.inr rfl)) (hk : X.env.kindOf y ≠ some .local := by decide +kernel) : Cv H (closX X scope) y v := by
  obtain ⟨c, hc⟩ := C.has y hf
  exact ⟨c, hc, h i y v c hN hσ hc hv hk⟩
/-! ### the whole world where only tables grow -/
section
variable {K : Frag} {C sa ao : Addr} {tb : List (Addr × Nat × Str)} {H0 H H1 : Hp} {mp : Mp} {r : Nat} {F : Fld} {S Z : St2}
theorem Al.kp0 (a : Al K C tb H0 H mp r sa ao F S Z) (k : Kp [] H H1) (t : TTs tb H1) : Al K C tb H0 H1 mp r sa ao F S Z :=
  ⟨a.ms.kp k NoTup.nil (fun z => nomatch z) (fun z => nomatch z) (fun z => nomatch z), a.sh.kp k NoTup.nil (fun z => nomatch z), a.ow.kp k NoTup.nil (fun z => nomatch z) (fun b z => nomatch z), t, a.fr.trans (k.mono fun b z => nomatch z)⟩
end
/-! ### what holds a step stands in the row -/
theorem holdGo_sub (F : Fld) (num : Int) : ∀ (l : List Pr) (names : List Str) (f : List Int), ∀ i ∈ holdGo F num l names f, i ∈ f ∨ i ∈ l.map (fun q => q.1)
  | [], names, f, i, hi => .inl hi
  | (o, s) :: r, names, f, i, hi => by
    have up : (i ∈ f ∨ i ∈ r.map (fun q => q.1)) → (i ∈ f ∨ i ∈ ((o, s) :: r).map (fun q => q.1)) := fun h => h.imp_right fun h => List.mem_cons_of_mem _ h
    unfold holdGo at hi
    split at hi
    · exact up (holdGo_sub F num r _ _ i hi)
    · split at hi
      · rcases holdGo_sub F num r _ _ i hi with h | h
        · rcases List.mem_append.mp h with h | h
          · exact .inl h
          · rw [List.mem_singleton.mp h]; exact .inr (List.mem_cons_self ..)
        · exact .inr (List.mem_cons_of_mem _ h)
      · exact up (holdGo_sub F num r _ _ i hi)
theorem holdF_sub {F : Fld} {S : St2} {num i : Int} (h : i ∈ holdF F S num) : i ∈ nums S := by
  rcases holdGo_sub F num _ _ _ i h with h | h
  · cases h
  · exact h
theorem nums_small {F : Fld} {B : Nat} {S : St2} (k : NowOk F B S.now) (hB : B ≤ 60) {i : Int} (h : i ∈ nums S) : i.natAbs < 1000000 := by
  obtain ⟨q, hq, rfl⟩ := List.mem_map.mp h
  have := k.lo q hq
  have := k.hi q hq
  have := k.fr
  omega
theorem lhold_small {F : Fld} {B : Nat} {S : St2} (k : NowOk F B S.now) (hB : B ≤ 60) (num : Int) : (holdF F S num).length ≤ 60 ∧ ∀ i ∈ holdF F S num, i.natAbs < 1000000 := by
  have := holdF_len F S num
  have := k.len
  exact ⟨by omega, fun i hi => nums_small k hB (holdF_sub hi)⟩
/-- what stands at S is no list -/
def NoLst (S : List Addr) (H : Hp) : Prop := ∀ b ∈ S, ∀ us, H b ≠ some (.lst us) ∧ ∀ o, H b ≠ some (.frz o (.lst us))
section
variable {K : Frag} {S : List Addr} {H H1 : Hp} {α : Type} [DecidableEq α] [Datum α] {v : V} {x : α}
theorem sql_but (h : But S H H1) (hS : NoLst S H) : ∀ a us, SqL K H a us → SqL K H1 a us := fun a us q => by
  rcases q with q | q
  · rcases q with q | ⟨o, q⟩
    · exact .inl (.inl (h a _ (fun z => (hS a z us).1 q) q))
    · exact .inl (.inr ⟨o, h a _ (fun z => (hS a z us).2 o q) q⟩)
  · exact .inr q
theorem sql_kp (h : Kp S H H1) (hS : NoLst S H) : ∀ a us, SqL K H a us → SqL K H1 a us := fun a us q => by
  rcases q with q | q
  · rcases q with q | ⟨o, q⟩
    · exact .inl (.inl (h a _ (fun z => (hS a z us).1 q) (fun ps z => by cases z) q))
    · exact .inl (.inr ⟨o, h a _ (fun z => (hS a z us).2 o q) (fun ps z => by cases z) q⟩)
  · exact .inr q
theorem Hd.kpL (d : Hd K H v x) (h : Kp S H H1) (n : NoTup S H) (nl : NoLst S H) : Hd K H1 v x := dp_keep (sqt_kp h n) (sql_kp h nl) _ _ d
theorem NoLst.nil : NoLst [] H := fun b hb => nomatch hb
theorem Hd.butL (d : Hd K H v x) (h : But S H H1) (n : NoTup S H) (nl : NoLst S H) : Hd K H1 v x := dp_keep (sqt_but h n) (sql_but h nl) _ _ d
end
theorem OwnAt.noL {K : Frag} {H : Hp} {ao gl : Addr} {F : Fld} {S : St2} (h : OwnAt K H ao gl F S) : NoLst [ao] H := fun b hb us => by
  obtain rfl := List.mem_singleton.mp hb
  obtain ⟨vF, vN, pa, la, h1, _⟩ := h.ex
  exact ⟨fun z => (by rw [h1] at z; cases z), fun o z => by rw [h1] at z; cases z⟩
theorem SheetAt.noL {K : Frag} {H : Hp} {C sa : Addr} {F : Fld} {S : St2} (h : SheetAt K H C sa F S) : NoLst [sa] H := fun b hb us => by
  obtain rfl := List.mem_singleton.mp hb
  obtain ⟨dx, vF, vN, vP, vL, h1, _⟩ := h.ex
  exact ⟨fun z => (by rw [h1] at z; cases z), fun o z => by rw [h1] at z; cases z⟩
section
variable {X : Cx} {σ : L2.St} {H : Hp} {e : Expr} {es : List Expr} {Q : VK}
theorem wE_inv (h : ∀ pins s, Inv X pins σ H s → wE X e σ H Q) : wE X e σ H Q := fun pins s I => h pins s I pins s I
end
theorem ex_showR {H H' : Hp} {cl : List (Str × Addr)} (e : Ex (hideC H cl) H') : Ex H (showC H H' cl) := fun b o h => (but_show (S := []) (But.of_ex e)) b o (fun z => nomatch z) h
section
variable {X : Cx} {params : Arguments} {body : Expr} {scope : Scope} {lpos p pos : Pos} {σ : L2.St} {H : Hp} {Q : VK} {k n : Nat} {x : Str} {ps : List Str} {sp : Sp} {W : WX} {tb : List (Addr × Nat × Str)} {c₀ P : Addr} {q : Str} {e : Expr}
/-- x(lambda ..) -/
theorem wE_callLam1 (G : OwnG X.prog X.w X.K X.mg X.base k x ps sp) (hr : Room k X.A) (hgd : X.A.guards = some []) (tk : Takes X W) (own : ∀ cl : List (Str × Addr), (X.Ok → ∀ p ∈ cl, X.env.cells.lookup p.1 = some p.2) → OwnCells X cl) (TB : LamX.TabB X.base X.mg c₀ P) (hcode : X.env.code = .ref c₀) (hq : X.env.qual ++ "<lambda>" = q) (T : TTs tb H) (m : (P, n, q) ∈ tb)
    (hfree : freeB X.env.scope scope = true) (h : Clos (closX X scope) scope → ∀ f c P' H1, H f = none → CodeAt H1 c P' q → Kp [] H H1 → LamAt H1 f q params body scope (closX X scope) c → TTs tb H1 → (∀ m, n = m + 1 → TTs ((P', m, q ++ ".<locals>." ++ "<lambda>") :: tb) H1) →
      ∀ H2, AddC H1 (closX X scope) H2 → CellsOk H2 (closX X scope) → Caught X σ (closX X scope) H2 → sp [.ref f] H2 (fun v H3 => StdAll H3 (closX X scope) → Q v (hideC H3 (closX X scope))) (fun c d H3 => StdAll H3 (closX X scope) → W c d σ (hideC H3 (closX X scope))))
    (hg : Gl X x := by rfl) (hdb : (x == ("__debug__" : Str)) = false := by decide) (hdef : defaultsOf params X.env = ([], []) := by rfl) (hs : starEach (.Lambda params body scope lpos :: []) X.env = (false, eval (.Lambda params body scope lpos) X.env) :: starEach [] X.env := by rfl) :
    wE X (.Call (.Name x p) [.Lambda params body scope lpos] [] pos) σ H Q := wE_inv fun _ _ I =>
  wE_callT G hr hgd tk (own _ fun ok => (clos_at ok hfree).2) (wA_lam TB hcode hq T m (fun f c P' H1 a b d e g i => h (clos_at I.ok hfree).1 f c P' H1 a b d e g i) hfree hdef hs) hg hdb hs rfl
/-- x(e, lambda ..) -/
theorem wE_callLam2 (G : OwnG X.prog X.w X.K X.mg X.base k x ps sp) (hr : Room k X.A) (hgd : X.A.guards = some []) (tk : Takes X W) (own : ∀ cl : List (Str × Addr), (X.Ok → ∀ p ∈ cl, X.env.cells.lookup p.1 = some p.2) → OwnCells X cl) (TB : LamX.TabB X.base X.mg c₀ P) (hcode : X.env.code = .ref c₀) (hq : X.env.qual ++ "<lambda>" = q)
    (hfree : freeB X.env.scope scope = true) (h : Clos (closX X scope) scope → wE X e σ H fun v0 H0 => TTs tb H0 ∧ (P, n, q) ∈ tb ∧ ∀ f c P' H1, H0 f = none → CodeAt H1 c P' q → Kp [] H0 H1 → LamAt H1 f q params body scope (closX X scope) c → TTs tb H1 → (∀ m, n = m + 1 → TTs ((P', m, q ++ ".<locals>." ++ "<lambda>") :: tb) H1) →
      ∀ H2, AddC H1 (closX X scope) H2 → CellsOk H2 (closX X scope) → Caught X σ (closX X scope) H2 → sp [v0, .ref f] H2 (fun v H3 => StdAll H3 (closX X scope) → Q v (hideC H3 (closX X scope))) (fun c d H3 => StdAll H3 (closX X scope) → W c d σ (hideC H3 (closX X scope))))
    (hg : Gl X x := by rfl) (hdb : (x == ("__debug__" : Str)) = false := by decide) (hdef : defaultsOf params X.env = ([], []) := by rfl) (hs : starEach (.Lambda params body scope lpos :: []) X.env = (false, eval (.Lambda params body scope lpos) X.env) :: starEach [] X.env := by rfl)
    (he : starEach (e :: [.Lambda params body scope lpos]) X.env = (false, eval e X.env) :: starEach [.Lambda params body scope lpos] X.env := by rfl) (hpl : (backTo pos (starEach [.Lambda params body scope lpos] X.env)).any (·.1) = false := by rfl) :
    wE X (.Call (.Name x p) [e, .Lambda params body scope lpos] [] pos) σ H Q := wE_inv fun _ _ I =>
  wE_callT G hr hgd tk (own _ fun ok => (clos_at ok hfree).2) (wA_of (pa_cons pE pA he) (wE_mono (h (clos_at I.ok hfree).1) fun v0 H0 ⟨T, m, g⟩ => wA_lam TB hcode hq T m (fun f c P' H1 a b d e g' i H2 => g f c P' H1 a b d e g' i H2) hfree hdef hs)) hg hdb he hpl
/-- .. x's maker is itself a lambda -/
theorem wE_callLam2' {c₁ P₁ : Addr} {q₀ : Str} (G : OwnG X.prog X.w X.K X.mg X.base k x ps sp) (hr : Room k X.A) (hgd : X.A.guards = some []) (tk : Takes X W) (own : ∀ cl : List (Str × Addr), (X.Ok → ∀ p ∈ cl, X.env.cells.lookup p.1 = some p.2) → OwnCells X cl) (TB : LamX.TabB X.base X.mg c₁ P₁) (hcode : X.env.code = .ref c₀) (hq : X.env.qual ++ "<lambda>" = q)
    (hfree : freeB X.env.scope scope = true) (h : Clos (closX X scope) scope → wE X e σ H fun v0 H0 => CodeAt H0 c₀ P q₀ ∧ TTs tb H0 ∧ (P, n, q) ∈ tb ∧ ∀ f c P' H1, H0 f = none → CodeAt H1 c P' q → Kp [] H0 H1 → LamAt H1 f q params body scope (closX X scope) c → TTs tb H1 →
      ∀ H2, AddC H1 (closX X scope) H2 → CellsOk H2 (closX X scope) → Caught X σ (closX X scope) H2 → sp [v0, .ref f] H2 (fun v H3 => StdAll H3 (closX X scope) → Q v (hideC H3 (closX X scope))) (fun c d H3 => StdAll H3 (closX X scope) → W c d σ (hideC H3 (closX X scope))))
    (hg : Gl X x := by rfl) (hdb : (x == ("__debug__" : Str)) = false := by decide) (hdef : defaultsOf params X.env = ([], []) := by rfl) (hs : starEach (.Lambda params body scope lpos :: []) X.env = (false, eval (.Lambda params body scope lpos) X.env) :: starEach [] X.env := by rfl)
    (he : starEach (e :: [.Lambda params body scope lpos]) X.env = (false, eval e X.env) :: starEach [.Lambda params body scope lpos] X.env := by rfl) (hpl : (backTo pos (starEach [.Lambda params body scope lpos] X.env)).any (·.1) = false := by rfl) :
    wE X (.Call (.Name x p) [e, .Lambda params body scope lpos] [] pos) σ H Q := wE_inv fun _ _ I =>
  wE_callT G hr hgd tk (own _ fun ok => (clos_at ok hfree).2) (wA_of (pa_cons pE pA he) (wE_mono (h (clos_at I.ok hfree).1) fun v0 H0 ⟨hc, T, m, g⟩ => wA_lam1 TB hcode hq hc T m (fun f c P' H1 a b d e g' H2 => g f c P' H1 a b d e g' H2) hfree hdef hs)) hg hdb he hpl
end
/-- sheet.take_back(number), as a closure's promise -/
def spTakeL (K : Frag) (C CH sa : Addr) (F : Fld) (S : St2) (num : Int) : Sp := fun _ H Q E => SheetAt K H C sa F S ∧ (holdF F S num = [] → ∀ H', But [sa] H H' → SheetAt K H' C sa F (lessS S num) → Q .non H') ∧
  (∀ z zs, holdF F S num = z :: zs → ∀ H1 d, Ex H H1 → H1 d = some (.xd [("value", .int z)]) → E (.ref CH) (some d) H1)
/-- None among data -/
theorem tx_none {X : Cx} {σ : L2.St} {H : Hp} {j : Nat} {p : Pos} : TX X σ H (.Constant .none j p) () := fun H1 _ Q q => wE_non (q .non H1 (Ex.refl _) (Dp.non))
theorem okR_bool {b : Bool} : OkR (.bool b) := ⟨rfl, by show 5 ≤ 10000000; decide, by show PyData.depth (.bool b) ≤ 60; simp [PyData.depth]⟩
end K95
namespace K95
open PySem PySem.Spec PySem.Calls PySem.W PyProof.Rows L2 Evl
/-! ### an index that is drawn -/
section
variable {X : Cx} {σ : L2.St} {H : Hp} {a b e : Expr} {p pos : Pos} {Q : VK} {α : Type} [DecidableEq α] [Datum α]
theorem wE_ixTD {xs : List α} (ha : TX X σ H a (Tup.mk xs)) (h : ∀ v H2, Ex H H2 → Hd X.K H2 v (Tup.mk xs) → wE X b σ H2 fun w H3 => ∃ d : Int, w = .int d ∧ 0 ≤ d ∧ d < xs.length ∧ Hd X.K H3 v (Tup.mk xs) ∧ ∀ u x, x ∈ xs → Hd X.K H3 u x → Q u H3) (hs : PlainIx b := by intro _ _; rfl) : wE X (.Subscript a b p) σ H Q :=
  wE_of (pe_ix ix_tup pE pE hs) (ha.go fun v H2 k2 d => wE_mono (h v H2 k2 d) fun w H3 ⟨i, ew, h0, h1, d3, q⟩ => by
    obtain ⟨l, vs, rfl, g1, g2⟩ := d3.tup
    have hj : i.toNat < xs.length := by omega
    obtain ⟨u, e1, d1⟩ := g2.at' (List.getElem?_eq_getElem hj)
    exact ⟨l, vs, i, u, rfl, ew, g1, by have := atI_nat e1; rwa [Int.toNat_of_nonneg h0] at this, q u _ (List.getElem_mem hj) d1⟩)
theorem wE_ixLD {xs : List α} (ha : wE X a σ H fun v H2 => ∃ l, v = .ref l ∧ wE X b σ H2 fun w H3 => ∃ d : Int, w = .int d ∧ 0 ≤ d ∧ d < xs.length ∧ LAt X.K H3 l xs ∧ ∀ u x, x ∈ xs → Hd X.K H3 u x → Q u H3) (hs : PlainIx b := by intro _ _; rfl) : wE X (.Subscript a b p) σ H Q :=
  wE_of (pe_ix ix_list pE pE hs) (wE_mono ha fun v H2 ⟨l, ev, h⟩ => wE_mono h fun w H3 ⟨i, ew, h0, h1, d3, q⟩ => by
    obtain ⟨vs, g1, g2⟩ := d3.at_
    have hj : i.toNat < xs.length := by omega
    obtain ⟨u, e1, d1⟩ := g2.at' (List.getElem?_eq_getElem hj)
    exact ⟨l, vs, i, u, ev, ew, SqL.of g1, by have := atI_nat e1; rwa [Int.toNat_of_nonneg h0] at this, q u _ (List.getElem_mem hj) d1⟩)
/-- a list laid anew -/
theorem wE_lstT {es : List Expr} {xs : List α} (h : TL X σ H es xs) (hz : xs.length ≤ 100000) (q : ∀ l H2, Ex H H2 → H l = none → LAt X.K H2 l xs → Q (.ref l) H2) : wE X (.List es p) σ H Q :=
  wE_of (pe_lst pA) (h H (Ex.refl _) _ fun vs H2 k2 ds => ⟨by rw [ds.len, sizeLine_eq]; omega, fun l hl => q l _ (k2.trans (Ex.new hl)) (by cases z : H l with | none => rfl | some o => rw [k2 _ _ z] at hl; cases hl) ⟨vs, upd_same, ds.ex (Ex.new hl)⟩⟩)
end
theorem atI_last {α : Type} {xs : List α} {x : α} : atI (xs ++ [x]) (-1) = some x := by
  unfold atI ixN
  rw [List.length_append, List.length_singleton, if_neg (by decide), if_pos (by omega)]
  show (xs ++ [x])[((-1 : Int) + ((xs.length + 1 : Nat) : Int)).toNat]? = some x
  rw [show ((-1 : Int) + ((xs.length + 1 : Nat) : Int)).toNat = xs.length from by omega]
  simp
theorem okR_int {i : Int} (h : i.natAbs < 1000000) : OkR (.int i) := ⟨by show decide (i.natAbs < 2 ^ 256) = true; exact decide_eq_true (Nat.lt_of_lt_of_le h (by decide)), by show 260 ≤ _; decide, by show PyData.depth (.int i) ≤ 60; simp [PyData.depth]⟩
/-- the def at f makes lambdas: its code object's table is P -/
def Mkr (K : Frag) (base : Heap) (mg : Str → Option Value) (f P : Addr) : Prop := ∃ c₀, LamX.TabB base mg c₀ P ∧ ∀ oc od osl x q ar bo sc kV doc pm an cdv ct, K.lookup f = some ⟨oc, od, .func (fnOf x q ar bo sc .none kV doc pm an cdv ct), osl⟩ → cdv = .ref c₀
def spLStep (K : Frag) (C : Addr) (tb : List (Addr × Nat × Str)) : Sp := fun vs H Q _ => ∃ (mp : Mp) (sa ao : Addr) (F : Fld) (S : St2) (B r : Nat), vs = [.ref mp.am, .ref sa, .ref ao] ∧ Al K C tb H H mp (r + 3) sa ao F S S ∧ GoodF F ∧ StOk F B S ∧ B + 1 ≤ 60 ∧
  ∀ H' S', Al K C tb H H' mp r sa ao F S' S' → StOk F (B + 1) S' → Q (.bl true) H'
section
variable {P : Program} {w : World} {K : Frag} {mg : Str → Option Value} {base : Heap}
theorem scLStep : FnScope ["m", "sheet", "own", "way", "row", "name", "step", "number", "some", "told_so"] ["m", "sheet", "own"] (defScope (top 54)) := ⟨rfl, rfl, rfl, by decide +kernel, rfl, by decide +kernel, by decide +kernel⟩
theorem ok_lstep {f C CT Pt : Addr} {fd : FuncData} {c : Ec} {tb : List (Addr × Nat × Str)} (F : Fun K "_law_step" "_law_step" (top 54) f fd) (B : Bn mg) (M : ShM P w K mg base c C CT) (ND : Own P w K mg base 2 "_law_draw" ["m", "limit"] (spDraw K))
    (NK : Own P w K mg base 1 "_law_kept" ["own", "now"] (spKept K)) (NH : Own P w K mg base 2 "_law_held" ["own", "number"] (spHeld K)) (NW : Own P w K mg base 2 "_law_without" ["own", "numbers"] (spWithout K)) (NS : Own P w K mg base 1 "_law_shift" ["own", "begin", "goal"] (spShift K))
    (GL : OwnG P w K mg base 1 "_law_like" ["answer", "due"] (spLike K)) (GS : OwnG P w K mg base 5 "_law_said" ["call"] (spSaid P w K mg base c 4)) (Z : Mkr K base mg f Pt) (hP : (Pt, 0, PySem.Str.ofString "_law_step.<locals>.<lambda>") ∈ tb) : FnG P w K mg base 8 f fd ["m", "sheet", "own"] (spLStep K C tb) := by
  refine fn_ofG F scLStep (fun vs H Q E h => ?_) (fun cdv A outer s H vs Q E hr hgd hcd h => ?_)
  · obtain ⟨mp, sa, ao, FF, S, Bd, r, rfl, _⟩ := h; rfl
  · obtain ⟨mp, sa, ao, FF, S, Bd, r, rfl, hA, hG, hK, hB, k⟩ := h
    have hu := hu1 hr
    have hr7 : Room 7 _ := hr
    have hr2 := hr7.mono (show 2 ≤ 7 by decide)
    have hlen := hK.now.len
    refine ⟨_, pB, ?_⟩
    refine wB_cons (wS_par 3 4 rfl scLStep.nd (wE_draw (r := r + 2) (mp := mp) (k := 2) ND hr2 (wE_var 0 rfl rfl ⟨rfl, wE_int ⟨rfl, by decide, by decide, hA.ms, fun H1 way b1 M1 hw0 hw9 => ?_⟩⟩)))
    have A1 := hA.draw b1 M1
    refine TX.go (tx_fst (tx_ownN hu 2 A1.ow)) fun vr H2 e2 dr => ?_
    have A2 := A1.ex e2
    clear A1 e2 M1 b1
    refine wB_cons (wS_if (TB.go (t := decide (way < 4) || (decide (S.now.1 = Tup.mk []) && decide (way < 7))) (TW.tb (tw_or (tb_lt (tx_var 3 hd_int) tx_int) fun _ => tw_or1 (TW.tb (tw_and (tb_eq (hu64 hr) (tx_var 4 dr) (tx_tup tl_nil (by decide))) fun _ => tw_and1 (tb_lt (tx_var 3 hd_int) tx_int))))) fun H3 e3 => ?_))
    have A3 := A2.ex e3
    have dr3 := dr.ex e3
    clear A2 e3 dr
    have hn4 := (good_len hG).1
    have hn1 : 1 ≤ FF.1.items.length := List.length_pos_of_mem (good_len hG).2.2.2.1
    split
    · -- a step is done
      refine wB_cons (wS_set (i := 5) scLStep.nd rfl (wE_ixTD (tx_fst (tx_ownF hu 2 A3.ow)) fun vn H4 e4 dn => wE_draw (r := r + 1) (mp := mp) (lim := ((FF.1.items.length : Nat) : Int)) (k := 2) ND hr2 (wE_var 0 rfl rfl ⟨rfl, TX.go (tx_lenT B.len (tx_fst (tx_ownF hu 2 (A3.ex e4).ow))) fun vl H5 e5 dl => ⟨dl.int, (by omega), (by omega), (A3.ex (e4.trans e5)).ms, fun H6 d6 b6 M6 hd0 hd1 => ⟨d6, rfl, hd0, hd1, ?_, fun nmv nm hnm dnm => ?_⟩⟩⟩)))
      · exact (dn.ex e5).but b6 (A3.ex (e4.trans e5)).ms.no
      have A6 := (A3.ex (e4.trans e5)).draw b6 M6
      have dr6 := (dr3.ex (e4.trans e5)).but b6 (A3.ex (e4.trans e5)).ms.no
      clear M6 b6 dl
      refine wB_cons (wS_set (i := 6) scLStep.nd rfl (wE_of (pe_tup (pa_cons pE (pa_cons pE pa_nil))) (wE_var 5 rfl rfl ?_)))
      refine wE_ixLD (xs := [1, -1, 2, 1000000000000000000000000000000]) (wE_lstT (tl_cons tx_int (tl_cons (tx_neg tx_int) (tl_cons tx_int (tl_cons (tx_pow (i := 10) (m := 30) tx_int tx_int ?_) tl_nil)))) (by decide) fun l H7 e7 hl L7 => ⟨l, rfl, wE_draw (r := r) (mp := mp) (lim := 4) (k := 2) ND hr2 (wE_var 0 rfl rfl ⟨rfl, wE_int ⟨rfl, by decide, by decide, (A6.ex e7).ms, fun H8 d8 b8 M8 hd80 hd84 => ⟨d8, rfl, hd80, hd84, ?_, fun uz z hz dz => ?_⟩⟩⟩)⟩)
      · exact ⟨by decide, by decide, by decide⟩
      · refine L7.but b8 (A6.ex e7).ms.no fun z => ?_
        obtain ⟨cs, gs, n, h1, h2, h3, h4, h5⟩ := A6.ms.ex
        obtain ⟨us, hgl, _⟩ := h4.at_
        simp only [List.mem_cons, List.mem_nil_iff, or_false] at z
        rcases z with z | z
        · rw [z, h1] at hl; cases hl
        · rw [z, hgl] at hl; cases hl
      have A8 := (A6.ex e7).draw b8 M8
      have dr8 := (dr6.ex e7).but b8 (A6.ex e7).ms.no
      have dn8 := ((dnm.ex e7)).but b8 (A6.ex e7).ms.no
      clear M8 b8 L7
      refine ⟨by rw [sizeLine_eq]; show 2 ≤ 16777216; decide, fun qs hqs => ?_⟩
      have e9 := Ex.new (o := HO.tup [nmv, uz]) hqs
      have dst : Hd K (upd H8 qs (.tup [nmv, uz])) (.ref qs) ((nm, z) : Step) := hd_pair (SqT.of upd_same) (dn8.ex e9) (dz.ex e9)
      have A9 := A8.ex e9
      have dr9 := dr8.ex e9
      clear A8 dr8 A6 dr6 A3 dr3 hA
      generalize upd H8 qs (.tup [nmv, uz]) = H9 at *
      have hz2 : z ≠ 0 ∧ -1000000000000000000000000000000 ≤ z ∧ z ≤ 1000000000000000000000000000000 := by
        simp only [List.mem_cons, List.mem_nil_iff, or_false] at hz
        rcases hz with rfl | rfl | rfl | rfl <;> decide
      have hp1 := hK.lp
      have D1 := do_ok hK (st := ((nm, z) : Step)) hnm hz2.1 hz2.2
      refine wB_cons (wS_expr (wE_own NK (hr7.mono (by decide)) (wA_of (pa_cons (pe_var (i := 2) rfl (.inl rfl)) (pa_cons pE pa_nil)) ⟨_, rfl, ?_⟩)))
      refine TX.go (x := ((Tup.mk (S.now.1.items ++ [(S.now.2, ((nm, z) : Step))]), S.now.2 + 1) : Now)) (tx_pair (t2_mk (tx_catT (by show S.now.1.items.length + 1 ≤ 100000; omega) (tx_var 4 dr9) (tx_tup (tl_cons (tx_pair (t2_mk (tx_snd (tx_ownN hu 2 A9.ow)) (tx_var 6 dst))) tl_nil) (by show 1 ≤ 100000; decide))) (tx_add (tx_snd (tx_ownN hu 2 A9.ow)) tx_int))) fun vk H10 e10 dk => ?_
      refine ⟨ao, mp.gl, FF, S, vk, _, rfl, (A9.ex e10).ow, (A9.ex e10).gk, dk, by omega, fun H11 b11 O11 => ?_⟩
      have no10 := (A9.ex e10).ow.no
      have A11 := (A9.ex e10).own b11 O11
      have dst11 := (dst.ex e10).but b11 no10
      clear A9 b11 O11 e10 dk dr9 no10
      -- the sheet does it too
      obtain ⟨dx, fs, g1, g2⟩ := sheet_no A11.sh (m := "do") fun _ _ _ _ => rfl
      refine wB_one (wS_ret (wE_ownG (W := noW) GL (hr7.mono (by decide)) hgd takesNo (wA_of (pa_cons pE (pa_cons pE pa_nil)) ?_)))
      refine wE_methX (W := noW) M.doM M.T.cl (hr7.mono (by decide)) takesNo (wE_var 1 rfl rfl ⟨sa, dx, fs, rfl, g1, g2, wA_of (pa_cons pE pa_nil) (wE_var 6 rfl rfl ⟨sa, FF, S, _, rfl, A11.sh, by omega, by omega, .inr ⟨((nm, z) : Step), dst11, ?_, fun H12 b12 S12 => ?_⟩⟩)⟩)
      · show (isIn nm FF.1.items && isTimes z) = true
        unfold isTimes
        rw [isIn_iff.mpr hnm, decide_eq_true hz2.1, decide_eq_true hz2.2.1, decide_eq_true hz2.2.2]; rfl
      · have A12 := A11.sheet b12 S12
        have fr1 := hK.now.fr0
        have fr2 := hK.now.fr
        show wE _ _ _ _ _
        refine TX.go (x := S.now.2) ?_ fun v13 H13 e13 d13 => ?_
        · exact tx_snd (q := S.now) (tx_ixL (i := -1) (tx_ownP hu 2 A12.ow) (tx_neg tx_int) atI_last)
        exact ⟨_, v13, .int S.now.2, rfl, hd_int (i := S.now.2), d13, okR_int (by omega), fun H14 e14 => k H14 _ ((A12.ex (e13.trans e14)).less (Nat.le_refl _)) D1⟩
    · rename_i hb0
      refine wB_nil (wB_cons (wS_if (TB.go (tb_lt (tx_var 3 hd_int) tx_int) fun H4 e4 => ?_)))
      have A4 := A3.ex e4
      have dr4 := dr3.ex e4
      clear A3 dr3 e4
      split
      · rename_i hb1
        have hw7 : way < 7 := of_decide_eq_true hb1
        have hne : S.now.1.items ≠ [] := fun z => hb0 (by
          have : S.now.1 = Tup.mk [] := by cases h : S.now.1 with | mk l => rw [h] at z; simp at z; rw [z]
          rw [decide_eq_true this, hb1]; simp)
        have hpos : 1 ≤ S.now.1.items.length := List.length_pos_iff.mpr hne
        refine wB_cons (wS_set (i := 7) scLStep.nd rfl (wE_fst (wE_ixTD (tx_var 4 dr4) fun vn H5 e5 dn => wE_draw (r := r + 1) (mp := mp) (lim := ((S.now.1.items.length : Nat) : Int)) (k := 2) ND hr2 (wE_var 0 rfl rfl ⟨rfl, TX.go (tx_lenT B.len (tx_var 4 (dr4.ex e5))) fun vl H6 e6 dl => ⟨dl.int, (by omega), (by omega), (A4.ex (e5.trans e6)).ms, fun H7 d7 b7 M7 hd0 hd1 => ⟨d7, rfl, hd0, hd1, ?_, fun pv pq hpq dpq => ?_⟩⟩⟩))))
        · exact (dn.ex e6).but b7 (A4.ex (e5.trans e6)).ms.no
        have A7 := (A4.ex (e5.trans e6)).draw b7 M7
        obtain ⟨lq, v1, v2, rfl, g1, g2, g3⟩ := dpq.pair
        obtain rfl := g2.int
        refine ⟨lq, _, _, rfl, g1, ?_⟩
        clear M7 b7 dl dn dr4 A4 g1 g2 g3 dpq
        have hin : isIn pq.1 (nums S) = true := isIn_iff.mpr (List.mem_map.mpr ⟨pq, hpq, rfl⟩)
        have hh := hold_eq hG hK.now (isIn_iff.mp hin)
        refine wB_cons (wS_set (i := 8) scLStep.nd rfl (TX.go (x := holdF FF S pq.1) ?_ fun v8 H8 e8 d8 => ?_))
        · rw [hh]
          exact tx_held NH hr2 2 A7.ow (by omega) (tx_var 7 (hd_int (i := pq.1)))
        have A8 := A7.ex e8
        clear A7
        refine wB_cons (wS_if (wT_of (pt_not (pt_val pE)) ?_))
        obtain ⟨dx, fs, y1, y2⟩ := sheet_no A8.sh (m := "ahead_of") fun _ _ _ _ => rfl
        refine wE_ownG (W := noW) GL (hr7.mono (by decide)) hgd takesNo (wA_of (pa_cons pE (pa_cons pE pa_nil)) ?_)
        refine wE_methX (W := noW) M.ahead M.T.cl (hr7.mono (by decide)) takesNo (wE_var 1 rfl rfl ⟨sa, dx, fs, rfl, y1, y2, wA_of (pa_cons pE pa_nil) (wE_var 7 rfl rfl ⟨sa, FF, S, pq.1, rfl, A8.sh, by omega, fun _ u9 H9 e9 d9 => ?_, fun z => by rw [hin] at z; cases z⟩)⟩)
        show wE _ _ _ _ _
        refine TX.go (x := Tup.mk (holdF FF S pq.1)) ?_ fun v10 H10 e10 d10 => ?_
        · exact tx_tuple B.tuple (tx_var 8 (d8.ex e9))
        refine ⟨u9, v10, _, rfl, d9.ex e10, d10, okR_ints (Nat.le_trans (lhold_small hK.now (by omega) _).1 (by decide)) (lhold_small hK.now (by omega) _).2, fun H11 e11 => ⟨true, rfl, ?_⟩⟩
        have A11 := A8.ex ((e9.trans e10).trans e11)
        have d11 := d8.ex ((e9.trans e10).trans e11)
        dsimp only
        rw [if_neg (by decide)]
        refine wB_nil (wB_cons (wS_if (TB.go (tb_eq (hu64 hr) (tx_var 3 hd_int) tx_int) fun H12 e12 => ?_)))
        have A12 := A11.ex e12
        have d12 := d11.ex e12
        clear A11 d11 A8 d8 d9 d10
        have hp1 := hK.lp
        have hl1 := hK.ll
        split
        · -- all that hold it are taken back
          have W1 := filt_ok hK fun q => !isIn q.1 (holdF FF S pq.1 ++ [pq.1])
          have eS : allS FF S pq.1 = withoutS S (holdF FF S pq.1 ++ [pq.1]) := by
            unfold allS withoutS
            congr 3
            refine List.filter_congr fun q _ => ?_
            congr 1
            exact decide_eq_decide.mpr (by unfold allF; simp [List.mem_append])
          refine wB_cons (wS_expr (wE_own NW (hr7.mono (by decide)) (wA_of (pa_cons (pe_var (i := 2) rfl (.inl rfl)) (pa_cons pE pa_nil)) ⟨_, rfl, ?_⟩)))
          refine TX.go (x := holdF FF S pq.1 ++ [pq.1]) (tx_catL ?_ (tx_var 8 d12) (tx_lst (tl_cons (tx_var 7 (hd_int (i := pq.1))) tl_nil) (by show 1 ≤ 100000; decide))) fun vk H13 e13 dk => ?_
          · have := (lhold_small hK.now (by omega) pq.1).1
            simp only [List.length_cons, List.length_nil]; omega
          refine ⟨ao, mp.gl, FF, S, vk, _, rfl, (A12.ex e13).ow, (A12.ex e13).gk, dk, by omega, by omega, fun H14 b14 O14 => ?_⟩
          have no13 := (A12.ex e13).ow.no
          have nl13 := (A12.ex e13).ow.noL
          have A14 := (A12.ex e13).own b14 O14
          have d14 := (d12.ex e13).butL b14 no13 nl13
          obtain ⟨dx, fs, y1, y2⟩ := sheet_no A14.sh (m := "take_all") fun _ _ _ _ => rfl
          refine wB_one (wS_ret (wE_ownG (W := noW) GL (hr7.mono (by decide)) hgd takesNo (wA_of (pa_cons pE (pa_cons pE pa_nil)) ?_)))
          refine wE_methX (W := noW) M.all M.T.cl (hr7.mono (by decide)) takesNo (wE_var 1 rfl rfl ⟨sa, dx, fs, rfl, y1, y2, wA_of (pa_cons pE pa_nil) (wE_var 7 rfl rfl ⟨sa, FF, S, pq.1, rfl, A14.sh, by omega, by omega, hin, fun u15 H15 b15 S15 d15 => ?_⟩)⟩)
          have A15 := A14.sheet b15 S15
          have d8' := d14.butL b15 A14.sh.no A14.sh.noL
          show wE _ _ _ _ _
          refine TX.go (x := Tup.mk (allF FF S pq.1)) ?_ fun v16 H16 e16 d16 => ?_
          · exact tx_tuple B.tuple (tx_catL (by have := (lhold_small hK.now (by omega) pq.1).1; rw [List.length_reverse]; simp only [List.length_cons, List.length_nil]; omega) (tx_rev (tx_var 8 d8')) (tx_lst (tl_cons (tx_var 7 (hd_int (i := pq.1))) tl_nil) (by show 1 ≤ 100000; decide)))
          refine ⟨u15, v16, _, rfl, d15.ex e16, d16, okR_ints ?_ ?_, fun H17 e17 => k H17 (allS FF S pq.1) ?_ ?_⟩
          · unfold allF
            have := (lhold_small hK.now (by omega) pq.1).1
            rw [List.length_append, List.length_reverse]; simp only [List.length_cons, List.length_nil]; omega
          · intro i hi
            unfold allF at hi
            rcases List.mem_append.mp hi with hi | hi
            · exact (lhold_small hK.now (by omega) pq.1).2 i (List.mem_reverse.mp hi)
            · rw [List.mem_singleton.mp hi]; exact nums_small hK.now (by omega) (isIn_iff.mp hin)
          · have A17 := (A15.ex (e16.trans e17)).less (r' := r) (by omega)
            rw [eS] at A17 ⊢
            exact A17
          · rw [eS]; exact W1
        · -- one is taken back, or held
          refine wB_nil (wB_cons (wS_set (i := 9) scLStep.nd rfl ?_))
          obtain ⟨c₀, hTB, hcc⟩ := Z
          obtain ⟨oc, od, kV, doc, pm, an, ct, osl, hlk⟩ := hcd
          have hcd0 : cdv = .ref c₀ := hcc _ _ _ _ _ _ _ _ _ _ _ _ _ _ hlk
          refine wE_callLam1 (W := noW) (n := 0) GS (hr7.mono (by decide)) hgd takesNo (fun cl h => own_def (fun _ => rfl) h) hTB hcd0 rfl A12.tt hP (show freeB (defScope (top 54)) _ = true by decide +kernel) fun Cl f1 c1 P1 H13 nf hc1 kp13 hla T13 _ H14 aC ok14 ca => ?_
          have cvS := caught_cv (i := 1) (y := "sheet") Cl ca (by decide +kernel) (hk := show (defScope (top 54)).names.lookup _ ≠ some .local by decide +kernel)
          have cvN := caught_cv (i := 7) (y := "number") Cl ca (by decide +kernel) (hk := show (defScope (top 54)).names.lookup _ ≠ some .local by decide +kernel)
          have A13 := A12.kp0 kp13 T13
          have d13 := d12.kpL kp13 NoTup.nil NoLst.nil
          refine ⟨f1, rfl, (hla.ex aC.ex).fn, 4, spTakeL K C c.hd sa FF S pq.1, fun H => LamAt H f1 _ _ _ _ _ c1 ∧ CodeAt H c1 P1 _ ∧ CellsOk H _ ∧ Cv H _ "sheet" (.ref sa) ∧ Cv H _ "number" (.int pq.1),
            cl_of (N := ["sheet", "number"]) (ps := []) (lamSc_by (by decide +kernel)) Cl (fun pm ctv us hu => ?_) (fun H h => ⟨h.1, h.2.1, h.2.2.1⟩) ?_, by decide, fun H15 e15 => ⟨⟨(hla.ex aC.ex).ex e15, (hc1.ex aC.ex).ex e15, ok14.ex e15, cvS.ex e15, cvN.ex e15⟩, fun Q' E' kq ke kx => ?_⟩⟩
          · match us, hu with
            | [], _ => rfl
          · rintro A1 outer1 s1 G vs Q1 E1 hr1 hg1 e01 ⟨l1, l2, o1, w1, w2⟩ hn ⟨hS1, kq1, ke1⟩
            refine ⟨[some (.ref sa), some (.int pq.1)], ⟨rfl, fun i y v hy hv => ?_⟩, ?_⟩
            · match i, hy, hv with
              | 0, hy, hv => cases hy; cases hv; exact .inr ⟨by decide +kernel, w1⟩
              | 1, hy, hv => cases hy; cases hv; exact .inr ⟨by decide +kernel, w2⟩
            · have S2 := hS1.hide o1.std
              obtain ⟨dx2, fs2, y3, y4⟩ := sheet_no S2 (m := "take_back") fun _ _ _ _ => rfl
              refine wE_methX (W := fun cls d _ H' => NoC H' _ → E1 cls d (showC G H' _)) M.take M.T.cl hr1 (takes_of rfl rfl rfl rfl) (wE_var 0 rfl rfl ⟨sa, dx2, fs2, rfl, y3, y4, wA_of (pa_cons pE pa_nil) (wE_var 1 rfl rfl ⟨sa, FF, S, pq.1, rfl, S2, by omega, by omega, hin,
                fun hh H' b' S' nC => kq1 hh _ (but_show b') (S'.ofEx (ex_show nC)), fun z zs hz H' d e' nd nC => ke1 z zs hz _ d (ex_showR (e'.trans (Ex.new nd))) (ex_show nC d _ upd_same)⟩)⟩)
          · have e35 : Ex H13 H15 := aC.ex.trans e15
            refine ⟨A13.sh.ofEx e35, fun hh H16 b16 S16 => kq .non H16 fun l H17 e17 hl std17 => ?_, fun z zs hz H16 d e16 hd => ke .held d z H16 hd fun v H17 e17 dv std17 => ?_⟩
            · -- it came to its end
              have b17 := but_hideR aC.new (((But.of_ex e35).trans b16).trans (But.of_ex e17))
              have S17 := (S16.ofEx e17).hide std17
              have A17 := A13.sheet b17 S17
              have hl17 := hideC_of std17 hl (fun o z => by cases z)
              have d17 := d13.butL b17 A13.sh.no A13.sh.noL
              rw [hh] at d17
              generalize hideC H17 _ = G17 at *
              have Lt : LAt K G17 l [()] := ⟨_, hl17, .cons .non .nil⟩
              refine wB_cons (wS_if (TB.go (TB.conv (tb_ne (hu64 hr) (α := List Int) (tx_var 8 d17) (tx_lst tl_nil (by decide))) (t' := false) (by simp)) fun H18 e18 => ?_))
              rw [if_neg (by decide)]
              have A18 := A17.ex e18
              refine wB_nil (wB_cons (wS_expr (wE_own NW (hr7.mono (by decide)) (wA_of (pa_cons (pe_var (i := 2) rfl (.inl rfl)) (pa_cons pE pa_nil)) ⟨_, rfl, ?_⟩))))
              refine TX.go (x := [pq.1]) (tx_lst (tl_cons (tx_var 7 (hd_int (i := pq.1))) tl_nil) (by show 1 ≤ 100000; decide)) fun vk H19 e19 dk => ?_
              refine ⟨ao, mp.gl, FF, S, vk, _, rfl, (A18.ex e19).ow, (A18.ex e19).gk, dk, by omega, by omega, fun H20 b20 O20 => ?_⟩
              have A20 := (A18.ex e19).own b20 O20
              have Lh := (Lt.hd.ex (e18.trans e19)).butL b20 (A18.ex e19).ow.no (A18.ex e19).ow.noL
              have eS : withoutS S [pq.1] = lessS S pq.1 := by
                unfold withoutS lessS
                congr 3
                refine List.filter_congr fun q _ => ?_
                rw [notIn_eq]
                exact decide_eq_decide.mpr (by simp)
              refine wB_one (wS_ret (TX.go (TX.conv (tx_eq (hu64 hr) (α := List Unit) (tx_var 9 Lh) (tx_lst (tl_cons tx_none tl_nil) (by show 1 ≤ 100000; decide))) (x' := true) (decide_eq_true rfl)) fun v21 H21 e21 d21 => ?_))
              obtain rfl := d21.bl
              rw [eS] at A20
              exact k H21 _ ((A20.ex e21).less (by omega)) (filt_ok hK fun q => decide (q.1 ≠ pq.1))
            · -- it is held
              have e137 : Ex H13 (hideC H17 _) := ex_hideR aC.new ((e35.trans e16).trans e17)
              have A17 := A13.ex e137
              have d17 := d13.ex e137
              have dv17 := dv.hide std17
              rw [hz] at d17
              generalize hideC H17 _ = G17 at *
              refine wB_cons (wS_if (TB.go (TB.conv (tb_ne (hu64 hr) (α := List Int) (tx_var 8 d17) (tx_lst tl_nil (by decide))) (t' := true) (by simp)) fun H18 e18 => ?_))
              rw [if_pos rfl]
              refine wB_one (wS_ret (TX.go (TX.conv (tx_eq (hu64 hr) (α := Str × Int) (tx_var 9 (dv17.ex e18)) (tx_pair (t2_mk tx_str (tx_ixL (i := 0) (tx_var 8 (d17.ex e18)) tx_int (atI_nat (n := 0) rfl))))) (x' := true) (decide_eq_true rfl)) fun v21 H21 e21 d21 => ?_))
              obtain rfl := d21.bl
              exact k H21 S ((A17.ex (e18.trans e21)).less (by omega)) (hK.mono (Nat.le_succ _))
      · refine wB_nil (wB_cons (wS_if (TB.go (tb_eq (hu64 hr) (tx_var 3 hd_int) tx_int) fun H5 e5 => ?_)))
        have A5 := A4.ex e5
        have hp1 := hK.lp
        have hl1 := hK.ll
        split
        · obtain ⟨dx, fs, y1, y2⟩ := sheet_no A5.sh (m := "undo") fun _ _ _ _ => rfl
          refine wB_one (wS_ret (wE_ownG (W := noW) GL (hr7.mono (by decide)) hgd takesNo (wA_of (pa_cons pE (pa_cons pE pa_nil)) ?_)))
          refine wE_meth0 M.undo M.T.cl (hr7.mono (by decide)) (wE_var 1 rfl rfl ⟨sa, dx, fs, rfl, y1, y2, sa, FF, S, rfl, A5.sh, by omega, by omega, fun hc H6 e6 => ?_, fun hc H6 b6 S6 => ?_⟩)
          · have A6 := A5.ex e6
            refine wE_own NS (hr7.mono (by decide)) (wA_of (pa_cons (pe_var (i := 2) rfl (.inl rfl)) (pa_cons pe_str (pa_cons pe_str pa_nil))) ⟨_, rfl, ao, mp.gl, FF, S, true, rfl, A6.ow, A6.gk, by omega, by omega, fun _ H7 e7 => ?_, fun z => by rw [hc] at z; cases z⟩)
            exact ⟨.bl false, .bl false, .bool false, rfl, .bl false, .bl false, okR_bool, fun H8 e8 => k H8 S ((A6.ex (e7.trans e8)).less (by omega)) (hK.mono (Nat.le_succ _))⟩
          · have A6 := A5.sheet b6 S6
            refine wE_own NS (hr7.mono (by decide)) (wA_of (pa_cons (pe_var (i := 2) rfl (.inl rfl)) (pa_cons pe_str (pa_cons pe_str pa_nil))) ⟨_, rfl, ao, mp.gl, FF, S, true, rfl, A6.ow, A6.gk, by omega, by omega, (fun z => by rw [hc] at z; cases z), fun _ H7 b7 O7 => ?_⟩)
            have A7 := A6.own b7 O7
            exact ⟨.bl true, .bl true, .bool true, rfl, .bl true, .bl true, okR_bool, fun H8 e8 => k H8 (shiftS true S) ((A7.ex e8).less (by omega)) ((shift_ok hK hc).mono (Nat.le_succ _))⟩
        · obtain ⟨dx, fs, y1, y2⟩ := sheet_no A5.sh (m := "redo") fun _ _ _ _ => rfl
          refine wB_nil (wB_one (wS_ret (wE_ownG (W := noW) GL (hr7.mono (by decide)) hgd takesNo (wA_of (pa_cons pE (pa_cons pE pa_nil)) ?_))))
          refine wE_meth0 M.redo M.T.cl (hr7.mono (by decide)) (wE_var 1 rfl rfl ⟨sa, dx, fs, rfl, y1, y2, sa, FF, S, rfl, A5.sh, by omega, by omega, fun hc H6 e6 => ?_, fun hc H6 b6 S6 => ?_⟩)
          · have A6 := A5.ex e6
            refine wE_own NS (hr7.mono (by decide)) (wA_of (pa_cons (pe_var (i := 2) rfl (.inl rfl)) (pa_cons pe_str (pa_cons pe_str pa_nil))) ⟨_, rfl, ao, mp.gl, FF, S, false, rfl, A6.ow, A6.gk, by omega, by omega, fun _ H7 e7 => ?_, fun z => by rw [hc] at z; cases z⟩)
            exact ⟨.bl false, .bl false, .bool false, rfl, .bl false, .bl false, okR_bool, fun H8 e8 => k H8 S ((A6.ex (e7.trans e8)).less (by omega)) (hK.mono (Nat.le_succ _))⟩
          · have A6 := A5.sheet b6 S6
            refine wE_own NS (hr7.mono (by decide)) (wA_of (pa_cons (pe_var (i := 2) rfl (.inl rfl)) (pa_cons pe_str (pa_cons pe_str pa_nil))) ⟨_, rfl, ao, mp.gl, FF, S, false, rfl, A6.ow, A6.gk, by omega, by omega, (fun z => by rw [hc] at z; cases z), fun _ H7 b7 O7 => ?_⟩)
            have A7 := A6.own b7 O7
            exact ⟨.bl true, .bl true, .bool true, rfl, .bl true, .bl true, okR_bool, fun H8 e8 => k H8 (shiftS false S) ((A7.ex e8).less (by omega)) ((shift_ok hK hc).mono (Nat.le_succ _))⟩
end
end K95
/-! LA: the law's world with cells and without; tests with effects; what raises by itself. -/
namespace K95
open PySem PySem.Spec PySem.Calls PySem.W PyProof.Rows L2 Evl
/-! ### the world's places -/
section
variable {K : Frag} {C sa ao fa : Addr} {tb : List (Addr × Nat × Str)} {H0 H H1 H' : Hp} {mp : Mp} {r r' : Nat} {F : Fld} {S Z S' Z' Z0 : St2} {cl : List (Str × Addr)}
theorem Al.self (a : Al K C tb H0 H mp r sa ao F S Z) : Al K C tb H H mp r sa ao F S Z := ⟨a.ms, a.sh, a.ow, a.tt, Kp.refl⟩
theorem Al.andThen (a : Al K C tb H0 H mp r sa ao F S Z) (b : Al K C tb H H1 mp r' sa ao F S' Z') : Al K C tb H0 H1 mp r' sa ao F S' Z' := ⟨b.ms, b.sh, b.ow, b.tt, a.fr.trans b.fr⟩
structure Pl (H : Hp) (mp : Mp) (sa ao : Addr) : Prop where
  m : ∃ n, H mp.am = some (.dK (mKvs mp.cl mp.gl n))
  c : ∃ us, H mp.cl = some (.lst us)
  g : ∃ us, H mp.gl = some (.lst us)
  s : ∃ C dx fs, H sa = some (.ins C dx fs)
  o : ∃ vF vN pa la, H ao = some (.dK (oKvs vF vN pa la))
theorem Al.pl (a : Al K C tb H0 H mp r sa ao F S Z) : Pl H mp sa ao := by
  obtain ⟨cs, gs, n, h1, h2, h3, h4, h5⟩ := a.ms.ex
  obtain ⟨us, hgl, _⟩ := h4.at_
  obtain ⟨us2, hcl, _⟩ := h2.at_
  obtain ⟨dx, vF, vN, vP, vL, s1, _⟩ := a.sh.ex
  obtain ⟨wF, wN, pa, la, o1, _⟩ := a.ow.ex
  exact ⟨⟨n, h1⟩, ⟨us2, hcl⟩, ⟨us, hgl⟩, ⟨_, dx, _, s1⟩, ⟨wF, wN, pa, la, o1⟩⟩
theorem Pl.am_ao (p : Pl H mp sa ao) : mp.am ≠ ao := fun z => by
  obtain ⟨n, h1⟩ := p.m
  obtain ⟨vF, vN, pa, la, h2⟩ := p.o
  rw [z, h2] at h1
  have o1 := Option.some.inj h1
  injection o1 with o1
  injection o1 with o1 _
  injection o1 with o1 _
  exact absurd o1 (by decide)
theorem Pl.mem {P : Addr → Prop} (h1 : P mp.am) (h2 : P mp.gl) (h3 : P sa) (h4 : P ao) : ∀ b ∈ [mp.am, mp.gl, sa, ao], P b := fun b hb => by
  simp only [List.mem_cons, List.mem_nil_iff, or_false] at hb
  rcases hb with rfl | rfl | rfl | rfl <;> assumption
theorem Pl.noTup (p : Pl H mp sa ao) : NoTup [mp.am, mp.gl, sa, ao] H := by
  obtain ⟨n, h1⟩ := p.m
  obtain ⟨us, h2⟩ := p.g
  obtain ⟨C, dx, fs, h3⟩ := p.s
  obtain ⟨vF, vN, pa, la, h4⟩ := p.o
  exact NoTup.cons (notup_dK h1) (NoTup.cons (notup_lst h2) (NoTup.cons (notup_ins h3) (NoTup.cons (notup_dK h4) NoTup.nil)))
theorem Pl.noStd (p : Pl H mp sa ao) : ∀ b ∈ [mp.am, mp.gl, sa, ao], ∀ o, H b ≠ some (Std o) := by
  obtain ⟨n, h1⟩ := p.m
  obtain ⟨us, h2⟩ := p.g
  obtain ⟨C, dx, fs, h3⟩ := p.s
  obtain ⟨vF, vN, pa, la, h4⟩ := p.o
  exact Pl.mem (P := fun b => ∀ o, H b ≠ some (Std o)) (fun o z => by rw [h1] at z; cases z) (fun o z => by rw [h2] at z; cases z) (fun o z => by rw [h3] at z; cases z) (fun o z => by rw [h4] at z; cases z)
theorem Pl.only (p : Pl H mp sa ao) : OnlyGl [mp.am, mp.gl, sa, ao] mp.gl H := by
  obtain ⟨n, h1⟩ := p.m
  obtain ⟨C, dx, fs, h3⟩ := p.s
  obtain ⟨vF, vN, pa, la, h4⟩ := p.o
  exact Pl.mem (P := fun b => b = mp.gl ∨ ∀ us, H b ≠ some (.lst us)) (.inr fun o z => by rw [h1] at z; cases z) (.inl rfl) (.inr fun o z => by rw [h3] at z; cases z) (.inr fun o z => by rw [h4] at z; cases z)
/-- another instance is none of them -/
theorem Pl.ins (p : Pl H mp sa ao) {ta C dx : Addr} {fs : List (Str × V)} (h : H ta = some (.ins C dx fs)) (n : ta ≠ sa) : ta ∉ [mp.am, mp.gl, sa, ao] := by
  obtain ⟨n', h1⟩ := p.m
  obtain ⟨us, h2⟩ := p.g
  obtain ⟨vF, vN, pa, la, h4⟩ := p.o
  intro z
  simp only [List.mem_cons, List.mem_nil_iff, or_false] at z
  rcases z with z | z | z | z
  · rw [z, h1] at h; cases h
  · rw [z, h2] at h; cases h
  · exact n z
  · rw [z, h4] at h; cases h
/-- with another dict of the law's own in the place of ao, made on the way: ao stands -/
theorem Al.back (a : Al K C tb H H1 mp r sa ao F S Z) (hf : H fa = none) (b : Al K C tb H1 H1 mp r sa fa F S Z0) (c : Al K C tb H1 H' mp r' sa fa F S' Z') (ho : ∃ o, H ao = some o) : Al K C tb H H' mp r' sa ao F S' Z := by
  have ne : ao ≠ fa := fun z => by
    obtain ⟨o, ho⟩ := ho
    rw [z, hf] at ho; cases ho
  have pb := b.pl
  have pa := a.pl
  refine ⟨c.ms, c.sh, a.ow.kp c.fr pb.noTup (fun z => ?_) pb.only, c.tt, fun x o hx ht hxo => c.fr x o (fun z => ?_) ht (a.fr x o hx ht hxo)⟩
  · simp only [List.mem_cons, List.mem_nil_iff, or_false] at z
    rcases z with z | z | z | z
    · exact pa.am_ao z.symm
    · obtain ⟨us, h2⟩ := pa.g
      obtain ⟨vF, vN, p1, l1, h4⟩ := pa.o
      rw [z, h2] at h4; cases h4
    · obtain ⟨C, dx, fs, h2⟩ := pa.s
      obtain ⟨vF, vN, p1, l1, h4⟩ := pa.o
      rw [z, h2] at h4; cases h4
    · exact ne z
  · simp only [List.mem_cons, List.mem_nil_iff, or_false] at z hx
    rcases z with z | z | z | z
    · exact hx (.inl z)
    · exact hx (.inr (.inl z))
    · exact hx (.inr (.inr (.inl z)))
    · rw [z, hf] at hxo; cases hxo
/-! ### with cells, without -/
theorem code_no_cell (t : CellsOk H cl) {c P : Addr} {q : Str} (h : CodeAt H c P q) : c ∉ adr cl := fun z => by
  obtain ⟨oc, e, f⟩ := h
  obtain ⟨o, v, e2, d⟩ := t c z
  rw [e] at e2
  have e2 := Option.some.inj e2
  cases e2
  have g : (⟨Array.replicate (c + 1) oc, {}⟩ : Heap).get? c = some oc := by
    obtain ⟨x1, x2, x3, x4⟩ := oc
    have d : x3 = .cell v := d
    subst d
    unfold Heap.get?
    simp
  obtain ⟨_, c', o', vs', t', e3, e4, e5, _⟩ := f _ g
  cases e3
  rw [g] at e4
  cases e4
  rw [d] at e5
  cases e5
theorem CodeAt.hide (t : CellsOk H cl) {c P : Addr} {q : Str} (h : CodeAt H c P q) : CodeAt (hideC H cl) c P q := by
  have n := code_no_cell t h
  exact h.kp fun o ho => by rw [hideC_out n]; exact ho
theorem TTs.hide (t : CellsOk H cl) (h : TTs tb H) : TTs tb (hideC H cl) := by
  obtain ⟨nm, T, a⟩ := h
  refine ⟨nm, fun P n q e => ?_, a⟩
  obtain ⟨ps, h1, h2, h3⟩ := T P n q e
  refine ⟨ps, hideC_of t.std h1 (fun o z => by cases z), h2, fun pos cv hc => ?_⟩
  obtain ⟨c, P', x, y, z⟩ := h3 pos cv hc
  exact ⟨c, P', x, y.hide t, z⟩
theorem HdAll.hide {α : Type} [DecidableEq α] [Datum α] {vs : List V} {xs : List α} (t : StdAll H cl) (h : HdAll K H vs xs) : HdAll K (hideC H cl) vs xs := dpAll_keep (fun _ _ h => by
    rcases h with h | h
    · exact .inl (rd_hide t h (fun o z => by cases z) fun z => by cases z)
    · exact .inr h) (fun _ _ h => by
    rcases h with h | h
    · exact .inl (rd_hide t h (fun o z => by cases z) fun z => by cases z)
    · exact .inr h) h
theorem LAt.hide {α : Type} [DecidableEq α] [Datum α] {l : Addr} {xs : List α} (t : StdAll H cl) (h : LAt K H l xs) : LAt K (hideC H cl) l xs := by
  obtain ⟨us, h1, h2⟩ := h.at_
  exact ⟨us, hideC_of t h1 (fun o z => by cases z), h2.hide t⟩
theorem MS.hide (t : StdAll H cl) (h : MS K H mp r) : MS K (hideC H cl) mp r := by
  obtain ⟨cs, gs, n, h1, h2, h3, h4, h5⟩ := h.ex
  exact ⟨cs, gs, n, hideC_of t h1 (fun o z => by cases z), h2.hide t, h3, h4.hide t, h5⟩
theorem OwnAt.hide {gl : Addr} (t : StdAll H cl) (h : OwnAt K H ao gl F S) : OwnAt K (hideC H cl) ao gl F S := by
  obtain ⟨vF, vN, pa, la, h1, h2, h3, h4, h5, h6⟩ := h.ex
  exact ⟨vF, vN, pa, la, hideC_of t h1 (fun o z => by cases z), h2.hide t, h3.hide t, h4.hide t, h5.hide t, h6⟩
/-- into a lambda's body -/
theorem Al.hideS (t : CellsOk H cl) (a : Al K C tb H0 H mp r sa ao F S Z) : Al K C tb (hideC H cl) (hideC H cl) mp r sa ao F S Z := ⟨a.ms.hide t.std, a.sh.hide t.std, a.ow.hide t.std, a.tt.hide t, Kp.refl⟩
/-- behind a call with cells caught -/
theorem Al.hideR (t : CellsOk H' cl) (n : NoC H cl) (a : Al K C tb H H' mp r sa ao F S Z) : Al K C tb H (hideC H' cl) mp r sa ao F S Z := ⟨a.ms.hide t.std, a.sh.hide t.std, a.ow.hide t.std, a.tt.hide t, kp_hideR n a.fr⟩
/-- out of a lambda's body -/
theorem Al.showR (n : NoC H' cl) (a : Al K C tb (hideC H cl) H' mp r sa ao F S Z) : Al K C tb H (showC H H' cl) mp r sa ao F S Z := by
  have b := (a.self).ex (ex_show (H := H) n)
  exact ⟨b.ms, b.sh, b.ow, b.tt, kp_show a.fr⟩
end
/-! ### tests with effects -/
def wW (X : Cx) (e : Expr) : TT := fun σ H Q => ∀ wh pins s, Inv X pins σ H s → wpAny (model X.prog X.w) X.A (isTrue e X.env wh) (TP X pins σ Q) X.xe s
section
variable {X : Cx} {e a b : Expr} {rest : List Expr} {σ : L2.St} {H : Hp} {Q : Bool → Hp → Prop} {p pos : Pos} {D : Ends}
theorem pW : PW X e (wW X e) := ⟨fun wh pins s σ H Q I h => h wh pins s I⟩
theorem wW.t (h : wW X e σ H Q) : wT X e σ H Q := fun pins s I => h _ pins s I
theorem wW_or (h : wT X a σ H fun c H1 => if c = true then Q true H1 else wW X (.BoolOp .Or (b :: rest) p) σ H1 Q) : wW X (.BoolOp .Or (a :: b :: rest) p) σ H Q := fun wh pins s I => (pw_or pT pW).run wh pins s σ H Q I h
theorem wW_or1 (h : wT X a σ H Q) : wW X (.BoolOp .Or [a] p) σ H Q := fun wh pins s I => (pw_or1 pT).run wh pins s σ H Q I h
theorem wW_and (h : wT X a σ H fun c H1 => if c = true then wW X (.BoolOp .And (b :: rest) p) σ H1 Q else Q false H1) : wW X (.BoolOp .And (a :: b :: rest) p) σ H Q := fun wh pins s I => (pw_and pT pW).run wh pins s σ H Q I h
theorem wW_and1 (h : wT X a σ H Q) : wW X (.BoolOp .And [a] p) σ H Q := fun wh pins s I => (pw_and1 pT).run wh pins s σ H Q I h
theorem wT_not (h : wT X a σ H fun c H1 => Q (!c) H1) : wT X (.UnaryOp .Not a p) σ H Q := wT_of (pt_not pT) h
/-- a call, as a test -/
theorem wT_v (h : wE X e σ H fun v H1 => ∃ c, v = .bl c ∧ Q c H1) (he : ∀ whole, isTrue e X.env whole = (do let v ← whole; standAt e.pos; holding [v] (truthy v)) := by intro _; rfl) : wT X e σ H Q := wT_of (pt_val pE he) h
theorem wT_cmpD {op : CmpOp} {r : R2} (ho : OpR X (compareOp op) r) (h : wE X a σ H fun v H1 => wE X b σ H1 fun w H2 => r v w H2 fun u H3 => ∃ c, u = .bl c ∧ Q c H3) (hm : behindInMarks op b = false := by first | exact nomark _ | with_unfolding_all rfl) : wT X (.Compare a [op] [b] p) σ H Q := wT_of (pt_cmpR ho pE pE hm) h
theorem wE_cmpD {op : CmpOp} {r : R2} {Q : VK} (ho : OpR X (compareOp op) r) (h : wE X a σ H fun v H1 => wE X b σ H1 fun w H2 => r v w H2 Q) (hm : behindInMarks op b = false := by first | exact nomark _ | with_unfolding_all rfl) : wE X (.Compare a [op] [b] p) σ H Q := wE_of (pe_cmpR ho pE pE hm) h
theorem wE_and {Q : VK} (h : wE X a σ H fun v H1 => ∃ c, v = .bl c ∧ if c = true then wE X (.BoolOp .And (b :: rest) p) σ H1 Q else Q (.bl false) H1) : wE X (.BoolOp .And (a :: b :: rest) p) σ H Q := wE_of (pe_and pE pE) h
theorem wE_one {op} {Q : VK} (h : wE X a σ H Q) : wE X (.BoolOp op [a] p) σ H Q := wE_of (pe_one pE) h
/-- for .. in range(a), a with effects -/
theorem wS_rangeD {tg : Expr} {body : List Stmt} {p1 : Pos} (hm : X.mg "range" = none) (hc : X.calm = true) (hp : PassesOwn (model X.prog X.w) X.A X.env X.xe) (ha : wE X a σ H fun v H1 => ∃ n : Nat, v = .int (n : Int) ∧ n ≤ 100000 ∧ ∃ W : Nat → L2.St → Hp → Prop, W 0 σ H1 ∧
      (∀ i, i < n → ∀ σ H, W i σ H → ∀ H', Ex H H' → wG X tg (.int (i : Int)) σ H' fun σ2 H2 => wB X body { D with nx := W (i + 1), ct := W (i + 1), bk := D.nx } σ2 H2) ∧ ∀ σ H, W n σ H → D.nx σ H) (hg : Gl X "range" := by rfl)
    (hs1 : starEach [a] X.env = [(false, eval a X.env)] := by rfl) (hs : ∀ x, foldedSetIterable (.Call (.Name "range" p1) [a] [] p) X.env x = pure x := by intro _; rfl) : wS X (.For tg (.Call (.Name "range" p1) [a] [] p) body [] pos) D σ H :=
  wS_of (ps_for hp hc pI pG pB hs) (wI_of (pi_range1 hg hm pA hs1) (wA_of (pa_cons pE pa_nil hs1) (wE_mono ha fun v H1 ⟨n, ev, hn, W, h0, turn, done⟩ => by
    have b62 : (2 : Int) ^ 62 = 4611686018427387904 := by decide
    refine ⟨n, by rw [ev], by omega, by omega, ?_⟩
    refine wS_for (xs := rng 0 ((n : Int)).toNat) (J := Itr 0 ((n : Int)).toNat) (G := fun _ => True) itok_rng W h0 (fun _ _ _ _ => trivial) (fun i x hx σ H w v H' e d => ?_) fun σ H w => ?_
    · have hi := (List.getElem?_eq_some_iff.mp hx).1
      rw [rng_length] at hi
      have hz := rng_get hx
      obtain rfl := d.int
      rw [show x = (i : Int) by omega]
      exact turn i (by omega) σ H w H' e
    · rw [rng_length] at w
      exact done σ H w)))
end
/-! ### what raises by itself -/
section
variable {X : Cx} {a b : Expr} {σ : L2.St} {H : Hp} {Q : VK} {p pos p1 : Pos} {W0 : XK}
theorem op_div0 (hc : X.calm = true) (tk : Takes X (fun cls d _ H => W0 cls d H)) : OpR X (binaryOp .FloorDiv) (fun x y H Q => (∃ i : Int, x = .int i) ∧ y = .int 0 ∧ ∀ d, W0 (.type "ZeroDivisionError") d H) := by
  intro pins s σ H x y v u Q I rx ry ⟨⟨i, ex⟩, ey, w⟩
  subst ex
  subst ey
  obtain ⟨t, rfl⟩ := rx
  obtain ⟨t', rfl⟩ := ry
  exact PySem.AutoIntOps.floordiv_0 (by decide) ⟨I.ok.hd hc, fun h' tk' e hx => takes_new (t' := tk') tk I hx w⟩
/-- i // 0 -/
theorem wE_div0 (hc : X.calm = true) (tk : Takes X (fun cls d _ H => W0 cls d H)) {i : Int} (ha : TX X σ H a i) (hb : TX X σ H b (0 : Int)) (w : ∀ H1, Ex H H1 → ∀ d, W0 (.type "ZeroDivisionError") d H1) : wE X (.BinOp a .FloorDiv b p) σ H Q :=
  wE_of (pe_op (op_div0 hc tk) pE pE) (ha.go fun v H1 e1 d1 => (hb.up e1).go fun u H2 e2 d2 => ⟨⟨i, d1.int⟩, d2.int, w H2 (e1.trans e2)⟩)
/-- d["k"], d empty -/
theorem wE_dmiss {j : Nat} {k : Str} (hc : X.calm = true) (hu : X.A.units + 1 < cLine) (tk : Takes X (fun cls d _ H => W0 cls d H)) (h : wE X a σ H fun x H1 => ∃ l, x = .ref l ∧ H1 l = some (.dK []) ∧ ∀ d, W0 (.type "KeyError") d H1) (hs : NoSl (.Constant (.str k) j p1) := by intro _ _; rfl) : wE X (.Subscript a (.Constant (.str k) j p1) p) σ H Q :=
  wE_of (pe_dgetX (W := fun cls d _ H => W0 cls d H) hc hu tk pE pe_str hs) (wE_mono h fun x H1 ⟨l, ex, hl, w⟩ => ⟨l, none, ex, by have := DGet.k (k := Sum.inr k) hl; exact this, (fun v z => nomatch z), fun _ => w⟩)
/-- dict([]) -/
theorem wE_dict0 (hc : X.calm = true) (hm : X.mg "dict" = none) (q : ∀ l H1, Ex H H1 → H1 l = some (.dK []) → Q (.ref l) H1) (hg : Gl X "dict" := by rfl) (hs : starEach (.List [] p1 :: []) X.env = (false, eval (.List [] p1) X.env) :: starEach [] X.env := by rfl) : wE X (.Call (.Name "dict" p) [.List [] p1] [] pos) σ H Q :=
  wE_of (pe_callTy (call_dictP hc) hg hm (by with_unfolding_all rfl) pA (by decide) (by decide) hs rfl) (wA_of (pa_cons pE pa_nil hs) (wE_lst0 fun l hl => ⟨l, [], [], rfl, SqL.of upd_same, .nil, fun d hd => q d _ ((Ex.new hl).trans (Ex.new hd)) upd_same⟩))
/-- dict(d): a copy of a dict with text keys -/
theorem wE_dictD (hm : X.mg "dict" = none) (h : wE X a σ H fun x H1 => ∃ l kvs, x = .ref l ∧ H1 l = some (.dK kvs) ∧ ∀ p, H1 p = none → Q (.ref p) (upd H1 p (.dK kvs))) (hg : Gl X "dict" := by rfl) (hs : starEach (a :: []) X.env = (false, eval a X.env) :: starEach [] X.env := by rfl) : wE X (.Call (.Name "dict" p) [a] [] pos) σ H Q :=
  wE_of (pe_callTy call_dictD hg hm (by with_unfolding_all rfl) pA (by decide) (by decide) hs rfl) (wA_of (pa_cons pE pa_nil hs) (wE_mono h fun x H1 ⟨l, kvs, ex, hl, q⟩ => ⟨l, kvs, by rw [ex], .inl hl, q⟩))
/-- x in l, whatever the data -/
theorem op_inD (n : Nat) (hu : X.A.units + 1 + n < cLine) : OpR X (compareOp .In) (fun x y H Q => ∃ (d : PyData) (ds : List PyData), Dp X.K H x d ∧ Dp X.K H y (.list ds) ∧ PyData.plainAll ds = true ∧ d.plain = true ∧ d.depth ≤ n ∧ Q (.bl (ds.any fun y => PyData.eqv y d)) H) := by
  intro pins s σ H x y v u Q I rx ry ⟨d, ds, h1, h2, h3, h4, h5, q⟩
  obtain ⟨as, r1⟩ := Dp.reads I _ _ _ h1 rx
  obtain ⟨bs, r2⟩ := Dp.reads I _ _ _ h2 ry
  have hm : min (PyData.depthAll ds) d.depth ≤ n := Nat.le_trans (Nat.min_le_right _ _) h5
  exact PySem.SeqAt.in_list_data r2 r1 h3 h4 (by omega) ⟨.bl _, H, I, rfl, q⟩
end
end K95
/-! L7x: _law_within. -/
namespace K95
open PySem PySem.Spec PySem.Calls PySem.W PyProof.Rows L2 Evl
def spWithin (K : Frag) (C : Addr) (tb : List (Addr × Nat × Str)) (c : Ec) (n : Nat) : Sp := fun vs H Q E => ∃ (mp : Mp) (sa ao : Addr) (F : Fld) (S : St2) (B r : Nat), vs = [.ref mp.am, .ref sa, .ref sa, .ref ao, .int (n : Int)] ∧ Al K C tb H H mp (r + 15 * (n + 1)) sa ao F S S ∧ GoodF F ∧ StOk F B S ∧ B + 4 * (n + 1) ≤ 59 ∧
  (∀ H' S', Al K C tb H H' mp r sa ao F S' S → Q (.bl true) H') ∧
  (∀ H' S' d, Al K C tb H H' mp r sa ao F S' S → H' d = some (.xd [("place", .int 0)]) → E (.ref c.bs) (some d) H') ∧
  (∀ H' S' d, Al K C tb H H' mp r sa ao F S' S → H' d = some (.xd [("value", .int (-1))]) → E (.ref c.bn) (some d) H') ∧
  (∀ d H' S', Al K C tb H H' mp r sa ao F S' S → E (.type "ZeroDivisionError") d H') ∧
  (∀ d H' S', Al K C tb H H' mp r sa ao F S' S → E (.type "KeyError") d H')
def spTried (K : Frag) (C : Addr) (tb : List (Addr × Nat × Str)) (n : Nat) : Sp := fun vs H Q _ => ∃ (mp : Mp) (sa ao : Addr) (F : Fld) (S : St2) (B r : Nat), vs = [.ref mp.am, .ref sa, .ref ao, .int (n : Int)] ∧ Al K C tb H H mp (r + 15 * (n + 1)) sa ao F S S ∧ GoodF F ∧ StOk F B S ∧ B + 4 * (n + 1) ≤ 59 ∧
  ∀ H', Al K C tb H H' mp r sa ao F S S → Q (.bl true) H'
section
variable {P : Program} {w : World} {K : Frag} {mg : Str → Option Value} {base : Heap}
theorem scWithin : FnScope ["m", "sheet", "held", "own", "deep", "far", "k", "way"] ["m", "sheet", "held", "own", "deep"] (defScope (top 55)) := ⟨rfl, rfl, rfl, by decide +kernel, rfl, by decide +kernel, by decide +kernel⟩
theorem ok_within (n : Nat) {f C CT : Addr} {fd : FuncData} {c : Ec} {tb : List (Addr × Nat × Str)} (F : Fun K "_law_within" "_law_within" (top 55) f fd) (B : Bn mg) (M : ShM P w K mg base c C CT) (ND : Own P w K mg base 2 "_law_draw" ["m", "limit"] (spDraw K)) (NS : Own P w K mg base 1 "_law_shift" ["own", "begin", "goal"] (spShift K))
    (GT : OwnG P w K mg base 8 "_law_step" ["m", "sheet", "own"] (spLStep K C tb)) (GS : OwnG P w K mg base 8 "_law_stands" ["sheet", "own"] (spStands K C)) (NT : ∀ m, n = m + 1 → OwnG P w K mg base (17 + 8 * m) "_law_tried" ["m", "sheet", "own", "deep"] (spTried K C tb m)) :
    FnG P w K mg base (11 + 8 * n + 1) f fd ["m", "sheet", "held", "own", "deep"] (spWithin K C tb c n) := by
  refine fn_ofG F scWithin (fun vs H Q E h => ?_) (fun cdv A outer s H vs Q E hr hgd _ h => ?_)
  · obtain ⟨mp, sa, ao, FF, S, Bd, r, rfl, _⟩ := h; rfl
  · obtain ⟨mp, sa, ao, FF, S, Bd, r, rfl, hA, hG, hK, hB, kt, ks, kn, kz, kk⟩ := h
    have hu := hu1 hr
    have hrR : Room (11 + 8 * n) _ := hr
    have hr2 := hrR.mono (show 2 ≤ 11 + 8 * n by omega)
    have hr8 := hrR.mono (show 8 ≤ 11 + 8 * n by omega)
    have hao : ∃ o, H ao = some o := by obtain ⟨vF, vN, pa, la, o1⟩ := hA.pl.o; exact ⟨_, o1⟩
    refine ⟨_, pB, ?_⟩
    obtain ⟨vF, vN, pa, la, o1, o2, o3, o4, o5, o6, o7⟩ := hA.ow.ex
    -- far = dict(own)
    refine wB_cons (wS_set (i := 5) scWithin.nd rfl (wE_dictD B.dict (wE_var 3 rfl rfl ⟨ao, _, rfl, o1, fun fa hfa => ?_⟩)))
    have e1 := Ex.new (o := HO.dK (oKvs vF vN pa la)) hfa
    have b0 : Al K C tb (upd H fa (.dK (oKvs vF vN pa la))) (upd H fa (.dK (oKvs vF vN pa la))) mp (r + 15 * (n + 1)) sa fa FF S S := ⟨hA.ms.ofEx e1, hA.sh.ofEx e1, ⟨vF, vN, pa, la, upd_same, o2.ex e1, o3.ex e1, o4.ex e1, o5.ex e1, o6, o7⟩, hA.tt.ex e1, Kp.refl⟩
    have a0 := hA.ex e1
    clear o1 o2 o3 o4 o5 o6 o7
    generalize upd H fa (.dK (oKvs vF vN pa la)) = H1 at *
    have back : ∀ {H' : Hp} {r' : Nat} {S' Z' : St2}, Al K C tb H1 H' mp r' sa fa FF S' Z' → Al K C tb H H' mp r' sa ao FF S' S := fun x => Al.back a0 hfa b0 x hao
    -- if not _law_stands(held, far)
    refine wB_cons (wS_if (wT_not (wT_v (wE_ownG (W := noW) GS hr8 hgd takesNo (wA_of (pa_cons pE (pa_cons pE pa_nil)) (wE_var 2 rfl rfl (wE_var 5 rfl rfl ⟨sa, fa, mp.gl, FF, S, rfl, b0.sh, b0.ow, hG, hK.now.mono (by omega), fun H2 e2 => ⟨true, rfl, ?_⟩⟩)))))))
    dsimp only [Bool.not_true]
    rw [if_neg (by decide)]
    have A2 := b0.ex e2
    refine wB_nil (wB_mid (fun σ2 H' => ∃ S' kv, σ2 = [some (.ref mp.am), some (.ref sa), some (.ref sa), some (.ref ao), some (.int (n : Int)), some (.ref fa), kv, none] ∧ Al K C tb H1 H' mp (r + 15 * n + 2) sa fa FF S' S' ∧ StOk FF (Bd + 4) S') ?_ ?_)
    · -- the steps
      refine wS_rangeD B.range rfl (passes_of rfl) (wE_addI (wE_int ⟨1, rfl, wE_draw (r := r + 15 * n + 14) (mp := mp) (k := 2) ND hr2 (wE_var 0 rfl rfl ⟨rfl, wE_int ⟨rfl, by decide, by decide, A2.ms, fun H3 d b3 M3 hd0 hd4 => ⟨d, rfl, ?_⟩⟩⟩)⟩))
      have A3 := A2.draw b3 M3
      refine ⟨(1 + d).toNat, by rw [Int.toNat_of_nonneg (by omega)], by omega, fun i σ2 H' => ∃ S' kv, σ2 = [some (.ref mp.am), some (.ref sa), some (.ref sa), some (.ref ao), some (.int (n : Int)), some (.ref fa), kv, none] ∧ Al K C tb H1 H' mp (r + 15 * n + 14 - 3 * i) sa fa FF S' S' ∧ StOk FF (Bd + i) S', ⟨S, none, rfl, A3, hK⟩, ?_, ?_⟩
      · rintro i hi σ2 H4 ⟨S', kv, rfl, A4, K4⟩ H5 e5
        have A5 := A4.ex e5
        refine wG_name 6 scWithin.nd ?_
        refine wB_one (wS_if (wW.t (wW_or (wT_not (wT_v (wE_ownG (W := noW) GT hr8 hgd takesNo (wA_of (pa_cons pE (pa_cons pE (pa_cons pE pa_nil))) (wE_var 0 rfl rfl (wE_var 2 rfl rfl (wE_var 5 rfl rfl ⟨mp, sa, fa, FF, S', Bd + i, r + 15 * n + 14 - 3 * (i + 1), rfl, A5.self.less (by omega), hG, K4, by omega, fun H6 S6 A6 K6 => ⟨true, rfl, ?_⟩⟩))))))))))
        show (if (!true) = true then _ else _)
        rw [if_neg (by decide)]
        refine wW_or1 (wT_not (wT_v (wE_ownG (W := noW) GS hr8 hgd takesNo (wA_of (pa_cons pE (pa_cons pE pa_nil)) (wE_var 1 rfl rfl (wE_var 5 rfl rfl ⟨sa, fa, mp.gl, FF, S6, rfl, A6.sh, A6.ow, hG, K6.now.mono (by omega), fun H7 e7 => ⟨true, rfl, ?_⟩⟩))))))
        show (if (!true) = true then _ else _)
        rw [if_neg (by decide)]
        exact wB_nil ⟨S6, _, rfl, (A5.andThen A6).ex e7, K6⟩
      · rintro σ2 H4 ⟨S', kv, rfl, A4, K4⟩
        exact ⟨S', kv, rfl, A4.less (by omega), K4.mono (by omega)⟩
    rintro σ2 H3 ⟨S3, kv, rfl, A3, K3⟩
    -- all undone, perhaps
    refine wB_mid (fun σ2 H' => ∃ S', σ2 = [some (.ref mp.am), some (.ref sa), some (.ref sa), some (.ref ao), some (.int (n : Int)), some (.ref fa), kv, none] ∧ Al K C tb H1 H' mp (r + 15 * n + 1) sa fa FF S' S' ∧ StOk FF (Bd + 4) S') ?_ ?_
    · refine wS_if (wT_cmpD (op_eqH Int (hu64 hr)) (wE_draw (r := r + 15 * n + 1) (mp := mp) (k := 2) ND hr2 (wE_var 0 rfl rfl ⟨rfl, wE_int ⟨rfl, by decide, by decide, A3.ms, fun H4 d b4 M4 hd0 hd3 => wE_int ⟨d, 0, hd_int, hd_int, _, rfl, ?_⟩⟩⟩)))
      have A4 := A3.draw b4 M4
      split
      · refine wB_one (wS_while (fun m σ2 H' => ∃ S', S'.past.length = m ∧ σ2 = [some (.ref mp.am), some (.ref sa), some (.ref sa), some (.ref ao), some (.int (n : Int)), some (.ref fa), kv, none] ∧ Al K C tb H1 H' mp (r + 15 * n + 1) sa fa FF S' S' ∧ StOk FF (Bd + 4) S') ⟨_, S3, rfl, rfl, A4, K3⟩ (passes_of rfl) ?_)
        rintro m σ2 H5 ⟨S5, hm, rfl, A5, K5⟩
        have hp5 := K5.lp
        have hl5 := K5.ll
        refine wT_v (wE_own NS (hr2.mono (by decide)) (wA_of (pa_cons (pe_var (i := 5) rfl (.inl rfl)) (pa_cons pe_str (pa_cons pe_str pa_nil))) ⟨_, rfl, fa, mp.gl, FF, S5, true, rfl, A5.ow, A5.gk, by omega, by omega, fun hc H6 e6 => ⟨false, rfl, ?_⟩, fun hc H6 b6 O6 => ⟨true, rfl, ?_⟩⟩))
        · dsimp only
          rw [if_neg (by decide)]
          exact ⟨S5, rfl, A5.ex e6, K5⟩
        · rw [if_pos rfl]
          have A6 := A5.own b6 O6
          obtain ⟨dx, fs, y1, y2⟩ := sheet_no A6.sh (m := "undo") fun _ _ _ _ => rfl
          refine wB_one (wS_expr (wE_meth0 M.undo M.T.cl (hr2.mono (by decide)) (wE_var 2 rfl rfl ⟨sa, dx, fs, rfl, y1, y2, sa, FF, S5, rfl, A6.sh, by omega, by omega, (fun z => by rw [hc] at z; cases z), fun _ H7 b7 S7 => ?_⟩)))
          have ne : S5.past ≠ [] := of_decide_eq_true hc
          have hpos := List.length_pos_iff.mpr ne
          refine ⟨m - 1, by omega, shiftS true S5, ?_, rfl, A6.sheet b7 S7, shift_ok K5 hc⟩
          show S5.past.dropLast.length = m - 1
          rw [List.length_dropLast, hm]
      · exact wB_nil ⟨S3, rfl, A4, K3⟩
    rintro σ2 H4 ⟨S4, rfl, A4, K4⟩
    -- a trial in the trial
    refine wB_mid (fun σ2 H' => ∃ S', σ2 = [some (.ref mp.am), some (.ref sa), some (.ref sa), some (.ref ao), some (.int (n : Int)), some (.ref fa), kv, none] ∧ Al K C tb H1 H' mp (r + 1) sa fa FF S' S' ∧ StOk FF (Bd + 4) S') ?_ ?_
    · refine wS_if (wW.t (wW_and ((tb_gt (tx_var 4 (hd_int (i := (n : Int)))) tx_int).go fun H5 e5 => ?_)))
      have A5 := A4.ex e5
      cases n with
      | zero =>
        rw [if_neg (by decide), if_neg (by decide)]
        exact wB_nil ⟨S4, rfl, A5, K4⟩
      | succ m =>
        rw [if_pos (decide_eq_true (by omega))]
        refine wW_and1 (wT_not (wT_v (wE_ownG (W := noW) (NT m rfl) (hrR.mono (by omega)) hgd takesNo (wA_of (pa_cons pE (pa_cons pE (pa_cons pE (pa_cons pE pa_nil)))) (wE_var 0 rfl rfl (wE_var 1 rfl rfl (wE_var 5 rfl rfl (TX.go (x := (m : Int)) (TX.conv (tx_sub (tx_var 4 (hd_int (i := ((m + 1 : Nat) : Int)))) tx_int) (by omega)) fun v6 H6 e6 d6 => ⟨mp, sa, fa, FF, S4, Bd + 4, r + 1, by rw [d6.int], (A5.ex e6).self.less (by omega), hG, K4, by omega, fun H7 A7 => ⟨true, rfl, ?_⟩⟩))))))))
        dsimp only [Bool.not_true]
        rw [if_neg (by decide)]
        exact wB_nil ⟨S4, rfl, (A5.ex e6).andThen A7, K4⟩
    rintro σ2 H5 ⟨S5, rfl, A5, K5⟩
    clear A4 A3 A2
    -- the end
    have tkE : Takes (cxOf (L2.CX P w) P w K mg base ["m", "sheet", "held", "own", "deep", "far", "k", "way"] "_law_within" (defScope (top 55)) f cdv A outer s H E) (fun cls d _ H => E cls d H) := takes_of rfl rfl rfl rfl
    refine wB_cons (wS_set (i := 7) scWithin.nd rfl (wE_draw (r := r) (mp := mp) (k := 2) ND hr2 (wE_var 0 rfl rfl ⟨rfl, wE_int ⟨rfl, by decide, by decide, A5.ms, fun H6 way b6 M6 hw0 hw6 => ?_⟩⟩)))
    have A6 := A5.draw b6 M6
    have hp5 := K5.lp
    have hn5 := K5.now.len
    refine wB_cons (wS_if (TB.go (tb_eq (hu64 hr) (tx_var 7 (hd_int (i := way))) tx_int) fun H7 e7 => ?_))
    have A7 := A6.ex e7
    split
    · obtain ⟨dx, fs, y1, y2⟩ := sheet_no A7.sh (m := "do") fun _ _ _ _ => rfl
      exact wB_one (wS_expr (wE_methX (W := fun cls d _ H => E cls d H) M.doM M.T.cl (hr8.mono (by decide)) tkE (wE_var 2 rfl rfl ⟨sa, dx, fs, rfl, y1, y2, wA_of (pa_cons pE pa_nil) (wE_non ⟨sa, FF, S5, .non, rfl, A7.sh, by omega, by omega, .inl ⟨rfl, fun H8 d e8 hd => ks _ S5 d (back (A7.ex (e8.trans (Ex.new hd)))) upd_same⟩⟩)⟩)))
    refine wB_nil (wB_cons (wS_if (TB.go (tb_eq (hu64 hr) (tx_var 7 (hd_int (i := way))) tx_int) fun H8 e8 => ?_)))
    have A8 := A7.ex e8
    split
    · obtain ⟨dx, fs, y1, y2⟩ := sheet_no A8.sh (m := "ahead_of") fun _ _ _ _ => rfl
      have no1 : isIn (-1 : Int) (nums S5) = false := by
        cases q : isIn (-1 : Int) (nums S5) with
        | false => rfl
        | true =>
          obtain ⟨p, hp, hp1⟩ := List.mem_map.mp (isIn_iff.mp q)
          have := K5.now.lo p hp
          omega
      exact wB_one (wS_expr (wE_methX (W := fun cls d _ H => E cls d H) M.ahead M.T.cl (hr8.mono (by decide)) tkE (wE_var 2 rfl rfl ⟨sa, dx, fs, rfl, y1, y2, wA_of (pa_cons pE pa_nil) (TX.go (tx_neg tx_int) fun v9 H9 e9 d9 => ⟨sa, FF, S5, -1, by rw [d9.int], (A8.ex e9).sh, by omega, (fun z => by rw [no1] at z; cases z), fun _ H10 d e10 hd => kn _ S5 d (back (A8.ex ((e9.trans e10).trans (Ex.new hd)))) upd_same⟩)⟩)))
    refine wB_nil (wB_cons (wS_if (TB.go (tb_eq (hu64 hr) (tx_var 7 (hd_int (i := way))) tx_int) fun H9 e9 => ?_)))
    have A9 := A8.ex e9
    split
    · refine wB_one (wS_ret (wE_of (pe_callTy call_int1 rfl B.int (by with_unfolding_all rfl) pA (by decide) (by decide) rfl rfl) (wA_of (pa_cons pE pa_nil) (wE_div0 (W0 := E) (i := 1) rfl tkE tx_int (tx_int' B.int (TX.conv (tx_sub (tx_var 4 (hd_int (i := (n : Int)))) (tx_var 4 (hd_int (i := (n : Int))))) (by omega))) fun H10 e10 d => kz d H10 S5 (back (A9.ex e10))))))
    refine wB_nil (wB_cons (wS_if (TB.go (tb_eq (hu64 hr) (tx_var 7 (hd_int (i := way))) tx_int) fun H10 e10 => ?_)))
    have A10 := A9.ex e10
    split
    · exact wB_one (wS_ret (wE_dmiss (W0 := E) rfl hu tkE (wE_dict0 rfl B.dict fun l H11 e11 hl => ⟨l, rfl, hl, fun d => kk d H11 S5 (back (A10.ex e11))⟩)))
    refine wB_nil (wB_one (wS_ret (wE_ownG (W := noW) GS hr8 hgd takesNo (wA_of (pa_cons pE (pa_cons pE pa_nil)) (wE_var 2 rfl rfl (wE_var 5 rfl rfl ⟨sa, fa, mp.gl, FF, S5, rfl, A10.sh, A10.ow, hG, K5.now.mono (by omega), fun H11 e11 => kt H11 S5 (back (A10.ex e11))⟩))))))
end
end K95
/-! L8x: _law_tried. -/
namespace K95
open PySem PySem.Spec PySem.Calls PySem.W PyProof.Rows L2 Evl
section
variable {K : Frag} {C CT sa ao ta : Addr} {tb tb' : List (Addr × Nat × Str)} {H0 H H1 H' : Hp} {mp : Mp} {r r' : Nat} {F : Fld} {S Z S' Z' : St2}
theorem Al.sub (a : Al K C tb' H0 H mp r sa ao F S Z) (h : ∀ t ∈ tb, t ∈ tb') : Al K C tb H0 H mp r sa ao F S Z := by
  obtain ⟨nm, T, k⟩ := a.tt
  exact ⟨a.ms, a.sh, a.ow, ⟨nm, T, fun t ht => k t (h t ht)⟩, a.fr⟩
/-- another instance changes -/
theorem Al.butIns {D dx : Addr} {fs : List (Str × V)} (a : Al K C tb H0 H mp r sa ao F S Z) (b : But [ta] H H1) (h : H ta = some (.ins D dx fs)) (ne : ta ≠ sa) : Al K C tb H1 H1 mp r sa ao F S Z := by
  have no : NoTup [ta] H := NoTup.cons (notup_ins h) NoTup.nil
  have k := Kp.of_but b
  have p := a.pl
  have n := p.ins h ne
  simp only [List.mem_cons, List.mem_nil_iff, or_false, not_or] at n
  obtain ⟨us, hc⟩ := p.c
  refine ⟨a.ms.kp k no (fun z => n.1 (List.mem_singleton.mp z).symm) (fun z => ?_) (fun z => n.2.1 (List.mem_singleton.mp z).symm), a.sh.kp k no (fun z => n.2.2.1 (List.mem_singleton.mp z).symm), a.ow.kp k no (fun z => n.2.2.2 (List.mem_singleton.mp z).symm) (fun b hb => ?_), a.tt.but b (fun b hb => ?_), Kp.refl⟩
  · rw [List.mem_singleton.mp z, h] at hc; cases hc
  · rw [List.mem_singleton.mp hb]
    exact .inr fun us z => by rw [h] at z; cases z
  · rw [List.mem_singleton.mp hb]
    exact ⟨fun ps z => (by rw [h] at z; cases z), fun o z => by rw [h] at z; cases z⟩
theorem TrialAt.ins {S : St2} (h : TrialAt K H CT ta sa S) : ∃ dx fs, H ta = some (.ins CT dx fs) := by
  obtain ⟨dx, vN, vP, vL, h1, _⟩ := h.ex
  exact ⟨dx, _, h1⟩
end
theorem xd_keep {H' H6 G : Hp} {cl cl2 : List (Str × Addr)} {sa d : Addr} {l : List (Str × V)} (b6 : But [sa] H' H6) (hs : ∃ C dx fs, H' sa = some (.ins C dx fs)) (hd : H' d = some (.xd l)) (std6 : StdAll H6 cl2) (nC : NoC (hideC H6 cl2) cl) : (showC G (hideC H6 cl2) cl) d = some (.xd l) := by
  obtain ⟨Cx, dxx, fsx, hs⟩ := hs
  have g6 := b6 d _ (fun z => by rw [List.mem_singleton.mp z, hs] at hd; cases hd) hd
  exact ex_show nC d _ (hideC_of std6 g6 (fun o z => by cases z))
/-- what the closure that _law_said calls promises -/
def spOuter (K : Frag) (C : Addr) (tb tb' : List (Addr × Nat × Str)) (c : Ec) (n : Nat) (mp : Mp) (r : Nat) (sa ao : Addr) (F : Fld) (S : St2) : Sp := fun _ H Q E => Al K C tb H H mp (r + 15 * (n + 1)) sa ao F S S ∧ TTs tb' H ∧
  (∀ H', Al K C tb H H' mp r sa ao F S S → Q (.bl true) H') ∧
  (∀ H' d, Al K C tb H H' mp r sa ao F S S → H' d = some (.xd [("place", .int 0)]) → E (.ref c.bs) (some d) H') ∧
  (∀ H' d, Al K C tb H H' mp r sa ao F S S → H' d = some (.xd [("value", .int (-1))]) → E (.ref c.bn) (some d) H') ∧
  (∀ d H', Al K C tb H H' mp r sa ao F S S → E (.type "ZeroDivisionError") d H') ∧
  (∀ d H', Al K C tb H H' mp r sa ao F S S → E (.type "KeyError") d H')
/-- .. that under calls -/
def spInner (K : Frag) (C : Addr) (tb : List (Addr × Nat × Str)) (c : Ec) (n : Nat) (mp : Mp) (r : Nat) (sa ao : Addr) (F : Fld) (S : St2) : Sp := fun vs H Q E => vs = [.ref sa] ∧ Al K C tb H H mp (r + 15 * (n + 1)) sa ao F S S ∧
  (∀ H' S', Al K C tb H H' mp r sa ao F S' S → Q (.bl true) H') ∧
  (∀ H' S' d, Al K C tb H H' mp r sa ao F S' S → H' d = some (.xd [("place", .int 0)]) → E (.ref c.bs) (some d) H') ∧
  (∀ H' S' d, Al K C tb H H' mp r sa ao F S' S → H' d = some (.xd [("value", .int (-1))]) → E (.ref c.bn) (some d) H') ∧
  (∀ d H' S', Al K C tb H H' mp r sa ao F S' S → E (.type "ZeroDivisionError") d H') ∧
  (∀ d H' S', Al K C tb H H' mp r sa ao F S' S → E (.type "KeyError") d H')
/-- told_so is one of the four -/
def told4 : List PyData := [.list [.bool true], .tuple [.str "script", .int 0], .tuple [.str "number", .int (-1)], .tuple [.str "nought"]]
def ToldOk (K : Frag) (v : V) (H : Hp) : Prop := ∃ d, Dp K H v d ∧ (told4.any fun y => PyData.eqv y d) = true ∧ d.plain = true ∧ d.depth ≤ 2
theorem told_ok {K : Frag} {v : V} {H : Hp} {d : PyData} (h : Dp K H v d) (m : d ∈ told4) : ToldOk K v H := by
  refine ⟨d, h, ?_⟩
  unfold told4 at m ⊢
  simp only [List.mem_cons, List.mem_nil_iff, or_false] at m
  rcases m with rfl | rfl | rfl | rfl <;> exact ⟨by with_unfolding_all rfl, by with_unfolding_all rfl, by with_unfolding_all decide⟩
section
variable {P : Program} {w : World} {K : Frag} {mg : Str → Option Value} {base : Heap}
theorem scTried : FnScope ["m", "sheet", "own", "deep", "told_so"] ["m", "sheet", "own", "deep"] (defScope (top 56)) := ⟨rfl, rfl, rfl, by decide +kernel, rfl, by decide +kernel, by decide +kernel⟩
/-- a lambda's scope, by its names -/
abbrev lamSc (ns : List (Str × NameKind)) : Scope := { kind := .function, names := ns, isGenerator := false, isCoroutine := false, more := [] }
abbrev scOut : Scope := lamSc [("deep", .free), ("m", .free), ("own", .free), ("sheet", .free), ("under", .globalImplicit)]
abbrev scIn : Scope := lamSc [("held", .local), ("deep", .free), ("m", .free), ("own", .free), ("sheet", .free), ("_law_within", .globalImplicit)]
theorem ok_tried (n : Nat) {f C CT Pt : Addr} {fd : FuncData} {c : Ec} {tb : List (Addr × Nat × Str)} (F : Fun K "_law_tried" "_law_tried" (top 56) f fd) (B : Bn mg) (EC : EcOk K mg c) (M : ShM P w K mg base c C CT) (GS : OwnG P w K mg base 8 "_law_stands" ["sheet", "own"] (spStands K C))
    (GU : ∀ k, 1 ≤ k → OwnG P w K mg base (k + 1) "under" ["manager", "deed"] (spUnder P w K mg base C CT k)) (GD : ∀ k, OwnG P w K mg base (k + 1) "_law_said" ["call"] (spSaid P w K mg base c k))
    (NW : OwnG P w K mg base (12 + 8 * n) "_law_within" ["m", "sheet", "held", "own", "deep"] (spWithin K C tb c n)) (Z : Mkr K base mg f Pt) (hP : (Pt, 1, PySem.Str.ofString "_law_tried.<locals>.<lambda>") ∈ tb) : FnG P w K mg base (16 + 8 * n + 1) f fd ["m", "sheet", "own", "deep"] (spTried K C tb n) := by
  refine fn_ofG F scTried (fun vs H Q E h => ?_) (fun cdv A outer s H vs Q E hr hgd hcd h => ?_)
  · obtain ⟨mp, sa, ao, FF, S, Bd, r, rfl, _⟩ := h; rfl
  · obtain ⟨mp, sa, ao, FF, S, Bd, r, rfl, hA, hG, hK, hB, kt⟩ := h
    have hu := hu1 hr
    have hrR : Room (16 + 8 * n) _ := hr
    have hr8 := hrR.mono (show 8 ≤ 16 + 8 * n by omega)
    obtain ⟨c₀, hTB, hcc⟩ := Z
    obtain ⟨oc, od, kV, doc, pm, an, ct, osl, hlk⟩ := hcd
    have hcd0 : cdv = .ref c₀ := hcc _ _ _ _ _ _ _ _ _ _ _ _ _ _ hlk
    refine ⟨_, pB, ?_⟩
    refine wB_cons (wS_set (i := 4) scTried.nd rfl (TX.go (x := Tup.mk [PySem.Str.ofString "nought"]) (tx_tup (tl_cons tx_str tl_nil) (by show 1 ≤ 100000; decide)) fun v0 H1 e1 d0 => ?_))
    have A1 := hA.ex e1
    refine wB_mid (fun σ2 H' => ∃ v, σ2 = [some (.ref mp.am), some (.ref sa), some (.ref ao), some (.int (n : Int)), some v] ∧ Al K C tb H H' mp r sa ao FF S S ∧ ToldOk K v H') ?_ ?_
    · refine wS_of (ps_tryT (tb := tbU _ _) (ts := tsU _ _) (Wout := fun cls d _ H => E cls d H) rfl rfl rfl (takes_of rfl rfl rfl rfl) (c₁ := .type "ZeroDivisionError") (c₂ := .type "KeyError") ⟨rfl, by decide, Or.inr ⟨B.zde, by with_unfolding_all rfl, by decide⟩⟩ ⟨rfl, by decide, Or.inr ⟨B.key, by with_unfolding_all rfl, by decide⟩⟩ (fun W pn xe tk _ => ⟨fun pins s σ H D I q => q pn xe tk pins s I⟩) (fun a pn => ⟨fun pins s σ H D I q => q a pn pins s I⟩)) ?_
      intro pn xe tk
      refine wB_one (wS_set (i := 4) scTried.nd rfl ?_)
      refine wE_callLam1 (n := 1) (GD (14 + 8 * n + 1)) (hrR.mono (by omega)) hgd tk (fun cl h => own_def (fun _ => rfl) h) hTB hcd0 rfl A1.tt hP (show freeB (defScope (top 56)) scOut = true by decide +kernel) fun Cl f1 c1 P1 H2 nf hc1 kp2 hla T2 T2' H3 aC ok3 ca => ?_
      have hk : ∀ y ∈ [PySem.Str.ofString "m", "sheet", "own", "deep"], (defScope (top 56)).names.lookup y ≠ some .local := by decide +kernel
      have cvM := caught_cv (i := 0) (y := "m") Cl ca (by decide +kernel) (hk := hk _ (by simp))
      have cvS := caught_cv (i := 1) (y := "sheet") Cl ca (by decide +kernel) (hk := hk _ (by simp))
      have cvO := caught_cv (i := 2) (y := "own") Cl ca (by decide +kernel) (hk := hk _ (by simp))
      have cvD := caught_cv (i := 3) (y := "deep") Cl ca (by decide +kernel) (hk := hk _ (by simp))
      have A2 := A1.kp0 kp2 T2
      have A3 := A2.ex aC.ex
      refine ⟨f1, rfl, (hla.ex aC.ex).fn, 14 + 8 * n + 1, spOuter K C tb ((P1, 0, PySem.Str.ofString "_law_tried.<locals>.<lambda>" ++ ".<locals>." ++ "<lambda>") :: tb) c n mp r sa ao FF S,
        fun G => LamAt G f1 _ _ _ _ _ c1 ∧ CodeAt G c1 P1 _ ∧ CellsOk G _ ∧ Cv G _ "m" (.ref mp.am) ∧ Cv G _ "sheet" (.ref sa) ∧ Cv G _ "own" (.ref ao) ∧ Cv G _ "deep" (.int (n : Int)),
        cl_of (N := ["m", "sheet", "own", "deep"]) (ps := []) (lamSc_by (by decide +kernel)) Cl (fun pm ctv us hu => ?_) (fun G h => ⟨h.1, h.2.1, h.2.2.1⟩) ?_, Nat.le_refl _, fun H4 e4 => ⟨⟨(hla.ex aC.ex).ex e4, (hc1.ex aC.ex).ex e4, ok3.ex e4, cvM.ex e4, cvS.ex e4, cvO.ex e4, cvD.ex e4⟩, fun Q' E' kq ke kx => ?_⟩⟩
      · match us, hu with
        | [], _ => rfl
      · rintro A1' outer1 s1 G vs Q1 E1 hr1 hg1 e01 ⟨l1, l2, o1, w1, w2, w3, w4⟩ hn ⟨a1, t1, k1, k2, k3, k4, k5⟩
        refine ⟨[some (.ref mp.am), some (.ref sa), some (.ref ao), some (.int (n : Int))], ⟨rfl, fun i y v hy hv => ?_⟩, ?_⟩
        · match i, hy, hv with
          | 0, hy, hv => cases hy; cases hv; exact .inr ⟨by decide +kernel, w1⟩
          | 1, hy, hv => cases hy; cases hv; exact .inr ⟨by decide +kernel, w2⟩
          | 2, hy, hv => cases hy; cases hv; exact .inr ⟨by decide +kernel, w3⟩
          | 3, hy, hv => cases hy; cases hv; exact .inr ⟨by decide +kernel, w4⟩
        · have G1 := a1.hideS o1
          have t1' := t1.hide o1
          have l2' := l2.hide o1
          refine wE_callLam2' (q₀ := PySem.Str.ofString "_law_tried.<locals>.<lambda>") (P := P1) (tb := (P1, 0, PySem.Str.ofString "_law_tried.<locals>.<lambda>" ++ ".<locals>." ++ "<lambda>") :: tb) (W := fun cls d _ H' => NoC H' _ → E1 cls d (showC G H' _)) (n := 0) (GU (12 + 8 * n + 1) (by omega)) (hr1.mono (by omega)) hg1 (takes_of rfl rfl rfl rfl) (fun cl h => own_lam e01 o1 h) hTB rfl rfl (show freeB scOut scIn = true by decide +kernel) fun Cl2 => ?_
          obtain ⟨dx, fs, y1, y2⟩ := sheet_no G1.sh (m := "trial") fun _ _ _ _ => rfl
          refine wE_meth0 M.trial M.T.cl (hr1.mono (by omega)) (wE_var 1 rfl rfl ⟨sa, dx, fs, rfl, y1, y2, sa, FF, S, rfl, G1.sh, fun ta G2 eG2 hta T2' => ?_⟩)
          refine ⟨l2'.ex eG2, t1'.ex eG2, List.mem_cons_self .., fun f2 c2 P2 G3 nf2 hc2 kp3 hla2 T3 G4 aC2 ok4 ca2 => ?_⟩
          have hk2 : ∀ y ∈ [PySem.Str.ofString "m", "sheet", "own", "deep"], scOut.names.lookup y ≠ some .local := by decide +kernel
          have cvM2 := caught_cv (i := 0) (y := "m") Cl2 ca2 (by decide +kernel) (hk := hk2 _ (by simp))
          have cvS2 := caught_cv (i := 1) (y := "sheet") Cl2 ca2 (by decide +kernel) (hk := hk2 _ (by simp))
          have cvO2 := caught_cv (i := 2) (y := "own") Cl2 ca2 (by decide +kernel) (hk := hk2 _ (by simp))
          have cvD2 := caught_cv (i := 3) (y := "deep") Cl2 ca2 (by decide +kernel) (hk := hk2 _ (by simp))
          have B4 := ((G1.ex eG2).kp0 kp3 (by obtain ⟨nm, TT1, kk⟩ := T3; exact ⟨nm, TT1, fun t ht => kk t (List.mem_cons_of_mem _ ht)⟩)).ex aC2.ex
          have T4 := (T2'.kp kp3 NoTup.nil (fun z => nomatch z)).ofEx aC2.ex
          obtain ⟨dxt, fst, ht4⟩ := T4.ins
          have ne : sa ≠ ta := fun z => by rw [z, hta] at y1; cases y1
          have nS : ∀ b ∈ [ta], ∀ o, G4 b ≠ some (Std o) := fun b hb o z => by rw [List.mem_singleton.mp hb, ht4] at z; cases z
          refine ⟨ta, sa, f2, FF, S, S, rfl, T4, B4.sh, ne, fun G5 b5 T5 S5 => ?_⟩
          have B5 := B4.butIns b5 ht4 (Ne.symm ne)
          have kb5 := Kp.of_but b5
          have hla5 := (hla2.ex aC2.ex).kp kb5 nS
          have hc5 := (hc2.ex aC2.ex).kp (fun o ho => std_kp kb5 nS ho)
          have ok5 := ok4.kp kb5 nS
          refine ⟨hla5.fn, 12 + 8 * n + 1, spInner K C tb c n mp r sa ao FF S, fun G => LamAt G f2 _ _ _ _ _ c2 ∧ CodeAt G c2 P2 _ ∧ CellsOk G _ ∧ Cv G _ "m" (.ref mp.am) ∧ Cv G _ "sheet" (.ref sa) ∧ Cv G _ "own" (.ref ao) ∧ Cv G _ "deep" (.int (n : Int)),
            cl_of (N := ["held", "m", "sheet", "own", "deep"]) (ps := ["held"]) (lamSc_by (by decide +kernel)) Cl2 (fun pm ctv us hu => ?_) (fun G h => ⟨h.1, h.2.1, h.2.2.1⟩) ?_, Nat.le_refl _, ⟨hla5, hc5, ok5, cvM2.kp kb5 nS, cvS2.kp kb5 nS, cvO2.kp kb5 nS, cvD2.kp kb5 nS⟩, fun Q' E' kq ke => ?_⟩
          · match us, hu with
            | [u], _ => rfl
          · rintro A2' outer2 s2 Gi vs Qi Ei hri hgi e0i ⟨z1, z2, oi, x1, x2, x3, x4⟩ hn ⟨rfl, ai, i1, i2, i3, i4, i5⟩
            refine ⟨[some (.ref sa), some (.ref mp.am), some (.ref sa), some (.ref ao), some (.int (n : Int))], ⟨rfl, fun i y v hy hv => ?_⟩, ?_⟩
            · match i, hy, hv with
              | 0, hy, hv => cases hy; cases hv; exact .inl ⟨rfl, rfl⟩
              | 1, hy, hv => cases hy; cases hv; exact .inr ⟨by decide +kernel, x1⟩
              | 2, hy, hv => cases hy; cases hv; exact .inr ⟨by decide +kernel, x2⟩
              | 3, hy, hv => cases hy; cases hv; exact .inr ⟨by decide +kernel, x3⟩
              | 4, hy, hv => cases hy; cases hv; exact .inr ⟨by decide +kernel, x4⟩
            · have Gi1 := ai.hideS oi
              exact wE_ownG (W := fun cls d _ H' => NoC H' _ → Ei cls d (showC Gi H' _)) NW hri hgi (takes_of rfl rfl rfl rfl) (wA_of (pa_cons pE (pa_cons pE (pa_cons pE (pa_cons pE (pa_cons pE pa_nil))))) (wE_var 1 rfl rfl (wE_var 2 rfl rfl (wE_var 0 rfl rfl (wE_var 3 rfl rfl (wE_var 4 rfl rfl ⟨mp, sa, ao, FF, S, Bd, r, rfl, Gi1, hG, hK, hB,
                fun H' S' a nC => i1 _ S' (a.showR nC), fun H' S' d a hd nC => i2 _ S' d (a.showR nC) (ex_show nC d _ hd), fun H' S' d a hd nC => i3 _ S' d (a.showR nC) (ex_show nC d _ hd), fun d H' S' a nC => i4 d _ S' (a.showR nC), fun d H' S' a nC => i5 d _ S' (a.showR nC)⟩))))))
          · obtain ⟨dx5, fs5, ht5⟩ := T5.ins
            have nta := B5.pl.ins ht5 (Ne.symm ne)
            have tr : ∀ {H' : Hp} {S' : St2}, Al K C tb G5 H' mp r sa ao FF S' S → TrialAt K H' CT ta sa S := fun a => T5.kp a.fr B5.pl.noTup nta
            have fin2 : ∀ {H' H6 : Hp} {S' : St2}, Al K C tb G5 H' mp r sa ao FF S' S → But [sa] H' H6 → SheetAt K H6 C sa FF S → StdAll H6 _ → NoC (hideC H6 _) _ → Al K C tb G (showC G (hideC H6 _) _) mp r sa ao FF S S := fun {H' H6 S'} a b6 S6 std6 nC => by
              have a6 := a.sheet b6 S6
              have ok6 := (ok5.kp a6.fr B5.pl.noStd)
              exact Al.showR nC ⟨a6.ms.hide std6, a6.sh.hide std6, a6.ow.hide std6, a6.tt.hide ok6, fun x o hx ht hxo => by
                have g2 := eG2 _ _ hxo
                have g3 := kp3 x o (fun z => nomatch z) ht g2
                have g4 := aC2.ex _ _ g3
                have g5 := b5 x o (fun z => by rw [List.mem_singleton.mp z, hta] at hxo; cases hxo) g4
                have g6 := a6.fr x o hx ht g5
                rw [hideC_out (fun z => by rw [aC2.new x z] at g3; cases g3)]
                exact g6⟩
            exact ⟨rfl, B5, fun H' S' a => kq (.bl true) H' S' (tr a) a.sh fun H6 b6 S6 std6 nC => k1 _ (fin2 a b6 S6 std6 nC),
              fun H' S' d a hd => ke _ (some d) H' S' ⟨.ref c.bs, rfl⟩ (tr a) a.sh fun H6 b6 S6 std6 nC => k2 _ d (fin2 a b6 S6 std6 nC) (xd_keep b6 a.pl.s hd std6 nC),
              fun H' S' d a hd => ke _ (some d) H' S' ⟨.ref c.bn, rfl⟩ (tr a) a.sh fun H6 b6 S6 std6 nC => k3 _ d (fin2 a b6 S6 std6 nC) (xd_keep b6 a.pl.s hd std6 nC),
              fun d H' S' a => ke _ d H' S' ⟨.ty "ZeroDivisionError", rfl⟩ (tr a) a.sh fun H6 b6 S6 std6 nC => k4 d _ (fin2 a b6 S6 std6 nC),
              fun d H' S' a => ke _ d H' S' ⟨.ty "KeyError", rfl⟩ (tr a) a.sh fun H6 b6 S6 std6 nC => k5 d _ (fin2 a b6 S6 std6 nC)⟩
      · -- what the law's told_so is
        have fin : ∀ {H' H5 : Hp}, Al K C tb H4 H' mp r sa ao FF S S → Ex H' H5 → Al K C tb H (hideC H5 _) mp r sa ao FF S S := fun {H' H5} a e => by
          have ok5 := ((ok3.ex e4).kp a.fr (A3.ex e4).pl.noStd).ex e
          have a5 := a.ex e
          exact A2.andThen (Al.hideR ok5 aC.new ⟨a5.ms, a5.sh, a5.ow, a5.tt, (Kp.of_ex (aC.ex.trans e4)).trans a5.fr⟩)
        have exm : exmAny K (.type "ZeroDivisionError") [.type "ZeroDivisionError", .type "KeyError"] = some true ∧ exmAny K (.type "KeyError") [.type "ZeroDivisionError", .type "KeyError"] = some true := ⟨by with_unfolding_all rfl, by with_unfolding_all rfl⟩
        refine ⟨(A3.ex e4).self, ((T2' 0 rfl).ex aC.ex).ex e4, fun H' a => kq (.bl true) H' fun l H5 e5 hl5 std5 => ⟨_, rfl, fin a e5, told_ok ((hd_list (xs := [true]) (SqL.of hl5) (ha_cons hd_bl ha_nil)).hide std5) (List.mem_cons_self ..)⟩,
          fun H' d a hd' => ke .script d 0 H' hd' fun v H5 e5 dv std5 => ⟨_, rfl, fin a e5, told_ok (dv.hide std5) (List.mem_cons_of_mem _ (List.mem_cons_self ..))⟩,
          fun H' d a hd' => ke .number d (-1) H' hd' fun v H5 e5 dv std5 => ⟨_, rfl, fin a e5, told_ok (dv.hide std5) (List.mem_cons_of_mem _ (List.mem_cons_of_mem _ (List.mem_cons_self ..)))⟩,
          fun d H' a => kx _ d H' EC.zde fun std5 => ⟨true, exm.1, fun _ => ?_, fun z => nomatch z⟩, fun d H' a => kx _ d H' EC.key fun std5 => ⟨true, exm.2, fun _ => ?_, fun z => nomatch z⟩⟩
        · intro a' pn'
          refine wB_one (wS_set (i := 4) scTried.nd rfl (TX.go (x := Tup.mk [PySem.Str.ofString "nought"]) (tx_tup (tl_cons tx_str tl_nil) (by show 1 ≤ 100000; decide)) fun v6 H6 e6 d6 => ⟨_, rfl, (fin a (Ex.refl _)).ex e6, told_ok d6 (List.mem_cons_of_mem _ (List.mem_cons_of_mem _ (List.mem_cons_of_mem _ (List.mem_cons_self ..))))⟩))
        · intro a' pn'
          refine wB_one (wS_set (i := 4) scTried.nd rfl (TX.go (x := Tup.mk [PySem.Str.ofString "nought"]) (tx_tup (tl_cons tx_str tl_nil) (by show 1 ≤ 100000; decide)) fun v6 H6 e6 d6 => ⟨_, rfl, (fin a (Ex.refl _)).ex e6, told_ok d6 (List.mem_cons_of_mem _ (List.mem_cons_of_mem _ (List.mem_cons_of_mem _ (List.mem_cons_self ..))))⟩))
    · rintro σ2 H5 ⟨v, rfl, A5, d, hd, hany, hpl, hdp⟩
      refine wB_one (wS_ret (wE_and (wE_cmpD (op_inD 2 (show (A.deeper _).units + 1 + 2 < cLine by have := hu64 hr; omega)) (wE_var 4 rfl rfl ?_))))
      refine txd_lst (tds_cons (TX.dat (tx_lst (xs := [true]) (tl_cons tx_bl tl_nil) (by show 1 ≤ 100000; decide))) (tds_cons (TX.dat (tx_pair (x := PySem.Str.ofString "script") (y := (0 : Int)) (t2_mk tx_str tx_int))) (tds_cons (TX.dat (tx_pair (x := PySem.Str.ofString "number") (y := (-1 : Int)) (t2_mk tx_str (tx_neg tx_int)))) (tds_cons (TX.dat (tx_tup (xs := [PySem.Str.ofString "nought"]) (tl_cons tx_str tl_nil) (by show 1 ≤ 100000; decide))) tds_nil)))) (by show 4 ≤ 100000; decide) H5 (Ex.refl _) _ fun vd H6 e6 dd => ?_
      refine ⟨d, told4, Dp.ex hd e6, dd, by with_unfolding_all rfl, hpl, hdp, true, by rw [hany], ?_⟩
      rw [if_pos rfl]
      exact wE_one (wE_ownG (W := noW) GS hr8 hgd takesNo (wA_of (pa_cons pE (pa_cons pE pa_nil)) (wE_var 1 rfl rfl (wE_var 2 rfl rfl ⟨sa, ao, mp.gl, FF, S, rfl, (A5.ex e6).sh, (A5.ex e6).ow, hG, hK.now.mono (by omega), fun H7 e7 => kt H7 ((A5.ex e6).ex e7)⟩))))
end
end K95
/-! LC: a lambda of one parameter that a block within it catches: the parameter is a cell. -/
namespace K95
open PySem PySem.Spec PySem.Calls PySem.W PyProof.Rows L2 Evl
theorem noCells_from : ∀ (rest : List (Str × NameKind)) (n : Nat) (acc : List (Str × Addr)), (∀ y ∈ rest, y.2 ≠ .cell) → cellsFrom n rest acc = acc
  | [], _, _, _ => rfl
  | (x, k) :: r, n, acc, h => by
    unfold cellsFrom
    have hk : k ≠ .cell := h (x, k) (List.mem_cons_self ..)
    rw [if_neg (by simpa using hk)]
    exact noCells_from r n acc fun y hy => h y (List.mem_cons_of_mem _ hy)
theorem noCells_push : ∀ (rest : List (Str × NameKind)) (h : Heap), (∀ y ∈ rest, y.2 ≠ .cell) → pushCells h rest = h
  | [], _, _ => rfl
  | (x, k) :: r, h, hr => by
    unfold pushCells
    have hk : k ≠ .cell := hr (x, k) (List.mem_cons_self ..)
    rw [if_neg (by simpa using hk)]
    exact noCells_push r h fun y hy => hr y (List.mem_cons_of_mem _ hy)
section
variable {M : Model} {A : Around} {E : Value → Shared → Prop} {s : Shared}
/-- the frame of such a function -/
theorem wpAny_newEnv_one {scope : Scope} {globals : Addr} {cl : List (Str × Addr)} {x : Str} {v : Value} {rest : List (Str × NameKind)} {qual : Str} {func : Option Addr} {code : Value} {builtins : Addr} {Q : Env → Shared → Prop}
    (hk : scope.kind = .function) (hn : scope.names = (x, .cell) :: rest) (hr : ∀ y ∈ rest, y.2 ≠ .cell)
    (hQ : ∀ h', (∀ b o, s.heap.get? b = some o → h'.get? b = some o) → h'.Ns s.heap.objs.size (fun _ => none) → h'.IsCell (s.heap.objs.size + 1) (some v) → Q (newEnv scope s.heap.objs.size globals ((x, s.heap.objs.size + 1) :: cl) qual func code none builtins) { s with heap := h' }) :
    wpAny M A (newFunctionEnv scope globals cl [(x, v)] qual func code none builtins) Q E s := by
  simp only [newFunctionEnv, Option.isSome_none, Bool.false_eq_true, if_false]
  refine wpAny_bind (wpAny_alloc ?_)
  refine wpAny_bind (wpAny_layCells _ (fun name kind cells => by cases hkc : kind == NameKind.cell <;> simp [hkc]) _ _ _ _ ?_)
  rw [show ({ s with heap := s.heap.push { cls := .type "frame", data := .dict #[] } } : Shared).heap.objs.size = s.heap.objs.size + 1 from Heap.size_push ..]
  have e1 : cellsFrom (s.heap.objs.size + 1) scope.names cl = (x, s.heap.objs.size + 1) :: cl := by
    rw [hn]
    unfold cellsFrom
    rw [if_pos (by rfl)]
    exact noCells_from rest _ _ hr
  have e2 : pushCells (s.heap.push { cls := .type "frame", data := .dict #[] }) scope.names = (s.heap.push { cls := .type "frame", data := .dict #[] }).push { cls := .type "cell", data := .cell none } := by
    rw [hn]
    unfold pushCells
    rw [if_pos (by rfl)]
    exact noCells_push rest _ hr
  rw [e1]
  show wpAny M A _ _ _ { s with heap := pushCells (s.heap.push { cls := .type "frame", data := .dict #[] }) scope.names }
  rw [e2]
  have sz1 : (s.heap.push { cls := .type "frame", data := .dict #[] }).objs.size = s.heap.objs.size + 1 := Heap.size_push ..
  have ic : ((s.heap.push { cls := .type "frame", data := .dict #[] }).push { cls := .type "cell", data := .cell none }).IsCell (s.heap.objs.size + 1) none := by
    rw [← sz1]
    exact ⟨_, Heap.get?_push_size _ rfl, rfl⟩
  have kp : ∀ b o, s.heap.get? b = some o → ((s.heap.push { cls := .type "frame", data := .dict #[] }).push { cls := .type "cell", data := .cell none }).get? b = some o := fun b o e => Heap.get?_push_of_some _ (Heap.get?_push_of_some _ e)
  have ns : ((s.heap.push { cls := .type "frame", data := .dict #[] }).push { cls := .type "cell", data := .cell none }).Ns s.heap.objs.size fun _ => none := (Heap.Ns.new s.heap (.type "frame")).keeps fun b o e => Heap.get?_push_of_some _ e
  generalize (s.heap.push { cls := .type "frame", data := .dict #[] }).push { cls := .type "cell", data := .cell none } = h1 at *
  refine wpAny_bind ?_
  rw [List.forIn_cons]
  refine wpAny_bind (wpAny_bind (wpAny_storeName_cell (env := newEnv scope s.heap.objs.size globals ((x, s.heap.objs.size + 1) :: cl) qual func code none builtins) (c := s.heap.objs.size + 1) hk ?_ ?_ ic fun h' hc' hs' => ?_))
  · show scope.names.lookup x = some .cell
    rw [hn]; simp [List.lookup]
  · show ((x, s.heap.objs.size + 1) :: cl).lookup x = some (s.heap.objs.size + 1)
    simp [List.lookup]
  · refine wpAny_pure ?_
    show wpAny M A (forIn [] PUnit.unit _) _ _ _
    rw [List.forIn_nil]
    refine wpAny_pure (wpAny_pure (hQ h' (fun b o e => ?_) (ns.sameBut hs' (Nat.ne_of_lt (Nat.lt_succ_self _))) hc'))
    exact (hs'.2 b (Nat.ne_of_lt (Nat.lt_succ_of_lt (Heap.lt_size e)))).trans (kp b o e)
end
/-! ### the names of such a lambda -/
structure LamSc1 (scope : Scope) (N : List Str) (x : Str) : Prop where
  kind : scope.kind = .function
  co : scope.isCoroutine = false
  gen : scope.isGenerator = false
  first : ∃ rest, scope.names = (x, .cell) :: rest ∧ ∀ y ∈ rest, y.2 ≠ .cell
  nd : N.Nodup
section
variable {Pg : Program} {w : World} {K : PySem.W.Frag} {mg : Str → Option Value} {base : Heap} {A : Around} {outer : List Env} {s : Shared} {H : Hp} {cl : List (Str × Addr)} {q : Str} {params : Arguments} {body : Expr} {scope : Scope} {f c P' : Addr} {N : List Str} {x : Str} {va : V} {u : Value} {σ : L2.St}
structure LamSt1 (H : Hp) (scope : Scope) (cl : List (Str × Addr)) (N : List Str) (x : Str) (va : V) (σ : L2.St) : Prop where
  len : σ.length = N.length
  arg : ∀ (i : Nat) (y : Str) (v : V), N[i]? = some y → σ[i]? = some (some v) → (y = x ∧ v = va) ∨ (scope.names.lookup y = some .free ∧ y ≠ x ∧ Cv H cl y v)
theorem lam_start1 {E : XK} {h₁ : Heap} (S : LamSc1 scope N x) (C : Clos cl scope) (e0 : Env0 Pg w K mg base A outer s H) (hd : A.handled = none) (ho : CellsOk H cl) (r : RelV va u) (hσ : LamSt1 H scope cl N x va σ)
    (kp : ∀ b o, s.heap.get? b = some o → h₁.get? b = some o) (hns : h₁.Ns s.heap.objs.size fun _ => none) (hx : h₁.IsCell (s.heap.objs.size + 1) (some u)) :
    Inv (lamX Pg w K mg base N q scope f c ((x, s.heap.objs.size + 1) :: cl) A outer s (hideC H cl) E) [] σ (hideC H cl) { s with heap := h₁ } := by
  obtain ⟨rest, hn, hr⟩ := S.first
  have e1 := env0_hide e0 ho.std
  have mem : ∀ {y : Str} {a : Addr}, cl.lookup y = some a → (y, a) ∈ cl := fun h => PySem.mem_of_lookup h
  have adr_ : ∀ {y : Str} {a : Addr}, (y, a) ∈ cl → a ∈ adr cl := fun h => List.mem_map.mpr ⟨_, h, rfl⟩
  have old : ∀ {y : Str} {a : Addr}, (y, a) ∈ cl → a < s.heap.objs.size := fun h => by
    obtain ⟨o, v, g, _⟩ := ho _ (adr_ h)
    exact Heap.lt_size (e0.hok _ _ g).1
  have lk : ∀ {y : Str} {a : Addr}, ((x, s.heap.objs.size + 1) :: cl).lookup y = some a → (y = x ∧ a = s.heap.objs.size + 1) ∨ (y ≠ x ∧ cl.lookup y = some a) := fun {y a} h => by
    rw [List.lookup_cons] at h
    by_cases hy : y = x
    · subst hy
      simp at h
      exact .inl ⟨rfl, h.symm⟩
    · have : (y == x) = false := by simpa using hy
      rw [this] at h
      exact .inr ⟨hy, h⟩
  have noA : ∀ b : Addr, b ∉ ([] : List Addr) := fun b z => nomatch z
  have look : ∀ {y : Str} {a : Addr}, y ≠ x → cl.lookup y = some a → ((x, s.heap.objs.size + 1) :: cl).lookup y = some a := fun {y a} hy h => by
    rw [List.lookup_cons, show (y == x) = false by simpa using hy]; exact h
  refine ⟨⟨e1.mod, S.kind, rfl, rfl, Nat.le_refl _, fun y z a h1 h2 => ?_, fun y hy => ?_, fun x a z _ => Bool.noConfusion (show false = true from z), fun _ => hd, Around.frames_deeper e1.frames, .inr ⟨rfl, rfl⟩, fun b z => absurd z (noA b), e1.bs, e1.bsz, fun b _ _ => noA b, fun b z => absurd z (noA b), e1.funs, e1.frf⟩,
    rfl, e1.bare, Un.kept kp, ⟨_, hns, fun i y v h1 h2 h3 => ?_⟩, fun y a h => ?_, e1.hok.fresh (Nat.le_refl _), fun y a h => ?_, fun p hp => absurd (show p ∈ ([] : List (Addr × Obj)) from hp) (fun z => nomatch z), e1.hok.kept kp, hσ.len⟩
  · rcases lk h1 with ⟨y1, a1⟩ | ⟨y1, c1⟩ <;> rcases lk h2 with ⟨z1, b1⟩ | ⟨z1, d1⟩
    · rw [y1, z1]
    · have := old (mem d1)
      rw [a1] at this
      exact absurd this (Nat.not_lt.mpr (Nat.le_succ _))
    · have := old (mem c1)
      rw [b1] at this
      exact absurd this (Nat.not_lt.mpr (Nat.le_succ _))
    · exact C.inj y z a (mem c1) (mem d1)
  · have hy : scope.names.lookup y = some .cell ∨ scope.names.lookup y = some .free := hy
    by_cases hyx : y = x
    · subst hyx
      exact ⟨s.heap.objs.size + 1, by show ((y, s.heap.objs.size + 1) :: cl).lookup y = _; simp [List.lookup]⟩
    · rcases hy with hy | hy
      · rw [hn, List.lookup_cons, show (y == x) = false by simpa using hyx] at hy
        exact absurd rfl (hr _ (PySem.mem_of_lookup hy))
      · obtain ⟨a, ha⟩ := C.has y hy
        exact ⟨a, look hyx ha⟩
  · rcases hσ.arg i y v h1 h2 with ⟨rfl, rfl⟩ | ⟨hf, hyx, a, ha, o, u', ea, da, ra⟩
    · refine ⟨u, r, .inr ⟨.inl (by show scope.names.lookup y = some .cell; rw [hn]; simp [List.lookup]), s.heap.objs.size + 1, by show ((y, s.heap.objs.size + 1) :: cl).lookup y = _; simp [List.lookup], hx⟩⟩
    · exact ⟨u', ra, .inr ⟨.inr hf, a, look hyx ha, o, kp _ _ (e0.hok a _ ea).1, da⟩⟩
  · rcases lk h with ⟨_, rfl⟩ | ⟨_, h⟩
    · exact ⟨_, hx⟩
    · obtain ⟨o, v, e, d⟩ := ho a (adr_ (mem h))
      exact ⟨v, o, kp _ _ (e0.hok a _ e).1, d⟩
  · rcases lk h with ⟨_, rfl⟩ | ⟨_, h⟩
    · exact e1.hok.fresh (Nat.le_succ _)
    · exact hideC_in (adr_ (mem h))
theorem lam_run1 {k : Nat} {Q : VK} {E : XK} (S : LamSc1 scope N x) (C : Clos cl scope) (hb : ∀ (pm ctv u : Value), bindArgs (PySem.W.kla_fn "<lambda>" q params body scope cl pm (.ref c) ctv) ⟨[u], []⟩ = pure [(x, u)])
    (hr : Room (k + 1) A) (e0 : Env0 Pg w K mg base A outer s H) (hl : LamAt H f q params body scope cl c) (hc : CodeAt H c P' q) (ho : CellsOk H cl) (r : RelV va u) (hσ : LamSt1 H scope cl N x va σ)
    (hbody : ∀ lc, Room k (A.deeper (PySem.W.envX q scope s.heap.objs.size f (.ref c) ((x, lc) :: cl))) → wE (lamX Pg w K mg base N q scope f c ((x, lc) :: cl) A outer s (hideC H cl) (fun c d H' => NoC H' cl → E c d (showC H H' cl))) body σ (hideC H cl) (fun v H' => NoC H' cl → Q v (showC H H' cl))) :
    codeAny (model Pg w) A (.call (.ref f) ⟨[u], []⟩) (CR (L2.CX Pg w) outer Pg w H s Q E) s := by
  refine codeAny_mono ?_ fun r s' h => cr_show2 e0 ho.std h
  obtain ⟨pm, ctv, hf⟩ := hl
  obtain ⟨oc, hoc, cf⟩ := hc
  obtain ⟨rest, hn, hrc⟩ := S.first
  have gf := (e0.hok f _ hf).1
  have gc := (e0.hok c _ hoc).1
  have lim : s.heap.NoLimit := e0.mod.nolimit.keeps fun b o e => (e0.bs b o e).1
  refine PySem.W.kla_callFunE hr.depth gf rfl S.co S.gen rfl (cf _ gc).2 ?_
  rw [hb pm ctv u]
  refine wpAny_pure (wpAny_newEnv_one S.kind hn hrc fun h₁ kp hns hx => ⟨lim.keeps kp, ?_⟩)
  show codeAny _ _ (.expr body (PySem.W.envX q scope s.heap.objs.size f (.ref c) ((x, s.heap.objs.size + 1) :: cl))) _ _
  have J := lam_start1 (q := q) (f := f) (c := c) (E := fun c d H' => NoC H' cl → E c d (showC H H' cl)) S C e0 hr.hd ho r hσ kp hns hx
  refine PySem.W.kla_codeExpr (wpAny_mono (hbody _ (hr.deeper _) [] _ J) (fun v s' hq => ?_) fun e s' hq => hq)
  obtain ⟨v', H', J', rv, q'⟩ := hq
  exact ⟨v', H', J'.os, J'.bare, J'.base, J'.hok, rv, q'⟩
end
section
variable {P : Program} {w : World} {K : Frag} {mg : Str → Option Value} {base : Heap} {cl : List (Str × Addr)} {q : Str} {params : Arguments} {body : Expr} {scope : Scope} {f c P' : Addr} {N : List Str} {x : Str} {k : Nat} {sp : Sp} {Φ : Hp → Prop}
theorem cl_of1 (S : LamSc1 scope N x) (C : Clos cl scope) (hb : ∀ (pm ctv u : Value), bindArgs (PySem.W.kla_fn "<lambda>" q params body scope cl pm (.ref c) ctv) ⟨[u], []⟩ = pure [(x, u)])
    (hΦ : ∀ H, Φ H → LamAt H f q params body scope cl c ∧ CodeAt H c P' q ∧ CellsOk H cl)
    (h : ∀ (A : Around) (outer : List Env) (s : Shared) (H : Hp) (va : V) (Q : VK) (E : XK), Env0 P w K mg base A outer s H → Φ H → sp [va] H Q E → ∃ σ, LamSt1 H scope cl N x va σ ∧ ∀ lc, Room k (A.deeper (PySem.W.envX q scope s.heap.objs.size f (.ref c) ((x, lc) :: cl))) → (A.deeper (PySem.W.envX q scope s.heap.objs.size f (.ref c) ((x, lc) :: cl))).guards = some [] →
      wE (lamX P w K mg base N q scope f c ((x, lc) :: cl) A outer s (hideC H cl) (fun c d H' => NoC H' cl → E c d (showC H H' cl))) body σ (hideC H cl) (fun v H' => NoC H' cl → Q v (showC H H' cl))) :
    ClOk P w K mg base (k + 1) f 1 sp Φ := fun A outer s H us vs Q E hr hgd e0 φ hn r hs => by
  obtain ⟨h1, h2, h3⟩ := hΦ H φ
  match vs, us, hn, r with
  | [va], _, _, .cons rv .nil =>
    obtain ⟨σ, hσ, hw⟩ := h A outer s H va Q E e0 φ hs
    exact lam_run1 S C hb hr e0 h1 h2 h3 rv hσ fun lc hr' => hw lc hr' hgd
end
end K95
/-! L9x: _law_later_right. -/
namespace K95
open PySem PySem.Spec PySem.Calls PySem.W PyProof.Rows L2 Evl
section
variable {X : Cx} {σ : L2.St} {H : Hp} {e b : Expr} {p p1 : Pos} {α : Type} [DecidableEq α] [Datum α] {x : α}
theorem ha_rep {K : Frag} {H : Hp} {v : V} (d : Hd K H v x) : ∀ n : Nat, HdAll K H (List.replicate n v) (List.replicate n x)
  | 0 => ha_nil
  | n + 1 => ha_cons d (ha_rep d n)
/-- [e] * n -/
theorem tx_repN {n : Int} (he : TX X σ H e x) (hb : TX X σ H b n) (h0 : 0 ≤ n) (h1 : n ≤ 1000) (hs : starEach (e :: []) X.env = (false, eval e X.env) :: starEach [] X.env := by rfl) : TX X σ H (.BinOp (.List [e] p1) .Mult b p) (List.replicate n.toNat x) := fun H1 k Q q =>
  wE_of (pe_op op_rep pE pE) (wE_of (pe_lst (pa_cons pE pa_nil hs)) (he H1 k _ fun v H2 k2 d => ⟨by rw [sizeLine_eq]; show 1 ≤ 16777216; decide, fun l hl => (hb.up ((k.trans k2).trans (Ex.new hl))).go fun w H3 k3 d3 => ⟨l, n, [v], rfl, d3.int, k3 _ _ upd_same, by omega, by omega, by rw [sizeLine_eq]; show 1 * n.toNat ≤ 16777216; omega, fun l' hl' => by
    have e2 := (Ex.new (o := HO.lst [v]) hl).trans k3
    rw [show (List.replicate n.toNat [v]).flatten = List.replicate n.toNat v by simp]
    exact q _ _ ((k2.trans e2).trans (Ex.new hl')) (hd_list (SqL.of upd_same) (ha_rep ((d.ex e2).ex (Ex.new hl')) _))⟩⟩))
end
def spRedo (K : Frag) (C sa : Addr) (F : Fld) (S : St2) : Sp := fun vs H Q _ => vs = [.ref sa] ∧ SheetAt K H C sa F S ∧ ∀ H' S' l, But [sa] H H' → SheetAt K H' C sa F S' → H' l = some (.lst (List.replicate S.later.length (.bl true) ++ [.bl false])) → Q (.ref l) H'
def spLater (K : Frag) (C : Addr) (tb : List (Addr × Nat × Str)) : Sp := fun vs H Q _ => ∃ (mp : Mp) (sa ao : Addr) (F : Fld) (S : St2) (B r : Nat), vs = [.ref sa, .ref ao] ∧ Al K C tb H H mp r sa ao F S S ∧ StOk F B S ∧ B ≤ 60 ∧ ∀ H', Al K C tb H H' mp r sa ao F S S → Q (.bl true) H'
abbrev scLater : Scope := { kind := .function, names := [("held", .cell), ("due", .free), ("range", .globalImplicit)], isGenerator := false, isCoroutine := false, more := [("fast", .str "held"), ("fast", .str "k"), ("fast", .str "due")] }
section
variable {P : Program} {w : World} {K : Frag} {mg : Str → Option Value} {base : Heap}
theorem scLtr : FnScope ["sheet", "own", "due"] ["sheet", "own"] (defScope (top 57)) := ⟨rfl, rfl, rfl, by decide +kernel, rfl, by decide +kernel, by decide +kernel⟩
theorem ok_later {f C CT Pt : Addr} {fd : FuncData} {c : Ec} {tb : List (Addr × Nat × Str)} (F : Fun K "_law_later_right" "_law_later_right" (top 57) f fd) (B : Bn mg) (M : ShM P w K mg base c C CT)
    (GU : ∀ k, 1 ≤ k → OwnG P w K mg base (k + 1) "under" ["manager", "deed"] (spUnder P w K mg base C CT k)) (Z : Mkr K base mg f Pt) (hP : (Pt, 0, PySem.Str.ofString "_law_later_right.<locals>.<lambda>") ∈ tb) : FnG P w K mg base 8 f fd ["sheet", "own"] (spLater K C tb) := by
  refine fn_ofG F scLtr (fun vs H Q E h => ?_) (fun cdv A outer s H vs Q E hr hgd hcd h => ?_)
  · obtain ⟨mp, sa, ao, FF, S, Bd, r, rfl, _⟩ := h; rfl
  · obtain ⟨mp, sa, ao, FF, S, Bd, r, rfl, hA, hK, hB, kt⟩ := h
    have hu := hu1 hr
    have hr7 : Room 7 _ := hr
    obtain ⟨c₀, hTB, hcc⟩ := Z
    obtain ⟨oc, od, kV, doc, pm, an, ct, osl, hlk⟩ := hcd
    have hcd0 : cdv = .ref c₀ := hcc _ _ _ _ _ _ _ _ _ _ _ _ _ _ hlk
    have hp := hK.lp
    have hl := hK.ll
    refine ⟨_, pB, ?_⟩
    refine wB_cons (wS_set (i := 2) scLtr.nd rfl (TX.go (x := ((S.later.length : Nat) : Int)) (tx_lenL B.len (tx_ownL hu 1 hA.ow)) fun v1 H1 e1 d1 => ?_))
    obtain rfl := d1.int
    have A1 := hA.ex e1
    refine wB_one (wS_ret (wE_cmpD (op_eqH (List Bool) (hu64 hr)) ?_))
    refine wE_callLam2 (W := noW) (P := Pt) (tb := tb) (n := 0) (GU 2 (by decide)) (hr7.mono (by decide)) hgd takesNo (fun cl h => own_def (fun _ => rfl) h) hTB hcd0 rfl (show freeB (defScope (top 57)) _ = true by decide +kernel) fun Cl => ?_
    obtain ⟨dx, fs, y1, y2⟩ := sheet_no A1.sh (m := "trial") fun _ _ _ _ => rfl
    refine wE_meth0 M.trial M.T.cl (hr7.mono (by decide)) (wE_var 0 rfl rfl ⟨sa, dx, fs, rfl, y1, y2, sa, FF, S, rfl, A1.sh, fun ta G2 eG2 hta T2' => ?_⟩)
    have A2 := A1.ex eG2
    refine ⟨A2.tt, hP, fun f2 c2 P2 G3 nf2 hc2 kp3 hla2 T3 _ G4 aC2 ok4 ca2 => ?_⟩
    have cvD := caught_cv (i := 2) (y := "due") Cl ca2 (by decide +kernel) (hk := show (defScope (top 57)).names.lookup _ ≠ some .local by decide +kernel)
    have B4 := (A2.kp0 kp3 T3).ex aC2.ex
    have T4 := (T2'.kp kp3 NoTup.nil (fun z => nomatch z)).ofEx aC2.ex
    obtain ⟨dxt, fst, ht4⟩ := T4.ins
    have ne : sa ≠ ta := fun z => by rw [z, hta] at y1; cases y1
    have nS : ∀ b ∈ [ta], ∀ o, G4 b ≠ some (Std o) := fun b hb o z => by rw [List.mem_singleton.mp hb, ht4] at z; cases z
    refine ⟨ta, sa, f2, FF, S, S, rfl, T4, B4.sh, ne, fun G5 b5 T5 S5 => ?_⟩
    have B5 := B4.butIns b5 ht4 (Ne.symm ne)
    have kb5 := Kp.of_but b5
    have hla5 := (hla2.ex aC2.ex).kp kb5 nS
    have hc5 := (hc2.ex aC2.ex).kp (fun o ho => std_kp kb5 nS ho)
    have ok5 := ok4.kp kb5 nS
    refine ⟨hla5.fn, 2, spRedo K C sa FF S, fun G => LamAt G f2 _ _ _ _ _ c2 ∧ CodeAt G c2 P2 _ ∧ CellsOk G _ ∧ Cv G _ "due" (.int (S.later.length : Nat)),
      cl_of1 (k := 1) (N := ["held", "due", "k"]) (x := "held") ⟨rfl, rfl, rfl, ⟨_, rfl, by decide +kernel⟩, by decide +kernel⟩ Cl (fun pm ctv u => rfl) (fun G h => ⟨h.1, h.2.1, h.2.2.1⟩) ?_, by decide, ⟨hla5, hc5, ok5, cvD.kp kb5 nS⟩, fun Q' E' kq ke => ?_⟩
    · rintro A2' outer2 s2 Gi va Qi Ei e0i ⟨z1, z2, oi, x1⟩ ⟨hva, hSi, ki⟩
      obtain rfl : va = .ref sa := by simpa using hva
      refine ⟨[some (.ref sa), some (.int (S.later.length : Nat)), none], ⟨rfl, fun i y v hy hv => ?_⟩, fun lc hri hgi => ?_⟩
      · match i, hy, hv with
        | 0, hy, hv => cases hy; cases hv; exact .inl ⟨rfl, rfl⟩
        | 1, hy, hv => cases hy; cases hv; exact .inr ⟨by decide +kernel, by decide, x1⟩
        | 2, hy, hv => cases hv
      · have S1 := hSi.hide oi.std
        have ndL : (["held", "due", "k"] : List Str).Nodup := by decide +kernel
        refine wE_lc [("k", 2)] rfl ndL (blkOk_by (N := ["held", "due", "k"]) (sc := scLater) (by decide +kernel)) (wI_of (pi_range1 rfl B.range pA) (wA_of (pa_cons pE pa_nil) ((tx_add (tx_var 1 (hd_int (i := ((S.later.length : Nat) : Int)))) tx_int).go fun v H8 e8 d8 => ⟨((S.later.length + 1 : Nat) : Int), by rw [d8.int]; rfl, ?_, ?_, fun D hD => ?_⟩)))
        · have b62 : (2 : Int) ^ 62 = 4611686018427387904 := by decide
          omega
        · have b62 : (2 : Int) ^ 62 = 4611686018427387904 := by decide
          omega
        have S8 := S1.ofEx e8
        obtain ⟨Dx8, fs8, hs8, _⟩ := sheet_no S8 (m := "redo") fun _ _ _ _ => rfl
        have nsD : sa ≠ D := fun z => by rw [z, hD] at hs8; cases hs8
        refine ⟨fun i m H' => m + i = S.later.length + 1 ∧ But [sa, D] H8 H' ∧ ∃ S' us, H' D = some (.lst us) ∧ SheetAt K H' C sa FF S' ∧ ((i ≤ S.later.length ∧ S'.later.length + i = S.later.length ∧ us = List.replicate i (.bl true) ∧ S'.past.length ≤ 60 + i) ∨ (i = S.later.length + 1 ∧ us = List.replicate S.later.length (.bl true) ++ [.bl false])),
          ⟨S.later.length + 1, rfl, But.of_ex (Ex.new hD), S, [], upd_same, S8.ofEx (Ex.new hD), .inl ⟨Nat.zero_le _, rfl, rfl, by omega⟩⟩, fun i m H' ⟨hm, bH, S', us, hus, hS', hcase⟩ => ?_⟩
        rcases Nat.lt_or_ge i (S.later.length + 1) with hi | hi
        · obtain ⟨h1, h2, h3, h4⟩ : i ≤ S.later.length ∧ S'.later.length + i = S.later.length ∧ us = List.replicate i (.bl true) ∧ S'.past.length ≤ 60 + i := by
            rcases hcase with h | ⟨h, _⟩
            · exact h
            · omega
          refine .inr ⟨hi, fun H'' => m - 1 + (i + 1) = S.later.length + 1 ∧ But [sa, D] H8 H'' ∧ ∃ S' us, H'' D = some (.lst us) ∧ SheetAt K H'' C sa FF S' ∧ ((i + 1 ≤ S.later.length ∧ S'.later.length + (i + 1) = S.later.length ∧ us = List.replicate (i + 1) (.bl true) ∧ S'.past.length ≤ 60 + (i + 1)) ∨ (i + 1 = S.later.length + 1 ∧ us = List.replicate S.later.length (.bl true) ++ [.bl false])), fun H'' h => ⟨m - 1, by omega, h⟩, fun xv H'' hy => ?_⟩
          obtain ⟨rfl, rfl⟩ := hy
          intro s0 H0 cc cl' fp
          refine wG_name 2 ndL ⟨rfl, ?_⟩
          intro s0 H0 cc cl' fp
          refine tbs_nil _ (Ex.refl _) _ fun H9 e9 => ?_
          rw [if_pos rfl]
          intro s0 H0 cc cl' fp
          have S9 := hS'.ofEx e9
          have hus9 := e9 _ _ hus
          obtain ⟨Dx9, fs9, y9, y9'⟩ := sheet_no S9 (m := "redo") fun _ _ _ _ => rfl
          have fin : ∀ {H10 : Hp} {S10 : St2} {b : Bool}, But [sa] H9 H10 → SheetAt K H10 C sa FF S10 → H10 D = some (.lst us) ∧ us.length < sizeLine ∧ But [sa, D] H8 (upd H10 D (.lst (us ++ [.bl b]))) ∧ SheetAt K (upd H10 D (.lst (us ++ [.bl b]))) C sa FF S10 := fun {H10 S10 b} b10 S10' => by
            have hu10 := b10 D _ (fun z => nsD (List.mem_singleton.mp z).symm) hus9
            refine ⟨hu10, by rw [h3, List.length_replicate, sizeLine_eq]; omega, ((bH.trans (But.of_ex e9)).trans (b10.mono fun b hb => by rw [List.mem_singleton.mp hb]; simp)).upd (by simp), S10'.kp (Kp.of_but (But.refl.upd (S := [D]) (by simp))) (NoTup.cons (notup_lst hu10) NoTup.nil) fun z => nsD (List.mem_singleton.mp z)⟩
          refine wE_meth0 M.redo M.T.cl (hri.mono (by decide)) (wE_var 0 rfl rfl ⟨sa, Dx9, fs9, rfl, y9, y9', sa, FF, S', rfl, S9, by omega, by omega, fun hc H10 e10 => ?_, fun hc H10 b10 S10 => ?_⟩)
          · have hz : S'.later = [] := Decidable.not_not.mp (of_decide_eq_false hc)
            have hz' : S'.later.length = 0 := by rw [hz]; rfl
            obtain ⟨f1, f2', f3, f4⟩ := fin (b := false) (But.of_ex e10) (S9.ofEx e10)
            exact ⟨us, f1, f2', by omega, f3, S', _, upd_same, f4, .inr ⟨by omega, by rw [h3, show i = S.later.length by omega]⟩⟩
          · have hne : S'.later ≠ [] := of_decide_eq_true hc
            have hpos := List.length_pos_iff.mpr hne
            obtain ⟨f1, f2', f3, f4⟩ := fin (b := true) b10 S10
            refine ⟨us, f1, f2', by omega, f3, shiftS false S', _, upd_same, f4, .inl ⟨by omega, ?_, ?_, ?_⟩⟩
            · show S'.later.dropLast.length + (i + 1) = S.later.length
              rw [List.length_dropLast]; omega
            · rw [h3, List.replicate_succ']
            · show (S'.past ++ [S'.now]).length ≤ 60 + (i + 1)
              rw [List.length_append]; simp only [List.length_cons, List.length_nil]; omega
        · refine .inl ⟨hi, fun nC => ?_⟩
          have hi2 : us = List.replicate S.later.length (.bl true) ++ [.bl false] := by
            rcases hcase with ⟨h, _⟩ | ⟨_, h⟩
            · omega
            · exact h
          rw [hi2] at hus
          refine ki _ S' D (but_show fun x o hx hxo => ?_) (hS'.ofEx (ex_show nC)) (ex_show nC D _ hus)
          have g8 := e8 _ _ hxo
          exact bH x o (fun z => by
            simp only [List.mem_cons, List.mem_nil_iff, or_false] at z hx
            rcases z with z | z
            · exact hx z
            · rw [z, hD] at g8; cases g8) g8
    · obtain ⟨dx5, fs5, ht5⟩ := T5.ins
      refine ⟨rfl, B5.sh, fun H' S' l bH sH hlst => kq (.ref l) H' S' (T5.kp (Kp.of_but bH) (SheetAt.no S5) (fun z => ne (List.mem_singleton.mp z).symm)) sH fun H6 b6 S6 std6 => ?_⟩
      have a6 := B5.sheet (bH.trans b6) S6
      have ok6 := (ok5.kp a6.fr B5.pl.noStd)
      have hl6 : H6 l = some (.lst (List.replicate S.later.length (.bl true) ++ [.bl false])) := by
        obtain ⟨dxx, fsx, hs, _⟩ := sheet_no sH (m := "trial") fun _ _ _ _ => rfl
        exact b6 l _ (fun z => by rw [List.mem_singleton.mp z, hs] at hlst; cases hlst) hlst
      have a7 : Al K C tb H (hideC H6 _) mp r sa ao FF S S := ⟨a6.ms.hide std6, a6.sh.hide std6, a6.ow.hide std6, a6.tt.hide ok6, fun x o hx ht hxo => by
        have g2 := (e1.trans eG2) _ _ hxo
        have g3 := kp3 x o (fun z => nomatch z) ht g2
        have g4 := aC2.ex _ _ g3
        have g5 := b5 x o (fun z => by rw [List.mem_singleton.mp z] at hxo; rw [e1 _ _ hxo] at hta; cases hta) g4
        have g6 := a6.fr x o hx ht g5
        rw [hideC_out (fun z => by rw [aC2.new x z] at g3; cases g3)]
        exact g6⟩
      have dl : Hd K (hideC H6 _) (.ref l) (List.replicate S.later.length true ++ [false]) := (hd_list (xs := List.replicate S.later.length true ++ [false]) (SqL.of hl6) ((ha_rep hd_bl _).append (ha_cons hd_bl ha_nil))).hide std6
      generalize hideC H6 _ = H7 at *
      refine TX.go (x := List.replicate S.later.length true ++ [false]) (tx_catL ?_ (TX.conv (tx_repN tx_bl (tx_var 2 (hd_int (i := ((S.later.length : Nat) : Int)))) (by omega) (by omega)) rfl) (tx_lst (tl_cons tx_bl tl_nil) (by show 1 ≤ 100000; decide))) fun w8 H8 e8 d8 => ⟨_, _, dl.ex e8, d8, ?_⟩
      · rw [List.length_replicate]; show S.later.length + 1 ≤ 100000; omega
      · rw [decide_eq_true rfl]
        exact kt H8 (a7.ex e8)
end
end K95
/-! LX: what the law's own body leans on. -/
namespace K95
open PySem PySem.Spec PySem.Calls PySem.W PyProof.Rows L2 Evl
section
variable {K : Frag} {C CT sa ao sb fb ta : Addr} {tb : List (Addr × Nat × Str)} {H0 H H1 H' : Hp} {mp : Mp} {r r' : Nat} {F F' : Fld} {S Z S' Z' S0 : St2} {cl : List (Str × Addr)}
/-- one sheet with its dict goes on: another one stands -/
theorem Al.other (a : Al K C tb H0 H mp r sa ao F S Z) (p : Pl H mp sb fb) (b : Al K C tb H H' mp r' sb fb F' S' Z') (h1 : sa ≠ sb) (h2 : ao ≠ fb) : Al K C tb H' H' mp r' sa ao F S Z := by
  have pa := a.pl
  refine ⟨b.ms, a.sh.kp b.fr p.noTup (fun z => ?_), a.ow.kp b.fr p.noTup (fun z => ?_) p.only, b.tt, Kp.refl⟩
  · obtain ⟨Cx, dx, fs, hs⟩ := pa.s
    exact p.ins hs h1 z
  · simp only [List.mem_cons, List.mem_nil_iff, or_false] at z
    obtain ⟨vF, vN, p1, l1, h4⟩ := pa.o
    rcases z with z | z | z | z
    · exact pa.am_ao z.symm
    · obtain ⟨us, hg⟩ := pa.g
      rw [z, hg] at h4; cases h4
    · obtain ⟨Cx, dx, fs, hs⟩ := p.s
      rw [z, hs] at h4; cases h4
    · exact h2 z
theorem TTs.draw (t : TTs tb H) (m : MS K H mp r) (b : But [mp.am, mp.gl] H H') : TTs tb H' := by
  obtain ⟨cs, gs, n, h1, h2, h3, h4, h5⟩ := m.ex
  obtain ⟨us, hgl, _⟩ := h4.at_
  refine t.but b fun x hx => ?_
  simp only [List.mem_cons, List.mem_nil_iff, or_false] at hx
  rcases hx with rfl | rfl
  · exact ⟨fun ps z => (by rw [h1] at z; cases z), fun o z => by rw [h1] at z; cases z⟩
  · exact ⟨fun ps z => (by rw [hgl] at z; cases z), fun o z => by rw [hgl] at z; cases z⟩
theorem TTs.ins {D dx : Addr} {fs : List (Str × V)} (t : TTs tb H) (b : But [ta] H H') (h : H ta = some (.ins D dx fs)) : TTs tb H' := t.but b fun x hx => by
  rw [List.mem_singleton.mp hx]
  exact ⟨fun ps z => (by rw [h] at z; cases z), fun o z => by rw [h] at z; cases z⟩
/-- a sheet is no list, no dict -/
theorem SheetAt.ins {S : St2} (h : SheetAt K H C sa F S) : ∃ dx fs, H sa = some (.ins C dx fs) := by
  obtain ⟨dx, fs, g, _⟩ := sheet_no h (m := "trial") fun _ _ _ _ => rfl
  exact ⟨dx, fs, g⟩
theorem noStd_ins {D dx : Addr} {fs : List (Str × V)} (h : H ta = some (.ins D dx fs)) : ∀ b ∈ [ta], ∀ o, H b ≠ some (Std o) := fun b hb o z => by rw [List.mem_singleton.mp hb, h] at z; cases z
/-- a change of a trial's object alone -/
theorem SheetAt.butIns {D dx : Addr} {fs : List (Str × V)} {S : St2} (s : SheetAt K H C sa F S) (b : But [ta] H H') (h : H ta = some (.ins D dx fs)) (ne : ta ≠ sa) : SheetAt K H' C sa F S :=
  s.kp (Kp.of_but b) (NoTup.cons (notup_ins h) NoTup.nil) fun z => ne (List.mem_singleton.mp z).symm
end
section
variable {X : Cx} {σ : L2.St} {H : Hp} {e a b : Expr} {es : List Expr} {p pos p1 p2 : Pos} {Q : Bool → Hp → Prop} {c : Ec} {C CT sa sb : Addr} {F F2 : Fld} {S S2 : St2} {n n2 : Str}
/-- a == b, a a sheet -/
theorem wE_eqS (M : ShM X.prog X.w X.K X.mg X.base c C CT) (hr : Room 1 X.A) {Q : VK} (h : wE X a σ H fun v H1 => v = .ref sa ∧ wE X b σ H1 fun w H2 => SheetAt X.K H2 C sa F S ∧
      ((∃ sb F2 S2, w = .ref sb ∧ SheetAt X.K H2 C sb F2 S2 ∧ ∀ H3, Ex H2 H3 → Q (.bl (decide (F = F2) && decide (S.now.1 = S2.now.1))) H3) ∨ (((∃ t : Tup Pr, Hd X.K H2 w t) ∨ ∃ i : Int, w = .int i) ∧ ∀ H3, Ex H2 H3 → Q (.bl false) H3)))
    (hm : behindInMarks .Eq b = false := by first | exact nomark _ | with_unfolding_all rfl) : wE X (.Compare a [.Eq] [b] p) σ H Q := by
  obtain ⟨f, fd, FF, h1, h2, hb⟩ := M.eq.own
  refine wE_of (pe_cmpR (op_eqOwn h1 h2 FF hr hb) pE pE hm) (wE_mono h fun v H1 ⟨ev, h'⟩ => wE_mono h' fun w H2 ⟨hS, k⟩ => ?_)
  obtain ⟨dx, fs, hs⟩ := hS.ins
  rcases k with ⟨sb, F2, S2, ew, hS2, q⟩ | ⟨hw, q⟩
  · obtain ⟨dx2, fs2, hs2⟩ := hS2.ins
    exact ⟨sa, dx, fs, .ref C, ev, hs, .inr (.inr ⟨sb, dx2, fs2, C, ew, hs2, rfl⟩), M.nF, sa, F, S, w, by rw [ev], hS, .inl ⟨sb, F2, S2, ew, hS2, fun H3 e3 => ⟨_, rfl, q H3 e3⟩⟩⟩
  · rcases hw with ⟨t, ht⟩ | ⟨i, ei⟩
    · obtain ⟨l, vs, el, hl, hll⟩ := ht.tup
      exact ⟨sa, dx, fs, .type "tuple", ev, hs, .inr (.inl ⟨l, vs, el, hl, rfl⟩), M.nT, sa, F, S, w, by rw [ev], hS, .inr ⟨.inl ⟨t, ht⟩, fun H3 e3 => ⟨_, rfl, q H3 e3⟩⟩⟩
    · exact ⟨sa, dx, fs, .type "int", ev, hs, .inl ⟨i, ei, rfl⟩, M.nI, sa, F, S, w, by rw [ev], hS, .inr ⟨.inr ⟨i, ei⟩, fun H3 e3 => ⟨_, rfl, q H3 e3⟩⟩⟩
theorem wT_eqS (M : ShM X.prog X.w X.K X.mg X.base c C CT) (hr : Room 1 X.A) (h : wE X a σ H fun v H1 => v = .ref sa ∧ wE X b σ H1 fun w H2 => SheetAt X.K H2 C sa F S ∧
      ((∃ sb F2 S2, w = .ref sb ∧ SheetAt X.K H2 C sb F2 S2 ∧ ∀ H3, Ex H2 H3 → Q (decide (F = F2) && decide (S.now.1 = S2.now.1)) H3) ∨ (((∃ t : Tup Pr, Hd X.K H2 w t) ∨ ∃ i : Int, w = .int i) ∧ ∀ H3, Ex H2 H3 → Q false H3)))
    (hm : behindInMarks .Eq b = false := by first | exact nomark _ | with_unfolding_all rfl) : wT X (.Compare a [.Eq] [b] p) σ H Q := by
  obtain ⟨f, fd, FF, h1, h2, hb⟩ := M.eq.own
  refine wT_cmpD (op_eqOwn h1 h2 FF hr hb) (wE_mono h fun v H1 ⟨ev, h'⟩ => wE_mono h' fun w H2 ⟨hS, k⟩ => ?_) hm
  obtain ⟨dx, fs, hs⟩ := hS.ins
  rcases k with ⟨sb, F2, S2, ew, hS2, q⟩ | ⟨hw, q⟩
  · obtain ⟨dx2, fs2, hs2⟩ := hS2.ins
    exact ⟨sa, dx, fs, .ref C, ev, hs, .inr (.inr ⟨sb, dx2, fs2, C, ew, hs2, rfl⟩), M.nF, sa, F, S, w, by rw [ev], hS, .inl ⟨sb, F2, S2, ew, hS2, fun H3 e3 => ⟨_, rfl, _, rfl, q H3 e3⟩⟩⟩
  · rcases hw with ⟨t, ht⟩ | ⟨i, ei⟩
    · obtain ⟨l, vs, el, hl, hll⟩ := ht.tup
      exact ⟨sa, dx, fs, .type "tuple", ev, hs, .inr (.inl ⟨l, vs, el, hl, rfl⟩), M.nT, sa, F, S, w, by rw [ev], hS, .inr ⟨.inl ⟨t, ht⟩, fun H3 e3 => ⟨_, rfl, _, rfl, q H3 e3⟩⟩⟩
    · exact ⟨sa, dx, fs, .type "int", ev, hs, .inl ⟨i, ei, rfl⟩, M.nI, sa, F, S, w, by rw [ev], hS, .inr ⟨.inr ⟨i, ei⟩, fun H3 e3 => ⟨_, rfl, _, rfl, q H3 e3⟩⟩⟩
theorem wT_eqS2 (M : ShM X.prog X.w X.K X.mg X.base c C CT) (hr : Room 1 X.A) (h : wE X a σ H fun v H1 => ∃ sa F S, v = .ref sa ∧ wE X b σ H1 fun w H2 => SheetAt X.K H2 C sa F S ∧
      ∃ sb F2 S2, w = .ref sb ∧ SheetAt X.K H2 C sb F2 S2 ∧ ∀ H3, Ex H2 H3 → Q (decide (F = F2) && decide (S.now.1 = S2.now.1)) H3)
    (hm : behindInMarks .Eq b = false := by first | exact nomark _ | with_unfolding_all rfl) : wT X (.Compare a [.Eq] [b] p) σ H Q := by
  obtain ⟨f, fd, FF, h1, h2, hb⟩ := M.eq.own
  refine wT_cmpD (op_eqOwn h1 h2 FF hr hb) (wE_mono h fun v H1 ⟨sa, F, S, ev, h'⟩ => wE_mono h' fun w H2 ⟨hS, sb, F2, S2, ew, hS2, q⟩ => ?_) hm
  obtain ⟨dx, fs, hs⟩ := hS.ins
  obtain ⟨dx2, fs2, hs2⟩ := hS2.ins
  exact ⟨sa, dx, fs, .ref C, ev, hs, .inr (.inr ⟨sb, dx2, fs2, C, ew, hs2, rfl⟩), M.nF, sa, F, S, w, by rw [ev], hS, .inl ⟨sb, F2, S2, ew, hS2, fun H3 e3 => ⟨_, rfl, _, rfl, q H3 e3⟩⟩⟩
/-- a != b, both sheets -/
theorem wT_neS (M : ShM X.prog X.w X.K X.mg X.base c C CT) (hr : Room 2 X.A) (h : wE X a σ H fun v H1 => v = .ref sa ∧ wE X b σ H1 fun w H2 => SheetAt X.K H2 C sa F S ∧ ∃ sb F2 S2, w = .ref sb ∧ SheetAt X.K H2 C sb F2 S2 ∧ ∀ H3, Ex H2 H3 → Q (!(decide (F = F2) && decide (S.now.1 = S2.now.1))) H3)
    (hm : behindInMarks .NotEq b = false := by first | exact nomark _ | with_unfolding_all rfl) : wT X (.Compare a [.NotEq] [b] p) σ H Q := by
  obtain ⟨f, fd, FF, h1, h2, hb⟩ := M.eq.own
  obtain ⟨fn, N⟩ := M.ne
  obtain rfl : fn = f := by
    have := N.eq.symm.trans h1
    cases this
    rfl
  refine wT_cmpD (op_neOwn N FF hr hb) (wE_mono h fun v H1 ⟨ev, h'⟩ => wE_mono h' fun w H2 ⟨hS, sb, F2, S2, ew, hS2, q⟩ => ?_) hm
  · obtain ⟨dx, fs, hs⟩ := hS.ins
    obtain ⟨dx2, fs2, hs2⟩ := hS2.ins
    exact ⟨sa, dx, fs, .ref C, ev, hs, .inr (.inr ⟨sb, dx2, fs2, C, ew, hs2, rfl⟩), M.nF, sa, F, S, w, by rw [ev], hS, .inl ⟨sb, F2, S2, ew, hS2, fun H3 e3 => ⟨_, rfl, _, rfl, q H3 e3⟩⟩⟩
/-- a == b, whatever the data -/
theorem op_eqD (n : Nat) (hu : X.A.units + n < cLine) : OpR X (compareOp .Eq) (fun x y H Q => ∃ (d e : PyData), Dp X.K H x d ∧ Dp X.K H y e ∧ d.plain = true ∧ e.plain = true ∧ d.depth ≤ n ∧ Q (.bl (PyData.eqv d e)) H) := by
  intro pins s σ H x y v u Q I rx ry ⟨d, e, h1, h2, h3, h4, h5, q⟩
  obtain ⟨as, r1⟩ := Dp.reads I _ _ _ h1 rx
  obtain ⟨bs, r2⟩ := Dp.reads I _ _ _ h2 ry
  have hm : min d.depth e.depth ≤ n := Nat.le_trans (Nat.min_le_left _ _) h5
  exact PySem.SeqAt.eq_plain r1 r2 h3 h4 (by omega) ⟨.bl _, H, I, rfl, q⟩
theorem wT_isNot {j : Nat} {p' : Pos} (h : wE X a σ H fun v H1 => Q (!decide (v = .non)) H1) : wT X (.Compare a [.IsNot] [.Constant .none j p'] pos) σ H Q := wT_of (pt_cmp (pc_notN pE)) (wE_mono h fun v H1 q => ⟨_, rfl, q⟩)
theorem tx_minI {i j : Int} (hc : X.calm = true) (hm : X.mg "min" = none) (ha : T2 X σ H [a, b] i j) (hg : Gl X "min" := by rfl) (hs : starEach (a :: [b]) X.env = (false, eval a X.env) :: starEach [b] X.env := by rfl) (hpl : (backTo pos (starEach [b] X.env)).any (·.1) = false := by rfl) : TX X σ H (.Call (.Name "min" p) [a, b] [] pos) (if j < i then j else i) := fun H1 k Q q =>
  wE_of (pe_callB (call_min2 hc) hg hm (by with_unfolding_all rfl) pA (by decide) (by decide) hs hpl) (ha H1 k _ fun v w H2 k2 d1 d2 => ⟨i, j, by rw [d1.int, d2.int], q _ H2 k2 hd_int⟩)
end
end K95
/-! L10x: law. -/
namespace K95
open PySem PySem.Spec PySem.Calls PySem.W PyProof.Rows L2 Evl
def spLaw (K : Frag) (tb : List (Addr × Nat × Str)) : Sp := fun vs H Q _ => ∃ (v : V) (ns : List Int), vs = [v] ∧ Hd K H v ns ∧ ns.length ≤ 63 ∧ TTs tb H ∧ ∀ H', Q (.bl true) H'
/-- one do, as a closure's promise -/
def spDo1 (K : Frag) (C sa : Addr) (F : Fld) (S : St2) (st : Step) : Sp := fun vs H Q _ => vs = [.ref sa] ∧ SheetAt K H C sa F S ∧ ∀ H', But [sa] H H' → SheetAt K H' C sa F (doS S st) → Q (.int S.now.2) H'
def spApp (K : Frag) (C sa lc : Addr) (F : Fld) (S : St2) (st : Step) : Sp := fun vs H Q _ => vs = [.ref sa] ∧ SheetAt K H C sa F S ∧ H lc = some (.lst []) ∧ ∀ H', But [sa, lc] H H' → SheetAt K H' C sa F (doS S st) → H' lc = some (.lst [.int S.now.2]) → Q .non H'
def spFour (K : Frag) (C sa : Addr) (F : Fld) (S : St2) : Sp := fun vs H Q _ => vs = [.ref sa] ∧ SheetAt K H C sa F S ∧ ∀ H' S' l, But [sa] H H' → SheetAt K H' C sa F S' → H' l = some (.lst [.int 0, .bl true, .bl true, .int 1]) → Q (.ref l) H'
abbrev FA : Fld := (Tup.mk [PySem.Str.ofString "a"], Tup.mk [])
theorem good_FA : GoodF FA := ⟨1, by decide, by decide, rfl, List.nil_sublist _⟩
/-- for each depth that is drawn -/
def spTried3 (K : Frag) (C : Addr) (tb : List (Addr × Nat × Str)) : Sp := fun vs H Q E => ∃ n, n ≤ 2 ∧ spTried K C tb n vs H Q E
theorem st0_ok {F : Fld} : StOk F 0 st0 := ⟨⟨Nat.le_refl _, Int.le_refl _, Int.le_refl _, List.Pairwise.nil, (fun q hq => nomatch hq), (fun q hq => nomatch hq), (fun q hq => nomatch hq), (fun q hq => nomatch hq), (fun q hq => nomatch hq)⟩, (fun x hx => nomatch hx), (fun x hx => nomatch hx), Nat.le_refl _⟩
abbrev NLaw : List Str := ["script", "m", "turn", "own", "sheet", "again", "manager", "twin", "far", "calls", "told_so"]
section
variable {P : Program} {w : World} {K : Frag} {mg : Str → Option Value} {base : Heap}
theorem scLaw : FnScope NLaw ["script"] (defScope (top 58)) := ⟨rfl, rfl, rfl, by decide +kernel, rfl, by decide +kernel, by decide +kernel⟩
theorem ok_law {f C CT Pt : Addr} {fd : FuncData} {c : Ec} {tb : List (Addr × Nat × Str)} (F : Fun K "law" "law" (top 58) f fd) (B : Bn mg) (M : ShM P w K mg base c C CT) (ND : Own P w K mg base 2 "_law_draw" ["m", "limit"] (spDraw K)) (NB : Own P w K mg base 2 "_law_begun" ["script"] (spBegun K)) (NF : Own P w K mg base 3 "_law_field" ["m", "most"] (spField K)) (NO : Own P w K mg base 1 "_law_own" ["field"] (spOwn K))
    (GT : OwnG P w K mg base 8 "_law_step" ["m", "sheet", "own"] (spLStep K C tb)) (GS : OwnG P w K mg base 8 "_law_stands" ["sheet", "own"] (spStands K C)) (NT : OwnG P w K mg base 33 "_law_tried" ["m", "sheet", "own", "deep"] (spTried3 K C tb))
    (GL : OwnG P w K mg base 8 "_law_later_right" ["sheet", "own"] (spLater K C tb)) (GU : ∀ k, 1 ≤ k → OwnG P w K mg base (k + 1) "under" ["manager", "deed"] (spUnder P w K mg base C CT k)) (Z : Mkr K base mg f Pt) (hP : (Pt, 0, PySem.Str.ofString "law.<locals>.<lambda>") ∈ tb) : FnG P w K mg base 40 f fd ["script"] (spLaw K tb) := by
  refine fn_ofG F scLaw (fun vs H Q E h => ?_) (fun cdv A outer s H vs Q E hr hgd hcd h => ?_)
  · obtain ⟨v, ns, rfl, _⟩ := h; rfl
  · obtain ⟨v, ns, rfl, dv, hns, hT, kt⟩ := h
    have hu := hu1 hr
    have hr39 : Room 39 _ := hr
    have hr8 := hr39.mono (show 8 ≤ 39 by decide)
    have hr2 := hr39.mono (show 2 ≤ 39 by decide)
    obtain ⟨c₀, hTB, hcc⟩ := Z
    obtain ⟨oc, od, kV, doc, pm, an, ct, osl, hlk⟩ := hcd
    have hcd0 : cdv = .ref c₀ := hcc _ _ _ _ _ _ _ _ _ _ _ _ _ _ hlk
    refine ⟨_, pB, ?_⟩
    -- m = _law_begun(script)
    refine wB_cons (wS_set (i := 1) scLaw.nd rfl (wE_own NB hr2 (wA_of (pa_cons pE pa_nil) (wE_var 0 rfl rfl ⟨v, ns, rfl, dv, by omega, fun mp H1 e1 _ _ _ M1 => ?_⟩))))
    have T1 := hT.ex e1
    have dv1 := dv.ex e1
    refine wB_mid (fun σ2 H' => ∃ t o sh ag ma tw fa, σ2 = [some v, some (.ref mp.am), t, o, sh, ag, ma, tw, fa, none, none] ∧ MS K H' mp 990000 ∧ TTs tb H') ?_ ?_
    · -- the turns
      refine wS_rangeD B.range rfl (passes_of rfl) ((tx_add tx_int (tx_minI rfl B.min (t2_mk tx_int (tx_lenL B.len (tx_var 0 dv1))))).go fun vr H2 e2 dr => ?_)
      refine ⟨(2 + if ((ns.length : Nat) : Int) < 3 then ((ns.length : Nat) : Int) else 3).toNat, by rw [dr.int, Int.toNat_of_nonneg (by split <;> omega)], by split <;> omega, fun i σ2 H' => ∃ t o sh ag ma tw fa, σ2 = [some v, some (.ref mp.am), t, o, sh, ag, ma, tw, fa, none, none] ∧ MS K H' mp (1000000 - 1000 * i) ∧ TTs tb H', ⟨none, none, none, none, none, none, none, rfl, (M1.ofEx e2).less (by omega), T1.ex e2⟩, ?_, ?_⟩
      · rintro i hi σ2 H3 ⟨t, o, sh, ag, ma, tw, fa, rfl, M3, T3⟩ H4 e4
        have M4 := M3.ofEx e4
        have T4 := T3.ex e4
        have hi5 : i < 5 := by split at hi <;> omega
        refine wG_name 2 scLaw.nd ?_
        -- own, sheet
        refine wB_cons (wS_set (i := 3) scLaw.nd rfl (wE_own NO (hr2.mono (by decide)) (wA_of (pa_cons pE pa_nil) (wE_own NF (hr8.mono (by decide)) (wA_of (pa_cons pE (pa_cons pE pa_nil)) (wE_var 1 rfl rfl (wE_int ⟨mp, 1000000 - 1000 * i - 20, rfl, M4.less (by omega), fun H5 vF FF b5 M5 dF gF => ?_⟩)))))))
        have T5 := T4.draw M4 b5
        refine ⟨vF, FF, rfl, dF, fun ao H6 e6 hao hO => ?_⟩
        obtain ⟨gcs, ggs, gn, gh1, gh2, gh3, gh4, gh5⟩ := M5.ex
        obtain ⟨gus, ghgl, _⟩ := gh4.at_
        have O6 := hO mp.gl _ ghgl
        refine wB_cons (wS_set (i := 4) scLaw.nd rfl (wE_sheet M.make (hr8.mono (by decide)) (tx_ownF hu 3 O6) (good_ok gF) fun sa H7 e7 hsa S7 => ?_))
        have A7 : Al K C tb H7 H7 mp (1000000 - 1000 * i - 20) sa ao FF st0 st0 := ⟨(M5.ofEx e6).ofEx e7, S7, O6.ofEx e7, (T5.ex e6).ex e7, Kp.refl⟩
        have K7 : StOk FF 0 st0 := st0_ok
        clear M5 M4 M3 T5 T4 T3 O6 S7 hO gh1 gh2 gh3 gh4 gh5 ghgl
        obtain ⟨R, hR⟩ : ∃ R, 1000000 - 1000 * i = R + 1000 := ⟨1000000 - 1000 * i - 1000, by omega⟩
        rw [hR] at A7
        -- some steps
        refine wB_mid (fun σ2 H' => ∃ ag S, σ2 = [some v, some (.ref mp.am), some (.int (i : Int)), some (.ref ao), some (.ref sa), ag, ma, tw, fa, none, none] ∧ Al K C tb H' H' mp (R + 900) sa ao FF S S ∧ StOk FF 10 S) ?_ ?_
        · refine wS_rangeD B.range rfl (passes_of rfl) (wE_addI (wE_int ⟨3, rfl, wE_draw (r := R + 979) (mp := mp) (k := 2) ND hr2 (wE_var 1 rfl rfl ⟨rfl, wE_int ⟨rfl, by decide, by decide, A7.ms.less (by omega), fun H8 d b8 M8 hd0 hd8 => ⟨d, rfl, ?_⟩⟩⟩)⟩))
          have A8 := (A7.draw b8 M8).self
          refine ⟨(3 + d).toNat, by rw [Int.toNat_of_nonneg (by omega)], by omega, fun j σ2 H' => ∃ ag S, σ2 = [some v, some (.ref mp.am), some (.int (i : Int)), some (.ref ao), some (.ref sa), ag, ma, tw, fa, none, none] ∧ Al K C tb H' H' mp (R + 979 - 3 * j) sa ao FF S S ∧ StOk FF j S, ⟨ag, st0, rfl, A8, K7⟩, ?_, ?_⟩
          · rintro j hj σ2 H9 ⟨ag, S, rfl, A9, K9⟩ H10 e10
            have A10 := (A9.ex e10).self
            refine wG_name 5 scLaw.nd ?_
            refine wB_one (wS_if (wT_not (wT_v (wE_ownG (W := noW) GT hr8 hgd takesNo (wA_of (pa_cons pE (pa_cons pE (pa_cons pE pa_nil))) (wE_var 1 rfl rfl (wE_var 4 rfl rfl (wE_var 3 rfl rfl ⟨mp, sa, ao, FF, S, j, R + 979 - 3 * (j + 1), rfl, A10.less (by omega), gF, K9, by omega, fun H11 S11 A11 K11 => ⟨true, rfl, ?_⟩⟩))))))))
            show (if (!true) = true then _ else _)
            rw [if_neg (by decide)]
            exact wB_nil ⟨_, S11, rfl, A11.self, K11⟩
          · rintro σ2 H9 ⟨ag, S, rfl, A9, K9⟩
            exact ⟨ag, S, rfl, A9.less (by omega), K9.mono (by omega)⟩
        rintro σ2 H8 ⟨ag1, S8, rfl, A8, K8⟩
        clear A7 K7 hao hsa e7 e6 e4 b5
        -- trials
        refine wB_mid (fun σ2 H' => ∃ ag, σ2 = [some v, some (.ref mp.am), some (.int (i : Int)), some (.ref ao), some (.ref sa), ag, ma, tw, fa, none, none] ∧ Al K C tb H' H' mp (R + 500) sa ao FF S8 S8) ?_ ?_
        · refine wS_rangeD B.range rfl (passes_of rfl) (wE_int ⟨3, rfl, by decide, fun j σ2 H' => ∃ ag, σ2 = [some v, some (.ref mp.am), some (.int (i : Int)), some (.ref ao), some (.ref sa), ag, ma, tw, fa, none, none] ∧ Al K C tb H' H' mp (R + 900 - 46 * j) sa ao FF S8 S8, ⟨ag1, rfl, A8⟩, ?_, ?_⟩)
          · rintro j hj σ2 H9 ⟨ag, rfl, A9⟩ H10 e10
            have A10 := (A9.ex e10).self
            refine wG_name 5 scLaw.nd ?_
            refine wB_one (wS_if (wW.t (wW_or (wT_not (wT_v (wE_ownG (W := noW) NT (hr39.mono (by decide)) hgd takesNo (wA_of (pa_cons pE (pa_cons pE (pa_cons pE (pa_cons pE pa_nil)))) (wE_var 1 rfl rfl (wE_var 4 rfl rfl (wE_var 3 rfl rfl (wE_draw (r := R + 900 - 46 * j - 1) (mp := mp) (k := 2) ND hr2 (wE_var 1 rfl rfl ⟨rfl, wE_int ⟨rfl, by decide, by decide, A10.ms.less (by omega), fun H11 d b11 M11 hd0 hd3 => ?_⟩⟩))))))))))))
            have A11 := (A10.draw b11 M11).self
            refine ⟨d.toNat, by omega, mp, sa, ao, FF, S8, 10, R + 900 - 46 * (j + 1), by rw [Int.toNat_of_nonneg hd0], A11.less (by omega), gF, K8, by omega, fun H12 A12 => ⟨true, rfl, ?_⟩⟩
            show (if (!true) = true then _ else _)
            rw [if_neg (by decide)]
            refine wW_or1 (wT_not (wT_v (wE_ownG (W := noW) GL hr8 hgd takesNo (wA_of (pa_cons pE (pa_cons pE pa_nil)) (wE_var 4 rfl rfl (wE_var 3 rfl rfl ⟨mp, sa, ao, FF, S8, 10, _, rfl, A12.self, K8, by decide, fun H13 A13 => ⟨true, rfl, ?_⟩⟩))))))
            show (if (!true) = true then _ else _)
            rw [if_neg (by decide)]
            exact wB_nil ⟨_, rfl, A13.self⟩
          · rintro σ2 H9 ⟨ag, rfl, A9⟩
            exact ⟨ag, rfl, A9.less (by omega)⟩
        rintro σ2 H9 ⟨ag2, rfl, A9⟩
        clear A8
        -- manager = sheet.trial()
        obtain ⟨dx, fs, y1, y2⟩ := sheet_no A9.sh (m := "trial") fun _ _ _ _ => rfl
        refine wB_cons (wS_set (i := 6) scLaw.nd rfl (wE_meth0 M.trial M.T.cl (hr8.mono (by decide)) (wE_var 4 rfl rfl ⟨sa, dx, fs, rfl, y1, y2, sa, FF, S8, rfl, A9.sh, fun ta H10 e10 hta TR => ?_⟩)))
        have A10 := (A9.ex e10).self
        have nts : ta ≠ sa := fun z => by rw [z, y1] at hta; cases hta
        obtain ⟨dxt, fst, hts⟩ := TR.ins
        refine wB_cons (wS_if (wW.t (wW_or (wT_not (wT_v (wE_ownG (W := noW) GT hr8 hgd takesNo (wA_of (pa_cons pE (pa_cons pE (pa_cons pE pa_nil))) (wE_var 1 rfl rfl (wE_var 4 rfl rfl (wE_var 3 rfl rfl ⟨mp, sa, ao, FF, S8, 10, R + 497, rfl, A10.less (by omega), gF, K8, by omega, fun H11 S11 A11 K11 => ⟨true, rfl, ?_⟩⟩))))))))))
        show (if (!true) = true then _ else _)
        rw [if_neg (by decide)]
        have TR11 := TR.kp A11.fr A10.pl.noTup (A10.pl.ins hts nts)
        replace A11 := A11.self
        clear A10 A9 TR y1 y2 hta hts
        -- under(manager, lambda held: held.do(("a", 1))) != own["now"][1]
        refine wW_or1 (wT_cmpD (op_neH Int (hu64 hr)) ?_)
        refine wE_callLam2 (W := noW) (P := Pt) (tb := tb) (n := 0) (GU 4 (by decide)) (hr8.mono (by decide)) hgd takesNo (fun cl h => own_def (fun _ => rfl) h) hTB hcd0 rfl (show freeB (defScope (top 58)) _ = true by decide +kernel) fun Cl => wE_var 6 rfl rfl ?_
        refine ⟨A11.tt, hP, fun f2 c2 P2 G3 nf2 hc2 kp3 hla2 T3 _ G4 aC2 ok4 ca2 => ?_⟩
        have B4 := ((A11.kp0 kp3 T3).ex aC2.ex).self
        have T4 := (TR11.kp kp3 NoTup.nil (fun z => nomatch z)).ofEx aC2.ex
        obtain ⟨dxt, fst, ht4⟩ := T4.ins
        have nS := noStd_ins ht4
        refine ⟨ta, sa, f2, FF, S8, S11, rfl, T4, B4.sh, Ne.symm nts, fun G5 b5 T5 S5 => ?_⟩
        have B5 := B4.butIns b5 ht4 nts
        have kb5 := Kp.of_but b5
        have hla5 := (hla2.ex aC2.ex).kp kb5 nS
        have hc5 := (hc2.ex aC2.ex).kp (fun o ho => std_kp kb5 nS ho)
        have ok5 := ok4.kp kb5 nS
        have hst : isStep FF.1 (PySem.Str.ofString "a", 1) = true := by
          show (isIn (PySem.Str.ofString "a") FF.1.items && isTimes 1) = true
          rw [isIn_iff.mpr (good_len gF).2.2.2.1]; rfl
        have hp11 := K11.lp
        have hl11 := K11.now.len
        refine ⟨hla5.fn, 4, spDo1 K C sa FF S11 (PySem.Str.ofString "a", 1), fun G => LamAt G f2 _ _ _ _ _ c2 ∧ CodeAt G c2 P2 _ ∧ CellsOk G _,
          cl_of (k := 3) (N := ["held"]) (ps := ["held"]) (lamSc_by (by decide +kernel)) Cl (fun pm ctv us hu => ?_) (fun G h => ⟨h.1, h.2.1, h.2.2⟩) ?_, by decide, ⟨hla5, hc5, ok5⟩, fun Q' E' kq ke => ?_⟩
        · match us, hu with
          | [u], _ => rfl
        · rintro A2' outer2 s2 Gi vs Qi Ei hri hgi e0i ⟨z1, z2, oi⟩ hn ⟨rfl, hSi, ki⟩
          refine ⟨[some (.ref sa)], ⟨rfl, fun i y v hy hv => ?_⟩, ?_⟩
          · match i, hy, hv with
            | 0, hy, hv => cases hy; cases hv; exact .inl ⟨rfl, rfl⟩
          · have S1 := hSi.hide oi.std
            obtain ⟨dx1, fs1, y1, y2⟩ := sheet_no S1 (m := "do") fun _ _ _ _ => rfl
            exact wE_methX (W := noW) M.doM M.T.cl hri takesNo (wE_var 0 rfl rfl ⟨sa, dx1, fs1, rfl, y1, y2, wA_of (pa_cons pE pa_nil) (TX.go (x := ((PySem.Str.ofString "a", (1 : Int)) : Step)) (tx_pair (t2_mk tx_str tx_int)) fun v1 H1 e1 d1 => ⟨sa, FF, S11, v1, rfl, S1.ofEx e1, by omega, by omega, .inr ⟨_, d1, hst, fun H2 b2 S2 nC => ki _ (but_show ((But.of_ex e1).trans b2)) (S2.ofEx (ex_show nC))⟩⟩)⟩)
        · refine ⟨rfl, B5.sh, fun H' bH sH => kq (.int S11.now.2) H' _ (T5.kp (Kp.of_but bH) (SheetAt.no S5) (fun z => nts (List.mem_singleton.mp z))) sH fun H6 b6 S6 std6 => ?_⟩
          have a6 := B5.sheet (bH.trans b6) S6
          have ok6 := ok5.kp a6.fr B5.pl.noStd
          have A12 := a6.hideS ok6
          generalize hideC H6 _ = H12 at *
          refine TX.go (x := S11.now.2) (tx_snd (tx_ownN hu 3 A12.ow)) fun v13 H13 e13 d13 => ⟨S11.now.2, S11.now.2, hd_int, d13, _, rfl, ?_⟩
          rw [decide_eq_false (fun z => z rfl), if_neg (by decide)]
          refine wB_nil ?_
          replace A12 := (A12.ex e13).self
          clear a6 ok6 B5 B4 hla5 hc5 ok5 T5 T4 S5 S6 sH kp3 hla2 hc2 ok4 ca2 T3 A11 TR11 nS ht4
          -- twin, far = sheet.copy(), dict(own)
          obtain ⟨dx, fs, y1, y2⟩ := sheet_no A12.sh (m := "copy") fun _ _ _ _ => rfl
          refine wB_cons (wS_par 7 8 rfl scLaw.nd (wE_meth0 M.copy M.T.cl (hr8.mono (by decide)) (wE_var 4 rfl rfl ⟨sa, dx, fs, rfl, y1, y2, sa, FF, S11, rfl, A12.sh, good_ok gF, fun sb H14 e14 hsb Sb => ?_⟩)))
          have A14 := (A12.ex e14).self
          obtain ⟨wF, wN, pa, la, o1, o2, o3, o4, o5, o6, o7⟩ := A14.ow.ex
          refine wE_dictD B.dict (wE_var 3 rfl rfl ⟨ao, _, rfl, o1, fun fb hfb => ?_⟩)
          have e15 := Ex.new (o := HO.dK (oKvs wF wN pa la)) hfb
          have nsb : sa ≠ sb := fun z => by rw [← z, y1] at hsb; cases hsb
          have nfb : ao ≠ fb := fun z => by rw [← z, o1] at hfb; cases hfb
          have Ab : Al K C tb (upd H14 fb (.dK (oKvs wF wN pa la))) (upd H14 fb (.dK (oKvs wF wN pa la))) mp (R + 497) sb fb FF S11 S11 := ⟨A14.ms.ofEx e15, Sb.ofEx e15, ⟨wF, wN, pa, la, upd_same, o2.ex e15, o3.ex e15, o4.ex e15, o5.ex e15, o6, o7⟩, A14.tt.ex e15, Kp.refl⟩
          have Aa := (A14.ex e15).self
          clear o1 o2 o3 o4 o5 o6 o7 y1 y2 A14 A12 Sb
          generalize upd H14 fb (.dK (oKvs wF wN pa la)) = H15 at *
          clear e15 hfb hsb e14
          have same : (decide (FF = FF) && decide (S11.now.1 = S11.now.1)) = true := by simp
          refine wB_cons (wS_if (wW.t (wW_or (wT_not (wT_eqS M (hr8.mono (by decide)) (wE_var 7 rfl rfl ⟨rfl, wE_var 4 rfl rfl ⟨Ab.sh, .inl ⟨sa, FF, S11, rfl, Aa.sh, fun H16 e16 => ?_⟩⟩⟩))))))
          rw [same]
          show (if (!true) = true then _ else _)
          rw [if_neg (by decide)]
          replace Aa := (Aa.ex e16).self
          replace Ab := (Ab.ex e16).self
          refine wW_or (wT_neS M (hr8.mono (by decide)) (wE_var 7 rfl rfl ⟨rfl, wE_var 4 rfl rfl ⟨Ab.sh, sa, FF, S11, rfl, Aa.sh, fun H17 e17 => ?_⟩⟩))
          rw [same]
          show (if (!true) = true then _ else _)
          rw [if_neg (by decide)]
          replace Aa := (Aa.ex e17).self
          replace Ab := (Ab.ex e17).self
          refine wW_or (wT_not (wT_v (wE_ownG (W := noW) GS hr8 hgd takesNo (wA_of (pa_cons pE (pa_cons pE pa_nil)) (wE_var 7 rfl rfl (wE_var 8 rfl rfl ⟨sb, fb, mp.gl, FF, S11, rfl, Ab.sh, Ab.ow, gF, K11.now.mono (by decide), fun H18 e18 => ⟨true, rfl, ?_⟩⟩))))))
          show (if (!true) = true then _ else _)
          rw [if_neg (by decide)]
          replace Aa := (Aa.ex e18).self
          replace Ab := (Ab.ex e18).self
          refine wW_or1 (wT_not (wT_v (wE_ownG (W := noW) GL hr8 hgd takesNo (wA_of (pa_cons pE (pa_cons pE pa_nil)) (wE_var 7 rfl rfl (wE_var 8 rfl rfl ⟨mp, sb, fb, FF, S11, 11, _, rfl, Ab, K11, by decide, fun H19 Ab19 => ⟨true, rfl, ?_⟩⟩))))))
          show (if (!true) = true then _ else _)
          rw [if_neg (by decide)]
          replace Aa := Aa.other Ab.pl Ab19 nsb nfb
          replace Ab := Ab19.self
          clear Ab19 e18 e17 e16
          refine wB_nil ?_
          -- the copy goes on by itself
          refine wB_mid (fun σ2 H' => ∃ ag S', σ2 = [some v, some (.ref mp.am), some (.int (i : Int)), some (.ref ao), some (.ref sa), ag, some (.ref ta), some (.ref sb), some (.ref fb), none, none] ∧ Al K C tb H' H' mp (R + 100) sa ao FF S11 S11 ∧ Al K C tb H' H' mp (R + 100) sb fb FF S' S' ∧ StOk FF 15 S') ?_ ?_
          · refine wS_rangeD B.range rfl (passes_of rfl) (wE_int ⟨4, rfl, by decide, fun j σ2 H' => ∃ ag S', σ2 = [some v, some (.ref mp.am), some (.int (i : Int)), some (.ref ao), some (.ref sa), ag, some (.ref ta), some (.ref sb), some (.ref fb), none, none] ∧ Al K C tb H' H' mp (R + 497 - 3 * j) sa ao FF S11 S11 ∧ Al K C tb H' H' mp (R + 497 - 3 * j) sb fb FF S' S' ∧ StOk FF (11 + j) S', ⟨_, S11, rfl, Aa, Ab, K11⟩, ?_, ?_⟩)
            · rintro j hj σ2 H20 ⟨ag, S', rfl, Aa, Ab, Kb⟩ H21 e21
              replace Aa := (Aa.ex e21).self
              replace Ab := (Ab.ex e21).self
              refine wG_name 5 scLaw.nd ?_
              refine wB_cons (wS_if (wW.t (wW_or (wT_not (wT_v (wE_ownG (W := noW) GT hr8 hgd takesNo (wA_of (pa_cons pE (pa_cons pE (pa_cons pE pa_nil))) (wE_var 1 rfl rfl (wE_var 7 rfl rfl (wE_var 8 rfl rfl ⟨mp, sb, fb, FF, S', 11 + j, R + 497 - 3 * (j + 1), rfl, Ab.less (by omega), gF, Kb, by omega, fun H22 S22 Ab22 Kb22 => ⟨true, rfl, ?_⟩⟩))))))))))
              show (if (!true) = true then _ else _)
              rw [if_neg (by decide)]
              replace Aa := Aa.other Ab.pl Ab22 nsb nfb
              replace Ab := Ab22.self
              refine wW_or (wT_not (wT_v (wE_ownG (W := noW) GS hr8 hgd takesNo (wA_of (pa_cons pE (pa_cons pE pa_nil)) (wE_var 4 rfl rfl (wE_var 3 rfl rfl ⟨sa, ao, mp.gl, FF, S11, rfl, Aa.sh, Aa.ow, gF, K11.now.mono (by decide), fun H23 e23 => ⟨true, rfl, ?_⟩⟩))))))
              show (if (!true) = true then _ else _)
              rw [if_neg (by decide)]
              replace Aa := (Aa.ex e23).self
              replace Ab := (Ab.ex e23).self
              refine wW_or1 (wT_not (wT_v (wE_ownG (W := noW) GS hr8 hgd takesNo (wA_of (pa_cons pE (pa_cons pE pa_nil)) (wE_var 7 rfl rfl (wE_var 8 rfl rfl ⟨sb, fb, mp.gl, FF, S22, rfl, Ab.sh, Ab.ow, gF, Kb22.now.mono (by omega), fun H24 e24 => ⟨true, rfl, ?_⟩⟩))))))
              show (if (!true) = true then _ else _)
              rw [if_neg (by decide)]
              replace Aa := (Aa.ex e24).self
              replace Ab := (Ab.ex e24).self
              refine wB_nil (wB_one (wS_if (wW.t (wW_or (wT_cmpD (op_neH Bool (hu64 hr)) (wE_eqS M (hr8.mono (by decide)) (wE_var 7 rfl rfl ⟨rfl, wE_var 4 rfl rfl ⟨Ab.sh, .inl ⟨sa, FF, S11, rfl, Aa.sh, fun H25 e25 => ?_⟩⟩⟩)))))))
              replace Aa := (Aa.ex e25).self
              replace Ab := (Ab.ex e25).self
              refine TX.go (x := decide (S22.now.1 = S11.now.1)) (tx_eq (hu64 hr) (tx_fst (tx_ownN hu 8 Ab.ow)) (tx_fst (tx_ownN hu 3 Aa.ow))) fun v26 H26 e26 d26 => ⟨_, _, hd_bl, d26, _, rfl, ?_⟩
              rw [decide_eq_false (by simp), if_neg (by decide)]
              replace Aa := (Aa.ex e26).self
              replace Ab := (Ab.ex e26).self
              refine wW_or (wT_eqS M (hr8.mono (by decide)) (F := FF) (S := S11) (wE_var 4 rfl rfl ⟨rfl, (tx_fst (tx_ownN hu 3 Aa.ow)).go fun v27 H27 e27 d27 => ⟨Aa.sh.ofEx e27, .inr ⟨.inl ⟨_, d27⟩, fun H28 e28 => ?_⟩⟩⟩))
              rw [if_neg (by decide)]
              replace Aa := (Aa.ex (e27.trans e28)).self
              replace Ab := (Ab.ex (e27.trans e28)).self
              refine wW_or1 (wT_eqS M (hr8.mono (by decide)) (F := FF) (S := S11) (wE_var 4 rfl rfl ⟨rfl, wE_int ⟨Aa.sh, .inr ⟨.inr ⟨5, rfl⟩, fun H29 e29 => ?_⟩⟩⟩))
              rw [if_neg (by decide)]
              exact wB_nil ⟨_, S22, rfl, ((Aa.ex e29).self.less (by omega)), (Ab.ex e29).self, Kb22⟩
            · rintro σ2 H20 ⟨ag, S', rfl, Aa, Ab, Kb⟩
              exact ⟨ag, S', rfl, Aa.less (by omega), Ab.less (by omega), Kb⟩
          rintro σ2 H20 ⟨ag3, S20, rfl, Aa, Ab, Kb⟩
          refine wB_cons (wS_if (wW.t (wW_or (wT_not (wT_v (wE_ownG (W := noW) GL hr8 hgd takesNo (wA_of (pa_cons pE (pa_cons pE pa_nil)) (wE_var 7 rfl rfl (wE_var 8 rfl rfl ⟨mp, sb, fb, FF, S20, 15, _, rfl, Ab, Kb, by decide, fun H21 Ab21 => ⟨true, rfl, ?_⟩⟩)))))))))
          show (if (!true) = true then _ else _)
          rw [if_neg (by decide)]
          replace Aa := Aa.other Ab.pl Ab21 nsb nfb
          refine wW_or1 (wT_not (wT_v (wE_ownG (W := noW) GL hr8 hgd takesNo (wA_of (pa_cons pE (pa_cons pE pa_nil)) (wE_var 4 rfl rfl (wE_var 3 rfl rfl ⟨mp, sa, ao, FF, S11, 11, _, rfl, Aa, K11, by decide, fun H22 Aa22 => ⟨true, rfl, ?_⟩⟩))))))
          show (if (!true) = true then _ else _)
          rw [if_neg (by decide)]
          -- sheets of unlike fields
          refine wB_nil (wB_one (wS_if (wT_eqS2 M (hr8.mono (by decide)) (wE_sheet M.make (hr8.mono (by decide)) (tx_ownF hu 3 Aa22.ow) (good_ok gF) fun s1 H23 e23 hs1 Ss1 => ⟨s1, FF, st0, rfl, wE_sheet M.make (hr8.mono (by decide)) (tx_pair (x := Tup.mk (FF.1.items ++ [PySem.Str.ofString "z"])) (y := FF.2) (t2_mk (tx_catT ?_ (tx_fst (tx_ownF hu 3 (Aa22.ex e23).ow)) (tx_tup (tl_cons tx_str tl_nil) (by show 1 ≤ 100000; decide))) (tx_snd (tx_ownF hu 3 (Aa22.ex e23).ow)))) (good_okz gF) fun s2 H24 e24 hs2 Ss2 => ⟨Ss1.ofEx e24, s2, _, st0, rfl, Ss2, fun H25 e25 => ?_⟩⟩))))
          · have := (good_len gF).1
            show FF.1.items.length + 1 ≤ 100000
            omega
          have unlike : decide (FF = (Tup.mk (FF.1.items ++ [PySem.Str.ofString "z"]), FF.2)) = false := decide_eq_false fun z => by
            have z1 : FF.1.items = FF.1.items ++ [PySem.Str.ofString "z"] := congrArg (fun q : Fld => q.1.items) z
            have := congrArg List.length z1
            rw [List.length_append] at this
            simp only [List.length_cons, List.length_nil] at this
            omega
          rw [unlike, Bool.false_and, if_neg (by decide)]
          have Af := ((Aa22.ex e23).ex e24).ex e25
          exact wB_nil ⟨_, _, _, _, _, _, _, rfl, Af.ms.less (by omega), Af.tt⟩
      · rintro σ2 H3 ⟨t, o, sh, ag, ma, tw, fa, rfl, M3, T3⟩
        exact ⟨t, o, sh, ag, ma, tw, fa, rfl, M3.less (by split <;> omega), T3⟩
    · rintro σ2 H2 ⟨t, o, sh, ag, ma, tw, fa, rfl, M2, T2⟩
      -- calls, sheet = [], Sheet((("a",), ()))
      refine wB_cons (wS_two 9 4 rfl scLaw.nd (wE_tup2 (wE_lst0 fun lc hlc => wE_sheet M.make (hr8.mono (by decide)) (tx_pair (x := (Tup.mk [PySem.Str.ofString "a"] : Tup Str)) (y := (Tup.mk [] : Tup (Str × Str))) (t2_mk (tx_tup (tl_cons tx_str tl_nil) (by show 1 ≤ 100000; decide)) (tx_tup tl_nil (by decide)))) (good_ok good_FA) fun sa H3 e3 hsa S3 q0 hq0 => ⟨q0, .ref lc, .ref sa, rfl, SqT.of upd_same, ?_⟩)))
      have e4 := Ex.new (o := HO.tup [.ref lc, .ref sa]) hq0
      have S4 := S3.ofEx e4
      have hlc4 := (e3.trans e4) _ _ (show (upd H2 lc (.lst [])) lc = some (.lst []) from upd_same)
      have nls : lc ≠ sa := fun z => by rw [← z, upd_same] at hsa; cases hsa
      have T4 := (T2.ex (Ex.new (o := HO.lst []) hlc)).ex (e3.trans e4)
      clear S3 M2 T2 hsa hlc e3
      generalize upd H3 q0 (.tup [.ref lc, .ref sa]) = H4 at *
      clear e4 hq0
      -- the deed is called once
      refine wB_cons (wS_if (wW.t (wW_or (wT_isNot ?_))))
      refine wE_callLam2 (W := noW) (P := Pt) (tb := tb) (n := 0) (GU 4 (by decide)) (hr8.mono (by decide)) hgd takesNo (fun cl h => own_def (fun _ => rfl) h) hTB hcd0 rfl (show freeB (defScope (top 58)) _ = true by decide +kernel) fun Cl => ?_
      obtain ⟨dx, fs, y1, y2⟩ := sheet_no S4 (m := "trial") fun _ _ _ _ => rfl
      refine wE_meth0 M.trial M.T.cl (hr8.mono (by decide)) (wE_var 4 rfl rfl ⟨sa, dx, fs, rfl, y1, y2, sa, FA, st0, rfl, S4, fun ta G2 eG2 hta TR => ?_⟩)
      have nts : ta ≠ sa := fun z => by rw [z, y1] at hta; cases hta
      have ntl : ta ≠ lc := fun z => by rw [z, hlc4] at hta; cases hta
      refine ⟨T4.ex eG2, hP, fun f2 c2 P2 G3 nf2 hc2 kp3 hla2 T3 _ G4 aC2 ok4 ca2 => ?_⟩
      have cvC := caught_cv (i := 9) (y := "calls") Cl ca2 (by decide +kernel) (hk := show (defScope (top 58)).names.lookup _ ≠ some .local by decide +kernel)
      have TG4 := (TR.kp kp3 NoTup.nil (fun z => nomatch z)).ofEx aC2.ex
      have SG4 := ((S4.ofEx eG2).kp kp3 NoTup.nil (fun z => nomatch z)).ofEx aC2.ex
      have LG4 : G4 lc = some (.lst []) := aC2.ex _ _ (kp3 lc _ (fun z => nomatch z) (fun ps z => by cases z) (eG2 _ _ hlc4))
      have TT4 := T3.ex aC2.ex
      obtain ⟨dxt, fst, ht4⟩ := TG4.ins
      have nS := noStd_ins ht4
      refine ⟨ta, sa, f2, FA, st0, st0, rfl, TG4, SG4, Ne.symm nts, fun G5 b5 TG5 SG5 => ?_⟩
      have kb5 := Kp.of_but b5
      have hla5 := (hla2.ex aC2.ex).kp kb5 nS
      have hc5 := (hc2.ex aC2.ex).kp (fun o ho => std_kp kb5 nS ho)
      have ok5 := ok4.kp kb5 nS
      have LG5 := b5 lc _ (fun z => ntl (List.mem_singleton.mp z).symm) LG4
      have TT5 := TT4.ins b5 ht4
      refine ⟨hla5.fn, 4, spApp K C sa lc FA st0 (PySem.Str.ofString "a", 1), fun G => LamAt G f2 _ _ _ _ _ c2 ∧ CodeAt G c2 P2 _ ∧ CellsOk G _ ∧ Cv G _ "calls" (.ref lc),
        cl_of (k := 3) (N := ["held", "calls"]) (ps := ["held"]) (lamSc_by (by decide +kernel)) Cl (fun pm ctv us hu => ?_) (fun G h => ⟨h.1, h.2.1, h.2.2.1⟩) ?_, by decide, ⟨hla5, hc5, ok5, cvC.kp kb5 nS⟩, fun Q' E' kq ke => ?_⟩
      · match us, hu with
        | [u], _ => rfl
      · rintro A2' outer2 s2 Gi vs Qi Ei hri hgi e0i ⟨z1, z2, oi, x1⟩ hn ⟨rfl, hSi, hLi, ki⟩
        refine ⟨[some (.ref sa), some (.ref lc)], ⟨rfl, fun i y v hy hv => ?_⟩, ?_⟩
        · match i, hy, hv with
          | 0, hy, hv => cases hy; cases hv; exact .inl ⟨rfl, rfl⟩
          | 1, hy, hv => cases hy; cases hv; exact .inr ⟨by decide +kernel, x1⟩
        · have S1 := hSi.hide oi.std
          have L1 := hideC_of oi.std hLi (fun o z => by cases z)
          obtain ⟨dx1, fs1, y3, y4⟩ := sheet_no S1 (m := "do") fun _ _ _ _ => rfl
          refine wE_appendC 1 L1 (wE_methX (W := noW) M.doM M.T.cl hri takesNo (wE_var 0 rfl rfl ⟨sa, dx1, fs1, rfl, y3, y4, wA_of (pa_cons pE pa_nil) (TX.go (x := ((PySem.Str.ofString "a", (1 : Int)) : Step)) (tx_pair (t2_mk tx_str tx_int)) fun v1 H5 e5 d5 => ⟨sa, FA, st0, v1, rfl, S1.ofEx e5, by decide, by decide, .inr ⟨_, d5, by decide +kernel, fun H6 b6 S6 => ?_⟩⟩)⟩))
          have L6 := b6 lc _ (fun z => nls (List.mem_singleton.mp z)) (e5 _ _ L1)
          refine ⟨[], L6, by rw [sizeLine_eq]; show 0 < 16777216; decide, fun nC => ?_⟩
          have b7 : But [sa, lc] (hideC Gi _) (upd H6 lc (.lst ([] ++ [V.int (0 : Int)]))) := ((But.of_ex e5).trans (b6.mono fun b hb => by rw [List.mem_singleton.mp hb]; simp)).upd (by simp)
          have S7 : SheetAt K (upd H6 lc (.lst ([] ++ [V.int (0 : Int)]))) C sa FA (doS st0 (PySem.Str.ofString "a", 1)) := S6.kp (Kp.of_but (But.refl.upd (S := [lc]) (by simp))) (NoTup.cons (notup_lst L6) NoTup.nil) fun z => nls (List.mem_singleton.mp z).symm
          exact ki _ (but_show b7) (S7.ofEx (ex_show nC)) (ex_show nC lc _ upd_same)
      · obtain ⟨dxs, fss, hs5⟩ := SG5.ins
        have nt5 : NoTup [sa, lc] G5 := NoTup.cons (notup_ins hs5) (NoTup.cons (notup_lst LG5) NoTup.nil)
        refine ⟨rfl, SG5, LG5, fun H' bH sH lH => kq .non H' _ (TG5.kp (Kp.of_but bH) nt5 (fun z => by
          simp only [List.mem_cons, List.mem_nil_iff, or_false] at z
          rcases z with z | z
          · exact nts z
          · exact ntl z)) sH fun H6 b6 S6 std6 => ?_⟩
        have nSd : ∀ b ∈ [sa, lc], (∀ ps, G5 b ≠ some (.tbl ps)) ∧ ∀ o, G5 b ≠ some (Std o) := fun b hb => by
          simp only [List.mem_cons, List.mem_nil_iff, or_false] at hb
          rcases hb with rfl | rfl
          · exact ⟨fun ps z => (by rw [hs5] at z; cases z), fun o z => by rw [hs5] at z; cases z⟩
          · exact ⟨fun ps z => (by rw [LG5] at z; cases z), fun o z => by rw [LG5] at z; cases z⟩
        have b56 : But [sa, lc] G5 H6 := bH.trans (b6.mono fun b hb => by rw [List.mem_singleton.mp hb]; simp)
        have ok6 := ok5.kp (Kp.of_but b56) (fun b hb o => (nSd b hb).2 o)
        have TT6 := (TT5.but b56 nSd).hide ok6
        have L6 := b6 lc _ (fun z => nls (List.mem_singleton.mp z)) lH
        have dL6 : Hd K (hideC H6 _) (.ref lc) [(0 : Int)] := (hd_list (xs := [(0 : Int)]) (SqL.of L6) (ha_cons hd_int ha_nil)).hide std6
        have SH6 := S6.hide std6
        generalize hideC H6 _ = H7 at *
        rw [decide_eq_true rfl]
        show (if (!true) = true then _ else _)
        rw [if_neg (by decide)]
        refine wW_or1 (TB.go (TB.conv (tb_ne (hu64 hr) (α := List Int) (tx_var 9 dL6) (tx_lst (tl_cons tx_int tl_nil) (by show 1 ≤ 100000; decide))) (t' := false) (by decide)) fun H8 e8 => ?_)
        rw [if_neg (by decide)]
        refine wB_nil ?_
        have S8 := SH6.ofEx e8
        have T8 := TT6.ex e8
        clear SH6 TT6 dL6 L6 ok6 b56 nSd sH lH bH S6 b6 TG5 SG5 b5 kb5 hla5 hc5 ok5 LG5 TT5 nS ht4 TT4 LG4 SG4 TG4 hla2 hc2 kp3 ok4 ca2 T3 cvC S4 hlc4 T4 y1 y2 TR hta ntl nts nt5 hs5
        -- told_so = under(sheet.trial(), ..)
        refine wB_cons (wS_set (i := 10) scLaw.nd rfl ?_)
        refine wE_callLam2 (W := noW) (P := Pt) (tb := tb) (n := 0) (GU 4 (by decide)) (hr8.mono (by decide)) hgd takesNo (fun cl h => own_def (fun _ => rfl) h) hTB hcd0 rfl (show freeB (defScope (top 58)) _ = true by decide +kernel) fun Cl2 => ?_
        obtain ⟨dx, fs, y1, y2⟩ := sheet_no S8 (m := "trial") fun _ _ _ _ => rfl
        refine wE_meth0 M.trial M.T.cl (hr8.mono (by decide)) (wE_var 4 rfl rfl ⟨sa, dx, fs, rfl, y1, y2, sa, FA, st0, rfl, S8, fun tz G12 eG2 hta TR => ?_⟩)
        have nts : tz ≠ sa := fun z => by rw [z, y1] at hta; cases hta
        refine ⟨T8.ex eG2, hP, fun f3 c3 P3 G13 nf3 hc3 kp3 hla3 T13 _ G14 aC3 ok14 ca3 => ?_⟩
        have cvS := caught_cv (i := 4) (y := "sheet") Cl2 ca3 (by decide +kernel) (hk := show (defScope (top 58)).names.lookup _ ≠ some .local by decide +kernel)
        have TG4 := (TR.kp kp3 NoTup.nil (fun z => nomatch z)).ofEx aC3.ex
        have SG4 := ((S8.ofEx eG2).kp kp3 NoTup.nil (fun z => nomatch z)).ofEx aC3.ex
        obtain ⟨dxt, fst, ht4⟩ := TG4.ins
        have nS := noStd_ins ht4
        refine ⟨tz, sa, f3, FA, st0, st0, rfl, TG4, SG4, Ne.symm nts, fun G15 b15 TG5 SG5 => ?_⟩
        have kb5 := Kp.of_but b15
        have hla5 := (hla3.ex aC3.ex).kp kb5 nS
        have hc5 := (hc3.ex aC3.ex).kp (fun o ho => std_kp kb5 nS ho)
        have ok5 := ok14.kp kb5 nS
        refine ⟨hla5.fn, 4, spFour K C sa FA st0, fun G => LamAt G f3 _ _ _ _ _ c3 ∧ CodeAt G c3 P3 _ ∧ CellsOk G _ ∧ Cv G _ "sheet" (.ref sa),
          cl_of (k := 3) (N := ["held", "sheet"]) (ps := ["held"]) (lamSc_by (by decide +kernel)) Cl2 (fun pm ctv us hu => ?_) (fun G h => ⟨h.1, h.2.1, h.2.2.1⟩) ?_, by decide, ⟨hla5, hc5, ok5, cvS.kp kb5 nS⟩, fun Q' E' kq ke => ?_⟩
        · match us, hu with
          | [u], _ => rfl
        · rintro A2' outer2 s2 Gi vs Qi Ei hri hgi e0i ⟨z1, z2, oi, x1⟩ hn ⟨rfl, hSi, ki⟩
          refine ⟨[some (.ref sa), some (.ref sa)], ⟨rfl, fun i y v hy hv => ?_⟩, ?_⟩
          · match i, hy, hv with
            | 0, hy, hv => cases hy; cases hv; exact .inl ⟨rfl, rfl⟩
            | 1, hy, hv => cases hy; cases hv; exact .inr ⟨by decide +kernel, x1⟩
          · have S1 := hSi.hide oi.std
            obtain ⟨dx1, fs1, y3, y4⟩ := sheet_no S1 (m := "do") fun _ _ _ _ => rfl
            refine wE_of (pe_lst (pa_cons pE (pa_cons pE (pa_cons pE (pa_cons pE pa_nil))))) (wE_methX (W := noW) M.doM M.T.cl hri takesNo (wE_var 0 rfl rfl ⟨sa, dx1, fs1, rfl, y3, y4, wA_of (pa_cons pE pa_nil) (TX.go (x := ((PySem.Str.ofString "a", (2 : Int)) : Step)) (tx_pair (t2_mk tx_str tx_int)) fun v1 H5 e5 d5 => ⟨sa, FA, st0, v1, rfl, S1.ofEx e5, by decide, by decide, .inr ⟨_, d5, by decide +kernel, fun H6 b6 S6 => ?_⟩⟩)⟩))
            obtain ⟨dx6, fs6, y5, y6⟩ := sheet_no S6 (m := "undo") fun _ _ _ _ => rfl
            refine wE_meth0 M.undo M.T.cl (hri.mono (by decide)) (wE_var 0 rfl rfl ⟨sa, dx6, fs6, rfl, y5, y6, sa, FA, _, rfl, S6, by decide, by decide, (fun z => by cases z), fun _ H7 b7 S7 => ?_⟩)
            obtain ⟨dx7, fs7, y7, y8⟩ := sheet_no S7 (m := "redo") fun _ _ _ _ => rfl
            refine wE_meth0 M.redo M.T.cl (hri.mono (by decide)) (wE_var 0 rfl rfl ⟨sa, dx7, fs7, rfl, y7, y8, sa, FA, _, rfl, S7, by decide, by decide, (fun z => by cases z), fun _ H8' b8 S8' => ?_⟩)
            refine (tx_lenS' M B.len (hri.mono (by decide)) 1 S8' (by decide)).go fun v9 H9 e9 d9 => ⟨by rw [sizeLine_eq]; show 4 ≤ 16777216; decide, fun l hl nC => ?_⟩
            have e10 := Ex.new (o := HO.lst [.int 0, .bl true, .bl true, v9]) hl
            obtain rfl : v9 = .int 1 := d9.int
            exact ki _ _ l (but_show ((((But.of_ex e5).trans b6).trans b7).trans (b8.trans (But.of_ex (e9.trans e10))))) ((S8'.ofEx (e9.trans e10)).ofEx (ex_show nC)) (ex_show nC l _ upd_same)
        · refine ⟨rfl, SG5, fun H' S' l bH sH lH => kq (.ref l) H' _ (TG5.kp (Kp.of_but bH) (SheetAt.no SG5) (fun z => nts (List.mem_singleton.mp z))) sH fun H16 b16 S16 std16 => ?_⟩
          obtain ⟨dxs, fss, hsH⟩ := sH.ins
          have L16 := b16 l _ (fun z => by rw [List.mem_singleton.mp z, hsH] at lH; cases lH) lH
          have dL : Dp K (hideC H16 _) (.ref l) (.list [.int 0, .bool true, .bool true, .int 1]) := .lst (SqL.of (hideC_of std16 L16 (fun o z => by cases z))) (.cons (.int 0) (.cons (.bl true) (.cons (.bl true) (.cons (.int 1) .nil))))
          have SE := S16.hide std16
          generalize hideC H16 _ = H17 at *
          refine wB_one (wS_ret (wE_and (wE_cmpD (op_eqD 2 (show (A.deeper _).units + 2 < cLine by have := hu64 hr; omega)) (wE_var 10 rfl rfl ?_))))
          refine txd_lst (tds_cons (TX.dat (tx_int (i := 0))) (tds_cons (TX.dat (tx_bl (i := true))) (tds_cons (TX.dat (tx_bl (i := true))) (tds_cons (TX.dat (tx_int (i := 1))) tds_nil)))) (by show 4 ≤ 100000; decide) H17 (Ex.refl _) _ fun vd H18 e18 dd => ?_
          refine ⟨_, _, Dp.ex dL e18, dd, by with_unfolding_all rfl, by with_unfolding_all rfl, by with_unfolding_all decide, true, by with_unfolding_all rfl, ?_⟩
          rw [if_pos rfl]
          refine wE_one (TX.go (x := true) (TX.conv (tx_eq (hu64 hr) (tx_lenS' M B.len hr2 4 (SE.ofEx e18) (by decide)) tx_int) (by decide)) fun v19 H19 e19 d19 => ?_)
          rw [d19.bl]
          exact kt H19
end
end K95
/-! E1: the end of a law whose promise leans on it that nothing is being shown: from the head's heap to the call. -/
namespace K95
open PySem PySem.Spec PySem.Calls PySem.W PyProof.Rows L2 Evl
abbrev tObj : Obj := { cls := .none, data := .fields #[] }
abbrev lObj (us : List Value) : Obj := { cls := .type "list", data := .seq us.toArray }
/-- what the start's ground tracks: the empty tables at ts, and perhaps the script at a -/
structure Gnd (P : Program) (w : World) (K : Frag) (h : Heap) (a : Addr) (ts : List Addr) (zs : List Int) (H : Hp) : Prop where
  tb : ∀ t ∈ ts, H t = some (.tbl #[])
  all : ∀ b u, H b = some u → (u = .tbl #[] ∧ b ∈ ts) ∨ (b = a ∧ K.lookup a = none ∧ ∃ o xs, u = .frz o (.lst xs))
  sq : SqL K H a (zs.map V.int)
  ok : HOk P w H h
section
variable {P : Program} {w : World} {K : Frag} {mg mb : Str → Option Value} {k : Nat} {g a : Addr} {cs : List (Addr × Addr)} {fd : FuncData} {y : Str} {sp : Sp} {z : Shared} {us : List Value} {zs : List Int} {H : Hp} {ts : List Addr}
theorem Gnd.no {b : Addr} {o : Obj} (G : Gnd P w K z.heap a ts zs H) (la : z.heap.get? a = some (lObj us)) (lt : ∀ t ∈ ts, z.heap.get? t = some tObj) (e : z.heap.get? b = some o) (n1 : ∀ us n, o.data ≠ .seq us n) (n2 : o.data ≠ .fields #[]) : H b = none := by
  cases q : H b with
  | none => rfl
  | some u =>
    rcases G.all b u q with ⟨_, m⟩ | ⟨rfl, _⟩
    · rw [lt b m] at e
      cases e
      exact absurd rfl n2
    · rw [la] at e
      cases e
      exact absurd rfl (n1 _ _)
theorem Gnd.at {b : Addr} {o : Obj} (G : Gnd P w K z.heap a ts zs H) (la : z.heap.get? a = some (lObj us)) (lt : ∀ t ∈ ts, z.heap.get? t = some tObj) (e : z.heap.get? b = some o) (n1 : ∀ us n, o.data ≠ .seq us n) (n2 : o.data ≠ .fields #[]) : (hidT z.heap H).get? b = some o := hidT_get e (G.no la lt e n1 n2)
theorem Gnd.ns {b : Addr} {m : Str → Option Value} (G : Gnd P w K z.heap a ts zs H) (la : z.heap.get? a = some (lObj us)) (lt : ∀ t ∈ ts, z.heap.get? t = some tObj) (q : z.heap.Ns b m) : (hidT z.heap H).Ns b m := by
  obtain ⟨o, es, ep, e, d, rest⟩ := q
  exact ⟨o, es, ep, G.at la lt e (fun us n x => by rw [d] at x; cases x) (fun x => by rw [d] at x; cases x), d, rest⟩
theorem Gnd.kin (G : Gnd P w K z.heap a ts zs H) (X : K.In z.heap) (nT : ∀ t ∈ ts, K.lookup t = none) : K.In (hidT z.heap H) := fun b o e => by
  refine hidT_get (X b o e) ?_
  cases q : H b with
  | none => rfl
  | some u =>
    rcases G.all b u q with ⟨_, m⟩ | ⟨rfl, n, _⟩
    · rw [nT b m] at e; cases e
    · rw [n] at e; cases e
/-- a code object of the head, in the ground -/
theorem Gnd.code {c t : Addr} (G : Gnd P w K z.heap a ts zs H) (la : z.heap.get? a = some (lObj us)) (lt : ∀ t ∈ ts, z.heap.get? t = some tObj) (q : CodeHd z.heap c t) : CodeHd (hidT z.heap H) c t := by
  obtain ⟨o, vs, file, tf, fl, tg, inF, tx, tt, e, c1, d, s1, rest⟩ := q
  exact ⟨o, vs, file, tf, fl, tg, inF, tx, tt, G.at la lt e (fun us n x => by rw [d] at x; cases x) (fun x => by rw [d] at x; cases x; simp at s1), c1, d, s1, rest⟩
theorem Gnd.bm {t : Addr} (G : Gnd P w K z.heap a ts zs H) (la : z.heap.get? a = some (lObj us)) (lt : ∀ t ∈ ts, z.heap.get? t = some tObj) (hns : z.heap.Ns mainGlobals mg) (ht : z.heap.get? t = some tObj)
    (q : ∃ (bm : Addr) (ob : Obj), mg "__builtins__" = some (.ref bm) ∧ bm ≠ builtinsNs ∧ z.heap.get? bm = some ob ∧ ob.cls = .type "module" ∧ ob.dict = some builtinsNs ∧ ob.data = .plain) : (hidT z.heap H).BuiltinsAt mg t := by
  obtain ⟨bm, ob, q1, q2, q3, q4, q5, q6⟩ := q
  refine ⟨bm, ob, q1, q2, fun x => ?_, fun x => ?_, G.at la lt q3 (fun us n x => by rw [q6] at x; cases x) (fun x => by rw [q6] at x; cases x), q4, q5, q6⟩
  · obtain ⟨o, es, ep, e, d, _⟩ := hns
    rw [x, e] at q3
    cases q3
    rw [d] at q6; cases q6
  · rw [x, ht] at q3
    cases q3
    cases q6
/-- the call from such a ground -/
theorem end_core (G : Gnd P w K z.heap a (cs.map (·.2)) zs H) (X : K.In z.heap) (hns : z.heap.Ns mainGlobals mg) (hb : z.heap.Ns builtinsNs mb) (hbb : ∀ x : Str, x ≠ "__name__" → mb x = bootBuiltins x) (hlim : z.heap.NoLimit) (hg : z.gens = #[])
    (hT : ∀ p ∈ cs, z.heap.get? p.2 = some tObj) (nT : ∀ p ∈ cs, K.lookup p.2 = none) (C : ∀ p ∈ cs, CodeHd z.heap p.1 p.2)
    (hbm : ∃ (bm : Addr) (ob : Obj), mg "__builtins__" = some (.ref bm) ∧ bm ≠ builtinsNs ∧ z.heap.get? bm = some ob ∧ ob.cls = .type "module" ∧ ob.dict = some builtinsNs ∧ ob.data = .plain)
    (la : z.heap.get? a = some (lObj us)) (hr : Room k callerA) (F : ∀ base : Heap, K.In base → base.Ns mainGlobals mg → (∀ p ∈ cs, LamX.TabB base mg p.1 p.2) → FnG P w K mg base k g fd [y] sp)
    (hbind : L2.Binds K fd [y] []) (hsp : sp [.ref a] H (fun v _ => v = .bl true) fun _ _ _ => False) :
    codeAny (model P w) callerA (.call (.ref g) ⟨[.ref a], []⟩) (fun r s' => r = .ok (.ret (.bool true)) ∧ OldK z.heap s'.heap ∧ s'.os = z.os ∧ AllBare s'.gens) z := by
  have lt : ∀ t ∈ cs.map (·.2), z.heap.get? t = some tObj := fun t ht => by
    obtain ⟨p, hp, rfl⟩ := List.mem_map.mp ht
    exact hT p hp
  have nt : ∀ t ∈ cs.map (·.2), K.lookup t = none := fun t ht => by
    obtain ⟨p, hp, rfl⟩ := List.mem_map.mp ht
    exact nT p hp
  have kin := G.kin X nt
  have mod : L2.Mod K mg (hidT z.heap H) := ⟨kin, G.ns la lt hns, ⟨mb, G.ns la lt hb, hbb⟩, by obtain ⟨mc, l1, l2⟩ := hlim; exact ⟨mc, G.ns la lt l1, l2⟩⟩
  have tab : ∀ p ∈ cs, LamX.TabB (hidT z.heap H) mg p.1 p.2 := fun p hp => ⟨G.code la lt (C p hp), G.bm la lt hns (hT p hp) hbm, fun x => by
    obtain ⟨o, es, ep, e, d, _⟩ := hns
    rw [x, hT p hp] at e
    cases e
    cases d⟩
  have e0 : Env0 P w K mg (hidT z.heap H) callerA [] z H := ⟨rfl, mod, fun b o e => of_hidT e, Nat.le_of_eq (hidT_size _ _), trivial, (fun b x => nomatch x), G.ok, .of_eq hg⟩
  have run := (F _ kin (G.ns la lt hns) tab).run callerA [] z H ⟨[.ref a], []⟩ [.ref a] [.ref a] _ _ hr rfl e0 (hbind z [.ref a] X rfl) (.cons rfl .nil) hsp
  refine codeAny_mono run fun r s' q => ?_
  match r, q with
  | .error e, q =>
    obtain ⟨_, _, _, _, _, _, _, _, _, _, _, _, no⟩ := q
    exact no.elim
  | .ok .next, q => exact q.elim
  | .ok .brk, q => exact q.elim
  | .ok .cont, q => exact q.elim
  | .ok (.ret u), q =>
    obtain ⟨v, H', os, bare, un, ok', rv, ev⟩ := q
    have ev : v = .bl true := ev
    subst ev
    obtain rfl : u = Value.bool true := rv
    have old : ∀ b o, b ∉ cs.map (·.2) → z.heap.get? b = some o → s'.heap.get? b = some o := fun b o nb e => by
      cases q : H b with
      | none => exact un.keep b o e q (fun x => nomatch x) (fun x => nomatch x)
      | some t =>
        rcases G.all b t q with ⟨_, m⟩ | ⟨_, _, ob, xs, rfl⟩
        · exact absurd m nb
        · have k1 := (G.ok b _ q).1
          rw [e] at k1
          cases k1
          exact (ok' b _ (un.frzs b _ _ q)).1
    have new : ∀ p ∈ cs, ∃ more : Array Value, s'.heap.get? p.2 = some { cls := .none, data := .fields more } := fun p hp => by
      obtain ⟨more, q⟩ := un.tbls p.2 #[] (G.tb p.2 (List.mem_map.mpr ⟨p, hp, rfl⟩))
      exact ⟨_, ok' p.2 _ q⟩
    refine ⟨rfl, ⟨fun b o e => ?_, fun b o e => ?_⟩, os, bare⟩ <;> by_cases m : b ∈ cs.map (·.2)
    · obtain ⟨p, hp, rfl⟩ := List.mem_map.mp m
      obtain ⟨more, q⟩ := new p hp
      rw [hT p hp] at e
      cases e
      exact .inr (.inl ⟨((C p hp).tab (hT p hp)).isCodeTable, rfl, #[], more, rfl, by rw [Array.empty_append]; exact q⟩)
    · exact .inl (old b o m e)
    · obtain ⟨p, hp, rfl⟩ := List.mem_map.mp m
      obtain ⟨more, q⟩ := new p hp
      exact ⟨_, q⟩
    · exact ⟨o, old b o m e⟩
/-- a ground there is -/
theorem gnd_mk (X : K.In z.heap) (hT : ∀ t ∈ ts, z.heap.get? t = some tObj) (la : z.heap.get? a = some (lObj us)) (hi : IntsAre us zs) (hl : zs.length ≤ sizeLine) : ∃ H, Gnd P w K z.heap a ts zs H := by
  have rv := vals_ints hi
  have an : a ∉ ts := fun m => by
    have e := hT a m
    rw [la] at e
    have e := congrArg Obj.data (Option.some.inj e)
    cases e
  cases q : K.lookup a with
  | some o =>
    have e := X a o q
    rw [la] at e
    cases e
    refine ⟨fun b => if b ∈ ts then some (.tbl #[]) else none, fun t m => if_pos m, fun b u h => ?_, .inr ⟨_, us.toArray, _, q, rfl, rfl, rfl, ?_, ?_⟩, fun b u h => ?_⟩
    · by_cases m : b ∈ ts
      · rw [if_pos m] at h; cases h; exact .inl ⟨rfl, m⟩
      · rw [if_neg m] at h; cases h
    · rw [List.size_toArray, hi.length]; exact hl
    · simpa using rv
    · by_cases m : b ∈ ts
      · rw [if_pos m] at h; cases h; exact hT b m
      · rw [if_neg m] at h; cases h
  | none =>
    refine ⟨fun b => if b ∈ ts then some (.tbl #[]) else if b = a then some (.frz (lObj us) (.lst (zs.map V.int))) else none, fun t m => if_pos m, fun b u h => ?_, .inl (.inr ⟨lObj us, by show (if a ∈ ts then _ else _) = _; rw [if_neg an, if_pos rfl]⟩), fun b u h => ?_⟩
    · by_cases m : b ∈ ts
      · rw [if_pos m] at h; cases h; exact .inl ⟨rfl, m⟩
      · rw [if_neg m] at h
        by_cases e : b = a
        · rw [if_pos e] at h; cases h; exact .inr ⟨e, q, _, _, rfl⟩
        · rw [if_neg e] at h; cases h
    · by_cases m : b ∈ ts
      · rw [if_pos m] at h; cases h; exact hT b m
      · rw [if_neg m] at h
        by_cases e : b = a
        · rw [if_pos e] at h
          cases h
          subst e
          exact ⟨la, by rw [List.length_map]; exact hl, us, _, rv, la⟩
        · rw [if_neg e] at h; cases h
end
/-- what is asked of the law's promise at the head's heap -/
def LawG (l : OpenLaw) (w : World) (K : Frag) (k n : Nat) (y : Str) (mg : Str → Option Value) (g : Addr) (h : Heap) : Prop :=
  ∃ (fd : FuncData) (cs : List (Addr × Addr)) (sp : Sp), (∀ p ∈ cs, h.get? p.2 = some tObj ∧ K.lookup p.2 = none ∧ CodeHd h p.1 p.2) ∧ L2.Binds K fd [y] [] ∧
    (∀ (H : Hp) (a : Addr) (zs : List Int), zs.length ≤ n → (∀ p ∈ cs, H p.2 = some (.tbl #[])) → SqL K H a (zs.map V.int) → sp [.ref a] H (fun v _ => v = .bl true) fun _ _ _ => False) ∧
    ∀ base : Heap, K.In base → base.Ns mainGlobals mg → (∀ p ∈ cs, LamX.TabB base mg p.1 p.2) → FnG l.prog w K mg base k g fd [y] sp
theorem walk_ofG {l : OpenLaw} {n k : Nat} {q : Program} {loose : List Str} {XP : (Str → Option Value) → Heap → Prop} {YP : World → Heap → Prop} {d : DefRec} {K : Params → Frag} {y : Str}
    (hn : l.most = some n) (hn2 : n ≤ sizeLine) (hdf : d.params.defaults = []) (hr : Room k callerA) (hY : ∀ (w : World) (h : Heap), YP w h → (K w.params).In h)
    (F : ∀ (w : World) (mg : Str → Option Value) (g : Addr) (h : Heap), YP w h → (K w.params).In h → h.Ns mainGlobals mg → mg d.name = some (.ref g) → LawG l w (K w.params) k n y mg g h) :
    WalkO q loose XP YP l.row.toRowW d [] (fun f vs => PySem.call f vs) := by
  refine Att.attach_callB hn hdf fun w' z0 z1 mg' mb' g ob pm' cd' doc' a us zs Gr Yw hob hdt hcr hmgl hlst hints hlen hbits hgens => ?_
  have X := hY w' _ Yw
  obtain ⟨fd, cs, sp, hall, hbind, hsp, hF⟩ := F w' mg' g _ Yw X Gr.T.g hmgl
  obtain ⟨H, G⟩ := gnd_mk (P := l.prog) (w := w') (ts := cs.map (·.2)) X (fun t ht => by
    obtain ⟨p, hp, rfl⟩ := List.mem_map.mp ht
    exact (hall p hp).1) hlst hints (Nat.le_trans hlen hn2)
  exact end_core G X Gr.T.g Gr.T.b Gr.T.builtins Gr.T.nolimit hgens (fun p hp => (hall p hp).1) (fun p hp => (hall p hp).2.1) (fun p hp => (hall p hp).2.2) Gr.T.bmain hlst hr hF hbind (hsp H a zs hlen (fun p hp => G.tb p.2 (List.mem_map.mpr ⟨p, hp, rfl⟩)) G.sq)
end K95
/-! E2: what the top has written, in one bundle; from it to the law's promise. -/
namespace K95
open PySem PySem.Spec PySem.Calls PySem.W PyProof.Rows L2 Evl
structure MethX (K : Frag) (C : Addr) (m q : Str) (st : Stmt) (ps : List Str) : Prop where
  ex : ∃ f fd, Fun K m q st f fd ∧ Meth K C m f ∧ Binds K fd ps []
structure PropX (K : Frag) (C : Addr) (m q : Str) (st : Stmt) (ps : List Str) : Prop where
  ex : ∃ g p fd, Fun K m q st g fd ∧ PropOf K C m p g ∧ Binds K fd ps []
structure SpecX (K : Frag) (C : Addr) (m q : Str) (st : Stmt) (ps : List Str) : Prop where
  ex : ∃ f fd, Fun K m q st f fd ∧ findIn K (.ref C) m = some (some (.ref f)) ∧ isFn K (.ref f) = true ∧ Binds K fd ps []
structure MakeX (K : Frag) (C : Addr) (q : Str) (st : Stmt) (ps : List Str) : Prop where
  ex : ∃ f fd, Fun K "__init__" q st f fd ∧ Mk K C f ∧ Binds K fd ps []
/-- a def that makes lambdas: its code object's table -/
structure LamD (K : Frag) (mg : Str → Option Value) (n : Str) (c t : Addr) : Prop where
  ex : ∃ oc od osl x q ar bo sc kV doc pm an ct f, mg n = some (.ref f) ∧ K.lookup f = some ⟨oc, od, .func (fnOf x q ar bo sc .none kV doc pm an (.ref c) ct), osl⟩
  hd : codeHdIn K c t = true
  no : K.lookup t = none
section
variable {P : Program} {w : World} {K : Frag} {mg : Str → Option Value} {base : Heap} {k : Nat} {C : Addr} {m q : Str} {st : Stmt} {ps : List Str} {sp : Sp}
theorem ownM_of (X : MethX K C m q st ps) (F : ∀ f fd, Fun K m q st f fd → FnOk P w K mg base CX0 k f fd ps sp) : OwnM P w K mg base k C m ps sp := by
  obtain ⟨f, fd, h1, h2, h3⟩ := X.ex
  exact ⟨f, fd, F f fd h1, h2, h3⟩
theorem ownMX_of (X : MethX K C m q st ps) (F : ∀ f fd, Fun K m q st f fd → FnOk P w K mg base (L2.CX P w) k f fd ps sp) : OwnMX P w K mg base k C m ps sp := by
  obtain ⟨f, fd, h1, h2, h3⟩ := X.ex
  exact ⟨f, fd, F f fd h1, h2, h3⟩
theorem ownP_of (X : PropX K C m q st ps) (F : ∀ f fd, Fun K m q st f fd → FnOk P w K mg base CX0 k f fd ps sp) : OwnP P w K mg base k C m ps sp := by
  obtain ⟨g, p, fd, h1, h2, h3⟩ := X.ex
  exact ⟨g, p, fd, F g fd h1, h2, h3⟩
theorem ownS_of (X : SpecX K C m q st ps) (F : ∀ f fd, Fun K m q st f fd → FnOk P w K mg base CX0 k f fd ps sp) : OwnS P w K mg base k C m ps sp := by
  obtain ⟨f, fd, h1, h2, h3, h4⟩ := X.ex
  exact ⟨f, fd, F f fd h1, h2, h3, h4⟩
theorem ownC_of {n : Str} (X : MakeX K C q st ps) (g : mg n = some (.ref C)) (F : ∀ f fd, Fun K "__init__" q st f fd → FnOk P w K mg base CX0 k f fd ps sp) : OwnC P w K mg base k n C ps sp := by
  obtain ⟨f, fd, h1, h2, h3⟩ := X.ex
  exact ⟨f, fd, F f fd h1, h2, g, h3⟩
theorem mkr_of {n : Str} {c t f : Addr} (L : LamD K mg n c t) (TB : LamX.TabB base mg c t) (hf : mg n = some (.ref f)) : Mkr K base mg f t := by
  obtain ⟨oc, od, osl, x, q, ar, bo, sc, kV, doc, pm, an, ct, f', h1, h2⟩ := L.ex
  rw [hf] at h1
  cases h1
  refine ⟨c, TB, fun oc' od' osl' x' q' ar' bo' sc' kV' doc' pm' an' cdv' ct' h => ?_⟩
  rw [h2] at h
  have h := congrArg (fun o : Option Obj => o.map fun z => z.data) h
  simp only [Option.map_some, Option.some.injEq, Data.func.injEq] at h
  exact (congrArg FuncData.code h).symm
theorem ownG_of2 {n : Str} (D : DefAt K mg n st ps) (F : ∀ f fd, Fun K n n st f fd → mg n = some (.ref f) → FnG P w K mg base k f fd ps sp) : OwnG P w K mg base k n ps sp := by
  obtain ⟨f, fd, h1, h2, h3, h4⟩ := D
  exact ⟨f, fd, F f fd h1 h2, h2, h3, h4⟩
end
structure Tops (P : Program) (K : Frag) (mg : Str → Option Value) (C CT : Addr) (c : Ec) : Prop where
  bn : Bn mg
  cst : Cst mg
  T : ShC K mg C
  R : TrC K mg CT
  gT : mg "Trial" = some (.ref CT)
  ec : EcOk K mg c
  xS : ∃ f, ExTxt P K mg "BadScript" "place" c.bs f
  xN : ∃ f, ExTxt P K mg "BadNumber" "value" c.bn f
  xH : ∃ f, ExTxt P K mg "Held" "value" c.hd f
  d14 : DefAt K mg "is_name" (top 14) ["value"]
  d15 : DefAt K mg "are_rising" (top 15) ["row"]
  d16 : DefAt K mg "are_names" (top 16) ["value"]
  d17 : DefAt K mg "is_pair" (top 17) ["names", "value"]
  d18 : DefAt K mg "need_field" (top 18) ["field"]
  d19 : DefAt K mg "are_apart" (top 19) ["field", "one", "other"]
  d23 : DefAt K mg "is_times" (top 23) ["value"]
  d24 : DefAt K mg "is_step" (top 24) ["names", "value"]
  d25 : DefAt K mg "meeting" (top 25) ["field", "steps", "name"]
  d26 : DefAt K mg "push" (top 26) ["field", "steps", "step"]
  d27 : DefAt K mg "piled" (top 27) ["field", "steps"]
  d28 : DefAt K mg "first_places" (top 28) ["field", "steps"]
  d29 : DefAt K mg "arranged" (top 29) ["field", "steps"]
  d30 : DefAt K mg "least_in" (top 30) ["field", "steps"]
  d32 : DefAt K mg "under" (top 32) ["manager", "deed"]
  d36 : DefAt K mg "_law_mixed" (top 36) ["cell", "n"]
  d37 : DefAt K mg "_law_folded" (top 37) ["script"]
  d38 : DefAt K mg "_law_draw" (top 38) ["m", "limit"]
  d39 : DefAt K mg "_law_begun" (top 39) ["script"]
  d40 : DefAt K mg "_law_like" (top 40) ["answer", "due"]
  d41 : DefAt K mg "_law_field" (top 41) ["m", "most"]
  d42 : DefAt K mg "_law_apart" (top 42) ["field", "one", "other"]
  d43 : DefAt K mg "_law_meet" (top 43) ["field", "steps"]
  d44 : DefAt K mg "_law_pile" (top 44) ["field", "steps"]
  d45 : DefAt K mg "_law_firsts" (top 45) ["field", "steps"]
  d46 : DefAt K mg "_law_least" (top 46) ["field", "steps"]
  d47 : DefAt K mg "_law_said" (top 47) ["call"]
  d48 : DefAt K mg "_law_own" (top 48) ["field"]
  d49 : DefAt K mg "_law_held" (top 49) ["own", "number"]
  d50 : DefAt K mg "_law_kept" (top 50) ["own", "now"]
  d51 : DefAt K mg "_law_without" (top 51) ["own", "numbers"]
  d52 : DefAt K mg "_law_shift" (top 52) ["own", "begin", "goal"]
  d53 : DefAt K mg "_law_stands" (top 53) ["sheet", "own"]
  d54 : DefAt K mg "_law_step" (top 54) ["m", "sheet", "own"]
  d55 : DefAt K mg "_law_within" (top 55) ["m", "sheet", "held", "own", "deep"]
  d56 : DefAt K mg "_law_tried" (top 56) ["m", "sheet", "own", "deep"]
  d57 : DefAt K mg "_law_later_right" (top 57) ["sheet", "own"]
  d58 : DefAt K mg "law" (top 58) ["script"]
  m0 : MakeX K C "Sheet.__init__" (mth 0) ["self", "field"]
  m1 : PropX K C "field" "Sheet.field" (mth 1) ["self"]
  m2 : PropX K C "row" "Sheet.row" (mth 2) ["self"]
  m3 : PropX K C "steps" "Sheet.steps" (mth 3) ["self"]
  m4 : MethX K C "least" "Sheet.least" (mth 4) ["self"]
  m5 : SpecX K C "__len__" "Sheet.__len__" (mth 5) ["self"]
  m7 : SpecX K C "__contains__" "Sheet.__contains__" (mth 7) ["self", "number"]
  m8 : SpecX K C "__eq__" "Sheet.__eq__" (mth 8) ["self", "other"]
  m9 : MethX K C "is_number" "Sheet.is_number" (mth 9) ["self", "value"]
  m10 : MethX K C "need_number" "Sheet.need_number" (mth 10) ["self", "value"]
  m11 : MethX K C "change" "Sheet.change" (mth 11) ["self", "row", "fresh"]
  m12 : MethX K C "do" "Sheet.do" (mth 12) ["self", "step"]
  m13 : MethX K C "holders" "Sheet.holders" (mth 13) ["self", "number"]
  m14 : MethX K C "ahead_of" "Sheet.ahead_of" (mth 14) ["self", "number"]
  m15 : MethX K C "free" "Sheet.free" (mth 15) ["self"]
  m16 : MethX K C "take_back" "Sheet.take_back" (mth 16) ["self", "number"]
  m17 : MethX K C "take_all" "Sheet.take_all" (mth 17) ["self", "number"]
  m18 : MethX K C "undo" "Sheet.undo" (mth 18) ["self"]
  m19 : MethX K C "redo" "Sheet.redo" (mth 19) ["self"]
  m20 : MethX K C "copy" "Sheet.copy" (mth 20) ["self"]
  m21 : MethX K C "trial" "Sheet.trial" (mth 21) ["self"]
  t0 : MakeX K CT "Trial.__init__" (trm 0) ["self", "sheet"]
  t1 : SpecX K CT "__enter__" "Trial.__enter__" (trm 1) ["self"]
  t2 : SpecX K CT "__exit__" "Trial.__exit__" (trm 2) ["self", "kind", "value", "trace"]
  ne : ∃ f, NeC K C f
  nF : notFirst K C (.ref C) = true
  nT : notFirst K C (.type "tuple") = true
  nI : notFirst K C (.type "int") = true
section
variable {P : Program} {w : World} {K : Frag} {mg : Str → Option Value} {base : Heap} {C CT : Addr} {c : Ec}
theorem sheet_all (X : Tops P K mg C CT c) : ShM P w K mg base c C CT := by
  have B := X.bn
  have Z := X.cst
  have T := X.T
  obtain ⟨fS, eS⟩ := X.xS
  obtain ⟨fN, eN⟩ := X.xN
  obtain ⟨fH, eH⟩ := X.xH
  have nName : Own P w K mg base 1 "is_name" ["value"] _ := own_of X.d14 fun f fd F => ok_is_name F B Z
  have nRis : Own P w K mg base 1 "are_rising" ["row"] _ := own_of X.d15 fun f fd F => ok_rising (α := Str) (by decide) F B
  have nRisP : Own P w K mg base 1 "are_rising" ["row"] _ := own_of X.d15 fun f fd F => ok_rising (α := Str × Str) (by decide) F B
  have nNames : Own P w K mg base 2 "are_names" ["value"] _ := own_of X.d16 fun f fd F => ok_are_names F B Z nName nRis
  have nPair : Own P w K mg base 1 "is_pair" ["names", "value"] _ := own_of X.d17 fun f fd F => ok_is_pair F B
  have nNeed : Own P w K mg base 3 "need_field" ["field"] _ := own_of X.d18 fun f fd F => ok_need F B nNames nRisP nPair
  have nApart : Own P w K mg base 1 "are_apart" ["field", "one", "other"] _ := own_of X.d19 fun f fd F => ok_apart F
  have nTimes : Own P w K mg base 1 "is_times" ["value"] _ := own_of X.d23 fun f fd F => ok_times F B Z
  have nStep : Own P w K mg base 2 "is_step" ["names", "value"] _ := own_of X.d24 fun f fd F => ok_step F B nTimes
  have nMeet : Own P w K mg base 2 "meeting" ["field", "steps", "name"] _ := own_of X.d25 fun f fd F => ok_meeting F B nApart
  have nPush : Own P w K mg base 3 "push" ["field", "steps", "step"] _ := own_of X.d26 fun f fd F => ok_push F nMeet
  have nPiled : Own P w K mg base 4 "piled" ["field", "steps"] _ := own_of X.d27 fun f fd F => ok_piled F nPush
  have nFirst : Own P w K mg base 2 "first_places" ["field", "steps"] _ := own_of X.d28 fun f fd F => ok_first F B nApart
  have nArr : Own P w K mg base 3 "arranged" ["field", "steps"] _ := own_of X.d29 fun f fd F => ok_arranged F B nFirst
  have nLeast : Own P w K mg base 5 "least_in" ["field", "steps"] _ := own_of X.d30 fun f fd F => ok_least F nPiled nArr
  have pSteps : OwnP P w K mg base 1 C "steps" ["self"] _ := ownP_of X.m3 fun f fd F => ok_ssteps F T B
  have mIs : OwnM P w K mg base 1 C "is_number" ["self", "value"] _ := ownM_of X.m9 fun f fd F => ok_isnum F T B
  have mNeed : OwnMX P w K mg base 2 C "need_number" ["self", "value"] _ := ownMX_of X.m10 fun f fd F => ok_needn F T mIs eN
  have mChange : OwnM P w K mg base 1 C "change" ["self", "row", "fresh"] _ := ownM_of X.m11 fun f fd F => ok_change F T
  have mHold : OwnM P w K mg base 2 C "holders" ["self", "number"] _ := ownM_of X.m13 fun f fd F => ok_holders F T B nApart
  have mMake : OwnC P w K mg base 4 "Sheet" C ["self", "field"] _ := ownC_of X.m0 T.gC fun f fd F => ok_sinit F T nNeed
  have tMake : OwnC P w K mg base 1 "Trial" CT ["self", "sheet"] _ := ownC_of X.t0 X.gT fun f fd F => ok_tinit F T X.R
  exact { T := T, nF := X.nF, nT := X.nT, nI := X.nI, ne := X.ne, make := mMake
          field := ownP_of X.m1 fun f fd F => ok_sfield F T
          row := ownP_of X.m2 fun f fd F => ok_srow F T
          steps := pSteps
          least := ownM_of X.m4 fun f fd F => ok_sleast F T pSteps nLeast
          free := ownM_of X.m15 fun f fd F => ok_free F T B mHold
          len := ownS_of X.m5 fun f fd F => ok_slen F T B
          cont := ownS_of X.m7 fun f fd F => ok_cont F T mIs
          eq := ownS_of X.m8 fun f fd F => ok_eq F T B
          doM := ownMX_of X.m12 fun f fd F => ok_do F T B Z nStep mChange eS
          ahead := ownMX_of X.m14 fun f fd F => ok_ahead F T B mNeed mHold
          take := ownMX_of X.m16 fun f fd F => ok_take F T B mNeed mHold mChange eH
          all := ownMX_of X.m17 fun f fd F => ok_all F T B mNeed mHold mChange
          undo := ownM_of X.m18 fun f fd F => ok_undo F T
          redo := ownM_of X.m19 fun f fd F => ok_redo F T
          copy := ownM_of X.m20 fun f fd F => ok_copy F T mMake
          trial := ownM_of X.m21 fun f fd F => ok_trial F tMake }
/-- the four tables -/
abbrev tbs (t1 t2 t3 t4 : Addr) : List (Addr × Nat × Str) := [(t1, 0, PySem.Str.ofString "_law_step.<locals>.<lambda>"), (t2, 1, PySem.Str.ofString "_law_tried.<locals>.<lambda>"), (t3, 0, PySem.Str.ofString "_law_later_right.<locals>.<lambda>"), (t4, 0, PySem.Str.ofString "law.<locals>.<lambda>")]
theorem law_all {t1 t2 t3 t4 c1 c2 c3 c4 : Addr} (X : Tops P K mg C CT c) (L1 : LamD K mg "_law_step" c1 t1) (L2 : LamD K mg "_law_tried" c2 t2) (L3 : LamD K mg "_law_later_right" c3 t3) (L4 : LamD K mg "law" c4 t4)
    (B1 : LamX.TabB base mg c1 t1) (B2 : LamX.TabB base mg c2 t2) (B3 : LamX.TabB base mg c3 t3) (B4 : LamX.TabB base mg c4 t4) : ∀ f fd, Fun K "law" "law" (top 58) f fd → mg "law" = some (.ref f) → FnG P w K mg base 40 f fd ["script"] (spLaw K (tbs t1 t2 t3 t4)) := by
  have B := X.bn
  have M : ShM P w K mg base c C CT := sheet_all X
  have nMix : Own P w K mg base 1 "_law_mixed" ["cell", "n"] _ := own_of X.d36 fun f fd F => ok_mixed F B
  have nFold : Own P w K mg base 1 "_law_folded" ["script"] _ := own_of X.d37 fun f fd F => ok_folded F B
  have nDraw : Own P w K mg base 2 "_law_draw" ["m", "limit"] _ := own_of X.d38 fun f fd F => ok_draw F B nMix
  have nBegun : Own P w K mg base 2 "_law_begun" ["script"] _ := own_of X.d39 fun f fd F => ok_begun F B nFold
  have gLike : OwnG P w K mg base 1 "_law_like" ["answer", "due"] _ := ownG_of X.d40 fun f fd F => ok_like F B
  have nField : Own P w K mg base 3 "_law_field" ["m", "most"] _ := own_of X.d41 fun f fd F => ok_lfield F B nDraw
  have nLap : Own P w K mg base 1 "_law_apart" ["field", "one", "other"] _ := own_of X.d42 fun f fd F => ok_lapart F B
  have nLmeet : Own P w K mg base 2 "_law_meet" ["field", "steps"] _ := own_of X.d43 fun f fd F => ok_lmeet F B nLap
  have nLpile : Own P w K mg base 3 "_law_pile" ["field", "steps"] _ := own_of X.d44 fun f fd F => ok_lpile F B nLmeet
  have nLfi : Own P w K mg base 2 "_law_firsts" ["field", "steps"] _ := own_of X.d45 fun f fd F => ok_lfirsts F B nLap
  have nLleast : Own P w K mg base 4 "_law_least" ["field", "steps"] _ := own_of X.d46 fun f fd F => ok_lleast F B nLpile nLfi
  have gSaid : ∀ k, OwnG P w K mg base (k + 1) "_law_said" ["call"] (spSaid P w K mg base c k) := fun k => ownG_of X.d47 fun f fd F => ok_said k F B X.ec
  have nOwn : Own P w K mg base 1 "_law_own" ["field"] _ := own_of X.d48 fun f fd F => ok_own F
  have nHeld : Own P w K mg base 2 "_law_held" ["own", "number"] _ := own_of X.d49 fun f fd F => ok_held F B nLap
  have nKept : Own P w K mg base 1 "_law_kept" ["own", "now"] _ := own_of X.d50 fun f fd F => ok_kept F
  have nWo : Own P w K mg base 2 "_law_without" ["own", "numbers"] _ := own_of X.d51 fun f fd F => ok_without F B nKept
  have nShift : Own P w K mg base 1 "_law_shift" ["own", "begin", "goal"] _ := own_of X.d52 fun f fd F => ok_shift F
  have gStands : OwnG P w K mg base 8 "_law_stands" ["sheet", "own"] _ := ownG_of X.d53 fun f fd F => ok_stands F B M nLleast nHeld gLike
  have gStep : OwnG P w K mg base 8 "_law_step" ["m", "sheet", "own"] (spLStep K C (tbs t1 t2 t3 t4)) := ownG_of2 X.d54 fun f fd F g => ok_lstep F B M nDraw nKept nHeld nWo nShift gLike (gSaid 4) (mkr_of L1 B1 g) (by simp)
  obtain ⟨fE, fdE, FE, kE, iE, bE⟩ := X.t1.ex
  obtain ⟨fX, fdX, FX, kX, iX, bX⟩ := X.t2.ex
  have gUnder : ∀ k, 1 ≤ k → OwnG P w K mg base (k + 1) "under" ["manager", "deed"] (spUnder P w K mg base C CT k) := fun k hk => ownG_of X.d32 fun f fd F => ok_under k F kE iE kX iX (ok_enter FE X.T X.R) (ok_exit FX X.T X.R) bE bX hk
  -- the trials, one in another
  obtain ⟨fW, fdW, FW, mW, kW, bW⟩ := X.d55
  obtain ⟨fT, fdT, FT, mT, kT, bT⟩ := X.d56
  have both : ∀ n, FnG P w K mg base (11 + 8 * n + 1) fW fdW ["m", "sheet", "held", "own", "deep"] (spWithin K C (tbs t1 t2 t3 t4) c n) ∧ FnG P w K mg base (16 + 8 * n + 1) fT fdT ["m", "sheet", "own", "deep"] (spTried K C (tbs t1 t2 t3 t4) n) := fun n => by
    have up : FnG P w K mg base (11 + 8 * n + 1) fW fdW ["m", "sheet", "held", "own", "deep"] (spWithin K C (tbs t1 t2 t3 t4) c n) → FnG P w K mg base (11 + 8 * n + 1) fW fdW ["m", "sheet", "held", "own", "deep"] (spWithin K C (tbs t1 t2 t3 t4) c n) ∧ FnG P w K mg base (16 + 8 * n + 1) fT fdT ["m", "sheet", "own", "deep"] (spTried K C (tbs t1 t2 t3 t4) n) := fun h =>
      ⟨h, ok_tried n FT B X.ec M gStands gUnder gSaid ⟨fW, fdW, h.mono (by omega), mW, kW, bW⟩ (mkr_of L2 B2 mT) (by simp)⟩
    induction n with
    | zero => exact up (ok_within 0 FW B M nDraw nShift gStep gStands fun m e => by cases e)
    | succ n ih =>
      refine up (ok_within (n + 1) FW B M nDraw nShift gStep gStands fun m e => ?_)
      obtain rfl : n = m := Nat.succ.inj e
      refine ⟨fT, fdT, (ih fun h => ⟨h, ok_tried n FT B X.ec M gStands gUnder gSaid ⟨fW, fdW, h.mono (by omega), mW, kW, bW⟩ (mkr_of L2 B2 mT) (by simp)⟩).2.mono (by omega), mT, kT, bT⟩
  have gTried : OwnG P w K mg base 33 "_law_tried" ["m", "sheet", "own", "deep"] (spTried3 K C (tbs t1 t2 t3 t4)) := ⟨fT, fdT, ⟨fun vs H Q E h => by
      obtain ⟨n, hn, h⟩ := h
      exact (both n).2.len vs H Q E h, fun A outer s H args us vs Q E hr hg he hb hv h => by
      obtain ⟨n, hn, h⟩ := h
      exact (both n).2.run A outer s H args us vs Q E (hr.mono (by omega)) hg he hb hv h⟩, mT, kT, bT⟩
  have gLater : OwnG P w K mg base 8 "_law_later_right" ["sheet", "own"] (spLater K C (tbs t1 t2 t3 t4)) := ownG_of2 X.d57 fun f fd F g => ok_later F B M gUnder (mkr_of L3 B3 g) (by simp)
  exact fun f fd F g => ok_law F B M nDraw nBegun nField nOwn gStep gStands gTried gLater gUnder (mkr_of L4 B4 g) (by simp)
end
/-- all of it, as the end wants it -/
theorem law_at {l : OpenLaw} {w : World} {K : Frag} {mg : Str → Option Value} {g : Addr} {h : Heap} {C CT t1 t2 t3 t4 c1 c2 c3 c4 : Addr} {c : Ec} (X : K.In h) (hg : mg "law" = some (.ref g)) (T : Tops l.prog K mg C CT c) (L1 : LamD K mg "_law_step" c1 t1) (L2 : LamD K mg "_law_tried" c2 t2) (L3 : LamD K mg "_law_later_right" c3 t3) (L4 : LamD K mg "law" c4 t4)
    (ht : ∀ t ∈ [t1, t2, t3, t4], h.get? t = some tObj) (hd : t1 ≠ t2 ∧ t1 ≠ t3 ∧ t1 ≠ t4 ∧ t2 ≠ t3 ∧ t2 ≠ t4 ∧ t3 ≠ t4) : LawG l w K 40 63 "script" mg g h := by
  obtain ⟨f, fd, F, m, kp, bd⟩ := T.d58
  rw [hg] at m
  cases m
  refine ⟨fd, [(c1, t1), (c2, t2), (c3, t3), (c4, t4)], spLaw K (tbs t1 t2 t3 t4), fun p hp => ?_, bd, fun H a zs hl hH hS => ?_, fun base KB NB hB => ?_⟩
  · simp only [List.mem_cons, List.mem_nil_iff, or_false] at hp
    rcases hp with rfl | rfl | rfl | rfl
    · exact ⟨ht _ (by simp), L1.no, codeHd_of_K X L1.hd⟩
    · exact ⟨ht _ (by simp), L2.no, codeHd_of_K X L2.hd⟩
    · exact ⟨ht _ (by simp), L3.no, codeHd_of_K X L3.hd⟩
    · exact ⟨ht _ (by simp), L4.no, codeHd_of_K X L4.hd⟩
  · refine ⟨_, zs, rfl, hd_list hS ha_ints, hl, ?_, fun _ => rfl⟩
    -- the tables are empty
    have e : ∀ t ∈ [t1, t2, t3, t4], H t = some (.tbl #[]) := fun t m => by
      simp only [List.mem_cons, List.mem_nil_iff, or_false] at m
      rcases m with rfl | rfl | rfl | rfl
      · exact hH (c1, t) (by simp)
      · exact hH (c2, t) (by simp)
      · exact hH (c3, t) (by simp)
      · exact hH (c4, t) (by simp)
    obtain ⟨n12, n13, n14, n23, n24, n34⟩ := hd
    refine ⟨fun b => if b = t1 then some (0, PySem.Str.ofString "_law_step.<locals>.<lambda>") else if b = t2 then some (1, PySem.Str.ofString "_law_tried.<locals>.<lambda>") else if b = t3 then some (0, PySem.Str.ofString "_law_later_right.<locals>.<lambda>") else if b = t4 then some (0, PySem.Str.ofString "law.<locals>.<lambda>") else none, fun b n q hb => ⟨#[], ?_, trivial, fun pos cv z => by cases z⟩, fun t ht => ?_⟩
    · refine e b ?_
      dsimp only at hb
      simp only [List.mem_cons, List.mem_nil_iff, or_false]
      by_cases h1 : b = t1
      · exact .inl h1
      · rw [if_neg h1] at hb
        by_cases h2 : b = t2
        · exact .inr (.inl h2)
        · rw [if_neg h2] at hb
          by_cases h3 : b = t3
          · exact .inr (.inr (.inl h3))
          · rw [if_neg h3] at hb
            by_cases h4 : b = t4
            · exact .inr (.inr (.inr h4))
            · rw [if_neg h4] at hb; cases hb
    · simp only [tbs, List.mem_cons, List.mem_nil_iff, or_false] at ht
      rcases ht with rfl | rfl | rfl | rfl
      · exact if_pos rfl
      · show (if _ = t1 then _ else _) = _
        rw [if_neg (Ne.symm n12), if_pos rfl]
      · show (if _ = t1 then _ else _) = _
        rw [if_neg (Ne.symm n13), if_neg (Ne.symm n23), if_pos rfl]
      · show (if _ = t1 then _ else _) = _
        rw [if_neg (Ne.symm n14), if_neg (Ne.symm n24), if_neg (Ne.symm n34), if_pos rfl]
  · exact law_all (P := l.prog) (w := w) T L1 L2 L3 L4 (hB (c1, t1) (by simp)) (hB (c2, t2) (by simp)) (hB (c3, t3) (by simp)) (hB (c4, t4) (by simp)) _ _ F hg
end K95
/-! E3: the premises of the end, checked. -/
namespace K95
open PySem PySem.Spec PySem.Calls PySem.W PyProof.Rows L2 Evl PySem.HandSPX
def bnNames : List Str := ["len", "all", "any", "tuple", "list", "int", "isinstance", "enumerate", "zip", "range", "min", "max", "repr", "dict", "str", "bool", "super", "ZeroDivisionError", "KeyError"]
def bnB (K : Frag) : Bool := bnNames.all fun n => decide (nsIn K mainGlobals n = some none)
theorem bn_of {K : Frag} {h : Heap} {mg : Str → Option Value} (X : K.In h) (G : h.Ns mainGlobals mg) (b : bnB K = true) : Bn mg := by
  have e : ∀ n ∈ bnNames, mg n = none := fun n hn => mg_none_of X G (of_decide_eq_true (List.all_eq_true.mp b n hn))
  exact ⟨e _ (by decide), e _ (by decide), e _ (by decide), e _ (by decide), e _ (by decide), e _ (by decide), e _ (by decide), e _ (by decide), e _ (by decide), e _ (by decide), e _ (by decide), e _ (by decide), e _ (by decide), e _ (by decide), e _ (by decide), e _ (by decide), e _ (by decide), e _ (by decide), e _ (by decide)⟩
def intAt (K : Frag) (n : Str) (i : Int) : Bool := match nsIn K mainGlobals n with | some (some (.int j _)) => decide (j = i) | _ => false
def strAt (K : Frag) (n : Str) (s : Str) : Bool := match nsIn K mainGlobals n with | some (some (.str j _)) => decide (j = s) | _ => false
theorem int_at {K : Frag} {h : Heap} {mg : Str → Option Value} {n : Str} {i : Int} (X : K.In h) (G : h.Ns mainGlobals mg) (b : intAt K n i = true) : ∃ t, mg n = some (.int i t) := by
  unfold intAt at b
  split at b
  · rename_i j t e
    have e2 := mg_of X G e
    rw [of_decide_eq_true b] at e2
    exact ⟨t, e2⟩
  · cases b
theorem str_at {K : Frag} {h : Heap} {mg : Str → Option Value} {n : Str} {i : Str} (X : K.In h) (G : h.Ns mainGlobals mg) (b : strAt K n i = true) : ∃ t, mg n = some (.str i t) := by
  unfold strAt at b
  split at b
  · rename_i j t e
    have e2 := mg_of X G e
    rw [of_decide_eq_true b] at e2
    exact ⟨t, e2⟩
  · cases b
def cstB (K : Frag) : Bool := strAt K "LETTERS" LETS && (intAt K "MOST_LETTERS" 6 && (intAt K "MOST_NAMES" 6 && (intAt K "MOST_STEPS" 60 && intAt K "MOST_TIMES" 1000000000000000000000000000000)))
theorem cst_of {K : Frag} {h : Heap} {mg : Str → Option Value} (X : K.In h) (G : h.Ns mainGlobals mg) (b : cstB K = true) : Cst mg := by
  unfold cstB at b
  simp only [Bool.and_eq_true] at b
  obtain ⟨b1, b2, b3, b4, b5⟩ := b
  exact ⟨str_at X G b1, int_at X G b2, int_at X G b3, int_at X G b4, int_at X G b5⟩
def fB (K : Frag) (C : Addr) (n : Str) (v : Option Value) : Bool := decide (findIn K (.ref C) n = some v)
def clsB (K : Frag) (C : Addr) : Bool := plainGet K C Str.empty && (hasDictIn K C && (plainOver K C && fB K C "__setattr__" (some (.builtin "object.__setattr__"))))
theorem cls_of {K : Frag} {C : Addr} (b : clsB K C = true) : Cls K C := by
  unfold clsB fB at b
  simp only [Bool.and_eq_true, decide_eq_true_eq] at b
  exact ⟨b.1, b.2.1, b.2.2.1, b.2.2.2⟩
def shB (K : Frag) (C : Addr) : Bool := clsB K C && (fB K C "own_field" none && (fB K C "now" none && (fB K C "past" none && (fB K C "later" none && (fB K C "__class__" (some (.builtin "object.__class__")) && (decide (specialIn K (.builtin "object.__class__") "__get__" = some (some (.builtin "getset_descriptor.__get__"))) &&
  (decide (takesIn K (.builtin "object.__class__") = some true) && (decide (mroIn K C (.type "object") = some true) && (decide (kitOne K (.type "tuple") (.ref C) = some false) && (decide (kitOne K (.type "int") (.ref C) = some false) && (fB K C "__ne__" (some (.builtin "object.__ne__")) && (notFirst K C (.ref C) && (notFirst K C (.type "tuple") && notFirst K C (.type "int"))))))))))))))
theorem sh_all {K : Frag} {C : Addr} (b : shB K C = true) : clsB K C = true ∧ findIn K (.ref C) "own_field" = some none ∧ findIn K (.ref C) "now" = some none ∧ findIn K (.ref C) "past" = some none ∧ findIn K (.ref C) "later" = some none ∧ findIn K (.ref C) "__class__" = some (some (.builtin "object.__class__")) ∧ specialIn K (.builtin "object.__class__") "__get__" = some (some (.builtin "getset_descriptor.__get__")) ∧
    takesIn K (.builtin "object.__class__") = some true ∧ mroIn K C (.type "object") = some true ∧ kitOne K (.type "tuple") (.ref C) = some false ∧ kitOne K (.type "int") (.ref C) = some false ∧ findIn K (.ref C) "__ne__" = some (some (.builtin "object.__ne__")) ∧ notFirst K C (.ref C) = true ∧ notFirst K C (.type "tuple") = true ∧ notFirst K C (.type "int") = true := by
  unfold shB fB at b
  simp only [Bool.and_eq_true, decide_eq_true_eq] at b
  exact b
theorem sh_of {K : Frag} {mg : Str → Option Value} {C : Addr} (g : mg "Sheet" = some (.ref C)) (b : shB K C = true) : ShC K mg C := by
  obtain ⟨b1, b2, b3, b4, b5, b6, b7, b8, b9, b10, b11, _⟩ := sh_all b
  exact ⟨cls_of b1, b2, b3, b4, b5, g, b6, b7, b8, b9, b10, b11⟩
theorem sh_ne {K : Frag} {C : Addr} (b : shB K C = true) : findIn K (.ref C) "__ne__" = some (some (.builtin "object.__ne__")) := (sh_all b).2.2.2.2.2.2.2.2.2.2.2.1
theorem sh_nf {K : Frag} {C : Addr} (b : shB K C = true) : notFirst K C (.ref C) = true ∧ notFirst K C (.type "tuple") = true ∧ notFirst K C (.type "int") = true := (sh_all b).2.2.2.2.2.2.2.2.2.2.2.2
def trB (K : Frag) (C : Addr) : Bool := clsB K C && (fB K C "held_sheet" none && (fB K C "kept_now" none && (fB K C "kept_past" none && fB K C "kept_later" none)))
theorem tr_of {K : Frag} {mg : Str → Option Value} {C : Addr} (b : trB K C = true) : TrC K mg C := by
  unfold trB fB at b
  simp only [Bool.and_eq_true, decide_eq_true_eq] at b
  exact ⟨cls_of b.1, b.2.1, b.2.2.1, b.2.2.2.1, b.2.2.2.2⟩
/-! ### the errors -/
def xkB (K : Frag) (C pe tg : Addr) (fl : Str) : Bool := fB K C "__getattribute__" (some (.builtin "BaseException.__getattribute__")) && (fB K C "__getattr__" none && (decide (subIn K (.ref C) (.type "BaseException") = some true) && (hasDictIn K C && (fB K C "__class__" (some (.builtin "object.__class__")) &&
  (decide (specialIn K (.builtin "object.__class__") "__get__" = some (some (.builtin "getset_descriptor.__get__"))) && (decide (takesIn K (.builtin "object.__class__") = some true) && (decide (mroIn K C (.type "object") = some true) && (fB K C fl none && decide (exmAny K (.ref C) [.ref pe, .ref tg] = some true)))))))))
theorem xk_of {K : Frag} {C pe tg : Addr} {fl : Str} (b : xkB K C pe tg fl = true) : ExcC K C ∧ XfC K C ∧ findIn K (.ref C) fl = some none ∧ exmAny K (.ref C) [.ref pe, .ref tg] = some true := by
  unfold xkB fB at b
  simp only [Bool.and_eq_true, decide_eq_true_eq] at b
  obtain ⟨b1, b2, b3, b4, b5, b6, b7, b8, b9, b10⟩ := b
  exact ⟨⟨b1, b2, b3, b4, b5, b6, b7, b8⟩, ⟨b1, b2, b3, b4⟩, b9, b10⟩
def kits (K : Frag) (D : Addr) (c : Ec) (x : List Bool) : Bool := decide ([c.bs, c.bc, c.bf, c.bt, c.bn, c.un, c.hd, c.tg].map (fun a => kitOne K (.ref D) (.ref a)) = x.map some)
theorem kits_of {K : Frag} {D : Addr} {c : Ec} {a1 a2 a3 a4 a5 a6 a7 a8 : Bool} (b : kits K D c [a1, a2, a3, a4, a5, a6, a7, a8] = true) : kitOne K (.ref D) (.ref c.bs) = some a1 ∧ kitOne K (.ref D) (.ref c.bc) = some a2 ∧ kitOne K (.ref D) (.ref c.bf) = some a3 ∧ kitOne K (.ref D) (.ref c.bt) = some a4 ∧ kitOne K (.ref D) (.ref c.bn) = some a5 ∧ kitOne K (.ref D) (.ref c.un) = some a6 ∧ kitOne K (.ref D) (.ref c.hd) = some a7 ∧ kitOne K (.ref D) (.ref c.tg) = some a8 := by
  have e := of_decide_eq_true b
  simp only [List.map_cons, List.map_nil, List.cons.injEq, and_true] at e
  exact e
def ecB (K : Frag) (c : Ec) : Bool := xkB K c.bs c.pe c.tg "place" && (xkB K c.bn c.pe c.tg "value" && (xkB K c.hd c.pe c.tg "value" && (decide (exmAny K (.type "ZeroDivisionError") [.ref c.pe, .ref c.tg] = some false) && (decide (exmAny K (.type "KeyError") [.ref c.pe, .ref c.tg] = some false) &&
  (kits K c.bs c [true, false, false, false, false, false, false, false] && (kits K c.bn c [false, false, false, false, true, false, false, false] && kits K c.hd c [false, false, false, false, false, false, true, false]))))))
theorem ec_of {K : Frag} {mg : Str → Option Value} {pe tg bs bc bf bt bn un hd : Addr} (g1 : mg "PileError" = some (.ref pe)) (g2 : mg "TooGreat" = some (.ref tg)) (g3 : mg "BadScript" = some (.ref bs)) (g4 : mg "BadClaims" = some (.ref bc)) (g5 : mg "BadField" = some (.ref bf)) (g6 : mg "BadText" = some (.ref bt)) (g7 : mg "BadNumber" = some (.ref bn)) (g8 : mg "Unlike" = some (.ref un)) (g9 : mg "Held" = some (.ref hd))
    (b : ecB K ⟨pe, tg, bs, bc, bf, bt, bn, un, hd⟩ = true) : EcOk K mg ⟨pe, tg, bs, bc, bf, bt, bn, un, hd⟩ := by
  unfold ecB at b
  simp only [Bool.and_eq_true, decide_eq_true_eq] at b
  obtain ⟨b1, b2, b3, b4, b5, b6, b7, b8⟩ := b
  exact ⟨g1, g2, g3, g4, g5, g6, g7, g8, g9, fun k => by
    cases k with
    | script => exact xk_of b1
    | number => exact xk_of b2
    | held => exact xk_of b3, b4, b5, kits_of b6, kits_of b7, kits_of b8⟩
def extB (K : Frag) (C fI : Addr) (fl : Str) : Bool := fB K C "__setattr__" (some (.builtin "object.__setattr__")) && (fB K C fl none && (decide (typeIn K (.ref fI) = some (.type "function")) && (keepIn K (.ref C) && (decide (subIn K (.ref C) (.type "BaseException") = some true) && (decide (subIn K (.ref C) (.type "ValueError") = some true) && (decide (typeIn K (.ref C) = some (.type "type")) &&
  (decide (ks_superIn K C C "__init__" = some (some (.builtin "ValueError.__init__"))) && (decide (mroIn K C (.ref C) = some true) && decide (nsIn K cStatics "thirdparty.any" = some none)))))))))
theorem ext_of {P : Program} {K : Frag} {mg : Str → Option Value} {cn fl : Str} {C fI : Addr} (gC : mg cn = some (.ref C)) (cls : ∃ nm q N bs bm sn sub ab col dd k0 k1 k2 k3 k5, K.lookup C = some (excClassObj nm q C N bs bm true sn sub ab col dd k0 k1 k2 k3 k5 "ValueError.__new__") ∧ refsVE bm = true) (b : extB K C fI fl = true) (gS : mg "super" = none) (tp : (!((P.main.scope.names.lookup ("super" : Str)).isSome)) = true)
    (lne : (fl == ("__debug__" : Str)) = false ∧ fl ≠ "self" ∧ fl ≠ "__class__" ∧ fl ≠ "super") (iC : findIn K (.ref C) "__init__" = some (some (.ref fI)))
    (fn : ∃ (qual txt : Str) (oc : Value) (od : Option Addr) (doc pm : Value) (an : Option Addr) (cda cc : Addr) (ct : Value) (osl : Array (Option Value)) (p1 p2 q1 q2 q3 q4 q5 q6 q7 q8 q9 q10 : Pos),
      K.lookup fI = some ⟨oc, od, .func (ksFn "__init__" qual (xA fl p1 p2) (xB fl txt q1 q2 q3 q4 q5 q6 q7 q8 q9 q10) (xS fl) .none .none doc pm an (.ref cda) ct cc), osl⟩ ∧ codeIn K (.ref cda) qual = true ∧
      (∃ ccl cdd vs ccs file tf, K.lookup cda = some ⟨ccl, cdd, .fields vs, ccs⟩ ∧ vs[2]? = some (.str file tf) ∧ ((P.main.file : Str) == file) = true) ∧
      (∃ cl cld csl, K.lookup cc = some ⟨cl, cld, .cell (some (.ref C)), csl⟩) ∧
      (∀ x v : Value, bindArgs (ksFn "__init__" qual (xA fl p1 p2) (xB fl txt q1 q2 q3 q4 q5 q6 q7 q8 q9 q10) (xS fl) .none .none doc pm an (.ref cda) ct cc) ⟨[x, v], []⟩ = pure [(PySem.Str.ofString "self", x), (fl, v)]) ∧
      (∃ pl : Sem Bool, ∀ env : Env, eval (.Call (.Attribute (.Call (.Name "super" q1) [] [] q2) "__init__" q3) [.Constant (.str txt) 0 q4] [] q5) env = (do
        let ov ← attributeBase (.Call (.Name "super" q1) [] [] q2) "__init__" env (eval (.Call (.Name "super" q1) [] [] q2) env)
        standAt q3.atName
        let (f, first) ← holding [ov] (getMethod ov "__init__" pl)
        callWith q5 f first (backTo q5 (starEach [.Constant (.str txt) 0 q4] env)) []))) : ExTxt P K mg cn fl C fI := by
  unfold extB fB at b
  simp only [Bool.and_eq_true, decide_eq_true_eq] at b
  obtain ⟨b1, b2, b3, b4, b5, b6, b7, b8, b9, b10⟩ := b
  exact ⟨gC, cls, b1, b2, iC, b3, b4, b5, b6, b7, b8, b9, b10, gS, by simpa using tp, lne, fn⟩
/-! ### the makers of lambdas -/
def tOf (K : Frag) (c : Addr) : Addr := match K.lookup c with
  | some ⟨_, _, .fields vs, _⟩ => (match (vs[11]? : Option Value) with | some (.ref t) => t | _ => 0)
  | _ => 0
def lam1 (K : Frag) (ts : List Addr) (c : Addr) : Bool := codeHdIn K c (tOf K c) && ((K.lookup (tOf K c)).isNone && ts.contains (tOf K c))
def lamB (K : Frag) (ts : List Addr) (c1 c2 c3 c4 : Addr) : Bool := lam1 K ts c1 && (lam1 K ts c2 && (lam1 K ts c3 && (lam1 K ts c4 && (decide (tOf K c1 ≠ tOf K c2) && (decide (tOf K c1 ≠ tOf K c3) && (decide (tOf K c1 ≠ tOf K c4) && (decide (tOf K c2 ≠ tOf K c3) && (decide (tOf K c2 ≠ tOf K c4) && decide (tOf K c3 ≠ tOf K c4)))))))))
section
variable {K : Frag} {ts : List Addr} {c1 c2 c3 c4 : Addr}
theorem lam_all (b : lamB K ts c1 c2 c3 c4 = true) : lam1 K ts c1 = true ∧ lam1 K ts c2 = true ∧ lam1 K ts c3 = true ∧ lam1 K ts c4 = true ∧ tOf K c1 ≠ tOf K c2 ∧ tOf K c1 ≠ tOf K c3 ∧ tOf K c1 ≠ tOf K c4 ∧ tOf K c2 ≠ tOf K c3 ∧ tOf K c2 ≠ tOf K c4 ∧ tOf K c3 ≠ tOf K c4 := by
  unfold lamB at b
  simp only [Bool.and_eq_true, decide_eq_true_eq] at b
  exact b
theorem lam_b1 (b : lamB K ts c1 c2 c3 c4 = true) : lam1 K ts c1 = true := (lam_all b).1
theorem lam_b2 (b : lamB K ts c1 c2 c3 c4 = true) : lam1 K ts c2 = true := (lam_all b).2.1
theorem lam_b3 (b : lamB K ts c1 c2 c3 c4 = true) : lam1 K ts c3 = true := (lam_all b).2.2.1
theorem lam_b4 (b : lamB K ts c1 c2 c3 c4 = true) : lam1 K ts c4 = true := (lam_all b).2.2.2.1
theorem lam_ne (b : lamB K ts c1 c2 c3 c4 = true) : tOf K c1 ≠ tOf K c2 ∧ tOf K c1 ≠ tOf K c3 ∧ tOf K c1 ≠ tOf K c4 ∧ tOf K c2 ≠ tOf K c3 ∧ tOf K c2 ≠ tOf K c4 ∧ tOf K c3 ≠ tOf K c4 := (lam_all b).2.2.2.2
theorem lam_ts (b : lamB K ts c1 c2 c3 c4 = true) : ∀ t ∈ [tOf K c1, tOf K c2, tOf K c3, tOf K c4], t ∈ ts := fun t ht => by
  have u : ∀ {c : Addr}, lam1 K ts c = true → tOf K c ∈ ts := fun h => by
    unfold lam1 at h
    simp only [Bool.and_eq_true] at h
    simpa using h.2.2
  obtain ⟨b1, b2, b3, b4, _⟩ := lam_all b
  simp only [List.mem_cons, List.mem_nil_iff, or_false] at ht
  rcases ht with rfl | rfl | rfl | rfl
  · exact u b1
  · exact u b2
  · exact u b3
  · exact u b4
theorem lam_of {mg : Str → Option Value} {n x q : Str} {f c : Addr} {oc : Value} {od an : Option Addr} {osl : Array (Option Value)} {ar : Arguments} {bo : List Stmt} {sc : Scope} {kV doc pm ct : Value} (g : mg n = some (.ref f)) (l : K.lookup f = some ⟨oc, od, .func (fnOf x q ar bo sc .none kV doc pm an (.ref c) ct), osl⟩) (b : lam1 K ts c = true) : LamD K mg n c (tOf K c) := by
  unfold lam1 at b
  simp only [Bool.and_eq_true] at b
  exact ⟨⟨oc, od, osl, x, q, ar, bo, sc, kV, doc, pm, an, ct, f, g, l⟩, b.1, Option.isNone_iff_eq_none.mp b.2.1⟩
end
theorem fin {l : OpenLaw} {w : World} {K : Frag} {mg : Str → Option Value} {g : Addr} {h : Heap} {ts : List Addr} (X : K.In h) (G : h.Ns mainGlobals mg) (hg : mg "law" = some (.ref g)) (tabs : ∀ t ∈ ts, h.get? t = some tObj)
    {csh : Addr}
    {ctr : Addr}
    {epe : Addr}
    {etg : Addr}
    {ebs : Addr}
    {ebc : Addr}
    {ebf : Addr}
    {ebt : Addr}
    {ebn : Addr}
    {eun : Addr}
    {ehd : Addr}
    {fd14 : Addr} {odd14 and14 : Option Addr} {sld14 : Array (Option Value)} {ocd14 kVd14 dcd14 pmd14 ctd14 : Value} {cdd14 : Value}
    {fd15 : Addr} {odd15 and15 : Option Addr} {sld15 : Array (Option Value)} {ocd15 kVd15 dcd15 pmd15 ctd15 : Value} {cdd15 : Value}
    {fd16 : Addr} {odd16 and16 : Option Addr} {sld16 : Array (Option Value)} {ocd16 kVd16 dcd16 pmd16 ctd16 : Value} {cdd16 : Value}
    {fd17 : Addr} {odd17 and17 : Option Addr} {sld17 : Array (Option Value)} {ocd17 kVd17 dcd17 pmd17 ctd17 : Value} {cdd17 : Value}
    {fd18 : Addr} {odd18 and18 : Option Addr} {sld18 : Array (Option Value)} {ocd18 kVd18 dcd18 pmd18 ctd18 : Value} {cdd18 : Value}
    {fd19 : Addr} {odd19 and19 : Option Addr} {sld19 : Array (Option Value)} {ocd19 kVd19 dcd19 pmd19 ctd19 : Value} {cdd19 : Value}
    {fd23 : Addr} {odd23 and23 : Option Addr} {sld23 : Array (Option Value)} {ocd23 kVd23 dcd23 pmd23 ctd23 : Value} {cdd23 : Value}
    {fd24 : Addr} {odd24 and24 : Option Addr} {sld24 : Array (Option Value)} {ocd24 kVd24 dcd24 pmd24 ctd24 : Value} {cdd24 : Value}
    {fd25 : Addr} {odd25 and25 : Option Addr} {sld25 : Array (Option Value)} {ocd25 kVd25 dcd25 pmd25 ctd25 : Value} {cdd25 : Value}
    {fd26 : Addr} {odd26 and26 : Option Addr} {sld26 : Array (Option Value)} {ocd26 kVd26 dcd26 pmd26 ctd26 : Value} {cdd26 : Value}
    {fd27 : Addr} {odd27 and27 : Option Addr} {sld27 : Array (Option Value)} {ocd27 kVd27 dcd27 pmd27 ctd27 : Value} {cdd27 : Value}
    {fd28 : Addr} {odd28 and28 : Option Addr} {sld28 : Array (Option Value)} {ocd28 kVd28 dcd28 pmd28 ctd28 : Value} {cdd28 : Value}
    {fd29 : Addr} {odd29 and29 : Option Addr} {sld29 : Array (Option Value)} {ocd29 kVd29 dcd29 pmd29 ctd29 : Value} {cdd29 : Value}
    {fd30 : Addr} {odd30 and30 : Option Addr} {sld30 : Array (Option Value)} {ocd30 kVd30 dcd30 pmd30 ctd30 : Value} {cdd30 : Value}
    {fd32 : Addr} {odd32 and32 : Option Addr} {sld32 : Array (Option Value)} {ocd32 kVd32 dcd32 pmd32 ctd32 : Value} {cdd32 : Value}
    {fd36 : Addr} {odd36 and36 : Option Addr} {sld36 : Array (Option Value)} {ocd36 kVd36 dcd36 pmd36 ctd36 : Value} {cdd36 : Value}
    {fd37 : Addr} {odd37 and37 : Option Addr} {sld37 : Array (Option Value)} {ocd37 kVd37 dcd37 pmd37 ctd37 : Value} {cdd37 : Value}
    {fd38 : Addr} {odd38 and38 : Option Addr} {sld38 : Array (Option Value)} {ocd38 kVd38 dcd38 pmd38 ctd38 : Value} {cdd38 : Value}
    {fd39 : Addr} {odd39 and39 : Option Addr} {sld39 : Array (Option Value)} {ocd39 kVd39 dcd39 pmd39 ctd39 : Value} {cdd39 : Value}
    {fd40 : Addr} {odd40 and40 : Option Addr} {sld40 : Array (Option Value)} {ocd40 kVd40 dcd40 pmd40 ctd40 : Value} {cdd40 : Value}
    {fd41 : Addr} {odd41 and41 : Option Addr} {sld41 : Array (Option Value)} {ocd41 kVd41 dcd41 pmd41 ctd41 : Value} {cdd41 : Value}
    {fd42 : Addr} {odd42 and42 : Option Addr} {sld42 : Array (Option Value)} {ocd42 kVd42 dcd42 pmd42 ctd42 : Value} {cdd42 : Value}
    {fd43 : Addr} {odd43 and43 : Option Addr} {sld43 : Array (Option Value)} {ocd43 kVd43 dcd43 pmd43 ctd43 : Value} {cdd43 : Value}
    {fd44 : Addr} {odd44 and44 : Option Addr} {sld44 : Array (Option Value)} {ocd44 kVd44 dcd44 pmd44 ctd44 : Value} {cdd44 : Value}
    {fd45 : Addr} {odd45 and45 : Option Addr} {sld45 : Array (Option Value)} {ocd45 kVd45 dcd45 pmd45 ctd45 : Value} {cdd45 : Value}
    {fd46 : Addr} {odd46 and46 : Option Addr} {sld46 : Array (Option Value)} {ocd46 kVd46 dcd46 pmd46 ctd46 : Value} {cdd46 : Value}
    {fd47 : Addr} {odd47 and47 : Option Addr} {sld47 : Array (Option Value)} {ocd47 kVd47 dcd47 pmd47 ctd47 : Value} {cdd47 : Value}
    {fd48 : Addr} {odd48 and48 : Option Addr} {sld48 : Array (Option Value)} {ocd48 kVd48 dcd48 pmd48 ctd48 : Value} {cdd48 : Value}
    {fd49 : Addr} {odd49 and49 : Option Addr} {sld49 : Array (Option Value)} {ocd49 kVd49 dcd49 pmd49 ctd49 : Value} {cdd49 : Value}
    {fd50 : Addr} {odd50 and50 : Option Addr} {sld50 : Array (Option Value)} {ocd50 kVd50 dcd50 pmd50 ctd50 : Value} {cdd50 : Value}
    {fd51 : Addr} {odd51 and51 : Option Addr} {sld51 : Array (Option Value)} {ocd51 kVd51 dcd51 pmd51 ctd51 : Value} {cdd51 : Value}
    {fd52 : Addr} {odd52 and52 : Option Addr} {sld52 : Array (Option Value)} {ocd52 kVd52 dcd52 pmd52 ctd52 : Value} {cdd52 : Value}
    {fd53 : Addr} {odd53 and53 : Option Addr} {sld53 : Array (Option Value)} {ocd53 kVd53 dcd53 pmd53 ctd53 : Value} {cdd53 : Value}
    {fd54 : Addr} {odd54 and54 : Option Addr} {sld54 : Array (Option Value)} {ocd54 kVd54 dcd54 pmd54 ctd54 : Value} {cdd54 : Addr}
    {fd55 : Addr} {odd55 and55 : Option Addr} {sld55 : Array (Option Value)} {ocd55 kVd55 dcd55 pmd55 ctd55 : Value} {cdd55 : Value}
    {fd56 : Addr} {odd56 and56 : Option Addr} {sld56 : Array (Option Value)} {ocd56 kVd56 dcd56 pmd56 ctd56 : Value} {cdd56 : Addr}
    {fd57 : Addr} {odd57 and57 : Option Addr} {sld57 : Array (Option Value)} {ocd57 kVd57 dcd57 pmd57 ctd57 : Value} {cdd57 : Addr}
    {fd58 : Addr} {odd58 and58 : Option Addr} {sld58 : Array (Option Value)} {ocd58 kVd58 dcd58 pmd58 ctd58 : Value} {cdd58 : Addr}
    {fm0 : Addr} {odm0 anm0 : Option Addr} {slm0 : Array (Option Value)} {ocm0 kVm0 dcm0 pmm0 ctm0 : Value} {cdm0 : Value}
    {pm1 : Addr} {rm1 : List Value}
    {fm1 : Addr} {odm1 anm1 : Option Addr} {slm1 : Array (Option Value)} {ocm1 kVm1 dcm1 pmm1 ctm1 : Value} {cdm1 : Value}
    {pm2 : Addr} {rm2 : List Value}
    {fm2 : Addr} {odm2 anm2 : Option Addr} {slm2 : Array (Option Value)} {ocm2 kVm2 dcm2 pmm2 ctm2 : Value} {cdm2 : Value}
    {pm3 : Addr} {rm3 : List Value}
    {fm3 : Addr} {odm3 anm3 : Option Addr} {slm3 : Array (Option Value)} {ocm3 kVm3 dcm3 pmm3 ctm3 : Value} {cdm3 : Value}
    {fm4 : Addr} {odm4 anm4 : Option Addr} {slm4 : Array (Option Value)} {ocm4 kVm4 dcm4 pmm4 ctm4 : Value} {cdm4 : Value}
    {fm5 : Addr} {odm5 anm5 : Option Addr} {slm5 : Array (Option Value)} {ocm5 kVm5 dcm5 pmm5 ctm5 : Value} {cdm5 : Value}
    {fm7 : Addr} {odm7 anm7 : Option Addr} {slm7 : Array (Option Value)} {ocm7 kVm7 dcm7 pmm7 ctm7 : Value} {cdm7 : Value}
    {fm8 : Addr} {odm8 anm8 : Option Addr} {slm8 : Array (Option Value)} {ocm8 kVm8 dcm8 pmm8 ctm8 : Value} {cdm8 : Value}
    {fm9 : Addr} {odm9 anm9 : Option Addr} {slm9 : Array (Option Value)} {ocm9 kVm9 dcm9 pmm9 ctm9 : Value} {cdm9 : Value}
    {fm10 : Addr} {odm10 anm10 : Option Addr} {slm10 : Array (Option Value)} {ocm10 kVm10 dcm10 pmm10 ctm10 : Value} {cdm10 : Value}
    {fm11 : Addr} {odm11 anm11 : Option Addr} {slm11 : Array (Option Value)} {ocm11 kVm11 dcm11 pmm11 ctm11 : Value} {cdm11 : Value}
    {fm12 : Addr} {odm12 anm12 : Option Addr} {slm12 : Array (Option Value)} {ocm12 kVm12 dcm12 pmm12 ctm12 : Value} {cdm12 : Value}
    {fm13 : Addr} {odm13 anm13 : Option Addr} {slm13 : Array (Option Value)} {ocm13 kVm13 dcm13 pmm13 ctm13 : Value} {cdm13 : Value}
    {fm14 : Addr} {odm14 anm14 : Option Addr} {slm14 : Array (Option Value)} {ocm14 kVm14 dcm14 pmm14 ctm14 : Value} {cdm14 : Value}
    {fm15 : Addr} {odm15 anm15 : Option Addr} {slm15 : Array (Option Value)} {ocm15 kVm15 dcm15 pmm15 ctm15 : Value} {cdm15 : Value}
    {fm16 : Addr} {odm16 anm16 : Option Addr} {slm16 : Array (Option Value)} {ocm16 kVm16 dcm16 pmm16 ctm16 : Value} {cdm16 : Value}
    {fm17 : Addr} {odm17 anm17 : Option Addr} {slm17 : Array (Option Value)} {ocm17 kVm17 dcm17 pmm17 ctm17 : Value} {cdm17 : Value}
    {fm18 : Addr} {odm18 anm18 : Option Addr} {slm18 : Array (Option Value)} {ocm18 kVm18 dcm18 pmm18 ctm18 : Value} {cdm18 : Value}
    {fm19 : Addr} {odm19 anm19 : Option Addr} {slm19 : Array (Option Value)} {ocm19 kVm19 dcm19 pmm19 ctm19 : Value} {cdm19 : Value}
    {fm20 : Addr} {odm20 anm20 : Option Addr} {slm20 : Array (Option Value)} {ocm20 kVm20 dcm20 pmm20 ctm20 : Value} {cdm20 : Value}
    {fm21 : Addr} {odm21 anm21 : Option Addr} {slm21 : Array (Option Value)} {ocm21 kVm21 dcm21 pmm21 ctm21 : Value} {cdm21 : Value}
    {ft0 : Addr} {odt0 ant0 : Option Addr} {slt0 : Array (Option Value)} {oct0 kVt0 dct0 pmt0 ctt0 : Value} {cdt0 : Value}
    {ft1 : Addr} {odt1 ant1 : Option Addr} {slt1 : Array (Option Value)} {oct1 kVt1 dct1 pmt1 ctt1 : Value} {cdt1 : Value}
    {ft2 : Addr} {odt2 ant2 : Option Addr} {slt2 : Array (Option Value)} {oct2 kVt2 dct2 pmt2 ctt2 : Value} {cdt2 : Value}
    {nmS qS : Str} {NS : Addr} {bsS bmS : List Value} {snS : List Str} {subS : List Value} {abS : Bool} {colS : Option Bool} {ddS : Option Addr} {k0S k1S k2S k3S k5S : Option Value}
    {fiS : Addr}
    {quS txS : Str} {xoS : Value} {xdS : Option Addr} {xcS xmS : Value} {xnS : Option Addr} {caS ccS : Addr} {xtS : Value} {xlS : Array (Option Value)} {u1S u2S v1S v2S v3S v4S v5S v6S v7S v8S v9S v10S : Pos}
    {g1S : Value} {g2S : Option Addr} {g3S : Array Value} {g4S : Array (Option Value)} {fi2S : Str} {g5S : Tok}
    {h1S : Value} {h2S : Option Addr} {h3S : Array (Option Value)}
    {nmN qN : Str} {NN : Addr} {bsN bmN : List Value} {snN : List Str} {subN : List Value} {abN : Bool} {colN : Option Bool} {ddN : Option Addr} {k0N k1N k2N k3N k5N : Option Value}
    {fiN : Addr}
    {quN txN : Str} {xoN : Value} {xdN : Option Addr} {xcN xmN : Value} {xnN : Option Addr} {caN ccN : Addr} {xtN : Value} {xlN : Array (Option Value)} {u1N u2N v1N v2N v3N v4N v5N v6N v7N v8N v9N v10N : Pos}
    {g1N : Value} {g2N : Option Addr} {g3N : Array Value} {g4N : Array (Option Value)} {fi2N : Str} {g5N : Tok}
    {h1N : Value} {h2N : Option Addr} {h3N : Array (Option Value)}
    {nmH qH : Str} {NH : Addr} {bsH bmH : List Value} {snH : List Str} {subH : List Value} {abH : Bool} {colH : Option Bool} {ddH : Option Addr} {k0H k1H k2H k3H k5H : Option Value}
    {fiH : Addr}
    {quH txH : Str} {xoH : Value} {xdH : Option Addr} {xcH xmH : Value} {xnH : Option Addr} {caH ccH : Addr} {xtH : Value} {xlH : Array (Option Value)} {u1H u2H v1H v2H v3H v4H v5H v6H v7H v8H v9H v10H : Pos}
    {g1H : Value} {g2H : Option Addr} {g3H : Array Value} {g4H : Array (Option Value)} {fi2H : Str} {g5H : Tok}
    {h1H : Value} {h2H : Option Addr} {h3H : Array (Option Value)}
    {nmO qO : Str} {NO : Addr} {bsO bmO : List Value} {hdO : Bool} {snO : List Str} {subO : List Value} {abO : Bool} {colO : Option Bool} {ddO : Option Addr} {k0O k1O k2O k3O k5O : Option Value} {nwO : String}
    (ash : nsIn K mainGlobals "Sheet" = some (some (.ref csh)))
    (atr : nsIn K mainGlobals "Trial" = some (some (.ref ctr)))
    (ape : nsIn K mainGlobals "PileError" = some (some (.ref epe)))
    (atg : nsIn K mainGlobals "TooGreat" = some (some (.ref etg)))
    (abs : nsIn K mainGlobals "BadScript" = some (some (.ref ebs)))
    (abc : nsIn K mainGlobals "BadClaims" = some (some (.ref ebc)))
    (abf : nsIn K mainGlobals "BadField" = some (some (.ref ebf)))
    (abt : nsIn K mainGlobals "BadText" = some (some (.ref ebt)))
    (abn : nsIn K mainGlobals "BadNumber" = some (some (.ref ebn)))
    (aun : nsIn K mainGlobals "Unlike" = some (some (.ref eun)))
    (ahd : nsIn K mainGlobals "Held" = some (some (.ref ehd)))
    (ad14 : nsIn K mainGlobals "is_name" = some (some (.ref fd14)))
    (ld14 : K.lookup fd14 = some ⟨ocd14, odd14, .func (fnOf "is_name" "is_name" (defArgs (top 14)) (defBody (top 14)) (defScope (top 14)) .none kVd14 dcd14 pmd14 and14 cdd14 ctd14), sld14⟩)
    (cd14 : codeIn K cdd14 "is_name" = true)
    (kd14 : keepIn K (.ref fd14) = true)
    (ad15 : nsIn K mainGlobals "are_rising" = some (some (.ref fd15)))
    (ld15 : K.lookup fd15 = some ⟨ocd15, odd15, .func (fnOf "are_rising" "are_rising" (defArgs (top 15)) (defBody (top 15)) (defScope (top 15)) .none kVd15 dcd15 pmd15 and15 cdd15 ctd15), sld15⟩)
    (cd15 : codeIn K cdd15 "are_rising" = true)
    (kd15 : keepIn K (.ref fd15) = true)
    (ad16 : nsIn K mainGlobals "are_names" = some (some (.ref fd16)))
    (ld16 : K.lookup fd16 = some ⟨ocd16, odd16, .func (fnOf "are_names" "are_names" (defArgs (top 16)) (defBody (top 16)) (defScope (top 16)) .none kVd16 dcd16 pmd16 and16 cdd16 ctd16), sld16⟩)
    (cd16 : codeIn K cdd16 "are_names" = true)
    (kd16 : keepIn K (.ref fd16) = true)
    (ad17 : nsIn K mainGlobals "is_pair" = some (some (.ref fd17)))
    (ld17 : K.lookup fd17 = some ⟨ocd17, odd17, .func (fnOf "is_pair" "is_pair" (defArgs (top 17)) (defBody (top 17)) (defScope (top 17)) .none kVd17 dcd17 pmd17 and17 cdd17 ctd17), sld17⟩)
    (cd17 : codeIn K cdd17 "is_pair" = true)
    (kd17 : keepIn K (.ref fd17) = true)
    (ad18 : nsIn K mainGlobals "need_field" = some (some (.ref fd18)))
    (ld18 : K.lookup fd18 = some ⟨ocd18, odd18, .func (fnOf "need_field" "need_field" (defArgs (top 18)) (defBody (top 18)) (defScope (top 18)) .none kVd18 dcd18 pmd18 and18 cdd18 ctd18), sld18⟩)
    (cd18 : codeIn K cdd18 "need_field" = true)
    (kd18 : keepIn K (.ref fd18) = true)
    (ad19 : nsIn K mainGlobals "are_apart" = some (some (.ref fd19)))
    (ld19 : K.lookup fd19 = some ⟨ocd19, odd19, .func (fnOf "are_apart" "are_apart" (defArgs (top 19)) (defBody (top 19)) (defScope (top 19)) .none kVd19 dcd19 pmd19 and19 cdd19 ctd19), sld19⟩)
    (cd19 : codeIn K cdd19 "are_apart" = true)
    (kd19 : keepIn K (.ref fd19) = true)
    (ad23 : nsIn K mainGlobals "is_times" = some (some (.ref fd23)))
    (ld23 : K.lookup fd23 = some ⟨ocd23, odd23, .func (fnOf "is_times" "is_times" (defArgs (top 23)) (defBody (top 23)) (defScope (top 23)) .none kVd23 dcd23 pmd23 and23 cdd23 ctd23), sld23⟩)
    (cd23 : codeIn K cdd23 "is_times" = true)
    (kd23 : keepIn K (.ref fd23) = true)
    (ad24 : nsIn K mainGlobals "is_step" = some (some (.ref fd24)))
    (ld24 : K.lookup fd24 = some ⟨ocd24, odd24, .func (fnOf "is_step" "is_step" (defArgs (top 24)) (defBody (top 24)) (defScope (top 24)) .none kVd24 dcd24 pmd24 and24 cdd24 ctd24), sld24⟩)
    (cd24 : codeIn K cdd24 "is_step" = true)
    (kd24 : keepIn K (.ref fd24) = true)
    (ad25 : nsIn K mainGlobals "meeting" = some (some (.ref fd25)))
    (ld25 : K.lookup fd25 = some ⟨ocd25, odd25, .func (fnOf "meeting" "meeting" (defArgs (top 25)) (defBody (top 25)) (defScope (top 25)) .none kVd25 dcd25 pmd25 and25 cdd25 ctd25), sld25⟩)
    (cd25 : codeIn K cdd25 "meeting" = true)
    (kd25 : keepIn K (.ref fd25) = true)
    (ad26 : nsIn K mainGlobals "push" = some (some (.ref fd26)))
    (ld26 : K.lookup fd26 = some ⟨ocd26, odd26, .func (fnOf "push" "push" (defArgs (top 26)) (defBody (top 26)) (defScope (top 26)) .none kVd26 dcd26 pmd26 and26 cdd26 ctd26), sld26⟩)
    (cd26 : codeIn K cdd26 "push" = true)
    (kd26 : keepIn K (.ref fd26) = true)
    (ad27 : nsIn K mainGlobals "piled" = some (some (.ref fd27)))
    (ld27 : K.lookup fd27 = some ⟨ocd27, odd27, .func (fnOf "piled" "piled" (defArgs (top 27)) (defBody (top 27)) (defScope (top 27)) .none kVd27 dcd27 pmd27 and27 cdd27 ctd27), sld27⟩)
    (cd27 : codeIn K cdd27 "piled" = true)
    (kd27 : keepIn K (.ref fd27) = true)
    (ad28 : nsIn K mainGlobals "first_places" = some (some (.ref fd28)))
    (ld28 : K.lookup fd28 = some ⟨ocd28, odd28, .func (fnOf "first_places" "first_places" (defArgs (top 28)) (defBody (top 28)) (defScope (top 28)) .none kVd28 dcd28 pmd28 and28 cdd28 ctd28), sld28⟩)
    (cd28 : codeIn K cdd28 "first_places" = true)
    (kd28 : keepIn K (.ref fd28) = true)
    (ad29 : nsIn K mainGlobals "arranged" = some (some (.ref fd29)))
    (ld29 : K.lookup fd29 = some ⟨ocd29, odd29, .func (fnOf "arranged" "arranged" (defArgs (top 29)) (defBody (top 29)) (defScope (top 29)) .none kVd29 dcd29 pmd29 and29 cdd29 ctd29), sld29⟩)
    (cd29 : codeIn K cdd29 "arranged" = true)
    (kd29 : keepIn K (.ref fd29) = true)
    (ad30 : nsIn K mainGlobals "least_in" = some (some (.ref fd30)))
    (ld30 : K.lookup fd30 = some ⟨ocd30, odd30, .func (fnOf "least_in" "least_in" (defArgs (top 30)) (defBody (top 30)) (defScope (top 30)) .none kVd30 dcd30 pmd30 and30 cdd30 ctd30), sld30⟩)
    (cd30 : codeIn K cdd30 "least_in" = true)
    (kd30 : keepIn K (.ref fd30) = true)
    (ad32 : nsIn K mainGlobals "under" = some (some (.ref fd32)))
    (ld32 : K.lookup fd32 = some ⟨ocd32, odd32, .func (fnOf "under" "under" (defArgs (top 32)) (defBody (top 32)) (defScope (top 32)) .none kVd32 dcd32 pmd32 and32 cdd32 ctd32), sld32⟩)
    (cd32 : codeIn K cdd32 "under" = true)
    (kd32 : keepIn K (.ref fd32) = true)
    (ad36 : nsIn K mainGlobals "_law_mixed" = some (some (.ref fd36)))
    (ld36 : K.lookup fd36 = some ⟨ocd36, odd36, .func (fnOf "_law_mixed" "_law_mixed" (defArgs (top 36)) (defBody (top 36)) (defScope (top 36)) .none kVd36 dcd36 pmd36 and36 cdd36 ctd36), sld36⟩)
    (cd36 : codeIn K cdd36 "_law_mixed" = true)
    (kd36 : keepIn K (.ref fd36) = true)
    (ad37 : nsIn K mainGlobals "_law_folded" = some (some (.ref fd37)))
    (ld37 : K.lookup fd37 = some ⟨ocd37, odd37, .func (fnOf "_law_folded" "_law_folded" (defArgs (top 37)) (defBody (top 37)) (defScope (top 37)) .none kVd37 dcd37 pmd37 and37 cdd37 ctd37), sld37⟩)
    (cd37 : codeIn K cdd37 "_law_folded" = true)
    (kd37 : keepIn K (.ref fd37) = true)
    (ad38 : nsIn K mainGlobals "_law_draw" = some (some (.ref fd38)))
    (ld38 : K.lookup fd38 = some ⟨ocd38, odd38, .func (fnOf "_law_draw" "_law_draw" (defArgs (top 38)) (defBody (top 38)) (defScope (top 38)) .none kVd38 dcd38 pmd38 and38 cdd38 ctd38), sld38⟩)
    (cd38 : codeIn K cdd38 "_law_draw" = true)
    (kd38 : keepIn K (.ref fd38) = true)
    (ad39 : nsIn K mainGlobals "_law_begun" = some (some (.ref fd39)))
    (ld39 : K.lookup fd39 = some ⟨ocd39, odd39, .func (fnOf "_law_begun" "_law_begun" (defArgs (top 39)) (defBody (top 39)) (defScope (top 39)) .none kVd39 dcd39 pmd39 and39 cdd39 ctd39), sld39⟩)
    (cd39 : codeIn K cdd39 "_law_begun" = true)
    (kd39 : keepIn K (.ref fd39) = true)
    (ad40 : nsIn K mainGlobals "_law_like" = some (some (.ref fd40)))
    (ld40 : K.lookup fd40 = some ⟨ocd40, odd40, .func (fnOf "_law_like" "_law_like" (defArgs (top 40)) (defBody (top 40)) (defScope (top 40)) .none kVd40 dcd40 pmd40 and40 cdd40 ctd40), sld40⟩)
    (cd40 : codeIn K cdd40 "_law_like" = true)
    (kd40 : keepIn K (.ref fd40) = true)
    (ad41 : nsIn K mainGlobals "_law_field" = some (some (.ref fd41)))
    (ld41 : K.lookup fd41 = some ⟨ocd41, odd41, .func (fnOf "_law_field" "_law_field" (defArgs (top 41)) (defBody (top 41)) (defScope (top 41)) .none kVd41 dcd41 pmd41 and41 cdd41 ctd41), sld41⟩)
    (cd41 : codeIn K cdd41 "_law_field" = true)
    (kd41 : keepIn K (.ref fd41) = true)
    (ad42 : nsIn K mainGlobals "_law_apart" = some (some (.ref fd42)))
    (ld42 : K.lookup fd42 = some ⟨ocd42, odd42, .func (fnOf "_law_apart" "_law_apart" (defArgs (top 42)) (defBody (top 42)) (defScope (top 42)) .none kVd42 dcd42 pmd42 and42 cdd42 ctd42), sld42⟩)
    (cd42 : codeIn K cdd42 "_law_apart" = true)
    (kd42 : keepIn K (.ref fd42) = true)
    (ad43 : nsIn K mainGlobals "_law_meet" = some (some (.ref fd43)))
    (ld43 : K.lookup fd43 = some ⟨ocd43, odd43, .func (fnOf "_law_meet" "_law_meet" (defArgs (top 43)) (defBody (top 43)) (defScope (top 43)) .none kVd43 dcd43 pmd43 and43 cdd43 ctd43), sld43⟩)
    (cd43 : codeIn K cdd43 "_law_meet" = true)
    (kd43 : keepIn K (.ref fd43) = true)
    (ad44 : nsIn K mainGlobals "_law_pile" = some (some (.ref fd44)))
    (ld44 : K.lookup fd44 = some ⟨ocd44, odd44, .func (fnOf "_law_pile" "_law_pile" (defArgs (top 44)) (defBody (top 44)) (defScope (top 44)) .none kVd44 dcd44 pmd44 and44 cdd44 ctd44), sld44⟩)
    (cd44 : codeIn K cdd44 "_law_pile" = true)
    (kd44 : keepIn K (.ref fd44) = true)
    (ad45 : nsIn K mainGlobals "_law_firsts" = some (some (.ref fd45)))
    (ld45 : K.lookup fd45 = some ⟨ocd45, odd45, .func (fnOf "_law_firsts" "_law_firsts" (defArgs (top 45)) (defBody (top 45)) (defScope (top 45)) .none kVd45 dcd45 pmd45 and45 cdd45 ctd45), sld45⟩)
    (cd45 : codeIn K cdd45 "_law_firsts" = true)
    (kd45 : keepIn K (.ref fd45) = true)
    (ad46 : nsIn K mainGlobals "_law_least" = some (some (.ref fd46)))
    (ld46 : K.lookup fd46 = some ⟨ocd46, odd46, .func (fnOf "_law_least" "_law_least" (defArgs (top 46)) (defBody (top 46)) (defScope (top 46)) .none kVd46 dcd46 pmd46 and46 cdd46 ctd46), sld46⟩)
    (cd46 : codeIn K cdd46 "_law_least" = true)
    (kd46 : keepIn K (.ref fd46) = true)
    (ad47 : nsIn K mainGlobals "_law_said" = some (some (.ref fd47)))
    (ld47 : K.lookup fd47 = some ⟨ocd47, odd47, .func (fnOf "_law_said" "_law_said" (defArgs (top 47)) (defBody (top 47)) (defScope (top 47)) .none kVd47 dcd47 pmd47 and47 cdd47 ctd47), sld47⟩)
    (cd47 : codeIn K cdd47 "_law_said" = true)
    (kd47 : keepIn K (.ref fd47) = true)
    (ad48 : nsIn K mainGlobals "_law_own" = some (some (.ref fd48)))
    (ld48 : K.lookup fd48 = some ⟨ocd48, odd48, .func (fnOf "_law_own" "_law_own" (defArgs (top 48)) (defBody (top 48)) (defScope (top 48)) .none kVd48 dcd48 pmd48 and48 cdd48 ctd48), sld48⟩)
    (cd48 : codeIn K cdd48 "_law_own" = true)
    (kd48 : keepIn K (.ref fd48) = true)
    (ad49 : nsIn K mainGlobals "_law_held" = some (some (.ref fd49)))
    (ld49 : K.lookup fd49 = some ⟨ocd49, odd49, .func (fnOf "_law_held" "_law_held" (defArgs (top 49)) (defBody (top 49)) (defScope (top 49)) .none kVd49 dcd49 pmd49 and49 cdd49 ctd49), sld49⟩)
    (cd49 : codeIn K cdd49 "_law_held" = true)
    (kd49 : keepIn K (.ref fd49) = true)
    (ad50 : nsIn K mainGlobals "_law_kept" = some (some (.ref fd50)))
    (ld50 : K.lookup fd50 = some ⟨ocd50, odd50, .func (fnOf "_law_kept" "_law_kept" (defArgs (top 50)) (defBody (top 50)) (defScope (top 50)) .none kVd50 dcd50 pmd50 and50 cdd50 ctd50), sld50⟩)
    (cd50 : codeIn K cdd50 "_law_kept" = true)
    (kd50 : keepIn K (.ref fd50) = true)
    (ad51 : nsIn K mainGlobals "_law_without" = some (some (.ref fd51)))
    (ld51 : K.lookup fd51 = some ⟨ocd51, odd51, .func (fnOf "_law_without" "_law_without" (defArgs (top 51)) (defBody (top 51)) (defScope (top 51)) .none kVd51 dcd51 pmd51 and51 cdd51 ctd51), sld51⟩)
    (cd51 : codeIn K cdd51 "_law_without" = true)
    (kd51 : keepIn K (.ref fd51) = true)
    (ad52 : nsIn K mainGlobals "_law_shift" = some (some (.ref fd52)))
    (ld52 : K.lookup fd52 = some ⟨ocd52, odd52, .func (fnOf "_law_shift" "_law_shift" (defArgs (top 52)) (defBody (top 52)) (defScope (top 52)) .none kVd52 dcd52 pmd52 and52 cdd52 ctd52), sld52⟩)
    (cd52 : codeIn K cdd52 "_law_shift" = true)
    (kd52 : keepIn K (.ref fd52) = true)
    (ad53 : nsIn K mainGlobals "_law_stands" = some (some (.ref fd53)))
    (ld53 : K.lookup fd53 = some ⟨ocd53, odd53, .func (fnOf "_law_stands" "_law_stands" (defArgs (top 53)) (defBody (top 53)) (defScope (top 53)) .none kVd53 dcd53 pmd53 and53 cdd53 ctd53), sld53⟩)
    (cd53 : codeIn K cdd53 "_law_stands" = true)
    (kd53 : keepIn K (.ref fd53) = true)
    (ad54 : nsIn K mainGlobals "_law_step" = some (some (.ref fd54)))
    (ld54 : K.lookup fd54 = some ⟨ocd54, odd54, .func (fnOf "_law_step" "_law_step" (defArgs (top 54)) (defBody (top 54)) (defScope (top 54)) .none kVd54 dcd54 pmd54 and54 (.ref cdd54) ctd54), sld54⟩)
    (cd54 : codeIn K (.ref cdd54) "_law_step" = true)
    (kd54 : keepIn K (.ref fd54) = true)
    (ad55 : nsIn K mainGlobals "_law_within" = some (some (.ref fd55)))
    (ld55 : K.lookup fd55 = some ⟨ocd55, odd55, .func (fnOf "_law_within" "_law_within" (defArgs (top 55)) (defBody (top 55)) (defScope (top 55)) .none kVd55 dcd55 pmd55 and55 cdd55 ctd55), sld55⟩)
    (cd55 : codeIn K cdd55 "_law_within" = true)
    (kd55 : keepIn K (.ref fd55) = true)
    (ad56 : nsIn K mainGlobals "_law_tried" = some (some (.ref fd56)))
    (ld56 : K.lookup fd56 = some ⟨ocd56, odd56, .func (fnOf "_law_tried" "_law_tried" (defArgs (top 56)) (defBody (top 56)) (defScope (top 56)) .none kVd56 dcd56 pmd56 and56 (.ref cdd56) ctd56), sld56⟩)
    (cd56 : codeIn K (.ref cdd56) "_law_tried" = true)
    (kd56 : keepIn K (.ref fd56) = true)
    (ad57 : nsIn K mainGlobals "_law_later_right" = some (some (.ref fd57)))
    (ld57 : K.lookup fd57 = some ⟨ocd57, odd57, .func (fnOf "_law_later_right" "_law_later_right" (defArgs (top 57)) (defBody (top 57)) (defScope (top 57)) .none kVd57 dcd57 pmd57 and57 (.ref cdd57) ctd57), sld57⟩)
    (cd57 : codeIn K (.ref cdd57) "_law_later_right" = true)
    (kd57 : keepIn K (.ref fd57) = true)
    (ad58 : nsIn K mainGlobals "law" = some (some (.ref fd58)))
    (ld58 : K.lookup fd58 = some ⟨ocd58, odd58, .func (fnOf "law" "law" (defArgs (top 58)) (defBody (top 58)) (defScope (top 58)) .none kVd58 dcd58 pmd58 and58 (.ref cdd58) ctd58), sld58⟩)
    (cd58 : codeIn K (.ref cdd58) "law" = true)
    (kd58 : keepIn K (.ref fd58) = true)
    (am0 : findIn K (.ref csh) "__init__" = some (some (.ref fm0)))
    (im0 : isFn K (.ref fm0) = true)
    (lm0 : K.lookup fm0 = some ⟨ocm0, odm0, .func (fnOf "__init__" "Sheet.__init__" (defArgs (mth 0)) (defBody (mth 0)) (defScope (mth 0)) .none kVm0 dcm0 pmm0 anm0 cdm0 ctm0), slm0⟩)
    (cm0 : codeIn K cdm0 "Sheet.__init__" = true)
    (km0 : keepIn K (.ref fm0) = true)
    (mkm0 : makesIn K csh = true)
    (kkm0 : keepIn K (.ref csh) = true)
    (am1 : findIn K (.ref csh) "field" = some (some (.ref pm1)))
    (rm1e : recIn K pm1 "property" = some (.ref fm1 :: rm1))
    (gm1 : specialIn K (.ref pm1) "__get__" = some (some (.builtin "property.__get__")))
    (tm1 : takesIn K (.ref pm1) = some true)
    (lm1 : K.lookup fm1 = some ⟨ocm1, odm1, .func (fnOf "field" "Sheet.field" (defArgs (mth 1)) (defBody (mth 1)) (defScope (mth 1)) .none kVm1 dcm1 pmm1 anm1 cdm1 ctm1), slm1⟩)
    (cm1 : codeIn K cdm1 "Sheet.field" = true)
    (km1 : keepIn K (.ref fm1) = true)
    (am2 : findIn K (.ref csh) "row" = some (some (.ref pm2)))
    (rm2e : recIn K pm2 "property" = some (.ref fm2 :: rm2))
    (gm2 : specialIn K (.ref pm2) "__get__" = some (some (.builtin "property.__get__")))
    (tm2 : takesIn K (.ref pm2) = some true)
    (lm2 : K.lookup fm2 = some ⟨ocm2, odm2, .func (fnOf "row" "Sheet.row" (defArgs (mth 2)) (defBody (mth 2)) (defScope (mth 2)) .none kVm2 dcm2 pmm2 anm2 cdm2 ctm2), slm2⟩)
    (cm2 : codeIn K cdm2 "Sheet.row" = true)
    (km2 : keepIn K (.ref fm2) = true)
    (am3 : findIn K (.ref csh) "steps" = some (some (.ref pm3)))
    (rm3e : recIn K pm3 "property" = some (.ref fm3 :: rm3))
    (gm3 : specialIn K (.ref pm3) "__get__" = some (some (.builtin "property.__get__")))
    (tm3 : takesIn K (.ref pm3) = some true)
    (lm3 : K.lookup fm3 = some ⟨ocm3, odm3, .func (fnOf "steps" "Sheet.steps" (defArgs (mth 3)) (defBody (mth 3)) (defScope (mth 3)) .none kVm3 dcm3 pmm3 anm3 cdm3 ctm3), slm3⟩)
    (cm3 : codeIn K cdm3 "Sheet.steps" = true)
    (km3 : keepIn K (.ref fm3) = true)
    (am4 : findIn K (.ref csh) "least" = some (some (.ref fm4)))
    (im4 : isFn K (.ref fm4) = true)
    (lm4 : K.lookup fm4 = some ⟨ocm4, odm4, .func (fnOf "least" "Sheet.least" (defArgs (mth 4)) (defBody (mth 4)) (defScope (mth 4)) .none kVm4 dcm4 pmm4 anm4 cdm4 ctm4), slm4⟩)
    (cm4 : codeIn K cdm4 "Sheet.least" = true)
    (km4 : keepIn K (.ref fm4) = true)
    (am5 : findIn K (.ref csh) "__len__" = some (some (.ref fm5)))
    (im5 : isFn K (.ref fm5) = true)
    (lm5 : K.lookup fm5 = some ⟨ocm5, odm5, .func (fnOf "__len__" "Sheet.__len__" (defArgs (mth 5)) (defBody (mth 5)) (defScope (mth 5)) .none kVm5 dcm5 pmm5 anm5 cdm5 ctm5), slm5⟩)
    (cm5 : codeIn K cdm5 "Sheet.__len__" = true)
    (km5 : keepIn K (.ref fm5) = true)
    (am7 : findIn K (.ref csh) "__contains__" = some (some (.ref fm7)))
    (im7 : isFn K (.ref fm7) = true)
    (lm7 : K.lookup fm7 = some ⟨ocm7, odm7, .func (fnOf "__contains__" "Sheet.__contains__" (defArgs (mth 7)) (defBody (mth 7)) (defScope (mth 7)) .none kVm7 dcm7 pmm7 anm7 cdm7 ctm7), slm7⟩)
    (cm7 : codeIn K cdm7 "Sheet.__contains__" = true)
    (km7 : keepIn K (.ref fm7) = true)
    (am8 : findIn K (.ref csh) "__eq__" = some (some (.ref fm8)))
    (im8 : isFn K (.ref fm8) = true)
    (lm8 : K.lookup fm8 = some ⟨ocm8, odm8, .func (fnOf "__eq__" "Sheet.__eq__" (defArgs (mth 8)) (defBody (mth 8)) (defScope (mth 8)) .none kVm8 dcm8 pmm8 anm8 cdm8 ctm8), slm8⟩)
    (cm8 : codeIn K cdm8 "Sheet.__eq__" = true)
    (km8 : keepIn K (.ref fm8) = true)
    (am9 : findIn K (.ref csh) "is_number" = some (some (.ref fm9)))
    (im9 : isFn K (.ref fm9) = true)
    (lm9 : K.lookup fm9 = some ⟨ocm9, odm9, .func (fnOf "is_number" "Sheet.is_number" (defArgs (mth 9)) (defBody (mth 9)) (defScope (mth 9)) .none kVm9 dcm9 pmm9 anm9 cdm9 ctm9), slm9⟩)
    (cm9 : codeIn K cdm9 "Sheet.is_number" = true)
    (km9 : keepIn K (.ref fm9) = true)
    (am10 : findIn K (.ref csh) "need_number" = some (some (.ref fm10)))
    (im10 : isFn K (.ref fm10) = true)
    (lm10 : K.lookup fm10 = some ⟨ocm10, odm10, .func (fnOf "need_number" "Sheet.need_number" (defArgs (mth 10)) (defBody (mth 10)) (defScope (mth 10)) .none kVm10 dcm10 pmm10 anm10 cdm10 ctm10), slm10⟩)
    (cm10 : codeIn K cdm10 "Sheet.need_number" = true)
    (km10 : keepIn K (.ref fm10) = true)
    (am11 : findIn K (.ref csh) "change" = some (some (.ref fm11)))
    (im11 : isFn K (.ref fm11) = true)
    (lm11 : K.lookup fm11 = some ⟨ocm11, odm11, .func (fnOf "change" "Sheet.change" (defArgs (mth 11)) (defBody (mth 11)) (defScope (mth 11)) .none kVm11 dcm11 pmm11 anm11 cdm11 ctm11), slm11⟩)
    (cm11 : codeIn K cdm11 "Sheet.change" = true)
    (km11 : keepIn K (.ref fm11) = true)
    (am12 : findIn K (.ref csh) "do" = some (some (.ref fm12)))
    (im12 : isFn K (.ref fm12) = true)
    (lm12 : K.lookup fm12 = some ⟨ocm12, odm12, .func (fnOf "do" "Sheet.do" (defArgs (mth 12)) (defBody (mth 12)) (defScope (mth 12)) .none kVm12 dcm12 pmm12 anm12 cdm12 ctm12), slm12⟩)
    (cm12 : codeIn K cdm12 "Sheet.do" = true)
    (km12 : keepIn K (.ref fm12) = true)
    (am13 : findIn K (.ref csh) "holders" = some (some (.ref fm13)))
    (im13 : isFn K (.ref fm13) = true)
    (lm13 : K.lookup fm13 = some ⟨ocm13, odm13, .func (fnOf "holders" "Sheet.holders" (defArgs (mth 13)) (defBody (mth 13)) (defScope (mth 13)) .none kVm13 dcm13 pmm13 anm13 cdm13 ctm13), slm13⟩)
    (cm13 : codeIn K cdm13 "Sheet.holders" = true)
    (km13 : keepIn K (.ref fm13) = true)
    (am14 : findIn K (.ref csh) "ahead_of" = some (some (.ref fm14)))
    (im14 : isFn K (.ref fm14) = true)
    (lm14 : K.lookup fm14 = some ⟨ocm14, odm14, .func (fnOf "ahead_of" "Sheet.ahead_of" (defArgs (mth 14)) (defBody (mth 14)) (defScope (mth 14)) .none kVm14 dcm14 pmm14 anm14 cdm14 ctm14), slm14⟩)
    (cm14 : codeIn K cdm14 "Sheet.ahead_of" = true)
    (km14 : keepIn K (.ref fm14) = true)
    (am15 : findIn K (.ref csh) "free" = some (some (.ref fm15)))
    (im15 : isFn K (.ref fm15) = true)
    (lm15 : K.lookup fm15 = some ⟨ocm15, odm15, .func (fnOf "free" "Sheet.free" (defArgs (mth 15)) (defBody (mth 15)) (defScope (mth 15)) .none kVm15 dcm15 pmm15 anm15 cdm15 ctm15), slm15⟩)
    (cm15 : codeIn K cdm15 "Sheet.free" = true)
    (km15 : keepIn K (.ref fm15) = true)
    (am16 : findIn K (.ref csh) "take_back" = some (some (.ref fm16)))
    (im16 : isFn K (.ref fm16) = true)
    (lm16 : K.lookup fm16 = some ⟨ocm16, odm16, .func (fnOf "take_back" "Sheet.take_back" (defArgs (mth 16)) (defBody (mth 16)) (defScope (mth 16)) .none kVm16 dcm16 pmm16 anm16 cdm16 ctm16), slm16⟩)
    (cm16 : codeIn K cdm16 "Sheet.take_back" = true)
    (km16 : keepIn K (.ref fm16) = true)
    (am17 : findIn K (.ref csh) "take_all" = some (some (.ref fm17)))
    (im17 : isFn K (.ref fm17) = true)
    (lm17 : K.lookup fm17 = some ⟨ocm17, odm17, .func (fnOf "take_all" "Sheet.take_all" (defArgs (mth 17)) (defBody (mth 17)) (defScope (mth 17)) .none kVm17 dcm17 pmm17 anm17 cdm17 ctm17), slm17⟩)
    (cm17 : codeIn K cdm17 "Sheet.take_all" = true)
    (km17 : keepIn K (.ref fm17) = true)
    (am18 : findIn K (.ref csh) "undo" = some (some (.ref fm18)))
    (im18 : isFn K (.ref fm18) = true)
    (lm18 : K.lookup fm18 = some ⟨ocm18, odm18, .func (fnOf "undo" "Sheet.undo" (defArgs (mth 18)) (defBody (mth 18)) (defScope (mth 18)) .none kVm18 dcm18 pmm18 anm18 cdm18 ctm18), slm18⟩)
    (cm18 : codeIn K cdm18 "Sheet.undo" = true)
    (km18 : keepIn K (.ref fm18) = true)
    (am19 : findIn K (.ref csh) "redo" = some (some (.ref fm19)))
    (im19 : isFn K (.ref fm19) = true)
    (lm19 : K.lookup fm19 = some ⟨ocm19, odm19, .func (fnOf "redo" "Sheet.redo" (defArgs (mth 19)) (defBody (mth 19)) (defScope (mth 19)) .none kVm19 dcm19 pmm19 anm19 cdm19 ctm19), slm19⟩)
    (cm19 : codeIn K cdm19 "Sheet.redo" = true)
    (km19 : keepIn K (.ref fm19) = true)
    (am20 : findIn K (.ref csh) "copy" = some (some (.ref fm20)))
    (im20 : isFn K (.ref fm20) = true)
    (lm20 : K.lookup fm20 = some ⟨ocm20, odm20, .func (fnOf "copy" "Sheet.copy" (defArgs (mth 20)) (defBody (mth 20)) (defScope (mth 20)) .none kVm20 dcm20 pmm20 anm20 cdm20 ctm20), slm20⟩)
    (cm20 : codeIn K cdm20 "Sheet.copy" = true)
    (km20 : keepIn K (.ref fm20) = true)
    (am21 : findIn K (.ref csh) "trial" = some (some (.ref fm21)))
    (im21 : isFn K (.ref fm21) = true)
    (lm21 : K.lookup fm21 = some ⟨ocm21, odm21, .func (fnOf "trial" "Sheet.trial" (defArgs (mth 21)) (defBody (mth 21)) (defScope (mth 21)) .none kVm21 dcm21 pmm21 anm21 cdm21 ctm21), slm21⟩)
    (cm21 : codeIn K cdm21 "Sheet.trial" = true)
    (km21 : keepIn K (.ref fm21) = true)
    (at0 : findIn K (.ref ctr) "__init__" = some (some (.ref ft0)))
    (it0 : isFn K (.ref ft0) = true)
    (lt0 : K.lookup ft0 = some ⟨oct0, odt0, .func (fnOf "__init__" "Trial.__init__" (defArgs (trm 0)) (defBody (trm 0)) (defScope (trm 0)) .none kVt0 dct0 pmt0 ant0 cdt0 ctt0), slt0⟩)
    (ct0 : codeIn K cdt0 "Trial.__init__" = true)
    (kt0 : keepIn K (.ref ft0) = true)
    (mkt0 : makesIn K ctr = true)
    (kkt0 : keepIn K (.ref ctr) = true)
    (at1 : findIn K (.ref ctr) "__enter__" = some (some (.ref ft1)))
    (it1 : isFn K (.ref ft1) = true)
    (lt1 : K.lookup ft1 = some ⟨oct1, odt1, .func (fnOf "__enter__" "Trial.__enter__" (defArgs (trm 1)) (defBody (trm 1)) (defScope (trm 1)) .none kVt1 dct1 pmt1 ant1 cdt1 ctt1), slt1⟩)
    (ct1 : codeIn K cdt1 "Trial.__enter__" = true)
    (kt1 : keepIn K (.ref ft1) = true)
    (at2 : findIn K (.ref ctr) "__exit__" = some (some (.ref ft2)))
    (it2 : isFn K (.ref ft2) = true)
    (lt2 : K.lookup ft2 = some ⟨oct2, odt2, .func (fnOf "__exit__" "Trial.__exit__" (defArgs (trm 2)) (defBody (trm 2)) (defScope (trm 2)) .none kVt2 dct2 pmt2 ant2 cdt2 ctt2), slt2⟩)
    (ct2 : codeIn K cdt2 "Trial.__exit__" = true)
    (kt2 : keepIn K (.ref ft2) = true)
    (hxS : K.lookup ebs = some (excClassObj nmS qS ebs NS bsS bmS true snS subS abS colS ddS k0S k1S k2S k3S k5S "ValueError.__new__"))
    (hyS : refsVE bmS = true)
    (hzS : findIn K (.ref ebs) "__init__" = some (some (.ref fiS)))
    (hwS : K.lookup fiS = some ⟨xoS, xdS, .func (ksFn "__init__" quS (xA "place" u1S u2S) (xB "place" txS v1S v2S v3S v4S v5S v6S v7S v8S v9S v10S) (xS "place") .none .none xcS xmS xnS (.ref caS) xtS ccS), xlS⟩)
    (hoS : codeIn K (.ref caS) quS = true)
    (hpS : K.lookup caS = some ⟨g1S, g2S, .fields g3S, g4S⟩)
    (hqSf : g3S[2]? = some (.str fi2S g5S))
    (hsS : ((l.prog.main.file : Str) == fi2S) = true)
    (htS : K.lookup ccS = some ⟨h1S, h2S, .cell (some (.ref ebs)), h3S⟩)
    (hbS : ∀ x v : Value, bindArgs (ksFn "__init__" quS (xA "place" u1S u2S) (xB "place" txS v1S v2S v3S v4S v5S v6S v7S v8S v9S v10S) (xS "place") .none .none xcS xmS xnS (.ref caS) xtS ccS) ⟨[x, v], []⟩ = pure [(PySem.Str.ofString "self", x), ("place", v)])
    (hvS : ∃ pl : Sem Bool, ∀ env : Env, eval (.Call (.Attribute (.Call (.Name "super" v1S) [] [] v2S) "__init__" v3S) [.Constant (.str txS) 0 v4S] [] v5S) env = (do
      let ov ← attributeBase (.Call (.Name "super" v1S) [] [] v2S) "__init__" env (eval (.Call (.Name "super" v1S) [] [] v2S) env)
      standAt v3S.atName
      let (f, first) ← holding [ov] (getMethod ov "__init__" pl)
      callWith v5S f first (backTo v5S (starEach [.Constant (.str txS) 0 v4S] env)) []))
    (hxN : K.lookup ebn = some (excClassObj nmN qN ebn NN bsN bmN true snN subN abN colN ddN k0N k1N k2N k3N k5N "ValueError.__new__"))
    (hyN : refsVE bmN = true)
    (hzN : findIn K (.ref ebn) "__init__" = some (some (.ref fiN)))
    (hwN : K.lookup fiN = some ⟨xoN, xdN, .func (ksFn "__init__" quN (xA "value" u1N u2N) (xB "value" txN v1N v2N v3N v4N v5N v6N v7N v8N v9N v10N) (xS "value") .none .none xcN xmN xnN (.ref caN) xtN ccN), xlN⟩)
    (hoN : codeIn K (.ref caN) quN = true)
    (hpN : K.lookup caN = some ⟨g1N, g2N, .fields g3N, g4N⟩)
    (hqNf : g3N[2]? = some (.str fi2N g5N))
    (hsN : ((l.prog.main.file : Str) == fi2N) = true)
    (htN : K.lookup ccN = some ⟨h1N, h2N, .cell (some (.ref ebn)), h3N⟩)
    (hbN : ∀ x v : Value, bindArgs (ksFn "__init__" quN (xA "value" u1N u2N) (xB "value" txN v1N v2N v3N v4N v5N v6N v7N v8N v9N v10N) (xS "value") .none .none xcN xmN xnN (.ref caN) xtN ccN) ⟨[x, v], []⟩ = pure [(PySem.Str.ofString "self", x), ("value", v)])
    (hvN : ∃ pl : Sem Bool, ∀ env : Env, eval (.Call (.Attribute (.Call (.Name "super" v1N) [] [] v2N) "__init__" v3N) [.Constant (.str txN) 0 v4N] [] v5N) env = (do
      let ov ← attributeBase (.Call (.Name "super" v1N) [] [] v2N) "__init__" env (eval (.Call (.Name "super" v1N) [] [] v2N) env)
      standAt v3N.atName
      let (f, first) ← holding [ov] (getMethod ov "__init__" pl)
      callWith v5N f first (backTo v5N (starEach [.Constant (.str txN) 0 v4N] env)) []))
    (hxH : K.lookup ehd = some (excClassObj nmH qH ehd NH bsH bmH true snH subH abH colH ddH k0H k1H k2H k3H k5H "ValueError.__new__"))
    (hyH : refsVE bmH = true)
    (hzH : findIn K (.ref ehd) "__init__" = some (some (.ref fiH)))
    (hwH : K.lookup fiH = some ⟨xoH, xdH, .func (ksFn "__init__" quH (xA "value" u1H u2H) (xB "value" txH v1H v2H v3H v4H v5H v6H v7H v8H v9H v10H) (xS "value") .none .none xcH xmH xnH (.ref caH) xtH ccH), xlH⟩)
    (hoH : codeIn K (.ref caH) quH = true)
    (hpH : K.lookup caH = some ⟨g1H, g2H, .fields g3H, g4H⟩)
    (hqHf : g3H[2]? = some (.str fi2H g5H))
    (hsH : ((l.prog.main.file : Str) == fi2H) = true)
    (htH : K.lookup ccH = some ⟨h1H, h2H, .cell (some (.ref ehd)), h3H⟩)
    (hbH : ∀ x v : Value, bindArgs (ksFn "__init__" quH (xA "value" u1H u2H) (xB "value" txH v1H v2H v3H v4H v5H v6H v7H v8H v9H v10H) (xS "value") .none .none xcH xmH xnH (.ref caH) xtH ccH) ⟨[x, v], []⟩ = pure [(PySem.Str.ofString "self", x), ("value", v)])
    (hvH : ∃ pl : Sem Bool, ∀ env : Env, eval (.Call (.Attribute (.Call (.Name "super" v1H) [] [] v2H) "__init__" v3H) [.Constant (.str txH) 0 v4H] [] v5H) env = (do
      let ov ← attributeBase (.Call (.Name "super" v1H) [] [] v2H) "__init__" env (eval (.Call (.Name "super" v1H) [] [] v2H) env)
      standAt v3H.atName
      let (f, first) ← holding [ov] (getMethod ov "__init__" pl)
      callWith v5H f first (backTo v5H (starEach [.Constant (.str txH) 0 v4H] env)) []))
    (hxO : K.lookup csh = some (excClassObj nmO qO csh NO bsO bmO hdO snO subO abO colO ddO k0O k1O k2O k3O k5O nwO))
    (hyO : bmO.contains (.type "object") = true)
    (bBn : (bnB K) = true)
    (bCst : (cstB K) = true)
    (bSh : (shB K csh) = true)
    (bTr : (trB K ctr) = true)
    (bEc : (ecB K ⟨epe, etg, ebs, ebc, ebf, ebt, ebn, eun, ehd⟩) = true)
    (bXS : (extB K ebs fiS "place") = true)
    (bXN : (extB K ebn fiN "value") = true)
    (bXH : (extB K ehd fiH "value") = true)
    (bP : (!((l.prog.main.scope.names.lookup ("super" : Str)).isSome)) = true)
    (bL : (lamB K ts cdd54 cdd56 cdd57 cdd58) = true)
    : LawG l w K 40 63 "script" mg g h := by
  have B := bn_of X G bBn
  have Z := cst_of X G bCst
  have TS := sh_of (mg_of X G ash) bSh
  have TR := tr_of (mg := mg) bTr
  have EC : EcOk K mg ⟨epe, etg, ebs, ebc, ebf, ebt, ebn, eun, ehd⟩ := ec_of (mg_of X G ape) (mg_of X G atg) (mg_of X G abs) (mg_of X G abc) (mg_of X G abf) (mg_of X G abt) (mg_of X G abn) (mg_of X G aun) (mg_of X G ahd) bEc
  have eS : ExTxt l.prog K mg "BadScript" "place" ebs fiS := ext_of (mg_of X G abs) ⟨_, _, _, _, _, _, _, _, _, _, _, _, _, _, _, hxS, hyS⟩ bXS B.super bP ⟨by decide, by decide, by decide, by decide⟩ hzS ⟨_, _, _, _, _, _, _, _, _, _, _, _, _, _, _, _, _, _, _, _, _, _, _, hwS, hoS, ⟨_, _, _, _, _, _, hpS, hqSf, hsS⟩, ⟨_, _, _, htS⟩, hbS, hvS⟩
  have eN : ExTxt l.prog K mg "BadNumber" "value" ebn fiN := ext_of (mg_of X G abn) ⟨_, _, _, _, _, _, _, _, _, _, _, _, _, _, _, hxN, hyN⟩ bXN B.super bP ⟨by decide, by decide, by decide, by decide⟩ hzN ⟨_, _, _, _, _, _, _, _, _, _, _, _, _, _, _, _, _, _, _, _, _, _, _, hwN, hoN, ⟨_, _, _, _, _, _, hpN, hqNf, hsN⟩, ⟨_, _, _, htN⟩, hbN, hvN⟩
  have eH : ExTxt l.prog K mg "Held" "value" ehd fiH := ext_of (mg_of X G ahd) ⟨_, _, _, _, _, _, _, _, _, _, _, _, _, _, _, hxH, hyH⟩ bXH B.super bP ⟨by decide, by decide, by decide, by decide⟩ hzH ⟨_, _, _, _, _, _, _, _, _, _, _, _, _, _, _, _, _, _, _, _, _, _, _, hwH, hoH, ⟨_, _, _, _, _, _, hpH, hqHf, hsH⟩, ⟨_, _, _, htH⟩, hbH, hvH⟩
  have D14 : DefAt K mg "is_name" (top 14) ["value"] := def_mk X G ad14 ld14 cd14 kd14 (fun us hl => match us, hl with | [_], _ => rfl)
  have D15 : DefAt K mg "are_rising" (top 15) ["row"] := def_mk X G ad15 ld15 cd15 kd15 (fun us hl => match us, hl with | [_], _ => rfl)
  have D16 : DefAt K mg "are_names" (top 16) ["value"] := def_mk X G ad16 ld16 cd16 kd16 (fun us hl => match us, hl with | [_], _ => rfl)
  have D17 : DefAt K mg "is_pair" (top 17) ["names", "value"] := def_mk X G ad17 ld17 cd17 kd17 (fun us hl => match us, hl with | [_, _], _ => rfl)
  have D18 : DefAt K mg "need_field" (top 18) ["field"] := def_mk X G ad18 ld18 cd18 kd18 (fun us hl => match us, hl with | [_], _ => rfl)
  have D19 : DefAt K mg "are_apart" (top 19) ["field", "one", "other"] := def_mk X G ad19 ld19 cd19 kd19 (fun us hl => match us, hl with | [_, _, _], _ => rfl)
  have D23 : DefAt K mg "is_times" (top 23) ["value"] := def_mk X G ad23 ld23 cd23 kd23 (fun us hl => match us, hl with | [_], _ => rfl)
  have D24 : DefAt K mg "is_step" (top 24) ["names", "value"] := def_mk X G ad24 ld24 cd24 kd24 (fun us hl => match us, hl with | [_, _], _ => rfl)
  have D25 : DefAt K mg "meeting" (top 25) ["field", "steps", "name"] := def_mk X G ad25 ld25 cd25 kd25 (fun us hl => match us, hl with | [_, _, _], _ => rfl)
  have D26 : DefAt K mg "push" (top 26) ["field", "steps", "step"] := def_mk X G ad26 ld26 cd26 kd26 (fun us hl => match us, hl with | [_, _, _], _ => rfl)
  have D27 : DefAt K mg "piled" (top 27) ["field", "steps"] := def_mk X G ad27 ld27 cd27 kd27 (fun us hl => match us, hl with | [_, _], _ => rfl)
  have D28 : DefAt K mg "first_places" (top 28) ["field", "steps"] := def_mk X G ad28 ld28 cd28 kd28 (fun us hl => match us, hl with | [_, _], _ => rfl)
  have D29 : DefAt K mg "arranged" (top 29) ["field", "steps"] := def_mk X G ad29 ld29 cd29 kd29 (fun us hl => match us, hl with | [_, _], _ => rfl)
  have D30 : DefAt K mg "least_in" (top 30) ["field", "steps"] := def_mk X G ad30 ld30 cd30 kd30 (fun us hl => match us, hl with | [_, _], _ => rfl)
  have D32 : DefAt K mg "under" (top 32) ["manager", "deed"] := def_mk X G ad32 ld32 cd32 kd32 (fun us hl => match us, hl with | [_, _], _ => rfl)
  have D36 : DefAt K mg "_law_mixed" (top 36) ["cell", "n"] := def_mk X G ad36 ld36 cd36 kd36 (fun us hl => match us, hl with | [_, _], _ => rfl)
  have D37 : DefAt K mg "_law_folded" (top 37) ["script"] := def_mk X G ad37 ld37 cd37 kd37 (fun us hl => match us, hl with | [_], _ => rfl)
  have D38 : DefAt K mg "_law_draw" (top 38) ["m", "limit"] := def_mk X G ad38 ld38 cd38 kd38 (fun us hl => match us, hl with | [_, _], _ => rfl)
  have D39 : DefAt K mg "_law_begun" (top 39) ["script"] := def_mk X G ad39 ld39 cd39 kd39 (fun us hl => match us, hl with | [_], _ => rfl)
  have D40 : DefAt K mg "_law_like" (top 40) ["answer", "due"] := def_mk X G ad40 ld40 cd40 kd40 (fun us hl => match us, hl with | [_, _], _ => rfl)
  have D41 : DefAt K mg "_law_field" (top 41) ["m", "most"] := def_mk X G ad41 ld41 cd41 kd41 (fun us hl => match us, hl with | [_, _], _ => rfl)
  have D42 : DefAt K mg "_law_apart" (top 42) ["field", "one", "other"] := def_mk X G ad42 ld42 cd42 kd42 (fun us hl => match us, hl with | [_, _, _], _ => rfl)
  have D43 : DefAt K mg "_law_meet" (top 43) ["field", "steps"] := def_mk X G ad43 ld43 cd43 kd43 (fun us hl => match us, hl with | [_, _], _ => rfl)
  have D44 : DefAt K mg "_law_pile" (top 44) ["field", "steps"] := def_mk X G ad44 ld44 cd44 kd44 (fun us hl => match us, hl with | [_, _], _ => rfl)
  have D45 : DefAt K mg "_law_firsts" (top 45) ["field", "steps"] := def_mk X G ad45 ld45 cd45 kd45 (fun us hl => match us, hl with | [_, _], _ => rfl)
  have D46 : DefAt K mg "_law_least" (top 46) ["field", "steps"] := def_mk X G ad46 ld46 cd46 kd46 (fun us hl => match us, hl with | [_, _], _ => rfl)
  have D47 : DefAt K mg "_law_said" (top 47) ["call"] := def_mk X G ad47 ld47 cd47 kd47 (fun us hl => match us, hl with | [_], _ => rfl)
  have D48 : DefAt K mg "_law_own" (top 48) ["field"] := def_mk X G ad48 ld48 cd48 kd48 (fun us hl => match us, hl with | [_], _ => rfl)
  have D49 : DefAt K mg "_law_held" (top 49) ["own", "number"] := def_mk X G ad49 ld49 cd49 kd49 (fun us hl => match us, hl with | [_, _], _ => rfl)
  have D50 : DefAt K mg "_law_kept" (top 50) ["own", "now"] := def_mk X G ad50 ld50 cd50 kd50 (fun us hl => match us, hl with | [_, _], _ => rfl)
  have D51 : DefAt K mg "_law_without" (top 51) ["own", "numbers"] := def_mk X G ad51 ld51 cd51 kd51 (fun us hl => match us, hl with | [_, _], _ => rfl)
  have D52 : DefAt K mg "_law_shift" (top 52) ["own", "begin", "goal"] := def_mk X G ad52 ld52 cd52 kd52 (fun us hl => match us, hl with | [_, _, _], _ => rfl)
  have D53 : DefAt K mg "_law_stands" (top 53) ["sheet", "own"] := def_mk X G ad53 ld53 cd53 kd53 (fun us hl => match us, hl with | [_, _], _ => rfl)
  have D54 : DefAt K mg "_law_step" (top 54) ["m", "sheet", "own"] := def_mk X G ad54 ld54 cd54 kd54 (fun us hl => match us, hl with | [_, _, _], _ => rfl)
  have D55 : DefAt K mg "_law_within" (top 55) ["m", "sheet", "held", "own", "deep"] := def_mk X G ad55 ld55 cd55 kd55 (fun us hl => match us, hl with | [_, _, _, _, _], _ => rfl)
  have D56 : DefAt K mg "_law_tried" (top 56) ["m", "sheet", "own", "deep"] := def_mk X G ad56 ld56 cd56 kd56 (fun us hl => match us, hl with | [_, _, _, _], _ => rfl)
  have D57 : DefAt K mg "_law_later_right" (top 57) ["sheet", "own"] := def_mk X G ad57 ld57 cd57 kd57 (fun us hl => match us, hl with | [_, _], _ => rfl)
  have D58 : DefAt K mg "law" (top 58) ["script"] := def_mk X G ad58 ld58 cd58 kd58 (fun us hl => match us, hl with | [_], _ => rfl)
  have M0 : MakeX K csh "Sheet.__init__" (mth 0) ["self", "field"] := ⟨⟨_, _, fun_mk lm0 cm0 km0, ⟨mkm0, am0, im0, kkm0⟩, ((fun_mk lm0 cm0 km0).binds (ps := ["self", "field"]) fun _ _ _ _ _ _ us hl => match us, hl with | [_, _], _ => rfl)⟩⟩
  have M1 : PropX K csh "field" "Sheet.field" (mth 1) ["self"] := ⟨⟨_, _, _, fun_mk lm1 cm1 km1, ⟨am1, gm1, tm1, ⟨_, rm1e⟩⟩, ((fun_mk lm1 cm1 km1).binds (ps := ["self"]) fun _ _ _ _ _ _ us hl => match us, hl with | [_], _ => rfl)⟩⟩
  have M2 : PropX K csh "row" "Sheet.row" (mth 2) ["self"] := ⟨⟨_, _, _, fun_mk lm2 cm2 km2, ⟨am2, gm2, tm2, ⟨_, rm2e⟩⟩, ((fun_mk lm2 cm2 km2).binds (ps := ["self"]) fun _ _ _ _ _ _ us hl => match us, hl with | [_], _ => rfl)⟩⟩
  have M3 : PropX K csh "steps" "Sheet.steps" (mth 3) ["self"] := ⟨⟨_, _, _, fun_mk lm3 cm3 km3, ⟨am3, gm3, tm3, ⟨_, rm3e⟩⟩, ((fun_mk lm3 cm3 km3).binds (ps := ["self"]) fun _ _ _ _ _ _ us hl => match us, hl with | [_], _ => rfl)⟩⟩
  have M4 : MethX K csh "least" "Sheet.least" (mth 4) ["self"] := ⟨⟨_, _, fun_mk lm4 cm4 km4, ⟨am4, im4, km4⟩, ((fun_mk lm4 cm4 km4).binds (ps := ["self"]) fun _ _ _ _ _ _ us hl => match us, hl with | [_], _ => rfl)⟩⟩
  have M5 : SpecX K csh "__len__" "Sheet.__len__" (mth 5) ["self"] := ⟨⟨_, _, fun_mk lm5 cm5 km5, am5, im5, ((fun_mk lm5 cm5 km5).binds (ps := ["self"]) fun _ _ _ _ _ _ us hl => match us, hl with | [_], _ => rfl)⟩⟩
  have M7 : SpecX K csh "__contains__" "Sheet.__contains__" (mth 7) ["self", "number"] := ⟨⟨_, _, fun_mk lm7 cm7 km7, am7, im7, ((fun_mk lm7 cm7 km7).binds (ps := ["self", "number"]) fun _ _ _ _ _ _ us hl => match us, hl with | [_, _], _ => rfl)⟩⟩
  have M8 : SpecX K csh "__eq__" "Sheet.__eq__" (mth 8) ["self", "other"] := ⟨⟨_, _, fun_mk lm8 cm8 km8, am8, im8, ((fun_mk lm8 cm8 km8).binds (ps := ["self", "other"]) fun _ _ _ _ _ _ us hl => match us, hl with | [_, _], _ => rfl)⟩⟩
  have M9 : MethX K csh "is_number" "Sheet.is_number" (mth 9) ["self", "value"] := ⟨⟨_, _, fun_mk lm9 cm9 km9, ⟨am9, im9, km9⟩, ((fun_mk lm9 cm9 km9).binds (ps := ["self", "value"]) fun _ _ _ _ _ _ us hl => match us, hl with | [_, _], _ => rfl)⟩⟩
  have M10 : MethX K csh "need_number" "Sheet.need_number" (mth 10) ["self", "value"] := ⟨⟨_, _, fun_mk lm10 cm10 km10, ⟨am10, im10, km10⟩, ((fun_mk lm10 cm10 km10).binds (ps := ["self", "value"]) fun _ _ _ _ _ _ us hl => match us, hl with | [_, _], _ => rfl)⟩⟩
  have M11 : MethX K csh "change" "Sheet.change" (mth 11) ["self", "row", "fresh"] := ⟨⟨_, _, fun_mk lm11 cm11 km11, ⟨am11, im11, km11⟩, ((fun_mk lm11 cm11 km11).binds (ps := ["self", "row", "fresh"]) fun _ _ _ _ _ _ us hl => match us, hl with | [_, _, _], _ => rfl)⟩⟩
  have M12 : MethX K csh "do" "Sheet.do" (mth 12) ["self", "step"] := ⟨⟨_, _, fun_mk lm12 cm12 km12, ⟨am12, im12, km12⟩, ((fun_mk lm12 cm12 km12).binds (ps := ["self", "step"]) fun _ _ _ _ _ _ us hl => match us, hl with | [_, _], _ => rfl)⟩⟩
  have M13 : MethX K csh "holders" "Sheet.holders" (mth 13) ["self", "number"] := ⟨⟨_, _, fun_mk lm13 cm13 km13, ⟨am13, im13, km13⟩, ((fun_mk lm13 cm13 km13).binds (ps := ["self", "number"]) fun _ _ _ _ _ _ us hl => match us, hl with | [_, _], _ => rfl)⟩⟩
  have M14 : MethX K csh "ahead_of" "Sheet.ahead_of" (mth 14) ["self", "number"] := ⟨⟨_, _, fun_mk lm14 cm14 km14, ⟨am14, im14, km14⟩, ((fun_mk lm14 cm14 km14).binds (ps := ["self", "number"]) fun _ _ _ _ _ _ us hl => match us, hl with | [_, _], _ => rfl)⟩⟩
  have M15 : MethX K csh "free" "Sheet.free" (mth 15) ["self"] := ⟨⟨_, _, fun_mk lm15 cm15 km15, ⟨am15, im15, km15⟩, ((fun_mk lm15 cm15 km15).binds (ps := ["self"]) fun _ _ _ _ _ _ us hl => match us, hl with | [_], _ => rfl)⟩⟩
  have M16 : MethX K csh "take_back" "Sheet.take_back" (mth 16) ["self", "number"] := ⟨⟨_, _, fun_mk lm16 cm16 km16, ⟨am16, im16, km16⟩, ((fun_mk lm16 cm16 km16).binds (ps := ["self", "number"]) fun _ _ _ _ _ _ us hl => match us, hl with | [_, _], _ => rfl)⟩⟩
  have M17 : MethX K csh "take_all" "Sheet.take_all" (mth 17) ["self", "number"] := ⟨⟨_, _, fun_mk lm17 cm17 km17, ⟨am17, im17, km17⟩, ((fun_mk lm17 cm17 km17).binds (ps := ["self", "number"]) fun _ _ _ _ _ _ us hl => match us, hl with | [_, _], _ => rfl)⟩⟩
  have M18 : MethX K csh "undo" "Sheet.undo" (mth 18) ["self"] := ⟨⟨_, _, fun_mk lm18 cm18 km18, ⟨am18, im18, km18⟩, ((fun_mk lm18 cm18 km18).binds (ps := ["self"]) fun _ _ _ _ _ _ us hl => match us, hl with | [_], _ => rfl)⟩⟩
  have M19 : MethX K csh "redo" "Sheet.redo" (mth 19) ["self"] := ⟨⟨_, _, fun_mk lm19 cm19 km19, ⟨am19, im19, km19⟩, ((fun_mk lm19 cm19 km19).binds (ps := ["self"]) fun _ _ _ _ _ _ us hl => match us, hl with | [_], _ => rfl)⟩⟩
  have M20 : MethX K csh "copy" "Sheet.copy" (mth 20) ["self"] := ⟨⟨_, _, fun_mk lm20 cm20 km20, ⟨am20, im20, km20⟩, ((fun_mk lm20 cm20 km20).binds (ps := ["self"]) fun _ _ _ _ _ _ us hl => match us, hl with | [_], _ => rfl)⟩⟩
  have M21 : MethX K csh "trial" "Sheet.trial" (mth 21) ["self"] := ⟨⟨_, _, fun_mk lm21 cm21 km21, ⟨am21, im21, km21⟩, ((fun_mk lm21 cm21 km21).binds (ps := ["self"]) fun _ _ _ _ _ _ us hl => match us, hl with | [_], _ => rfl)⟩⟩
  have T0 : MakeX K ctr "Trial.__init__" (trm 0) ["self", "sheet"] := ⟨⟨_, _, fun_mk lt0 ct0 kt0, ⟨mkt0, at0, it0, kkt0⟩, ((fun_mk lt0 ct0 kt0).binds (ps := ["self", "sheet"]) fun _ _ _ _ _ _ us hl => match us, hl with | [_, _], _ => rfl)⟩⟩
  have T1 : SpecX K ctr "__enter__" "Trial.__enter__" (trm 1) ["self"] := ⟨⟨_, _, fun_mk lt1 ct1 kt1, at1, it1, ((fun_mk lt1 ct1 kt1).binds (ps := ["self"]) fun _ _ _ _ _ _ us hl => match us, hl with | [_], _ => rfl)⟩⟩
  have T2 : SpecX K ctr "__exit__" "Trial.__exit__" (trm 2) ["self", "kind", "value", "trace"] := ⟨⟨_, _, fun_mk lt2 ct2 kt2, at2, it2, ((fun_mk lt2 ct2 kt2).binds (ps := ["self", "kind", "value", "trace"]) fun _ _ _ _ _ _ us hl => match us, hl with | [_, _, _, _], _ => rfl)⟩⟩
  have TT : Tops l.prog K mg csh ctr ⟨epe, etg, ebs, ebc, ebf, ebt, ebn, eun, ehd⟩ := { bn := B, cst := Z, T := TS, R := TR, gT := mg_of X G atr, ec := EC, xS := ⟨_, eS⟩, xN := ⟨_, eN⟩, xH := ⟨_, eH⟩, d14 := D14, d15 := D15, d16 := D16, d17 := D17, d18 := D18, d19 := D19, d23 := D23, d24 := D24, d25 := D25, d26 := D26, d27 := D27, d28 := D28, d29 := D29, d30 := D30, d32 := D32, d36 := D36, d37 := D37, d38 := D38, d39 := D39, d40 := D40, d41 := D41, d42 := D42, d43 := D43, d44 := D44, d45 := D45, d46 := D46, d47 := D47, d48 := D48, d49 := D49, d50 := D50, d51 := D51, d52 := D52, d53 := D53, d54 := D54, d55 := D55, d56 := D56, d57 := D57, d58 := D58, m0 := M0, m1 := M1, m2 := M2, m3 := M3, m4 := M4, m5 := M5, m7 := M7, m8 := M8, m9 := M9, m10 := M10, m11 := M11, m12 := M12, m13 := M13, m14 := M14, m15 := M15, m16 := M16, m17 := M17, m18 := M18, m19 := M19, m20 := M20, m21 := M21, t0 := T0, t1 := T1, t2 := T2, ne := ⟨_, ⟨⟨_, _, _, _, _, _, _, _, _, _, _, _, _, _, _, _, _, hxO, hyO⟩, sh_ne bSh, am8, im8⟩⟩, nF := (sh_nf bSh).1, nT := (sh_nf bSh).2.1, nI := (sh_nf bSh).2.2 }
  have Y54 : LamD K mg "_law_step" cdd54 (tOf K cdd54) := lam_of (mg_of X G ad54) ld54 (lam_b1 bL)
  have Y56 : LamD K mg "_law_tried" cdd56 (tOf K cdd56) := lam_of (mg_of X G ad56) ld56 (lam_b2 bL)
  have Y57 : LamD K mg "_law_later_right" cdd57 (tOf K cdd57) := lam_of (mg_of X G ad57) ld57 (lam_b3 bL)
  have Y58 : LamD K mg "law" cdd58 (tOf K cdd58) := lam_of (mg_of X G ad58) ld58 (lam_b4 bL)
  exact law_at X hg TT Y54 Y56 Y57 Y58 (fun t ht => tabs t (lam_ts bL t ht)) (lam_ne bL)
end K95
open PySem PySem.W PyProof.Rows
set_option maxRecDepth 100000 in
set_option maxHeartbeats 0 in
theorem PySem.Challenge.cw_deedpiles_k95_whole_trials_and_copies_holds : PySem.Challenge.rw_deedpiles_k95_whole_trials_and_copies.Holds := by
  w_on; o_law; k_head; (case hw => w_witness2)
  k_fill
  refine K95.walk_ofG (l := PySem.Challenge.rw_deedpiles_k95_whole_trials_and_copies) (n := 63) (k := 40) (y := "script") rfl (by decide) rfl ⟨rfl, by decide, by decide⟩ (fun w h Y => PySem.W.km_in_of Y) ?F
  case F =>
    intro w mg g h Y KX G hmg
    have tabs := PySem.W.km_tabs_of Y
    refine' K95.fin KX G hmg (fun t ht => tabs t ht) ?ash ?atr ?ape ?atg ?abs ?abc ?abf ?abt ?abn ?aun ?ahd ?ad14 ?ld14 ?cd14 ?kd14 ?ad15 ?ld15 ?cd15 ?kd15 ?ad16 ?ld16 ?cd16 ?kd16 ?ad17 ?ld17 ?cd17 ?kd17 ?ad18 ?ld18 ?cd18 ?kd18 ?ad19 ?ld19 ?cd19 ?kd19 ?ad23 ?ld23 ?cd23 ?kd23 ?ad24 ?ld24 ?cd24 ?kd24 ?ad25 ?ld25 ?cd25 ?kd25 ?ad26 ?ld26 ?cd26 ?kd26 ?ad27 ?ld27 ?cd27 ?kd27 ?ad28 ?ld28 ?cd28 ?kd28 ?ad29 ?ld29 ?cd29 ?kd29 ?ad30 ?ld30 ?cd30 ?kd30 ?ad32 ?ld32 ?cd32 ?kd32 ?ad36 ?ld36 ?cd36 ?kd36 ?ad37 ?ld37 ?cd37 ?kd37 ?ad38 ?ld38 ?cd38 ?kd38 ?ad39 ?ld39 ?cd39 ?kd39 ?ad40 ?ld40 ?cd40 ?kd40 ?ad41 ?ld41 ?cd41 ?kd41 ?ad42 ?ld42 ?cd42 ?kd42 ?ad43 ?ld43 ?cd43 ?kd43 ?ad44 ?ld44 ?cd44 ?kd44 ?ad45 ?ld45 ?cd45 ?kd45 ?ad46 ?ld46 ?cd46 ?kd46 ?ad47 ?ld47 ?cd47 ?kd47 ?ad48 ?ld48 ?cd48 ?kd48 ?ad49 ?ld49 ?cd49 ?kd49 ?ad50 ?ld50 ?cd50 ?kd50 ?ad51 ?ld51 ?cd51 ?kd51 ?ad52 ?ld52 ?cd52 ?kd52 ?ad53 ?ld53 ?cd53 ?kd53 ?ad54 ?ld54 ?cd54 ?kd54 ?ad55 ?ld55 ?cd55 ?kd55 ?ad56 ?ld56 ?cd56 ?kd56 ?ad57 ?ld57 ?cd57 ?kd57 ?ad58 ?ld58 ?cd58 ?kd58 ?am0 ?im0 ?lm0 ?cm0 ?km0 ?mkm0 ?kkm0 ?am1 ?rm1e ?gm1 ?tm1 ?lm1 ?cm1 ?km1 ?am2 ?rm2e ?gm2 ?tm2 ?lm2 ?cm2 ?km2 ?am3 ?rm3e ?gm3 ?tm3 ?lm3 ?cm3 ?km3 ?am4 ?im4 ?lm4 ?cm4 ?km4 ?am5 ?im5 ?lm5 ?cm5 ?km5 ?am7 ?im7 ?lm7 ?cm7 ?km7 ?am8 ?im8 ?lm8 ?cm8 ?km8 ?am9 ?im9 ?lm9 ?cm9 ?km9 ?am10 ?im10 ?lm10 ?cm10 ?km10 ?am11 ?im11 ?lm11 ?cm11 ?km11 ?am12 ?im12 ?lm12 ?cm12 ?km12 ?am13 ?im13 ?lm13 ?cm13 ?km13 ?am14 ?im14 ?lm14 ?cm14 ?km14 ?am15 ?im15 ?lm15 ?cm15 ?km15 ?am16 ?im16 ?lm16 ?cm16 ?km16 ?am17 ?im17 ?lm17 ?cm17 ?km17 ?am18 ?im18 ?lm18 ?cm18 ?km18 ?am19 ?im19 ?lm19 ?cm19 ?km19 ?am20 ?im20 ?lm20 ?cm20 ?km20 ?am21 ?im21 ?lm21 ?cm21 ?km21 ?at0 ?it0 ?lt0 ?ct0 ?kt0 ?mkt0 ?kkt0 ?at1 ?it1 ?lt1 ?ct1 ?kt1 ?at2 ?it2 ?lt2 ?ct2 ?kt2 ?hxS ?hyS ?hzS ?hwS ?hoS ?hpS ?hqSf ?hsS ?htS ?hbS ?hvS ?hxN ?hyN ?hzN ?hwN ?hoN ?hpN ?hqNf ?hsN ?htN ?hbN ?hvN ?hxH ?hyH ?hzH ?hwH ?hoH ?hpH ?hqHf ?hsH ?htH ?hbH ?hvH ?hxO ?hyO ?bBn ?bCst ?bSh ?bTr ?bEc ?bXS ?bXN ?bXH ?bP ?bL
    (case ash => k_is)
    (case atr => k_is)
    (case ape => k_is)
    (case atg => k_is)
    (case abs => k_is)
    (case abc => k_is)
    (case abf => k_is)
    (case abt => k_is)
    (case abn => k_is)
    (case aun => k_is)
    (case ahd => k_is)
    (case ad14 => k_is)
    (case ld14 => k_is)
    (case cd14 => k_is)
    (case kd14 => k_is)
    (case ad15 => k_is)
    (case ld15 => k_is)
    (case cd15 => k_is)
    (case kd15 => k_is)
    (case ad16 => k_is)
    (case ld16 => k_is)
    (case cd16 => k_is)
    (case kd16 => k_is)
    (case ad17 => k_is)
    (case ld17 => k_is)
    (case cd17 => k_is)
    (case kd17 => k_is)
    (case ad18 => k_is)
    (case ld18 => k_is)
    (case cd18 => k_is)
    (case kd18 => k_is)
    (case ad19 => k_is)
    (case ld19 => k_is)
    (case cd19 => k_is)
    (case kd19 => k_is)
    (case ad23 => k_is)
    (case ld23 => k_is)
    (case cd23 => k_is)
    (case kd23 => k_is)
    (case ad24 => k_is)
    (case ld24 => k_is)
    (case cd24 => k_is)
    (case kd24 => k_is)
    (case ad25 => k_is)
    (case ld25 => k_is)
    (case cd25 => k_is)
    (case kd25 => k_is)
    (case ad26 => k_is)
    (case ld26 => k_is)
    (case cd26 => k_is)
    (case kd26 => k_is)
    (case ad27 => k_is)
    (case ld27 => k_is)
    (case cd27 => k_is)
    (case kd27 => k_is)
    (case ad28 => k_is)
    (case ld28 => k_is)
    (case cd28 => k_is)
    (case kd28 => k_is)
    (case ad29 => k_is)
    (case ld29 => k_is)
    (case cd29 => k_is)
    (case kd29 => k_is)
    (case ad30 => k_is)
    (case ld30 => k_is)
    (case cd30 => k_is)
    (case kd30 => k_is)
    (case ad32 => k_is)
    (case ld32 => k_is)
    (case cd32 => k_is)
    (case kd32 => k_is)
    (case ad36 => k_is)
    (case ld36 => k_is)
    (case cd36 => k_is)
    (case kd36 => k_is)
    (case ad37 => k_is)
    (case ld37 => k_is)
    (case cd37 => k_is)
    (case kd37 => k_is)
    (case ad38 => k_is)
    (case ld38 => k_is)
    (case cd38 => k_is)
    (case kd38 => k_is)
    (case ad39 => k_is)
    (case ld39 => k_is)
    (case cd39 => k_is)
    (case kd39 => k_is)
    (case ad40 => k_is)
    (case ld40 => k_is)
    (case cd40 => k_is)
    (case kd40 => k_is)
    (case ad41 => k_is)
    (case ld41 => k_is)
    (case cd41 => k_is)
    (case kd41 => k_is)
    (case ad42 => k_is)
    (case ld42 => k_is)
    (case cd42 => k_is)
    (case kd42 => k_is)
    (case ad43 => k_is)
    (case ld43 => k_is)
    (case cd43 => k_is)
    (case kd43 => k_is)
    (case ad44 => k_is)
    (case ld44 => k_is)
    (case cd44 => k_is)
    (case kd44 => k_is)
    (case ad45 => k_is)
    (case ld45 => k_is)
    (case cd45 => k_is)
    (case kd45 => k_is)
    (case ad46 => k_is)
    (case ld46 => k_is)
    (case cd46 => k_is)
    (case kd46 => k_is)
    (case ad47 => k_is)
    (case ld47 => k_is)
    (case cd47 => k_is)
    (case kd47 => k_is)
    (case ad48 => k_is)
    (case ld48 => k_is)
    (case cd48 => k_is)
    (case kd48 => k_is)
    (case ad49 => k_is)
    (case ld49 => k_is)
    (case cd49 => k_is)
    (case kd49 => k_is)
    (case ad50 => k_is)
    (case ld50 => k_is)
    (case cd50 => k_is)
    (case kd50 => k_is)
    (case ad51 => k_is)
    (case ld51 => k_is)
    (case cd51 => k_is)
    (case kd51 => k_is)
    (case ad52 => k_is)
    (case ld52 => k_is)
    (case cd52 => k_is)
    (case kd52 => k_is)
    (case ad53 => k_is)
    (case ld53 => k_is)
    (case cd53 => k_is)
    (case kd53 => k_is)
    (case ad54 => k_is)
    (case ld54 => k_is)
    (case cd54 => k_is)
    (case kd54 => k_is)
    (case ad55 => k_is)
    (case ld55 => k_is)
    (case cd55 => k_is)
    (case kd55 => k_is)
    (case ad56 => k_is)
    (case ld56 => k_is)
    (case cd56 => k_is)
    (case kd56 => k_is)
    (case ad57 => k_is)
    (case ld57 => k_is)
    (case cd57 => k_is)
    (case kd57 => k_is)
    (case ad58 => k_is)
    (case ld58 => k_is)
    (case cd58 => k_is)
    (case kd58 => k_is)
    (case am0 => k_is)
    (case im0 => k_is)
    (case lm0 => k_is)
    (case cm0 => k_is)
    (case km0 => k_is)
    (case mkm0 => k_is)
    (case kkm0 => k_is)
    (case am1 => k_is)
    (case rm1e => k_is)
    (case gm1 => k_is)
    (case tm1 => k_is)
    (case lm1 => k_is)
    (case cm1 => k_is)
    (case km1 => k_is)
    (case am2 => k_is)
    (case rm2e => k_is)
    (case gm2 => k_is)
    (case tm2 => k_is)
    (case lm2 => k_is)
    (case cm2 => k_is)
    (case km2 => k_is)
    (case am3 => k_is)
    (case rm3e => k_is)
    (case gm3 => k_is)
    (case tm3 => k_is)
    (case lm3 => k_is)
    (case cm3 => k_is)
    (case km3 => k_is)
    (case am4 => k_is)
    (case im4 => k_is)
    (case lm4 => k_is)
    (case cm4 => k_is)
    (case km4 => k_is)
    (case am5 => k_is)
    (case im5 => k_is)
    (case lm5 => k_is)
    (case cm5 => k_is)
    (case km5 => k_is)
    (case am7 => k_is)
    (case im7 => k_is)
    (case lm7 => k_is)
    (case cm7 => k_is)
    (case km7 => k_is)
    (case am8 => k_is)
    (case im8 => k_is)
    (case lm8 => k_is)
    (case cm8 => k_is)
    (case km8 => k_is)
    (case am9 => k_is)
    (case im9 => k_is)
    (case lm9 => k_is)
    (case cm9 => k_is)
    (case km9 => k_is)
    (case am10 => k_is)
    (case im10 => k_is)
    (case lm10 => k_is)
    (case cm10 => k_is)
    (case km10 => k_is)
    (case am11 => k_is)
    (case im11 => k_is)
    (case lm11 => k_is)
    (case cm11 => k_is)
    (case km11 => k_is)
    (case am12 => k_is)
    (case im12 => k_is)
    (case lm12 => k_is)
    (case cm12 => k_is)
    (case km12 => k_is)
    (case am13 => k_is)
    (case im13 => k_is)
    (case lm13 => k_is)
    (case cm13 => k_is)
    (case km13 => k_is)
    (case am14 => k_is)
    (case im14 => k_is)
    (case lm14 => k_is)
    (case cm14 => k_is)
    (case km14 => k_is)
    (case am15 => k_is)
    (case im15 => k_is)
    (case lm15 => k_is)
    (case cm15 => k_is)
    (case km15 => k_is)
    (case am16 => k_is)
    (case im16 => k_is)
    (case lm16 => k_is)
    (case cm16 => k_is)
    (case km16 => k_is)
    (case am17 => k_is)
    (case im17 => k_is)
    (case lm17 => k_is)
    (case cm17 => k_is)
    (case km17 => k_is)
    (case am18 => k_is)
    (case im18 => k_is)
    (case lm18 => k_is)
    (case cm18 => k_is)
    (case km18 => k_is)
    (case am19 => k_is)
    (case im19 => k_is)
    (case lm19 => k_is)
    (case cm19 => k_is)
    (case km19 => k_is)
    (case am20 => k_is)
    (case im20 => k_is)
    (case lm20 => k_is)
    (case cm20 => k_is)
    (case km20 => k_is)
    (case am21 => k_is)
    (case im21 => k_is)
    (case lm21 => k_is)
    (case cm21 => k_is)
    (case km21 => k_is)
    (case at0 => k_is)
    (case it0 => k_is)
    (case lt0 => k_is)
    (case ct0 => k_is)
    (case kt0 => k_is)
    (case mkt0 => k_is)
    (case kkt0 => k_is)
    (case at1 => k_is)
    (case it1 => k_is)
    (case lt1 => k_is)
    (case ct1 => k_is)
    (case kt1 => k_is)
    (case at2 => k_is)
    (case it2 => k_is)
    (case lt2 => k_is)
    (case ct2 => k_is)
    (case kt2 => k_is)
    (case hxS => k_is)
    (case hyS => decide +kernel)
    (case hzS => k_is)
    (case hwS => k_is)
    (case hoS => k_is)
    (case hpS => k_is)
    (case hqSf => rfl)
    (case hsS => kernel_rfl)
    (case htS => k_is)
    (case hbS => exact fun _ _ => rfl)
    (case hvS => exact ⟨_, fun _ => rfl⟩)
    (case hxN => k_is)
    (case hyN => decide +kernel)
    (case hzN => k_is)
    (case hwN => k_is)
    (case hoN => k_is)
    (case hpN => k_is)
    (case hqNf => rfl)
    (case hsN => kernel_rfl)
    (case htN => k_is)
    (case hbN => exact fun _ _ => rfl)
    (case hvN => exact ⟨_, fun _ => rfl⟩)
    (case hxH => k_is)
    (case hyH => decide +kernel)
    (case hzH => k_is)
    (case hwH => k_is)
    (case hoH => k_is)
    (case hpH => k_is)
    (case hqHf => rfl)
    (case hsH => kernel_rfl)
    (case htH => k_is)
    (case hbH => exact fun _ _ => rfl)
    (case hvH => exact ⟨_, fun _ => rfl⟩)
    (case hxO => k_is)
    (case hyO => decide +kernel)
    (case bBn => kernel_rfl)
    (case bCst => kernel_rfl)
    (case bSh => kernel_rfl)
    (case bTr => kernel_rfl)
    (case bEc => kernel_rfl)
    (case bXS => kernel_rfl)
    (case bXN => kernel_rfl)
    (case bXH => kernel_rfl)
    (case bP => kernel_rfl)
    (case bL => kernel_rfl)
