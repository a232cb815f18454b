import PyProof.Rows.All
import Wide.All
import OpenK.AllK
import Wide.FinOn
import KE.KLam
import HandS.ForMost
import HandS.Exc
import HandS.Codes
import HandS.Lambda
import PyProof.CodeObjX
import HandS.HotCalls
import KE.KWithOwn
import HandS.Finally
import HandS.RaiseOp
import HandS.TryMany
import HandS.ExcBuiltin
import KE.KDictZip
import KE.KDictList
import HandS.Zip0
import HandS.Zip
import HandS.DictComp
import HandS.Flow
import HandS.Wide
import HandS.Style
import HandS.Property
import HandS.Star
import HandS.MethStar
import HandS.ClsMeth
import HandS.More
import HandS.TupAny
import PySem.Challenge.RW_rotatedlogs_k00_pins_that_end_by_other_e
import HandS.IsInst
import PyProof.StrBlock2
import HandS.WordsExc
import HandS.EndTab
set_option Elab.async false
set_option linter.all false
set_option maxRecDepth 100000
set_option maxHeartbeats 4000000
/-! Lambdas handed to other defs: made anywhere (within another lambda, too), with one parameter or none. -/
namespace Lm
open PySem PySem.Spec PyProof.Rows L2
/-! ### code objects and their tables -/
/-- the object at c is a code object of the name q, its table stands at P -/
def CodeN (c : Addr) (q : Str) (P : Addr) : HO := .ext fun h => h.CodeRec (.ref c) q ∧ PySem.W.CodeHd h c P
theorem codeN_ne {c P : Addr} {q : Str} (ps : Array Value) : CodeN c q P ≠ .tbl ps := fun z => by
  unfold CodeN at z
  cases z
/-- which tables there are: under each address the names of the code objects in it, in the tables of those, .. -/
abbrev TMap := Addr → Option (List Str)
def TabAt (T : TMap) (H : Hp) (q : Str) (qs : List Str) (ps : Array Value) : Prop := TriplesOk ps.toList ∧ ∀ (pos : Pos) (cv : Value), codeAmong pos ps.toList = some cv → ∃ c P, cv = .ref c ∧ H c = some (CodeN c q P) ∧ T P = some qs
def TabsX (T : TMap) (H : Hp) : Prop := ∀ P l, T P = some l → ∃ ps, H P = some (.tbl ps) ∧ ∀ q qs, l = q :: qs → TabAt T H q qs ps
def Sub (T T' : TMap) : Prop := ∀ P l, T P = some l → T' P = some l
theorem Sub.refl (T : TMap) : Sub T T := fun _ _ h => h
theorem Sub.trans {T T1 T2 : TMap} (a : Sub T T1) (b : Sub T1 T2) : Sub T T2 := fun P l h => b P l (a P l h)
theorem TabsX.same {T : TMap} {H H' : Hp} (t : TabsX T H) (e : ∀ b o, H b = some o → H' b = some o) : TabsX T H' := fun P l h => by
  obtain ⟨ps, h1, h2⟩ := t P l h
  refine ⟨ps, e _ _ h1, fun q qs el => ⟨(h2 q qs el).1, fun pos cv hc => ?_⟩⟩
  obtain ⟨c, P2, e1, e2, e3⟩ := (h2 q qs el).2 pos cv hc
  exact ⟨c, P2, e1, e _ _ e2, e3⟩
section
variable {M : Model} {A : Around} {E : Value → Shared → Prop} {s : Shared} {name qual : Str} {params : Arguments} {body : Expr} {scope : Scope} {env : Env} {c P : Addr} {ps : Array Value} {pos : Pos} {firstLine : Nat} {mg : Str → Option Value} {clos : List (Str × Addr)} {Q : Value → Shared → Prop}
open PySem.W in
/-- the making of a lambda whose code object is new: its own table is told, too -/
theorem lam_new (cl : closureFor scope env = pure clos) (gl : env.globals = mainGlobals) (ns : s.heap.Ns mainGlobals mg) (code : env.code = .ref c) (C : CodeHd s.heap c P) (hP : s.heap.get? P = some (tabObj ps)) (tr : TriplesOk ps.toList)
    (new : codeAmong pos ps.toList = none) (gP : mainGlobals ≠ P) (bm : s.heap.BuiltinsAt mg P)
    (h : ∀ c' P' ctv h' tk, Heap.ExtBut P s.heap h' → s.heap.objs.size ≤ c' → s.heap.objs.size ≤ P' → c' < h'.objs.size → P' < h'.objs.size → c' ≠ P' → h'.CodeRec (.ref c') qual → CodeHd h' c' P' → h'.get? P' = some (tabObj #[]) →
      h'.get? P = some (tabObj (ps ++ #[rawInt pos.line, rawInt pos.col, .ref c'])) → Q (.ref h'.objs.size) { s with heap := h'.push (kla_obj name qual params body scope clos ((mg "__name__").getD .none) c' ctv), toks := tk }) :
    wpAny M A (makeFunction name qual params (.expr body) scope env [] [] [] pos firstLine) Q E s := by
  rw [makeFunction_eq]
  simp only [List.zip_nil_right, List.filterMap_nil, List.isEmpty_nil, if_true, pure_bind]
  obtain ⟨b, ob, b1, b2, _, b3, b4, b5, b6, b7⟩ := bm
  unfold makeTail
  rw [cl, gl]
  refine wpAny_bind (wpAny_pure ?_)
  have fin : ∀ {c' : Addr} {h' : Heap}, (∃ P', s.heap.objs.size ≤ P' ∧ h'.IsCode c' P' #[] ∧ h'.TableAt c' P' #[]) → ∃ P', s.heap.objs.size ≤ P' ∧ c' ≠ P' ∧ CodeHd h' c' P' ∧ h'.get? P' = some (tabObj #[]) := fun ⟨P', g, i, t⟩ =>
    let ⟨_, _, _, _, _, _, _, _, _, _, _, _, _, _, _, _, _, _, _, _, n⟩ := id i
    ⟨P', g, n, CodeHd.of i t, t.2⟩
  cases clos with
  | nil =>
    simp only [List.isEmpty_nil, if_true]
    refine wpAny_bind (wpAny_pure (wpAny_bind (wpAny_functionCodeX code (C.code hP tr) (C.tab hP) new fun c' h' tk x g lt _ rec tab own => ?_)))
    obtain ⟨P', g1, g2, g3, g4⟩ := fin own
    have ns' := ns.extBut x gP
    exact wpAny_bind (wpAny_builtinsFor ns' b1 b2 (x _ _ b3 b4) b5 b6 b7 (wpAny_bind (wpAny_nsGet ns' (wpAny_bind (wpAny_pure (wpAny_newObj_type (h c' P' .none h' tk x g g1 lt (Heap.lt_size g4) g2 rec g3 g4 tab.2) (by size_fits)))))))
  | cons y r =>
    simp only [List.isEmpty_cons, Bool.false_eq_true, if_false]
    have up : ∀ (o : Obj) (a : Addr) (u : Obj), s.heap.get? a = some u → (s.heap.push o).get? a = some u := fun o a u e => Heap.get?_push_of_some _ e
    refine wpAny_bind (wpAny_newTextTuple (wpAny_bind (wpAny_functionCodeX code ((C.keeps (up _)).code (up _ _ _ hP) tr) ((C.keeps (up _)).tab (up _ _ _ hP)) new fun c' h' tk x g lt _ rec tab own => ?_)))
    have le : s.heap.objs.size ≤ (s.heap.push { cls := .type "tuple", data := .seq #[] }).objs.size := by rw [Heap.size_push]; omega
    obtain ⟨P', g1, i1, t1⟩ := own
    have n1 : c' ≠ P' := let ⟨_, _, _, _, _, _, _, _, _, _, _, _, _, _, _, _, _, _, _, _, n⟩ := id i1; n
    have x' : Heap.ExtBut P s.heap h' := fun a o n e => x a o n (up _ _ _ e)
    have ns' := (ns.push _).extBut x gP
    refine wpAny_bind (wpAny_builtinsFor ns' b1 b2 (x' _ _ b3 b4) b5 b6 b7 (wpAny_bind (wpAny_nsGet ns' (wpAny_bind (wpAny_pure (wpAny_newObj_type (h c' P' _ h' tk x' (Nat.le_trans ?_ g) (Nat.le_trans ?_ g1) lt (Heap.lt_size t1.2) n1 rec (CodeHd.of i1 t1) t1.2 tab.2) (by size_fits)))))))
    · rw [Heap.size_push]; omega
    · rw [Heap.size_push]; omega
end
theorem codeN_stay {c P : Addr} {q : Str} (h1 h2 : Heap) (x : h1.CodeRec (.ref c) q ∧ PySem.W.CodeHd h1 c P) (st : ∀ o, h1.get? c = some o → h2.get? c = some o) : h2.CodeRec (.ref c) q ∧ PySem.W.CodeHd h2 c P := by
  obtain ⟨⟨c2, oc, vs, t, e, g, r⟩, o, vs2, file, tf, flags, tg, inF, text, tt, g2, r2⟩ := x
  cases e
  exact ⟨⟨c, oc, vs, t, rfl, st _ g, r⟩, ⟨o, vs2, file, tf, flags, tg, inF, text, tt, st _ g2, r2⟩⟩
section
variable {X : Cx} {pins : List (Addr × Obj)} {σ : L2.St} {H : Hp} {s : Shared}
/-- a code object that is new, its empty table, and the table it is written into -/
abbrev newCodeH (H : Hp) (P c P' : Addr) (q : Str) (ps : Array Value) : Hp := upd (upd (upd H P (.tbl ps)) c (CodeN c q P')) P' (.tbl #[])
theorem inv_code {P c P' : Addr} {q : Str} {ps more : Array Value} {h' : Heap} {t' : Nat} (I : Inv X pins σ H s) (hP : H P = some (.tbl ps)) (old : ∀ b o, b ≠ P → s.heap.get? b = some o → h'.get? b = some o) (tab : h'.get? P = some { cls := .none, data := .fields (ps ++ more) })
    (gc : s.heap.objs.size ≤ c) (gP : s.heap.objs.size ≤ P') (n : c ≠ P') (rec : h'.CodeRec (.ref c) q) (hd : PySem.W.CodeHd h' c P') (own : h'.get? P' = some { cls := .none, data := .fields #[] }) :
    Inv X pins σ (newCodeH H P c P' q (ps ++ more)) { s with heap := h', toks := t' } := by
  have nc : H c = none := I.hok.fresh gc
  have nP : H P' = none := I.hok.fresh gP
  have Pc : P ≠ c := ne_of_none hP nc
  have PP : P ≠ P' := ne_of_none hP nP
  have els : ∀ b, b ≠ P → b ≠ c → b ≠ P' → newCodeH H P c P' q (ps ++ more) b = H b := fun b h1 h2 h3 => by unfold newCodeH; rw [upd_ne h3, upd_ne h2, upd_ne h1]
  have atP : newCodeH H P c P' q (ps ++ more) P = some (.tbl (ps ++ more)) := by unfold newCodeH; rw [upd_ne PP, upd_ne Pc, upd_same]
  have atc : newCodeH H P c P' q (ps ++ more) c = some (CodeN c q P') := by unfold newCodeH; rw [upd_ne n, upd_same]
  have notP : ∀ b u, H b = some u → (∀ r, u ≠ .tbl r) → b ≠ P := fun b u e r z => r ps (Option.some.inj (e.symm.trans (by rw [z]; exact hP)))
  have untr : ∀ b, H b = none → b ≠ P := fun b e z => by rw [z, hP] at e; cases e
  have lt : ∀ b o, s.heap.get? b = some o → b ≠ c ∧ b ≠ P' := fun b o e => ⟨fun z => Nat.lt_irrefl _ (Nat.lt_of_lt_of_le (Heap.lt_size (z ▸ e)) gc), fun z => Nat.lt_irrefl _ (Nat.lt_of_lt_of_le (Heap.lt_size (z ▸ e)) gP)⟩
  have trk : ∀ b u, H b = some u → b ≠ c ∧ b ≠ P' := fun b u e => ⟨ne_of_none e nc, ne_of_none e nP⟩
  have kept : ∀ b u, H b = some u → (∀ r, u ≠ .tbl r) → newCodeH H P c P' q (ps ++ more) b = some u := fun b u e r => by rw [els b (notP b u e r) (trk b u e).1 (trk b u e).2]; exact e
  refine I.step (g' := s.gens) (d' := s.drawn) (ch := []) (fun b hb => nomatch hb) (fun b o _ _ _ e z => old b o (untr b z) e) (fun b o _ _ _ e z => ⟨o.slots, old b o (untr b z) e⟩) (fun b o _ e z => by rw [els b (untr b z) (lt b o e).1 (lt b o e).2]; exact z) (fun b o _ e => ?_)
    (fun b xs e => kept b _ e (fun r z => by cases z)) (fun b o u e => kept b _ e (fun r z => by cases z)) (fun b r e => ?_) (fun m hn => ?_) (fun b u e => ?_) I.bare
  · by_cases hb : b = P
    · exact ⟨_, by rw [hb]; exact tab⟩
    · exact ⟨o, old b o hb e⟩
  · by_cases hb : b = P
    · subst hb
      cases hP.symm.trans e
      exact ⟨more, atP⟩
    · exact ⟨#[], by rw [els b hb (trk b _ e).1 (trk b _ e).2, e, Array.append_empty]⟩
  · obtain ⟨ob, es, ep, ho, r⟩ := hn
    exact ⟨ob, es, ep, old _ ob (untr _ I.free) ho, r⟩
  · by_cases h3 : b = P'
    · subst h3
      unfold newCodeH at e
      rw [upd_same] at e
      cases e
      exact own
    · by_cases h2 : b = c
      · subst h2
        rw [atc] at e
        cases e
        obtain ⟨c2, oc, vs, t, e1, e2, e3⟩ := id rec
        cases e1
        exact ⟨⟨rec, hd⟩, ⟨oc, e2⟩, fun h1 h2 x st => codeN_stay h1 h2 x st⟩
      · by_cases h1 : b = P
        · subst h1
          rw [atP] at e
          cases e
          exact tab
        · rw [els b h1 h2 h3] at e
          refine (I.hok b u e).stay (fun d v hd q => old d v ?_ q) (fun d z => kept d _ z (fun r y => by cases y)) fun d xs z => kept d _ z (fun r y => by cases y)
          rcases hd with z | z
          · rw [z]; exact h1
          · exact notP d _ z (fun r y => by cases y)
/-- what the making of a lambda asks of the code object that makes it: its table is known -/
structure MkAt (X : Cx) (T : TMap) (H : Hp) (q : Str) (qs : List Str) : Prop where
  ex : ∃ c P, X.env.code = .ref c ∧ T P = some (q :: qs) ∧ ((PySem.W.CodeHd X.base c P) ∨ ∃ q', H c = some (CodeN c q' P))
theorem among_snoc {pos p' : Pos} {c cv : Value} (l : List Value) (h : TriplesOk l) (hc : codeAmong p' (l ++ [rawInt pos.line, rawInt pos.col, c]) = some cv) : codeAmong p' l = some cv ∨ cv = c := LamX.among_app l h hc
/-- a lambda is made: its code object is new, or was made before -/
theorem lam_make {T : TMap} {q : Str} {qs : List Str} {params : Arguments} {body : Expr} {scope : Scope} {pos : Pos} {E : Value → Shared → Prop} {Q : Value → Shared → Prop} (I : Inv X pins σ H s) (MK : MkAt X T H q qs) (hq : q = X.env.qual ++ "<lambda>")
    (bm0 : ∃ P0, X.base.BuiltinsAt X.mg P0) (hT : TabsX T H) (hdef : defaultsOf params X.env = ([], [])) (hfree : ∀ y ∈ scope.names, y.2 = .free → ∃ c, X.env.cells.lookup y.1 = some c)
    (h : ∀ (T' : TMap) (f c' P' : Addr) (pm ctv : Value) (H1 : Hp) (s' : Shared), Sub T T' → Inv X pins σ H1 s' → LamX.ExtN H H1 → TabsX T' H1 → T' P' = some qs →
      s'.heap.get? f = some (PySem.W.kla_obj "<lambda>" q params body scope (cloFrom X.env.cells scope.names []) pm c' ctv) → H1 f = none → f ∉ frs X.stack → H1 c' = some (CodeN c' q P') → Q (.ref f) s') :
    wpAny (model X.prog X.w) X.A (eval (.Lambda params body scope pos) X.env) Q E s := by
  obtain ⟨c, P, code, tp, chd⟩ := MK.ex
  obtain ⟨ps, hP, hl⟩ := hT P _ tp
  obtain ⟨tr, ent⟩ := hl q qs rfl
  have nb : ∀ b o, X.base.get? b = some o → b ≠ P := fun b o e z => by
    subst z
    have := (I.bs _ _ e).2
    rw [hP] at this; cases this
  have bm : X.base.BuiltinsAt X.mg P := let ⟨_, b, o, h1, h2, h3, _, h5, h6⟩ := bm0; ⟨b, o, h1, h2, h3, nb _ _ h5, h5, h6⟩
  have gP : mainGlobals ≠ P := let ⟨o, _, _, e, _⟩ := I.mod.glob; nb _ _ e
  have CH : PySem.W.CodeHd s.heap c P := by
    rcases chd with z | ⟨q', z⟩
    · exact z.keeps I.bk
    · exact (I.hok c _ z).1.2
  have hP' : s.heap.get? P = some { cls := .none, data := .fields ps } := I.hok P _ hP
  have nofr : ∀ f, s.heap.objs.size ≤ f → f ∉ frs X.stack := fun f hf z => by
    rcases List.mem_cons.mp (I.stkSub _ z) with e | e
    · exact Nat.lt_irrefl _ (Nat.lt_of_lt_of_le (e ▸ I.lt) hf)
    · exact I.nofs hf e
  rw [hq] at *
  refine PySem.W.kla_eval hdef ?_
  cases fnd : codeAmong pos ps.toList with
  | some cv =>
    obtain ⟨c', P', rfl, hco, tp'⟩ := ent pos cv fnd
    refine PySem.W.kla_makeFunctionHit (mg := X.mg) (c := c) (P := P) (ps := ps) (closure_ok hfree) I.ok.glob (I.mod.glob.keeps I.bk) code CH hP' tr fnd (bm.keeps I.bk) fun ctv h' tk x le => ?_
    exact h T h'.objs.size c' P' _ ctv H _ (Sub.refl T) (I.kept fun b o e => Heap.get?_push_of_some _ (x b o e)) (LamX.ExtN.refl H) hT tp' (Heap.get?_push_size _ rfl) (I.hok.fresh le) (nofr _ le) hco
  | none =>
    refine lam_new (mg := X.mg) (c := c) (P := P) (ps := ps) (closure_ok hfree) I.ok.glob (I.mod.glob.keeps I.bk) code CH hP' tr fnd gP (bm.keeps I.bk) fun c' P' ctv h' tk x gc gP' ltc ltP n rec hd own tab => ?_
    have up : ∀ (o : Obj) (a : Addr) (u : Obj), h'.get? a = some u → (h'.push o).get? a = some u := fun o a u e => Heap.get?_push_of_some _ e
    have sz : s.heap.objs.size ≤ h'.objs.size := Nat.le_trans gc (Nat.le_of_lt ltc)
    have nc : H c' = none := I.hok.fresh gc
    have nP : H P' = none := I.hok.fresh gP'
    have inT : ∀ P1 l, T P1 = some l → P1 ≠ P' ∧ P1 ≠ c' := fun P1 l e => by
      obtain ⟨p1, h1, _⟩ := hT P1 l e
      exact ⟨ne_of_none h1 nP, ne_of_none h1 nc⟩
    have I1 := inv_code (t' := tk) (more := #[rawInt pos.line, rawInt pos.col, .ref c']) (h' := h'.push (PySem.W.kla_obj "<lambda>" (X.env.qual ++ "<lambda>") params body scope (cloFrom X.env.cells scope.names []) ((X.mg "__name__").getD .none) c' ctv)) I hP
      (fun b o n e => up _ _ _ (x b o n e)) (up _ _ _ tab) gc gP' n (let ⟨c2, oc, vs, t, e, g, r⟩ := rec; ⟨c2, oc, vs, t, e, up _ _ _ g, r⟩) (hd.keeps (up _)) (up _ _ _ own)
    have els : ∀ b, b ≠ P → b ≠ c' → b ≠ P' → newCodeH H P c' P' (X.env.qual ++ "<lambda>") (ps ++ #[rawInt pos.line, rawInt pos.col, .ref c']) b = H b := fun b h1 h2 h3 => by unfold newCodeH; rw [upd_ne h3, upd_ne h2, upd_ne h1]
    have PP := (inT P _ tp).1
    have Pc := (inT P _ tp).2
    have atP : newCodeH H P c' P' (X.env.qual ++ "<lambda>") (ps ++ #[rawInt pos.line, rawInt pos.col, .ref c']) P = some (.tbl (ps ++ #[rawInt pos.line, rawInt pos.col, .ref c'])) := by unfold newCodeH; rw [upd_ne PP, upd_ne Pc, upd_same]
    have atc : newCodeH H P c' P' (X.env.qual ++ "<lambda>") (ps ++ #[rawInt pos.line, rawInt pos.col, .ref c']) c' = some (CodeN c' (X.env.qual ++ "<lambda>") P') := by unfold newCodeH; rw [upd_ne n, upd_same]
    have eN : LamX.ExtN H (newCodeH H P c' P' (X.env.qual ++ "<lambda>") (ps ++ #[rawInt pos.line, rawInt pos.col, .ref c'])) := fun b o e nt => by
      rw [els b (fun z => nt ps (Option.some.inj (e.symm.trans (by rw [z]; exact hP)))) (ne_of_none e nc) (ne_of_none e nP)]
      exact e
    have up1 : ∀ P1 l, T P1 = some l → (if P1 = P' then some qs else T P1) = some l := fun P1 l e => by rw [if_neg (inT P1 l e).1]; exact e
    have eL : (ps ++ #[rawInt pos.line, rawInt pos.col, Value.ref c']).toList = ps.toList ++ [rawInt pos.line, rawInt pos.col, .ref c'] := by simp
    refine h (fun b => if b = P' then some qs else T b) h'.objs.size c' P' _ ctv _ _ up1 I1 eN (fun P1 l e1 => ?_) (if_pos rfl) (Heap.get?_push_size _ rfl) ?_ (nofr _ sz) atc
    · by_cases hb : P1 = P'
      · subst hb
        clear e1
        refine ⟨#[], by unfold newCodeH; exact upd_same, fun q1 qs1 _ => ⟨True.intro, fun p1 cv hc => ?_⟩⟩
        have z : codeAmong p1 [] = some cv := hc
        simp [codeAmong] at z
      · replace e1 : T P1 = some l := by dsimp only at e1; rw [if_neg hb] at e1; exact e1
        obtain ⟨p1, h1, h2⟩ := hT P1 l e1
        by_cases hb2 : P1 = P
        · subst hb2
          cases hP.symm.trans h1
          cases tp.symm.trans e1
          refine ⟨_, atP, fun q1 qs1 el => ?_⟩
          cases el
          refine ⟨by rw [eL]; exact PySem.TriplesOk_snoc _ _ _ _ tr, fun p2 cv hc => ?_⟩
          rw [eL] at hc
          rcases among_snoc _ tr hc with z | z
          · obtain ⟨c0, P0, a1, a2, a3⟩ := ent p2 cv z
            exact ⟨c0, P0, a1, eN _ _ a2 codeN_ne, up1 _ _ a3⟩
          · exact ⟨c', P', z, atc, if_pos rfl⟩
        · refine ⟨p1, by rw [els P1 hb2 (inT P1 l e1).2 hb]; exact h1, fun q1 qs1 el => ⟨(h2 q1 qs1 el).1, fun p2 cv hc => ?_⟩⟩
          obtain ⟨c0, P0, a1, a2, a3⟩ := (h2 q1 qs1 el).2 p2 cv hc
          exact ⟨c0, P0, a1, eN _ _ a2 codeN_ne, up1 _ _ a3⟩
    · have n1 : h'.objs.size ≠ c' := Nat.ne_of_gt ltc
      have n2 : h'.objs.size ≠ P' := Nat.ne_of_gt ltP
      have n3 : h'.objs.size ≠ P := Nat.ne_of_gt (Nat.lt_of_lt_of_le (Heap.lt_size hP') sz)
      rw [els _ n3 n1 n2]
      exact I.hok.fresh sz
end
end Lm
namespace Lm
open PySem PySem.Spec PyProof.Rows L2
/-! ### a closure as a value: what its call promises at any later state -/
structure CloAt (P : Program) (w : World) (K : PySem.W.Frag) (mg : Str → Option Value) (base : Heap) (outer : List Env) (s : Shared) (H : Hp) (f : Addr) (k : Nat) (sp : Sp) : Prop where
  at_ : ∃ (od : Option Addr) (fd : FuncData) (sl : Array (Option Value)), s.heap.get? f = some ⟨.type "function", od, .func fd, sl⟩
  none_ : H f = none
  nofr : f ∉ frs outer
  run : ∀ (A : Around) (outer' : List Env) (t : Shared) (HZ : Hp) (us : List Value) (vs : List V) (Q : VK) (E : XK), Room k A → Env0 P w K mg base A outer' t HZ → Un (frs outer) [] H HZ s.heap t.heap → Vals vs us → sp vs HZ Q E →
    codeAny (model P w) A (.call (.ref f) ⟨us, []⟩) (CR (L2.CX P w) outer' P w HZ t Q E) t
/-- one parameter, or none; the other names captured or global -/
structure LamP (sc scope : Scope) (ps : List Str) : Prop where
  kind : scope.kind = .function
  co : scope.isCoroutine = false
  gen : scope.isGenerator = false
  nocell : ∀ y ∈ scope.names, y.2 ≠ .cell
  par : ∀ x ∈ ps, scope.names.lookup x = some .local
  loc : ∀ y ∈ scope.names, y.2 = .local → y.1 ∈ ps
  free : ∀ y ∈ scope.names, y.2 = .free → sc.names.lookup y.1 = some .cell ∨ sc.names.lookup y.1 = some .free
def lamPB (sc scope : Scope) (ps : List Str) : Bool :=
  decide (scope.kind = .function) && !scope.isCoroutine && !scope.isGenerator && (ps.all fun x => decide (scope.names.lookup x = some .local)) && scope.names.all fun y => !decide (y.2 = .cell) && (!decide (y.2 = .local) || decide (y.1 ∈ ps)) && (!decide (y.2 = .free) || decide (sc.names.lookup y.1 = some .cell) || decide (sc.names.lookup y.1 = some .free))
theorem lamP_by {sc scope : Scope} {ps : List Str} (h : lamPB sc scope ps = true) : LamP sc scope ps := by
  unfold lamPB at h
  simp only [Bool.and_eq_true, Bool.or_eq_true, Bool.not_eq_true', decide_eq_true_eq, decide_eq_false_iff_not, List.all_eq_true] at h
  obtain ⟨⟨⟨⟨h1, h2⟩, h3⟩, h5⟩, h4⟩ := h
  refine ⟨h1, h2, h3, fun y hy => (h4 y hy).1.1, h5, fun y hy e => ?_, fun y hy e => ?_⟩
  · rcases (h4 y hy).1.2 with z | z
    · exact absurd e z
    · exact z
  · rcases (h4 y hy).2 with (z | z) | z
    · exact absurd e z
    · exact .inl z
    · exact .inr z
theorem LamP.has {X : Cx} {scope : Scope} {ps : List Str} (L : LamP X.env.scope scope ps) (ok : X.Ok) : ∀ y ∈ scope.names, y.2 = .free → ∃ c, X.env.cells.lookup y.1 = some c := fun y hy e => by
  rcases L.free y hy e with k | k
  · exact ok.has _ (.inl k)
  · exact ok.has _ (.inr k)
/-- the slots of the maker's names, the parameter's slot filled -/
def setP (σ : L2.St) : List Nat → List V → L2.St
  | j :: js, v :: vs => setP (σ.set j (some v)) js vs
  | _, _ => σ
section
variable {X : Cx} {pins : List (Addr × Obj)} {σ : L2.St} {H HZ : Hp} {s s1 : Shared}
/-- the lambda's body begins: its parameter y stands in slot j -/
theorem lam_start {A : Around} {outer : List Env} {E : XK} {scope : Scope} {f c' : Addr} {h₁ : Heap} {tk : Nat} {j : Nat} {y : Str} {v : V} {u : Value} (I : Inv X pins σ H s) (L : LamP X.env.scope scope [y]) (hj : X.N[j]? = some y) (nd : X.N.Nodup) (rv : RelV v u)
    (e0 : Env0 X.prog X.w X.K X.mg X.base A outer s1 HZ) (hd : A.handled = none) (un : Un (frs X.stack) [] H HZ s.heap s1.heap) (hns : h₁.Ns s1.heap.objs.size fun z => [(y, u)].reverse.lookup z) (kp : ∀ b o, s1.heap.get? b = some o → h₁.get? b = some o) :
    Inv (LamX.lamCx X A outer s1 HZ E scope f c') [] (σ.set j (some v)) HZ { s1 with heap := h₁, toks := tk } := by
  have has := L.has I.ok
  have down : ∀ {z c}, (cloFrom X.env.cells scope.names []).lookup z = some c → X.env.cells.lookup z = some c := fun {z c} e => by
    rcases cloFrom_mem (PySem.mem_of_lookup e) with hm | ⟨h1, h2⟩
    · cases hm
    · obtain ⟨c1, hc⟩ := has _ h1 rfl
      have hc : X.env.cells.lookup z = some c1 := hc
      rw [hc]
      refine congrArg some ?_
      rw [h2, hc] <;> rfl
  have up : ∀ {z}, scope.names.lookup z = some .free → ∃ c, (cloFrom X.env.cells scope.names []).lookup z = some c := fun {z} hl => mem_lookup (cloFrom_has (cells := X.env.cells) (acc := []) (PySem.mem_of_lookup hl))
  have cell : ∀ {c : Addr} {v : Option Value}, H c = none → s.heap.IsCell c v → h₁.IsCell c v := fun {c v} n ⟨o, ho, hd⟩ => by
    obtain ⟨sl, q⟩ := un.any ho n (by simp)
    exact ⟨_, kp _ _ q, hd⟩
  have none1 : ∀ b : Addr, b ∉ (LamX.lamCx X A outer s1 HZ E scope f c').ex := fun b z => nomatch (show b ∈ ([] : List Addr) from z)
  have ly : scope.names.lookup y = some .local := L.par y List.mem_cons_self
  have ok : (LamX.lamCx X A outer s1 HZ E scope f c').Ok := by
    refine ⟨e0.mod, L.kind, rfl, rfl, Nat.le_refl _, fun a b c h1 h2 => I.ok.inj a b c (down h1) (down h2), fun z hz => ?_, (fun z c h _ => nomatch (show false = true from h)), fun _ => hd, Around.frames_deeper e0.frames, .inr ⟨rfl, rfl⟩, fun b z => absurd z (none1 b), e0.bs, e0.bsz, fun b _ _ => none1 b, fun b z => absurd z (none1 b), e0.funs, e0.frf⟩
    rcases (show scope.names.lookup z = some .cell ∨ scope.names.lookup z = some .free from hz) with q | q
    · exact absurd rfl (L.nocell _ (PySem.mem_of_lookup q))
    · exact up q
  refine ⟨ok, rfl, e0.bare, Un.kept kp, ⟨_, hns, fun i z a h1 h2 h3 => ?_⟩, fun z c e => ?_, e0.hok.fresh (Nat.le_refl _), fun z c e => ?_, (fun q hq => nomatch (show q ∈ ([] : List (Addr × Obj)) ++ [] from hq)), e0.hok.kept kp, by rw [List.length_set]; exact I.len⟩
  · have h1 : X.N[i]? = some z := h1
    rcases (show Vis scope z from h3) with q | q | q
    · have zy : z = y := List.mem_singleton.mp (L.loc _ (PySem.mem_of_lookup q) rfl)
      subst zy
      have ij : i = j := by
        exact (List.getElem?_inj (List.getElem?_eq_some_iff.mp h1).1 nd).mp (h1.trans hj.symm)
      subst ij
      have lt : i < σ.length := by rw [I.len]; exact (List.getElem?_eq_some_iff.mp h1).1
      rw [List.getElem?_set_self lt] at h2
      cases h2
      exact ⟨u, rv, .inl ⟨q, by simp⟩⟩
    · exact absurd rfl (L.nocell _ (PySem.mem_of_lookup q))
    · have ij : j ≠ i := fun e => by
        subst e
        rw [hj] at h1
        cases h1
        rw [ly] at q; cases q
      rw [List.getElem?_set_ne ij] at h2
      obtain ⟨m, _, hl⟩ := I.loc
      have vis : Vis X.env.scope z := (L.free _ (PySem.mem_of_lookup q) rfl).elim (fun k => .inr (.inl k)) (fun k => .inr (.inr k))
      obtain ⟨u', r, lk⟩ := hl i z a h1 h2 vis
      obtain ⟨c2, g2⟩ := up q
      refine ⟨u', r, .inr ⟨.inr q, c2, g2, ?_⟩⟩
      have g1 := down g2
      rcases lk with ⟨k', _⟩ | ⟨_, c3, e', i3⟩
      · have k' : X.env.scope.names.lookup z = some .local := k'
        rcases L.free _ (PySem.mem_of_lookup q) rfl with k2 | k2
        · cases k'.symm.trans k2
        · cases k'.symm.trans k2
      · cases g1.symm.trans e'
        exact cell (I.freeC z _ g1) i3
  · obtain ⟨v', i3⟩ := I.cell z c (down e)
    exact ⟨v', cell (I.freeC z c (down e)) i3⟩
  · obtain ⟨v', o, ho, _⟩ := I.cell z c (down e)
    exact un.free c o ho (I.freeC z c (down e)) (by simp)
/-- the lambda as a closure: one parameter -/
theorem clo_lam1 {k : Nat} {params : Arguments} {body : Expr} {scope : Scope} {f c' P' : Addr} {q : Str} {pm ctv : Value} {j : Nat} {y : Str} {tb : XK → TE} (I : Inv X pins σ H s) (L : LamP X.env.scope scope [y]) (hj : X.N[j]? = some y) (nd : X.N.Nodup) (hq : q = X.env.qual ++ "<lambda>")
    (hf : s.heap.get? f = some (PySem.W.kla_obj "<lambda>" q params body scope (cloFrom X.env.cells scope.names []) pm c' ctv)) (hn : H f = none) (nf : f ∉ frs X.stack) (bind : ∀ (cl : List (Str × Addr)) (pm cv ctv u : Value), bindArgs (PySem.W.kla_fn "<lambda>" q params body scope cl pm cv ctv) ⟨[u], []⟩ = pure [(y, u)])
    (hb : ∀ (A : Around) (outer : List Env) (t : Shared) (HZ : Hp) (E : XK), Room k (A.deeper (LamX.lamEnv X scope t.heap.objs.size f c')) → PE (LamX.lamCx X A outer t HZ E scope f c') body (tb E)) :
    CloAt X.prog X.w X.K X.mg X.base X.stack s H f (k + 1) (fun vs HZ Q E => ∃ v, vs = [v] ∧ HZ c' = some (CodeN c' q P') ∧ tb E (σ.set j (some v)) HZ Q) := by
  subst hq
  refine ⟨⟨_, _, _, hf⟩, hn, nf, fun A outer' t HZ us vs Q E room e0 un r h => ?_⟩
  obtain ⟨v, rfl, hc, ht⟩ := h
  obtain ⟨u, rfl, rv⟩ := vals1 r
  have of1 := un.keep f _ hf hn nf (fun z => nomatch z)
  have crec := (e0.hok c' _ hc).1.1
  have lim : t.heap.NoLimit := e0.mod.nolimit.keeps fun b o e => (e0.bs b o e).1
  refine PySem.W.kla_callFunE room.depth of1 rfl L.co L.gen rfl crec ?_
  rw [bind]
  refine wpAny_pure (wpAny_newFunctionEnv L.nocell (fun z hz => by rw [List.mem_singleton.mp hz]; exact L.par y List.mem_cons_self) (fun h₁ ns same => ⟨lim.fresh _ same, ?_⟩) L.kind)
  have kp : ∀ b o, t.heap.get? b = some o → h₁.get? b = some o := fun b o e => same.extBut b o (Nat.ne_of_lt (Heap.lt_size e)) (Heap.get?_push_of_some _ e)
  have J : Inv (LamX.lamCx X A outer' t HZ E scope f c') [] (σ.set j (some v)) HZ { t with heap := h₁, toks := t.toks + ([(y, u)] : List (Str × Value)).length } := lam_start I L hj nd rv e0 room.hd un ns kp
  refine PySem.W.kla_codeExpr (wpAny_mono ((hb _ _ t HZ E (room.deeper _)).run [] _ _ HZ Q J ht) (fun z s' q => ?_) fun e s' q => q)
  obtain ⟨w', H', J', rz, q⟩ := q
  exact ⟨w', H', J'.os, J'.bare, J'.base, J'.hok, rz, q⟩
theorem LamP.lamS {sc scope : Scope} (L : LamP sc scope []) : LamX.LamS sc scope := ⟨L.kind, L.co, L.gen, fun y hy => ⟨(fun e => by cases L.loc y hy e), L.nocell y hy⟩, L.free⟩
/-- .. no parameter -/
theorem clo_lam0 {k : Nat} {params : Arguments} {body : Expr} {scope : Scope} {f c' P' : Addr} {q : Str} {pm ctv : Value} {tb : XK → TE} (I : Inv X pins σ H s) (L : LamP X.env.scope scope []) (hq : q = X.env.qual ++ "<lambda>")
    (hf : s.heap.get? f = some (PySem.W.kla_obj "<lambda>" q params body scope (cloFrom X.env.cells scope.names []) pm c' ctv)) (hn : H f = none) (nf : f ∉ frs X.stack) (bind : ∀ (cl : List (Str × Addr)) (pm cv ctv : Value), bindArgs (PySem.W.kla_fn "<lambda>" q params body scope cl pm cv ctv) ⟨[], []⟩ = pure [])
    (hb : ∀ (A : Around) (outer : List Env) (t : Shared) (HZ : Hp) (E : XK), Room k (A.deeper (LamX.lamEnv X scope t.heap.objs.size f c')) → PE (LamX.lamCx X A outer t HZ E scope f c') body (tb E)) :
    CloAt X.prog X.w X.K X.mg X.base X.stack s H f (k + 1) (fun vs HZ Q E => vs = [] ∧ HZ c' = some (CodeN c' q P') ∧ tb E σ HZ Q) := by
  subst hq
  refine ⟨⟨_, _, _, hf⟩, hn, nf, fun A outer' t HZ us vs Q E room e0 un r h => ?_⟩
  obtain ⟨rfl, hc, ht⟩ := h
  cases r
  have of1 := un.keep f _ hf hn nf (fun z => nomatch z)
  have crec := (e0.hok c' _ hc).1.1
  have lim : t.heap.NoLimit := e0.mod.nolimit.keeps fun b o e => (e0.bs b o e).1
  refine PySem.W.kla_callFunE room.depth of1 rfl L.co L.gen rfl crec ?_
  rw [bind]
  refine wpAny_pure (wpAny_newFunctionEnv L.nocell (fun z hz => nomatch hz) (fun h₁ ns same => ⟨lim.fresh _ same, ?_⟩) L.kind)
  have kp : ∀ b o, t.heap.get? b = some o → h₁.get? b = some o := fun b o e => same.extBut b o (Nat.ne_of_lt (Heap.lt_size e)) (Heap.get?_push_of_some _ e)
  have J : Inv (LamX.lamCx X A outer' t HZ E scope f c') [] σ HZ { t with heap := h₁, toks := t.toks + ([] : List (Str × Value)).length } := LamX.lam_start2 I L.lamS e0 room.hd un ns kp
  refine PySem.W.kla_codeExpr (wpAny_mono ((hb _ _ t HZ E (room.deeper _)).run [] _ _ HZ Q J ht) (fun z s' q => ?_) fun e s' q => q)
  obtain ⟨w', H', J', rz, q⟩ := q
  exact ⟨w', H', J'.os, J'.bare, J'.base, J'.hok, rz, q⟩
end
end Lm
namespace Lm
open PySem PySem.Spec PyProof.Rows L2
/-! ### a closure called by the def that got it -/
def tClo (i : Nat) (f : Addr) (sp : Sp) (E : XK) (t : TA) : TE := fun σ H Q => σ[i]? = some (some (.ref f)) ∧ t σ H fun vs H1 => sp vs H1 Q E
section
variable {X : Cx} {k i : Nat} {f : Addr} {sp : Sp} {E : XK} {x : Str} {p pos : Pos} {e : Expr} {es : List Expr} {t : TA}
theorem CloAt.fnAt {pins : List (Addr × Obj)} {σ : L2.St} {H : Hp} {s : Shared} (C : CloAt X.prog X.w X.K X.mg X.base X.outer X.s_0 X.H_0 f k sp) (hex : X.ex = []) (I : Inv X pins σ H s) : PySem.W.FnAt f s.heap :=
  let ⟨_, _, _, g⟩ := C.at_; ⟨_, _, _, _, I.base.keep f _ g C.none_ C.nofr (by rw [hex]; exact fun z => nomatch z)⟩
theorem run_clo {pins : List (Addr × Obj)} {σ : L2.St} {H : Hp} {s : Shared} {us : List Value} {vs : List V} {Q : VK} (C : CloAt X.prog X.w X.K X.mg X.base X.outer X.s_0 X.H_0 f k sp) (hex : X.ex = []) (hr : Room k X.A) (hx : Passes (L2.CX X.prog X.w) X E) (I : Inv X pins σ H s) (r : Vals vs us) (h : sp vs H Q E) :
    wpAny (model X.prog X.w) X.A (call (.ref f) us) (EP X pins σ Q) X.xe s := by
  have un : Un X.fs [] X.H_0 H X.s_0.heap s.heap := by have := I.base; rw [hex] at this; exact this
  refine wpAny_call (codeAny_mono (C.run X.A X.stack s H us vs Q E hr I.env0 un r h) fun r s' q => ?_)
  cases r with
  | error er => exact hx pins σ H s er s' I q
  | ok fl =>
    cases fl with
    | ret u => exact I.after q
    | next => exact q.elim
    | brk => exact q.elim
    | cont => exact q.elim
/-- x(e, ..), x a local that holds the closure -/
theorem pe_clo (C : CloAt X.prog X.w X.K X.mg X.base X.outer X.s_0 X.H_0 f k sp) (hex : X.ex = []) (hr : Room k X.A) (hx : Passes (L2.CX X.prog X.w) X E) (hN : X.N[i]? = some x) (hv : Vis X.env.scope x) (ha : PA X (e :: es) t) (hd : (x == ("__debug__" : Str)) = false := by decide) (hcd : (x == ("__classdict__" : Str)) = false := by decide)
    (he : starEach (e :: es) X.env = (false, eval e X.env) :: starEach es X.env := by rfl) (hpl : (backTo pos (starEach es X.env)).any (·.1) = false := by rfl) : PE X (.Call (.Name x p) (e :: es) [] pos) (tClo i f sp E t) := ⟨fun pins s σ H Q I h => by
  obtain ⟨hs, ht⟩ := h
  refine wpAny_Call_Name_kw (thn ((pe_var (pos := p) hN hv hd hcd).run pins s σ H (fun v H1 => v = .ref f ∧ H1 = H) I ⟨.ref f, hs, rfl, rfl⟩) fun u s1 z => ?_)
  obtain ⟨_, _, J, ru, rfl, rfl⟩ := z
  cases ru
  refine PySem.W.callWith_F (first := []) (C.fnAt hex J) (thn (ha.run pos pins s1 σ _ _ J ht) fun us s2 z => ?_) he hpl
  obtain ⟨vs, H2, J2, r, q⟩ := z
  exact ⟨C.fnAt hex J2, run_clo C hex hr hx J2 r q⟩⟩
/-- x() -/
theorem pe_clo0 (C : CloAt X.prog X.w X.K X.mg X.base X.outer X.s_0 X.H_0 f k sp) (hex : X.ex = []) (hr : Room k X.A) (hx : Passes (L2.CX X.prog X.w) X E) (hN : X.N[i]? = some x) (hv : Vis X.env.scope x) (hd : (x == ("__debug__" : Str)) = false := by decide) (hcd : (x == ("__classdict__" : Str)) = false := by decide) :
    PE X (.Call (.Name x p) [] [] pos) (tClo i f sp E tNil) := ⟨fun pins s σ H Q I h => by
  obtain ⟨hs, ht⟩ := h
  refine wpAny_Call_Name_kw (thn ((pe_var (pos := p) hN hv hd hcd).run pins s σ H (fun v H1 => v = .ref f ∧ H1 = H) I ⟨.ref f, hs, rfl, rfl⟩) fun u s1 z => ?_)
  obtain ⟨_, _, J, ru, rfl, rfl⟩ := z
  cases ru
  exact PySem.W.callWith_F0 (C.fnAt hex J) (run_clo C hex hr hx J .nil ht)⟩
end
/-! ### a def that takes a closure (its last argument) -/
structure CFn (P : Program) (w : World) (K : PySem.W.Frag) (mg : Str → Option Value) (base : Heap) (k kc : Nat) (g : Addr) (fd : FuncData) (ps : List Str) (SP : Addr → Sp → Sp) : Prop where
  len : ∀ f c vs H Q E, SP f c vs H Q E → vs.length = ps.length
  run : ∀ (A : Around) (outer : List Env) (s : Shared) (H : Hp) (args : Args) (us : List Value) (vs : List V) (Q : VK) (E : XK) (f : Addr) (c : Sp), Room k A → Env0 P w K mg base A outer s H → BindsTo s fd args (ps.zip us) → Vals vs us → CloAt P w K mg base outer s H f kc c → SP f c vs H Q E →
    codeAny (model P w) A (.call (.ref g) args) (CR (L2.CX P w) outer P w H s Q E) s
theorem cfn {P : Program} {w : World} {K : PySem.W.Frag} {mg : Str → Option Value} {base : Heap} {x qual : Str} {st : Stmt} {g : Addr} {fd : FuncData} {N ps : List Str} {k kc : Nat} {SP : Addr → Sp → Sp} (F : Fun K x qual st g fd) (S : FnScope N ps (defScope st))
    (len : ∀ f c vs H Q E, SP f c vs H Q E → vs.length = ps.length)
    (body : ∀ (cdv : Value) (A : Around) (outer : List Env) (s : Shared) (H : Hp) (vs : List V) (Q : VK) (E : XK) (f : Addr) (c : Sp), CloAt P w K mg base outer s H f kc c → Room k (A.deeper (envOfC qual (defScope st) s.heap.objs.size g cdv)) → SP f c vs H Q E →
      ∃ t, PSs (cxOf (L2.CX P w) P w K mg base N qual (defScope st) g cdv A outer s H E) (defBody st) t ∧ t { nx := fun _ H' => Q .non H', rt := Q } (start N vs) H) : CFn P w K mg base (k + 1) kc g fd ps SP := by
  obtain ⟨oc, od, kV, doc, pm, an, cdv, ct, osl, rfl, look, code⟩ := F.ex
  refine ⟨len, fun A outer s H args us vs Q E f c room e0 bd r cl h => ?_⟩
  have KS : K.In s.heap := e0.mod.kin.keeps fun b o e => (e0.bs b o e).1
  have NL : s.heap.NoLimit := e0.mod.nolimit.keeps fun b o e => (e0.bs b o e).1
  have arg : ∀ y ∈ ps.zip us, (defScope st).names.lookup y.1 = some .local ∨ ((defScope st).names.lookup y.1 = some .cell ∧ ((cellsFrom (s.heap.objs.size + 1) (defScope st).names []).lookup y.1).isSome = true) := by
    rintro ⟨n, v⟩ hy
    exact (S.par n (List.of_mem_zip hy).1).imp id fun q => ⟨q, PySem.W.cellsFrom_some _ _ _ (.inl q)⟩
  refine codeAny_call_function room.depth (KS _ _ look) rfl S.co S.gen rfl (PySem.W.codeRec_of KS code) (bd _ _ _ _ (wpAny_newFunctionEnv_cells S.kind arg fun env he t z => ?_))
  cases he
  obtain ⟨tr, hp, q⟩ := body cdv A outer s H vs Q E f c cl (room.deeper _) h
  refine ⟨NL.keeps z.toInCall.keep, codeAny_func (wpAny_mono (hp.run [] t (start N vs) H _ (inv_start S room.hd e0 (len _ _ _ _ _ _ h) r z) q) (fun fl s' r => ?_) fun e s' r => r)⟩
  cases fl with
  | next => let ⟨σ', H', J, q⟩ := r; exact ⟨.non, H', J.os, J.bare, J.base, J.hok, rfl, q⟩
  | ret u => let ⟨v, σ', H', J, rv, q⟩ := r; exact ⟨v, H', J.os, J.bare, J.base, J.hok, rv, q⟩
  | brk => let ⟨_, _, _, q⟩ := r; exact False.elim q
  | cont => let ⟨_, _, _, q⟩ := r; exact False.elim q
end Lm
namespace Lm
open PySem PySem.Spec PyProof.Rows L2
/-- a closure called where what it raises is wished for at the caller's slots -/
def tCloW (i : Nat) (f : Addr) (sp : Sp) (W : WX) (t : TA) : TE := fun σ H Q => ∃ E : XK, (∀ cls d H', E cls d H' → W cls d σ H') ∧ tClo i f sp E t σ H Q
theorem pe_cloW0 {X : Cx} {k i : Nat} {f : Addr} {sp : Sp} {W : WX} {x : Str} {p pos : Pos} (C : CloAt X.prog X.w X.K X.mg X.base X.outer X.s_0 X.H_0 f k sp) (hex : X.ex = []) (hr : Room k X.A) (tk : Takes X W) (hN : X.N[i]? = some x) (hv : Vis X.env.scope x) (hd : (x == ("__debug__" : Str)) = false := by decide) (hcd : (x == ("__classdict__" : Str)) = false := by decide) :
    PE X (.Call (.Name x p) [] [] pos) (tCloW i f sp W tNil) := ⟨fun pins s σ H Q I h => by
  obtain ⟨E, hW, hs, ht⟩ := h
  refine wpAny_Call_Name_kw (thn ((pe_var (pos := p) hN hv hd hcd).run pins s σ H (fun v H1 => v = .ref f ∧ H1 = H) I ⟨.ref f, hs, rfl, rfl⟩) fun u s1 z => ?_)
  obtain ⟨_, H1, J, ru, rfl, eH⟩ := z
  rw [eH] at J
  cases ru
  refine PySem.W.callWith_F0 (C.fnAt hex J) ?_
  have un : Un X.fs [] X.H_0 H X.s_0.heap s1.heap := by have := J.base; rw [hex] at this; exact this
  refine wpAny_call (codeAny_mono (C.run X.A X.stack s1 H [] [] Q E hr J.env0 un .nil ht) fun r s' q => ?_)
  cases r with
  | error er => exact tk er s' (XE.of_call J (fun cls d H' h => hW cls d H' h) q)
  | ok fl =>
    cases fl with
    | ret u => exact J.after q
    | next => exact q.elim
    | brk => exact q.elim
    | cont => exact q.elim⟩
end Lm
namespace Lm
open PySem PySem.Spec PyProof.Rows L2
/-! ### a lambda written as an argument: made, then handed to a def or a method -/
/-- what the state must know for the making of a lambda of the name q (in its code object's table further names qs) -/
def tMk (X : Cx) (q : Str) (H : Hp) (k : TMap → List Str → Prop) : Prop := ∃ (T : TMap) (P c : Addr) (qs : List Str), X.env.code = .ref c ∧ T P = some (q :: qs) ∧ (PySem.W.CodeHd X.base c P ∨ ∃ q', H c = some (CodeN c q' P)) ∧ TabsX T H ∧ k T qs
/-- .. and what is known behind it: f the closure, c' its code object, P' that one's table -/
def kMk (q : Str) (H : Hp) (T : TMap) (qs : List Str) (k : Addr → Addr → Addr → TMap → Hp → Prop) : Prop := ∀ (T' : TMap) (f c' P' : Addr) (H1 : Hp), Sub T T' → LamX.ExtN H H1 → TabsX T' H1 → T' P' = some qs → H1 c' = some (CodeN c' q P') → k f c' P' T' H1
section
variable {X : Cx} {k kc j : Nat} {g : Addr} {fd : FuncData} {SP : Addr → Sp → Sp} {E : XK} {x m y a : Str} {q : Str} {p pos lpos apos : Pos} {params : Arguments} {body : Expr} {scope : Scope} {tb : Addr → Addr → XK → TE} {C : Addr} {o : Expr} {ta : TE}
/-- x(lambda: body) -/
def tLam0 (X : Cx) (q : Str) (SP : Addr → Sp → Sp) (E : XK) (tb : Addr → Addr → XK → TE) : TE := fun σ H Q => tMk X q H fun T qs => kMk q H T qs fun f c' P' T' H1 => SP f (fun vs HZ Q E => vs = [] ∧ HZ c' = some (CodeN c' q P') ∧ tb c' P' E σ HZ Q) [.ref f] H1 Q E
theorem pe_lam0 (F : CFn X.prog X.w X.K X.mg X.base k (kc + 1) g fd [a] SP) (hr : Room k X.A) (hg : Gl X x) (hm : X.mg x = some (.ref g)) (hk : PySem.W.keepIn X.K (.ref g) = true) (hb : Binds X.K fd [a] []) (hx : Passes (L2.CX X.prog X.w) X E) (hq : q = X.env.qual ++ "<lambda>") (bm0 : ∃ P0, X.base.BuiltinsAt X.mg P0)
    (L : LamP X.env.scope scope []) (hdef : defaultsOf params X.env = ([], [])) (hbind : ∀ (cl : List (Str × Addr)) (pm cv ctv : Value), bindArgs (PySem.W.kla_fn "<lambda>" q params body scope cl pm cv ctv) ⟨[], []⟩ = pure [])
    (hbody : ∀ (f c' P' : Addr) (A : Around) (outer : List Env) (t : Shared) (HZ : Hp) (E : XK), Room kc (A.deeper (LamX.lamEnv X scope t.heap.objs.size f c')) → PE (LamX.lamCx X A outer t HZ E scope f c') body (tb c' P' E)) (hdb : (x == ("__debug__" : Str)) = false := by decide) :
    PE X (.Call (.Name x p) [.Lambda params body scope lpos] [] pos) (tLam0 X q SP E tb) := ⟨fun pins s σ H Q I h => by
  obtain ⟨T, P, c, qs, code, tp, chd, hT, h⟩ := h
  refine wpAny_Call_Name_kw (ld_glob I hg hm ?_ hdb)
  refine PySem.W.callWith_K (h₀ := X.base) I.ok.mod.kin hk ?_ (by rfl) (by rfl)
  show wpAny _ _ (spliced ((false, eval (.Lambda params body scope lpos) X.env) :: backTo pos (starEach [] X.env))) _ _ s
  refine Calls.spliced_cons (lam_make I ⟨c, P, code, tp, chd⟩ hq bm0 hT hdef (L.has I.ok) fun T' f c' P' pm ctv H1 s' sub J eN hT' tp' hf hn nf hc => ?_)
  refine Calls.spliced_nil ⟨J.kIn, ?_⟩
  have CL := clo_lam0 (k := kc) (P' := P') J L hq hf hn nf hbind (hbody f c' P')
  have bd := hb s' [.ref f] J.kIn rfl
  refine wpAny_call (codeAny_mono (F.run X.A X.stack s' H1 ⟨[.ref f], []⟩ [.ref f] [.ref f] Q E f _ hr J.env0 (by simpa using bd) (.cons rfl .nil) CL (h T' f c' P' H1 sub eN hT' tp' hc)) fun r s2 z => ?_)
  cases r with
  | error er => exact hx pins σ H1 s' er s2 J z
  | ok fl =>
    cases fl with
    | ret u => exact J.after z
    | next => exact z.elim
    | brk => exact z.elim
    | cont => exact z.elim⟩
/-- o.m(lambda y: body) -/
def tLamM (X : Cx) (C : Addr) (m q : Str) (j : Nat) (SP : Addr → Sp → Sp) (E : XK) (ta : TE) (tb : Addr → Addr → XK → TE) : TE := fun σ H Q => ta σ H fun v H0 => ∃ a dx fs, v = .ref a ∧ H0 a = some (.ins C dx fs) ∧ fs.lookup m = none ∧
  tMk X q H0 fun T qs => kMk q H0 T qs fun f c' P' T' H1 => SP f (fun vs HZ Q E => ∃ v, vs = [v] ∧ HZ c' = some (CodeN c' q P') ∧ tb c' P' E (σ.set j (some v)) HZ Q) [.ref a, .ref f] H1 Q E
theorem pe_lamM {pl : Sem Bool} {b : Str} (he : PE X o ta) (cl : Cls X.K C) (hm : Meth X.K C m g) (F : CFn X.prog X.w X.K X.mg X.base k (kc + 1) g fd [b, a] SP) (hr : Room k X.A) (hb : Binds X.K fd [b, a] []) (hx : Passes (L2.CX X.prog X.w) X E) (hq : q = X.env.qual ++ "<lambda>") (bm0 : ∃ P0, X.base.BuiltinsAt X.mg P0)
    (L : LamP X.env.scope scope [y]) (hj : X.N[j]? = some y) (nd : X.N.Nodup) (hdef : defaultsOf params X.env = ([], [])) (hbind : ∀ (cl : List (Str × Addr)) (pm cv ctv u : Value), bindArgs (PySem.W.kla_fn "<lambda>" q params body scope cl pm cv ctv) ⟨[u], []⟩ = pure [(y, u)])
    (hbody : ∀ (f c' P' : Addr) (A : Around) (outer : List Env) (t : Shared) (HZ : Hp) (E : XK), Room kc (A.deeper (LamX.lamEnv X scope t.heap.objs.size f c')) → PE (LamX.lamCx X A outer t HZ E scope f c') body (tb c' P' E))
    (ht : eval (.Call (.Attribute o m apos) [.Lambda params body scope lpos] [] pos) X.env = (do
      let ov ← eval o X.env
      standAt apos.atName
      let (f, first) ← holding [ov] (getMethod ov m pl)
      callWith pos f first (backTo pos (starEach [.Lambda params body scope lpos] X.env)) (backToKw pos (keywordEach [] X.env))) := by rfl) :
    PE X (.Call (.Attribute o m apos) [.Lambda params body scope lpos] [] pos) (tLamM X C m q j SP E ta tb) := ⟨fun pins s σ H Q I h => by
  refine PySem.W.methodCall_KW (pl := pl) (thn (he.run pins s σ H _ I h) fun u s1 z => ?_) ht
  obtain ⟨v, H0, I0, ru, a0, dx, fs, rfl, ea, l, T, P, c, qs, code, tp, chd, hT, h⟩ := z
  cases ru
  refine getmeth_ok I0 ea cl hm l ?_
  refine PySem.W.callWith_K (first := [.ref a0]) (h₀ := X.base) I.ok.mod.kin hm.kp ?_ (by rfl) (by rfl)
  show wpAny _ _ (spliced ((false, eval (.Lambda params body scope lpos) X.env) :: backTo pos (starEach [] X.env))) _ _ _
  refine Calls.spliced_cons (lam_make I0 ⟨c, P, code, tp, chd⟩ hq bm0 hT hdef (L.has I0.ok) fun T' f c' P' pm ctv H1 s' sub J eN hT' tp' hf hn nf hc => ?_)
  refine Calls.spliced_nil ⟨J.kIn, ?_⟩
  have CL := clo_lam1 (k := kc) (P' := P') J L hj nd hq hf hn nf hbind (hbody f c' P')
  have bd := hb s' [.ref a0, .ref f] J.kIn rfl
  show wpAny _ _ (call (.ref g) [.ref a0, .ref f]) _ _ _
  refine wpAny_call (codeAny_mono (F.run X.A X.stack s' H1 ⟨[.ref a0, .ref f], []⟩ [.ref a0, .ref f] [.ref a0, .ref f] Q E f _ hr J.env0 (by simpa using bd) (.cons rfl (.cons rfl .nil)) CL (h T' f c' P' H1 sub eN hT' tp' hc)) fun r s2 z => ?_)
  cases r with
  | error er => exact hx pins σ H1 s' er s2 J z
  | ok fl =>
    cases fl with
    | ret u => exact J.after z
    | next => exact z.elim
    | brk => exact z.elim
    | cont => exact z.elim⟩
end
end Lm
namespace Lm
open PySem PySem.Spec PyProof.Rows L2
/-! ### a def that may be called while an exception is handled -/
abbrev cxN (P : Program) (w : World) (K : PySem.W.Frag) (mg : Str → Option Value) (base : Heap) (N : List Str) (qual : Str) (scope : Scope) (g : Addr) (cd : Value) (A : Around) (outer : List Env) (s : Shared) (H : Hp) (E : XK) (p : Addr × Obj) : Cx := L2H.cxH (L2.CX P w) P w K mg base N qual scope g cd A outer s H E p
structure HFn (P : Program) (w : World) (K : PySem.W.Frag) (mg : Str → Option Value) (base : Heap) (k : Nat) (g : Addr) (fd : FuncData) (ps : List Str) (sp : Sp) : Prop where
  len : ∀ vs H Q E, sp vs H Q E → vs.length = ps.length
  run : ∀ (A : Around) (outer : List Env) (s : Shared) (H : Hp) (args : Args) (us : List Value) (vs : List V) (Q : VK) (E : XK) (p : Addr × Obj), L2H.RoomH k A → L2H.PinOk outer H s p → Env0 P w K mg base A outer s H → BindsTo s fd args (ps.zip us) → Vals vs us → sp vs H Q E →
    codeAny (model P w) A (.call (.ref g) args) (CR (L2.CX P w) outer P w H s Q E) s
theorem hfn {P : Program} {w : World} {K : PySem.W.Frag} {mg : Str → Option Value} {base : Heap} {x qual : Str} {st : Stmt} {g : Addr} {fd : FuncData} {N ps : List Str} {k : Nat} {sp : Sp} (F : Fun K x qual st g fd) (S : FnScope N ps (defScope st)) (len : ∀ vs H Q E, sp vs H Q E → vs.length = ps.length)
    (body : ∀ (cdv : Value) (A : Around) (outer : List Env) (s : Shared) (H : Hp) (vs : List V) (Q : VK) (E : XK) (p : Addr × Obj), L2H.RoomH k (A.deeper (envOfC qual (defScope st) s.heap.objs.size g cdv)) → sp vs H Q E →
      ∃ t, PSs (cxN P w K mg base N qual (defScope st) g cdv A outer s H E p) (defBody st) t ∧ t { nx := fun _ H' => Q .non H', rt := Q } (start N vs) H) : HFn P w K mg base (k + 1) g fd ps sp := by
  obtain ⟨oc, od, kV, doc, pm, an, cdv, ct, osl, rfl, look, code⟩ := F.ex
  refine ⟨len, fun A outer s H args us vs Q E p room pin e0 bd r h => ?_⟩
  have KS : K.In s.heap := e0.mod.kin.keeps fun b o e => (e0.bs b o e).1
  have NL : s.heap.NoLimit := e0.mod.nolimit.keeps fun b o e => (e0.bs b o e).1
  have arg : ∀ y ∈ ps.zip us, (defScope st).names.lookup y.1 = some .local ∨ ((defScope st).names.lookup y.1 = some .cell ∧ ((cellsFrom (s.heap.objs.size + 1) (defScope st).names []).lookup y.1).isSome = true) := by
    rintro ⟨n, v⟩ hy
    exact (S.par n (List.of_mem_zip hy).1).imp id fun q => ⟨q, PySem.W.cellsFrom_some _ _ _ (.inl q)⟩
  refine codeAny_call_function room.depth (KS _ _ look) rfl S.co S.gen rfl (PySem.W.codeRec_of KS code) (bd _ _ _ _ (wpAny_newFunctionEnv_cells S.kind arg fun env he t z => ?_))
  cases he
  obtain ⟨tr, hp, q⟩ := body cdv A outer s H vs Q E p (room.deeper _) h
  refine ⟨NL.keeps z.toInCall.keep, codeAny_func (wpAny_mono (hp.run [] t (start N vs) H _ (L2H.inv_startH S pin e0 (len _ _ _ _ h) r z) q) (fun fl s' r => ?_) fun e s' r => r)⟩
  cases fl with
  | next => let ⟨σ', H', J, q⟩ := r; exact ⟨.non, H', J.os, J.bare, J.base, J.hok, rfl, q⟩
  | ret u => let ⟨v, σ', H', J, rv, q⟩ := r; exact ⟨v, H', J.os, J.bare, J.base, J.hok, rv, q⟩
  | brk => let ⟨_, _, _, q⟩ := r; exact False.elim q
  | cont => let ⟨_, _, _, q⟩ := r; exact False.elim q
end Lm
namespace Lm
open PySem PySem.W PySem.Spec PyProof.Rows
section
variable {prog : Program} {w : World} {A : Around} {E : Value → Shared → Prop} {s : Shared} {env : Env} {K : Frag} {x C fe fx : Addr} {ox : Obj} {od : Option Obj} {pos : Pos}
/-- what a with statement does with an exception of its suite -/
def WithRaised (prog : Program) (w : World) (A : Around) (E : Value → Shared → Prop) (env : Env) (x fx : Addr) (Q : Flow → Shared → Prop) (e : Value) (t : Shared) : Prop :=
  wpAny (model prog w) A (noteFrame e env) (fun _ t1 => wpAny (model prog w) A (setFlight e none) (fun _ t2 => e ≠ byPass ∧ wpAny (model prog w) A (typeOf e) (fun ty t3 => wpAny (model prog w) A (tracebackOf e) (fun tb t4 =>
    codeAny (model prog w) (A.mark (some e)) (.call (.ref fx) ⟨[.ref x, ty, e, tb], []⟩) (fun r t5 => r = .ok (.ret .none) ∧ wpAny (model prog w) A (PySem.passOn "with" e env) Q E t5) t4) E t3) E t2) E t1) E t
/-- `with x:` over a suite that may raise -/
theorem kwx {bdy : Sem Flow} {Q : Flow → Shared → Prop} (X : K.In s.heap) (I : InstAt s.heap x ox C od) (he : findIn K (.ref C) "__enter__" = some (some (.ref fe))) (hfe : isFn K (.ref fe) = true) (hx : findIn K (.ref C) "__exit__" = some (some (.ref fx))) (hfx : isFn K (.ref fx) = true)
    (h : wpAny (model prog w) A (call (.ref fe) [.ref x]) (fun v t => wpAny (model prog w) A bdy (fun f t => wpAny (model prog w) A (call (.ref fx) [.ref x, .none, .none, .none]) (fun _ t => Q f t) E t) (fun e t => WithRaised prog w A E env x fx Q e t) t) E s) :
    wpAny (model prog w) A (withItem false pos env (pure (.ref x)) none bdy) Q E s := by
  obtain ⟨cd, hcd, ae⟩ := kw_along he
  obtain ⟨cd', hcd', ax⟩ := kw_along hx
  cases hcd.symm.trans hcd'
  obtain ⟨hh, g, d, tt, os⟩ := s
  have L1 : Looks (model prog w) hh (specialOnItsLine (.ref x) "__enter__") (some (.ref fe), cd.mro) := kw_special X I hcd ae
  have L2 : Looks (model prog w) hh (specialOnItsLine (.ref x) "__exit__") (some (.ref fx), cd.mro) := kw_special X I hcd ax
  have L3 : Looks (model prog w) hh (bindSpecial (.ref fe) (.ref x)) (.ref fe, [.ref x]) := bind_fn X _ (beq_iff_eq.mp hfe)
  have L4 : Looks (model prog w) hh (bindSpecial (.ref fx) (.ref x)) (.ref fx, [.ref x]) := bind_fn X _ (beq_iff_eq.mp hfx)
  have L5 : Looks (model prog w) hh (aMethodOfAnotherBuiltinTypeStops (.ref fe) cd.mro) () := Looks.of_pure rfl
  have L6 : Looks (model prog w) hh (aMethodOfAnotherBuiltinTypeStops (.ref fx) cd.mro) () := Looks.of_pure rfl
  unfold withItem
  refine wpAny_bind (wpAny_pure ?_)
  refine wpAny_bind (wpAny_standAt ?_)
  simp only [Bool.false_eq_true, if_false]
  kw_lk
  refine wpAny_mono h (fun v t h2 => ?_) fun _ _ z => z
  kw_lk
  refine wpAny_attempt (kw_held ?_)
  refine wpAny_mono h2 (fun f t h3 => ?_) fun e t h3 => ?_
  · kw_lk
    refine wpAny_mono h3 (fun _ t h4 => ?_) fun _ _ z => z
    kw_lk
    exact h4
  · dsimp only
    refine wpAny_bind (wpAny_mono h3 (fun _ t1 h4 => wpAny_bind (wpAny_mono h4 (fun _ t2 h5 => ?_) fun _ _ z => z)) fun _ _ z => z)
    obtain ⟨nb, h5⟩ := h5
    refine wpAny_bind (wpAny_standAt (wpAny_holding (wpAny_bind (wpAny_mono h5 (fun ty t3 h6 => wpAny_bind (wpAny_mono h6 (fun tb t4 h7 => ?_) fun _ _ z => z)) fun _ _ z => z))))
    refine wpAny_bind ?_
    unfold withItem.marked
    refine wpAny_bind (wpAny_run (codeAny_mono h7 fun r t5 h8 => ?_) (fun z => nb (Option.some.inj z)))
    obtain ⟨rfl, h8⟩ := h8
    dsimp only
    exact wpAny_pure (wpAny_bind (wpAny_pure (wpAny_bind (wpAny_pure h8))))
end
end Lm
namespace Lm
open PySem PySem.Spec PyProof.Rows L2
section
variable {X : Cx} {pins : List (Addr × Obj)} {D : Ends} {Wout : WX} {k : Nat} {x fx : Addr} {fd : FuncData} {ps : List Str} {sp : Sp}
/-- what is wished of an exception of the suite: __exit__ runs, hands out None, on it goes -/
def wWith (x : Addr) (sp : Sp) (Wout : WX) : WX := fun cls d σ H => ∃ vt : V, RelV vt cls ∧ ∀ va vb : V, sp [.ref x, vt, va, vb] H (fun z H' => z = .non ∧ Wout cls d σ H') fun _ _ _ => False
theorem with_exc {u : Value} {t : Shared} (hs : X.stack = X.env :: X.outer) (hf : X.env.frame = some X.env.locals) (hex : X.ex = []) (ok : X.Ok) (tk : Takes X Wout) (Hx : HFn X.prog X.w X.K X.mg X.base k fx fd ps sp) (hr : L2H.RoomH k X.A) (hb : Binds X.K fd ps [])
    (xx : XE (X.tr (X.pn ++ pins) (fun e t => WithRaised X.prog X.w X.A X.xe X.env x fx (SP X pins D) e t)) (wWith x sp Wout) u t) : WithRaised X.prog X.w X.A X.xe X.env x fx (SP X pins D) u t := by
  have frm : X.A.frames = some (X.env :: X.outer) := by rw [ok.frames, hs]
  obtain ⟨a, B, sI, pins', σ, H, cls, d, rfl, J', ground, up, sky, na, os, ag, vt, rvt, hw⟩ := xx
  have J : Inv X pins σ H sI := J'.ofTry ok
  have sky2 : Sky B (X.env :: X.outer) a (Zc cls d) X.env.locals t.heap := by rw [← hs]; exact sky
  unfold WithRaised
  have go : ∀ g1, HandSPX.HeldZ B (X.env :: X.outer) a (Zc cls d) X.env.locals g1 → t.heap.UpToSlots g1 → wpAny (model X.prog X.w) X.A (setFlight (.ref a) none) (fun _ t2 => Value.ref a ≠ byPass ∧ wpAny (model X.prog X.w) X.A (typeOf (.ref a)) (fun ty t3 => wpAny (model X.prog X.w) X.A (PySem.tracebackOf (.ref a)) (fun tb t4 =>
      codeAny (model X.prog X.w) (X.A.mark (some (.ref a))) (.call (.ref fx) ⟨[.ref x, ty, .ref a, tb], []⟩) (fun r t5 => r = .ok (.ret .none) ∧ wpAny (model X.prog X.w) X.A (PySem.passOn "with" (.ref a) X.env) (SP X pins D) X.xe t5) t4) X.xe t3) X.xe t2) X.xe { t with heap := g1 } := fun g1 held up1 => by
    refine HandSPX.landsZ held fun g3 fly up3 => ⟨ref_ne_byPass a, ?_⟩
    have J3 : Inv X pins σ H { t with heap := g3 } := J.landed ground fly.1 ((up.trans up1).trans up3) os ag
    obtain ⟨l1, l2, l3, oe, vs, T, oT, ts, ge, hz, de, ve, nTB, Tne, gT, dT, fl3⟩ := id fly
    have nT : H T = none := (J.inGround ground).gone nTB
    have offFrames : ∀ (b : Addr) (o : Obj) (r : Array Value), g3.get? b = some o → o.data = .fields r → b ∉ frs (X.env :: X.outer) := fun b o r e dd hm => by
      obtain ⟨_, o2, e2, no⟩ := l3.mem hm
      cases e.symm.trans e2
      exact no _ dd
    have fa := offFrames a oe vs ge de
    have fT := offFrames T oT ts gT dT
    have fa' : a ∉ frs X.stack := by rw [hs]; exact fa
    have fT' : T ∉ frs X.stack := by rw [hs]; exact fT
    obtain ⟨clsEq, dEq⟩ := hz
    -- the class, the traceback
    refine wpAny_typeOf_ref ge ?_
    rw [clsEq]
    have t1 : ∃ v1, ts[1]? = some v1 := by
      have := (Array.getElem?_eq_some_iff.mp fl3).1
      exact ⟨ts[1], Array.getElem?_eq_getElem (by omega)⟩
    obtain ⟨v1, hv1⟩ := t1
    have tbk : ∀ {R : Value → Shared → Prop}, (∀ (tb : Value) (vb : V), RelV vb tb → R tb { t with heap := g3 }) → wpAny (model X.prog X.w) X.A (PySem.tracebackOf (.ref a)) R X.xe { t with heap := g3 } := fun {R} hR => by
      unfold PySem.tracebackOf
      refine wpAny_bind (wpAny_field ge de ve ?_)
      dsimp only
      refine wpAny_bind (wpAny_field gT dT hv1 ?_)
      split
      · exact wpAny_pure (hR _ .non rfl)
      · exact wpAny_pure (hR _ (.ref T) rfl)
    refine tbk fun tb vb rvb => ?_
    -- __exit__
    have pin : L2H.PinOk X.stack H { t with heap := g3 } (a, oe) := ⟨ge, na, fa', fun v z => by
      have z2 : oe.data = .cell v := z
      rw [de] at z2; cases z2⟩
    have hsp := hw (.ref a) vb
    have e0 : Env0 X.prog X.w X.K X.mg X.base (X.A.mark (some (.ref a))) X.stack { t with heap := g3 } H := by
      have z := J3.env0
      exact ⟨z.frames, z.mod, z.bs, z.bsz, z.funs, z.frf, z.hok, z.bare⟩
    have hl := Hx.len _ _ _ _ hsp
    have bd := hb { t with heap := g3 } [.ref x, cls, .ref a, tb] J3.kIn (by simpa using hl)
    refine codeAny_mono (Hx.run (X.A.mark (some (.ref a))) X.stack { t with heap := g3 } H ⟨[.ref x, cls, .ref a, tb], []⟩ [.ref x, cls, .ref a, tb] [.ref x, vt, .ref a, vb] _ (fun _ _ _ => False) (a, oe) ⟨hr.dp, hr.un⟩ pin e0 (by simpa using bd) (.cons rfl (.cons rvt (.cons rfl (.cons rvb .nil)))) hsp) fun r t5 z => ?_
    cases r with
    | error er =>
      obtain ⟨_, _, _, _, _, _, _, _, _, _, _, _, z⟩ := z
      exact z.elim
    | ok fl =>
      cases fl with
      | next => exact z.elim
      | brk => exact z.elim
      | cont => exact z.elim
      | ret y =>
        obtain ⟨v, H6, os6, bare6, un6, hok6, ry, rfl, hW⟩ := id z
        cases ry
        refine ⟨rfl, ?_⟩
        obtain ⟨hh, gg, dd, tt, oo⟩ := t5
        obtain rfl : oo = _ := os6
        have J6 := J3.call (h' := hh) (g' := gg) (d' := dd) (t' := tt) (ch := []) un6 hok6 bare6 (fun b z => absurd z (by simp))
        have ga : hh.get? a = some oe := un6.keep a oe ge na fa' (by simp)
        have gT6 : hh.get? T = some oT := un6.keep T oT gT nT fT' (by simp)
        have na6 : H6 a = none := un6.free a oe ge na (by simp)
        have nT6 : H6 T = none := un6.free T oT gT nT (by simp)
        -- all else is neither the exception nor its record
        have els : ∀ b o, sI.heap.get? b = some o → b ≠ a ∧ b ≠ T := fun b o e => by
          by_cases m : b ∈ frs X.stack
          · exact ⟨fun z => fa' (z ▸ m), fun z => fT' (z ▸ m)⟩
          · have g := ground b o e m
            exact ⟨(fun z => by rw [z, l2] at g; cases g), (fun z => by rw [z, nTB] at g; cases g)⟩
        have els0 : ∀ b o, X.s_0.heap.get? b = some o → b ≠ a ∧ b ≠ T := fun b o e => (J.base.there b o e (by rw [hex]; simp)).elim fun o' g => els b o' g
        have elsP : ∀ r ∈ X.pn ++ pins, r.1 ≠ a ∧ r.1 ≠ T := fun r hr => els r.1 r.2 (J.pin r hr).1
        obtain ⟨G, gYes, gNo⟩ := restrict hh fun b => !(decide (b = a) || decide (b = T))
        have inG : ∀ b o, G.get? b = some o → hh.get? b = some o ∧ b ≠ a ∧ b ≠ T := fun b o e => by
          cases c : (!(decide (b = a) || decide (b = T))) with
          | false => rw [gNo b c] at e; cases e
          | true =>
            rw [gYes b c] at e
            simp only [Bool.not_eq_true', Bool.or_eq_false_iff, decide_eq_false_iff_not] at c
            exact ⟨e, c⟩
        have toG : ∀ b o, b ≠ a → b ≠ T → hh.get? b = some o → G.get? b = some o := fun b o n1 n2 e => by rw [gYes b (by simp [n1, n2])]; exact e
        have IG := J6.less (fun b o e => (inG b o e).1) toG ⟨oe, vs, ga, de⟩ ⟨oT, ts, gT6, dT⟩ na6 nT6 els0 elsP
        have under : ∀ b o, (PySem.W.hideAll G (frs X.stack)).get? b = some o → hh.get? b = some o := fun b o e => (inG b o (PySem.W.of_hideAll _ e)).1
        have out : ∀ b, (b = a ∨ b = T) → (PySem.W.hideAll G (frs X.stack)).get? b = none := fun b hb => by
          cases c : (PySem.W.hideAll G (frs X.stack)).get? b with
          | none => rfl
          | some o =>
            obtain ⟨_, n1, n2⟩ := inG b o (PySem.W.of_hideAll _ c)
            exact (hb.elim n1 n2).elim
        have ff : hh.FunFrames (PySem.W.hideAll G (frs X.stack)) (X.env :: X.outer) := by
          rw [← hs]
          exact funFrames_none (B := PySem.W.hideAll G (frs X.stack)) J6.stack fun b hb => PySem.W.hideAll_none _ hb
        have fly6 : HandSPX.FlyingZ (PySem.W.hideAll G (frs X.stack)) (X.env :: X.outer) a (Zc cls d) hh := ⟨under, out a (.inl rfl), ff, oe, vs, T, oT, ts, ga, ⟨clsEq, dEq⟩, de, ve, out T (.inr rfl), Tne, gT6, dT, fl3⟩
        unfold PySem.passOn
        refine wpAny_bind (wpAny_field ga de ve ?_)
        rw [if_neg (show ¬ ((Value.ref T == Value.none) = true) from by simp)]
        have last : wpAny (model X.prog X.w) X.A (setFlight (.ref a) X.env.frame) (fun _ t7 => wpAny (model X.prog X.w) X.A (throw (.ref a) : Sem Flow) (SP X pins D) X.xe t7) X.xe ({ heap := hh, gens := gg, drawn := dd, toks := tt, os := t.os } : Shared) := by
          rw [hf]
          refine HandSPX.setFlight_upZ fly6 fun h7 held7 up7 => wpAny_throw (tk _ _ ⟨a, PySem.W.hideAll G (frs X.stack), { heap := G, gens := gg, drawn := dd, toks := tt, os := t.os }, pins, σ, H6, cls, d, rfl, IG, fun b o e n => PySem.W.hideAll_get _ e n, ?_, .inr (.inr (by rw [← hs] at held7; exact held7)), na6, rfl, J6.bare, hW⟩)
          exact Heap.UpToSlots.trans (Heap.UpToSlots.of_keeps fun b o e => (inG b o e).1) up7
        first
          | exact wpAny_bind (wpAny_pure (wpAny_bind last))
          | exact wpAny_bind last
  rcases sky2 with ⟨hB, hn, hl, oe, vs, he0, hz, hd, hv1⟩ | fl | hh
  · exact HandSPX.look_newZ Zc.steady frm hl hf he0 hB hn hd hv1 hz go
  · exact HandSPX.looks_onZ Zc.steady frm hf fl go
  · exact HandSPX.againZ hf hh.2.2.2 (go t.heap hh (Heap.UpToSlots.refl _))
end
end Lm
namespace Lm
open PySem PySem.Spec PyProof.Rows L2
section
variable {X : Cx} {ctx e : Expr} {rp pos : Pos} {C fe fx : Addr} {fde fdx : FuncData} {pse psx : List Str} {spE spX : Sp} {ke kx : Nat} {tc : TE} {te : WX → TE} {Wout : WX}
/-- with ctx: return e -/
def tWith (C : Addr) (spE spX : Sp) (tc : TE) (te : WX → TE) (Wout : WX) : TS := fun D σ H => tc σ H fun v H1 => ∃ p dx fs, v = .ref p ∧ H1 p = some (.ins C dx fs) ∧
  spE [.ref p] H1 (fun _ H2 => te (wWith p spX Wout) σ H2 fun z H3 => spX [.ref p, .non, .non, .non] H3 (fun _ H4 => D.rt z H4) fun _ _ _ => False) fun _ _ _ => False
theorem ps_with (hs : X.stack = X.env :: X.outer) (hf : X.env.frame = some X.env.locals) (hex : X.ex = []) (tk : Takes X Wout) (hc : PE X ctx tc) (he : PySem.W.findIn X.K (.ref C) "__enter__" = some (some (.ref fe))) (ie : PySem.W.isFn X.K (.ref fe) = true) (hx : PySem.W.findIn X.K (.ref C) "__exit__" = some (some (.ref fx))) (ix : PySem.W.isFn X.K (.ref fx) = true)
    (Fe : FnOk X.prog X.w X.K X.mg X.base CX0 ke fe fde pse spE) (re : Room ke X.A) (be : Binds X.K fde pse []) (Fx : FnOk X.prog X.w X.K X.mg X.base CX0 kx fx fdx psx spX) (Hx : HFn X.prog X.w X.K X.mg X.base kx fx fdx psx spX) (rx : Room kx X.A) (bx : Binds X.K fdx psx [])
    (hb : ∀ (W : WX) (pn : List (Addr × Obj)) (xe : Value → Shared → Prop), Takes (X.tr pn xe) W → PassesOwn (model X.prog X.w) X.A X.env xe → PE (X.tr pn xe) e (te W)) : PS X (.With [⟨ctx, none⟩] [.Return (some e) rp] pos) (tWith C spE spX tc te Wout) := by
  refine ⟨fun pins s σ H D I h => ?_⟩
  have ok := I.ok
  refine PySem.W.kw_exec0 (wpAny_mono (hc.run pins s σ H _ I h) (fun u s1 z => ?_) fun _ _ q => q)
  obtain ⟨v, H1, I1, rv, p, dx, fs, rfl, hp, h2⟩ := z
  cases rv
  unfold PySem.W.KwIn
  obtain ⟨mA, O, _⟩ := ins_get I1.hok hp
  obtain ⟨od, Jn, _⟩ := O.look
  refine kwx I1.kIn Jn he ie hx ix ?_
  refine wpAny_mono (run_fn (us := [.ref p]) (vs := [.ref p]) Fe re be .nil pass0 I1 (.cons rfl .nil) h2) (fun v2 s2 z => ?_) fun _ _ q => q
  obtain ⟨_, H2, I2, _, h3⟩ := z
  refine wpAny_execs_cons (wpAny_Return_some ?_)
  refine wpAny_mono ((hb (wWith p spX Wout) (X.pn ++ pins) (fun e t => WithRaised X.prog X.w X.A X.xe X.env p fx (SP X pins D) e t) (fun u t xx => with_exc hs hf hex ok tk Hx (L2H.roomH_of rx) bx xx) PassesOwn.looking).run [] s2 σ H2 _ (I2.toTry _) h3) (fun u s3 z => ?_) fun _ _ q => q
  obtain ⟨z, H3, I3, rz, h4⟩ := z
  have J3 := I3.ofTry ok
  refine wpAny_mono (run_fn (us := [.ref p, .none, .none, .none]) (vs := [.ref p, .non, .non, .non]) Fx rx bx .nil pass0 J3 (.cons rfl (.cons rfl (.cons rfl (.cons rfl .nil)))) h4) (fun v4 s4 q => ?_) fun _ _ q => q
  obtain ⟨_, H4, I4, _, q⟩ := q
  exact ⟨z, σ, H4, I4, rz, q⟩
end
end Lm
namespace Lm
open PySem PySem.Spec PyProof.Rows L2
section
variable {X : Cx} {W : WX}
/-- i // 0 -/
theorem op_fdiv0 {W0 : Hp → Prop} (hc : X.calm = true) (tk : Takes X W) (hw : ∀ d σ H, W0 H → W (.type "ZeroDivisionError") d σ H) : OpR X (binaryOp .FloorDiv) (fun x y H _ => ∃ i : Int, x = .int i ∧ y = .int 0 ∧ W0 H) := by
  rintro pins s σ H x y v u Q I rx ry ⟨i, rfl, rfl, h⟩
  obtain ⟨t, rfl⟩ := rx
  obtain ⟨t', rfl⟩ := ry
  exact PySem.AutoIntOps.floordiv_0 rfl ⟨I.ok.hd hc, fun h' tk' e hx => takes_new (t' := tk') tk I hx fun d => hw d σ H h⟩
end
end Lm
/-! list(zip(t, u)) of two tuples: every pair is a new tuple, since the list holds the one that was given out before. -/
namespace GZ
open PySem PySem.W PySem.Spec PyProof.Rows
section
variable {prog : Program} {w : World} {A : Around} {E : Value → Shared → Prop} {s : Shared}
theorem heldItem {z TI TO T i1 i2 l1 l2 : Addr} {f : Bool} {oT : Obj} {k : Nat} {xs ys : Array Value} {x y : Value} {Q : Value → Shared → Prop} (D : ZipApart z TI TO i1 i2 l1 l2)
    (gz : IsZipHeld s.heap z TI TO T f) (gT : s.heap.get? T = some oT) (gI : IsPair s.heap TI (.ref i1) (.ref i2))
    (a1 : s.heap.IsTupleIter i1 l1 k) (a2 : s.heap.IsTupleIter i2 l2 k) (b1 : s.heap.IsTuple l1 xs) (b2 : s.heap.IsTuple l2 ys) (ex : xs[k]? = some x) (ey : ys[k]? = some y)
    (hQ : ∀ h', IsZipHeld h' z TI TO T true → h'.IsTupleIter i1 l1 (k + 1) → h'.IsTupleIter i2 l2 (k + 1) → IsPair h' s.heap.objs.size x y → h'.objs.size = s.heap.objs.size + 1 →
      (∀ c o, c ≠ z → c ≠ i1 → c ≠ i2 → s.heap.get? c = some o → h'.get? c = some o) → Q (.ref s.heap.objs.size) { s with heap := h' }) :
    wpAny (model prog w) A (Builtin.«zip.__next__» ⟨[.ref z], []⟩) (fun fin s' => ∃ v, fin = .done (.ret v) ∧ Q v s') E s := by
  show wpAny (model prog w) A (field (.ref z) 2 >>= _) _ E s
  refine wpAny_bind (wpAny_field gz rfl (x := .bool false) rfl ?_); show wpAny (model prog w) A (field (.ref z) 3 >>= _) _ E s
  refine wpAny_bind (wpAny_field gz rfl (x := .ref TI) rfl (wpAny_bind (wpAny_seqItems gI rfl ?_)))
  show wpAny (model prog w) A (Builtin.SmallTypes.ownedTupleIsFree (.ref z) >>= _) _ E s
  refine wpAny_bind (wpAny_tupleHeld_zip gz gT fun g1 gz1 s1 => ?_)
  simp only [Bool.false_eq_true, if_false]
  refine wpAny_bind ?_; rw [← Array.forIn_toList]; simp only [List.forIn_cons, List.forIn_nil]
  refine wpAny_bind (wpAny_bind (wpAny_holding ?_)); show wpAny (model prog w) A (Builtin.SmallTypes.nextOf (.ref i1) >>= _) _ _ _
  refine wpAny_bind (RZ.nextOf_tuple_item (s := { s with heap := g1 }) (a1.extBut s1.extBut D.i1z) (b1.extBut s1.extBut D.l1z) ex fun g2 a12 s2 => wpAny_pure (wpAny_pure ?_))
  refine wpAny_bind (wpAny_bind (wpAny_holding ?_)); show wpAny (model prog w) A (Builtin.SmallTypes.nextOf (.ref i2) >>= _) _ _ _
  refine wpAny_bind (RZ.nextOf_tuple_item (s := { s with heap := g2 }) ((a2.extBut s1.extBut D.i2z).extBut s2.extBut D.i12.symm) ((b2.extBut s1.extBut D.l2z).extBut s2.extBut D.l2i1) ey fun g3 a23 s3 => wpAny_pure (wpAny_pure (wpAny_pure ?_)))
  show wpAny (model prog w) A (newTuple [x, y] >>= _) _ _ _
  refine wpAny_bind (wpAny_newTuple ?_)
  have sz : g3.objs.size = s.heap.objs.size := by rw [s3.1, s2.1, s1.1]
  have gz3 : IsZipHeld g3 z TI TO T true := s3.extBut _ _ D.i2z.symm (s2.extBut _ _ D.i1z.symm gz1)
  have kp : ∀ c o, c ≠ z → c ≠ i1 → c ≠ i2 → s.heap.get? c = some o → g3.get? c = some o := fun c o p q r e => s3.extBut _ _ r (s2.extBut _ _ q (s1.extBut _ _ p e))
  have a13 : g3.IsTupleIter i1 l1 (k + 1) := a12.extBut s3.extBut D.i12
  refine wpAny_pure ⟨_, rfl, ?_⟩
  show Q (.ref g3.objs.size) _
  have pr : IsPair (g3.push { cls := .type "tuple", data := .seq #[x, y] }) g3.objs.size x y := Heap.get?_push_size _ rfl
  have z4 : (g3.push { cls := .type "tuple", data := .seq #[x, y] }).objs.size = g3.objs.size + 1 := Heap.size_push ..
  rw [sz] at pr z4 ⊢
  exact hQ _ (Heap.get?_push_of_some _ gz3) (a13.at fun o e => Heap.get?_push_of_some _ e) (a23.at fun o e => Heap.get?_push_of_some _ e) pr z4 fun c o p q r e => Heap.get?_push_of_some _ (kp c o p q r e)

theorem heldEnd {z TI TO T i1 i2 l1 l2 : Addr} {f : Bool} {oT : Obj} {k : Nat} {xs ys : Array Value} {Q : Fin → Shared → Prop} (hh : A.handled = none) (D : ZipApart z TI TO i1 i2 l1 l2)
    (gz : IsZipHeld s.heap z TI TO T f) (gT : s.heap.get? T = some oT) (gI : IsPair s.heap TI (.ref i1) (.ref i2))
    (a1 : s.heap.IsTupleIter i1 l1 k) (b1 : s.heap.IsTuple l1 xs) (ex : xs[k]? = none)
    (hE : ∀ h' e, (∀ c o, c ≠ z → c ≠ i1 → s.heap.get? c = some o → h'.get? c = some o) → (∃ o, h'.get? e = some o ∧ o.cls = .type "StopIteration") → E (.ref e) { s with heap := h' }) :
    wpAny (model prog w) A (Builtin.«zip.__next__» ⟨[.ref z], []⟩) Q E s := by
  show wpAny (model prog w) A (field (.ref z) 2 >>= _) _ E s
  refine wpAny_bind (wpAny_field gz rfl (x := .bool false) rfl ?_); show wpAny (model prog w) A (field (.ref z) 3 >>= _) _ E s
  refine wpAny_bind (wpAny_field gz rfl (x := .ref TI) rfl (wpAny_bind (wpAny_seqItems gI rfl ?_)))
  show wpAny (model prog w) A (Builtin.SmallTypes.ownedTupleIsFree (.ref z) >>= _) _ E s
  refine wpAny_bind (wpAny_tupleHeld_zip gz gT fun g1 gz1 s1 => ?_)
  simp only [Bool.false_eq_true, if_false]
  refine wpAny_bind ?_; rw [← Array.forIn_toList]; simp only [List.forIn_cons, List.forIn_nil]
  refine wpAny_bind (wpAny_bind (wpAny_holding ?_)); show wpAny (model prog w) A (Builtin.SmallTypes.nextOf (.ref i1) >>= _) _ _ _
  refine wpAny_bind (RZ.nextOf_tuple_end (s := { s with heap := g1 }) hh (a1.extBut s1.extBut D.i1z) (b1.extBut s1.extBut D.l1z) ex fun g2 e s2 he => ?_)
  exact hE g2 e (fun c o p q x => s2 _ _ q (s1.extBut _ _ p x)) he

theorem nextHeld {z TI TO T i1 i2 l1 l2 : Addr} {f : Bool} {oT : Obj} {k : Nat} {xs ys : Array Value} {x y : Value} {Q : Option Value → Shared → Prop} (D : ZipApart z TI TO i1 i2 l1 l2)
    (gz : IsZipHeld s.heap z TI TO T f) (gT : s.heap.get? T = some oT) (gI : IsPair s.heap TI (.ref i1) (.ref i2))
    (a1 : s.heap.IsTupleIter i1 l1 k) (a2 : s.heap.IsTupleIter i2 l2 k) (b1 : s.heap.IsTuple l1 xs) (b2 : s.heap.IsTuple l2 ys) (ex : xs[k]? = some x) (ey : ys[k]? = some y)
    (hQ : ∀ h', IsZipHeld h' z TI TO T true → h'.IsTupleIter i1 l1 (k + 1) → h'.IsTupleIter i2 l2 (k + 1) → IsPair h' s.heap.objs.size x y → h'.objs.size = s.heap.objs.size + 1 →
      (∀ c o, c ≠ z → c ≠ i1 → c ≠ i2 → s.heap.get? c = some o → h'.get? c = some o) → Q (some (.ref s.heap.objs.size)) { s with heap := h' }) :
    wpAny (model prog w) A (pyNext (.ref z)) Q E s := by
  have ty : s.TypeIs (.ref z) "zip" := ⟨_, gz, rfl⟩
  unfold pyNext
  exact wpAny_bind (wpAny_attempt (wpAny_callSpecial?_slot (name := Str.ofString "__next__") ty PySem.F.slot_zip_next (wpAny_call_entry PySem.F.slot_zip_next ty PySem.F.entry_zip_next
      (heldItem D gz gT gI a1 a2 b1 b2 ex ey fun h' p1 p3 p4 p5 p6 p7 => wpAny_pure (hQ h' p1 p3 p4 p5 p6 p7)) (PySem.F.args_zip_next_1 _))))
theorem endHeld {z TI TO T i1 i2 l1 l2 : Addr} {f : Bool} {oT : Obj} {k : Nat} {xs : Array Value} {Q : Option Value → Shared → Prop} (hh : A.handled = none) (D : ZipApart z TI TO i1 i2 l1 l2)
    (gz : IsZipHeld s.heap z TI TO T f) (gT : s.heap.get? T = some oT) (gI : IsPair s.heap TI (.ref i1) (.ref i2))
    (a1 : s.heap.IsTupleIter i1 l1 k) (b1 : s.heap.IsTuple l1 xs) (ex : xs[k]? = none)
    (hQ : ∀ h', (∀ c o, c ≠ z → c ≠ i1 → s.heap.get? c = some o → h'.get? c = some o) → Q none { s with heap := h' }) : wpAny (model prog w) A (pyNext (.ref z)) Q E s := by
  have ty : s.TypeIs (.ref z) "zip" := ⟨_, gz, rfl⟩
  unfold pyNext
  refine wpAny_bind (wpAny_attempt (wpAny_callSpecial?_slot (name := Str.ofString "__next__") ty PySem.F.slot_zip_next
    (wpAny_call_entry PySem.F.slot_zip_next ty PySem.F.entry_zip_next (heldEnd (xs := xs) (ys := #[]) hh D gz gT gI a1 b1 ex fun h' e hk he => ?_) (PySem.F.args_zip_next_1 _))))
  obtain ⟨o, ho, hc⟩ := he
  exact wpAny_bind (wpAny_isInstance (T := "StopIteration") (b := true) ⟨o, ho, hc⟩ isSubtype_stop (wpAny_pure (hQ _ hk)))
end

/-- a zip of two tuples behind k pairs; S: the list that is filled -/
structure ZS (h : Heap) (z TI TO i1 i2 l1 l2 S : Addr) (xs ys : Array Value) (k : Nat) : Prop where
  pI : IsPair h TI (.ref i1) (.ref i2)
  a1 : h.IsTupleIter i1 l1 k
  a2 : h.IsTupleIter i2 l2 k
  b1 : h.IsTuple l1 xs
  b2 : h.IsTuple l2 ys
  st : (IsZip h z TI TO .none ∧ ∃ a b, IsPair h TO a b) ∨ ∃ T f oT, IsZipHeld h z TI TO T f ∧ h.get? T = some oT ∧ T ≠ z ∧ T ≠ i1 ∧ T ≠ i2 ∧ T ≠ S
structure Off (z TI TO i1 i2 l1 l2 S : Addr) : Prop where
  z : z ≠ S
  TI : TI ≠ S
  TO : TO ≠ S
  i1 : i1 ≠ S
  i2 : i2 ≠ S
  l1 : l1 ≠ S
  l2 : l2 ≠ S
theorem ZS.keep {h h' : Heap} {z TI TO i1 i2 l1 l2 S : Addr} {xs ys : Array Value} {k : Nat} (Z : ZS h z TI TO i1 i2 l1 l2 S xs ys k) (O : Off z TI TO i1 i2 l1 l2 S) (kp : ∀ b o, b ≠ S → h.get? b = some o → h'.get? b = some o) :
    ZS h' z TI TO i1 i2 l1 l2 S xs ys k := by
  refine ⟨kp _ _ O.TI Z.pI, Z.a1.at fun o e => kp _ o O.i1 e, Z.a2.at fun o e => kp _ o O.i2 e, Z.b1.at fun o e => kp _ o O.l1 e, Z.b2.at fun o e => kp _ o O.l2 e, ?_⟩
  rcases Z.st with ⟨gz, a, b, gO⟩ | ⟨T, f, oT, gz, gT, r1, r2, r3, r4⟩
  · exact .inl ⟨kp _ _ O.z gz, a, b, kp _ _ O.TO gO⟩
  · exact .inr ⟨T, f, oT, kp _ _ O.z gz, kp _ _ r4 gT, r1, r2, r3, r4⟩
section
variable {prog : Program} {w : World} {A : Around} {E : Value → Shared → Prop} {s : Shared}
theorem zs_next {z TI TO i1 i2 l1 l2 S : Addr} {xs ys : Array Value} {k : Nat} {x y : Value} {Q : Option Value → Shared → Prop} (D : ZipApart z TI TO i1 i2 l1 l2) (O : Off z TI TO i1 i2 l1 l2 S) (hS : S < s.heap.objs.size)
    (Z : ZS s.heap z TI TO i1 i2 l1 l2 S xs ys k) (ex : xs[k]? = some x) (ey : ys[k]? = some y)
    (hQ : ∀ h', ZS h' z TI TO i1 i2 l1 l2 S xs ys (k + 1) → IsPair h' s.heap.objs.size x y → h'.objs.size = s.heap.objs.size + 1 →
      (∀ c o, c ≠ z → c ≠ TO → c ≠ i1 → c ≠ i2 → s.heap.get? c = some o → h'.get? c = some o) → Q (some (.ref s.heap.objs.size)) { s with heap := h' }) :
    wpAny (model prog w) A (pyNext (.ref z)) Q E s := by
  have lt : ∀ {c o}, s.heap.get? c = some o → s.heap.objs.size ≠ c := fun e => Nat.ne_of_gt (Heap.lt_size e)
  have n1 : s.heap.objs.size ≠ i1 := let ⟨_, e, _⟩ := Z.a1; lt e
  have n2 : s.heap.objs.size ≠ i2 := let ⟨_, e, _⟩ := Z.a2; lt e
  rcases Z.st with ⟨gz, a, b, gO⟩ | ⟨T, f, oT, gz, gT, r1, r2, r3, r4⟩
  · refine RZ.pyNext_zipT_item D gz Z.pI gO Z.a1 Z.a2 Z.b1 Z.b2 ex ey fun h' p1 p2 p3 p4 p5 p6 hk => ?_
    refine hQ h' ⟨hk _ _ D.TIz D.TITO D.TIi1 D.TIi2 Z.pI, p3, p4, Z.b1.at fun o e => hk _ o D.l1z D.l1TO D.l1i1 D.l1i2 e, Z.b2.at fun o e => hk _ o D.l2z D.l2TO D.l2i1 D.l2i2 e,
      .inr ⟨s.heap.objs.size, false, _, p1, p5, lt gz, n1, n2, Nat.ne_of_gt hS⟩⟩ p5 p6 hk
  · refine nextHeld D gz gT Z.pI Z.a1 Z.a2 Z.b1 Z.b2 ex ey fun h' p1 p3 p4 p5 p6 hk => ?_
    refine hQ h' ⟨hk _ _ D.TIz D.TIi1 D.TIi2 Z.pI, p3, p4, Z.b1.at fun o e => hk _ o D.l1z D.l1i1 D.l1i2 e, Z.b2.at fun o e => hk _ o D.l2z D.l2i1 D.l2i2 e,
      .inr ⟨T, true, oT, p1, hk _ _ r1 r2 r3 gT, r1, r2, r3, r4⟩⟩ p5 p6 fun c o c1 _ c3 c4 e => hk c o c1 c3 c4 e
theorem zs_end {z TI TO i1 i2 l1 l2 S : Addr} {xs ys : Array Value} {k : Nat} {Q : Option Value → Shared → Prop} (hh : A.handled = none) (D : ZipApart z TI TO i1 i2 l1 l2)
    (Z : ZS s.heap z TI TO i1 i2 l1 l2 S xs ys k) (ex : xs[k]? = none)
    (hQ : ∀ h', (∀ c o, c ≠ z → c ≠ TO → c ≠ i1 → c ≠ i2 → s.heap.get? c = some o → h'.get? c = some o) → Q none { s with heap := h' }) : wpAny (model prog w) A (pyNext (.ref z)) Q E s := by
  rcases Z.st with ⟨gz, a, b, gO⟩ | ⟨T, f, oT, gz, gT, r1, r2, r3, r4⟩
  · exact RZ.pyNext_zipT_end hh D gz Z.pI gO Z.a1 Z.a2 Z.b1 Z.b2 (.inl ex) hQ
  · exact endHeld hh D gz gT Z.pI Z.a1 Z.b1 ex fun h' hk => hQ h' fun c o c1 _ c3 _ e => hk c o c1 c3 e
end
/-- the tuples as they were made: the j-th holds the j-th pair; all of them younger than the list -/
structure Prs (h : Heap) (lo : Addr) (xs ys : Array Value) (as : List Addr) : Prop where
  nd : as.Nodup
  above : ∀ a ∈ as, lo < a
  there : ∀ a ∈ as, a < h.objs.size
  pair : ∀ (j : Nat) (a : Addr), as[j]? = some a → ∃ x y, xs[j]? = some x ∧ ys[j]? = some y ∧ IsPair h a x y
section
variable {prog : Program} {w : World} {A : Around} {E : Value → Shared → Prop} {s : Shared} {R : Result → Shared → Prop}
/-- the loop that fills the list at S: zz, the zip's own objects, all below it -/
theorem fill {z TI TO i1 i2 l1 l2 S : Addr} {xs ys : Array Value} (hh : A.handled = none) (D : ZipApart z TI TO i1 i2 l1 l2) (O : Off z TI TO i1 i2 l1 l2 S) (oz : z < S) (o1 : i1 < S) (o2 : i2 < S) (oT : TO < S) (hxy : xs.size = ys.size) (hn : xs.size ≤ sizeLine) (res : Value) {h₁ : Heap}
    (hR : ∀ h' tk acc c as, (∀ b o, b ≠ S → b ≠ z → b ≠ TO → b ≠ i1 → b ≠ i2 → h₁.get? b = some o → h'.get? b = some o) → h'.get? S = some { cls := .type "list", dict := none, data := .seq acc c, slots := #[] } → as.length = xs.size → Prs h' S xs ys as →
      acc.toList = as.map Value.ref → R (.ok (.ret res)) { s with heap := h', toks := tk }) :
    ∀ (k i : Nat) (h : Heap) (tk c : Nat) (acc : Array Value) (as : List Addr), xs.size - i = k → i ≤ xs.size → ZS h z TI TO i1 i2 l1 l2 S xs ys i → (∀ b o, b ≠ S → b ≠ z → b ≠ TO → b ≠ i1 → b ≠ i2 → h₁.get? b = some o → h.get? b = some o) →
      h.get? S = some { cls := .type "list", dict := none, data := .seq acc c, slots := #[] } → acc.toList = as.map Value.ref → as.length = i → Prs h S xs ys as →
      codeAny (model prog w) A (.builtin "list.extend.loop" ⟨[.ref S, .ref z, res], []⟩) R { s with heap := h, toks := tk } := by
  intro k
  induction k with
  | zero =>
    intro i h tk c acc as hk hi Z kp hS hacc hal G
    refine codeAny_builtin PySem.F.entry_extend_loop ?_; rw [Around.under_plainId PySem.F.plain_extend_loop _]
    show wpAny (model prog w) A.in1 (pyNext (.ref z) >>= _) _ _ _
    refine wpAny_bind (zs_end (s := { s with heap := h, toks := tk }) (A := A.in1) (S := S) hh D Z (Array.getElem?_eq_none (by omega)) fun h' he => ?_)
    have up : ∀ b o, S < b → h.get? b = some o → h'.get? b = some o := fun b o hb e => he b o (Nat.ne_of_gt (Nat.lt_trans oz hb)) (Nat.ne_of_gt (Nat.lt_trans oT hb)) (Nat.ne_of_gt (Nat.lt_trans o1 hb)) (Nat.ne_of_gt (Nat.lt_trans o2 hb)) e
    refine wpAny_pure (hR h' tk acc c as (fun b o h1 h2 h3 h4 h5 e => he b o h2 h3 h4 h5 (kp b o h1 h2 h3 h4 h5 e)) (he S _ O.z.symm O.TO.symm O.i1.symm O.i2.symm hS) (by omega) ⟨G.nd, G.above, fun a ha => ?_, fun j a hj => ?_⟩ hacc)
    · obtain ⟨j, hj⟩ := List.getElem?_of_mem ha
      obtain ⟨x, y, _, _, e3⟩ := G.pair j a hj
      exact Heap.lt_size (up a _ (G.above a ha) e3)
    · obtain ⟨x, y, e1, e2, e3⟩ := G.pair j a hj
      exact ⟨x, y, e1, e2, up a _ (G.above a (List.mem_of_getElem? hj)) e3⟩
  | succ k ih =>
    intro i h tk c acc as hk hi Z kp hS hacc hal G
    have lt : i < xs.size := by omega
    have lt2 : i < ys.size := by omega
    have asz : acc.size = i := by rw [← Array.length_toList, hacc, List.length_map, hal]
    have Sl : S < h.objs.size := Heap.lt_size hS
    refine codeAny_builtin PySem.F.entry_extend_loop ?_; rw [Around.under_plainId PySem.F.plain_extend_loop _]
    show wpAny (model prog w) A.in1 (pyNext (.ref z) >>= _) _ _ _
    have ex : xs[i]? = some xs[i] := Array.getElem?_eq_getElem lt
    have ey : ys[i]? = some ys[i] := Array.getElem?_eq_getElem lt2
    refine wpAny_bind (zs_next (s := { s with heap := h, toks := tk }) D O Sl Z ex ey fun h' Z' pr sz hkp => ?_)
    dsimp only at pr sz hkp ⊢
    have hS' := hkp S _ O.z.symm O.TO.symm O.i1.symm O.i2.symm hS
    have up : ∀ b o, b ≠ S → h'.get? b = some o → (h'.update S (Obj.mapSeq (·.push (Value.ref h.objs.size)))).get? b = some o := fun b o hb e => (Heap.get?_update_other _ _ (Ne.symm hb)).trans e
    have up2 : ∀ b o, S < b → h.get? b = some o → (h'.update S (Obj.mapSeq (·.push (Value.ref h.objs.size)))).get? b = some o := fun b o hb e => up b o (Nat.ne_of_gt hb) (hkp b o (Nat.ne_of_gt (Nat.lt_trans oz hb)) (Nat.ne_of_gt (Nat.lt_trans oT hb)) (Nat.ne_of_gt (Nat.lt_trans o1 hb)) (Nat.ne_of_gt (Nat.lt_trans o2 hb)) e)
    show wpAny (model prog w) A.in1 (updateSeq S (·.push (Value.ref h.objs.size)) >>= _) _ _ _
    refine wpAny_bind (wpAny_updateSeq hS' rfl (wpAny_pure ⟨plainId_quiet PySem.F.plain_extend_loop _, ih (i + 1) _ tk _ (acc.push (Value.ref h.objs.size)) (as ++ [h.objs.size]) (by omega) lt (Z'.keep O up)
      (fun b o h1 h2 h3 h4 h5 e => up b o h1 (hkp b o h2 h3 h4 h5 (kp b o h1 h2 h3 h4 h5 e))) (Heap.get?_update_self _ hS' rfl) (by rw [Array.toList_push, hacc, List.map_append]; rfl) (by rw [List.length_append, hal]; rfl) ?_⟩) (by rw [asz]; omega) (by show (acc.push (Value.ref h.objs.size)).size ≤ sizeLine + 1; rw [Array.size_push, asz]; omega))
    have gp : (h'.update S (Obj.mapSeq (·.push (Value.ref h.objs.size)))).get? h.objs.size = _ := up _ _ (Nat.ne_of_gt Sl) pr
    refine ⟨List.nodup_append.mpr ⟨G.nd, List.nodup_cons.mpr ⟨by simp, List.nodup_nil⟩, fun a ha b hb => ?_⟩, fun a ha => ?_, fun a ha => ?_, fun j b hj => ?_⟩
    · rw [List.mem_singleton.mp hb]; exact Nat.ne_of_lt (G.there a ha)
    · rcases List.mem_append.mp ha with ha | ha
      · exact G.above a ha
      · rw [List.mem_singleton.mp ha]; exact Sl
    · rcases List.mem_append.mp ha with ha | ha
      · obtain ⟨j, hj⟩ := List.getElem?_of_mem ha
        obtain ⟨x, y, _, _, e3⟩ := G.pair j a hj
        exact Heap.lt_size (up2 a _ (G.above a ha) e3)
      · rw [List.mem_singleton.mp ha]; exact Heap.lt_size gp
    · rcases Nat.lt_trichotomy j as.length with h1 | h1 | h1
      · rw [List.getElem?_append_left h1] at hj
        obtain ⟨x, y, e1, e2, e3⟩ := G.pair j b hj
        exact ⟨x, y, e1, e2, up2 b _ (G.above b (List.mem_of_getElem? hj)) e3⟩
      · subst h1
        have hb : h.objs.size = b := by simpa using hj
        subst hb
        exact ⟨_, _, by rw [hal]; exact ex, by rw [hal]; exact ey, gp⟩
      · rw [List.getElem?_eq_none (by rw [List.length_append]; simp; omega)] at hj
        cases hj
end

theorem zipNoLen : typeLookup (.type "zip") "__len__" = pure none := am_miss_of_fast (by decide +kernel)
theorem zipNoHint : typeLookup (.type "zip") "__length_hint__" = pure none := am_miss_of_fast (by decide +kernel)
section
variable {prog : Program} {w : World} {A : Around} {E : Value → Shared → Prop} {s : Shared} {R : Result → Shared → Prop}
theorem zipHint {r : Addr} {Q : Bool → Shared → Prop} (hT : s.TypeIs (.ref r) "zip") (h : Q true s) : wpAny (model prog w) A (Builtin.List.listLengthHint (.ref r)) Q E s := by
  unfold Builtin.List.listLengthHint
  refine wpAny_bind (wpAny_specialOf hT zipNoLen ?_)
  show wpAny (model prog w) A (specialOf (Value.ref r) (Str.ofString "__length_hint__") >>= _) _ _ _
  exact wpAny_bind (wpAny_specialOf hT zipNoHint (wpAny_pure h))
theorem zipExt {z TI TO i1 i2 l1 l2 S : Addr} {xs ys : Array Value} (hh : A.handled = none) (D : ZipApart z TI TO i1 i2 l1 l2) (O : Off z TI TO i1 i2 l1 l2 S) (oz : z < S) (o1 : i1 < S) (o2 : i2 < S) (oT : TO < S) (hxy : xs.size = ys.size) (hn : xs.size ≤ sizeLine) (res : Value)
    (gz : IsZip s.heap z TI TO .none) (Z : ZS s.heap z TI TO i1 i2 l1 l2 S xs ys 0) {c₀ : Nat} (hS : s.heap.get? S = some { cls := .type "list", data := .seq #[] c₀ })
    (hR : ∀ h' tk acc c as, (∀ b o, b ≠ S → b ≠ z → b ≠ TO → b ≠ i1 → b ≠ i2 → s.heap.get? b = some o → h'.get? b = some o) → h'.get? S = some { cls := .type "list", dict := none, data := .seq acc c, slots := #[] } → as.length = xs.size → Prs h' S xs ys as →
      acc.toList = as.map Value.ref → R (.ok (.ret res)) { s with heap := h', toks := tk }) :
    wpAny (model prog w) A.in1 (Builtin.List.listExtendWith (.ref S) (.ref z) res)
      (fun fin s' => match fin with | .done f => R (.ok f) s' | .again c' => c'.quiet = true ∧ codeAny (model prog w) A c' R s') (fun e s' => R (.error e) s') s := by
  have key : ∀ (h : Heap) (c₁ tk : Nat), (∀ b o, b ≠ S → s.heap.get? b = some o → h.get? b = some o) → h.get? S = some { cls := .type "list", data := .seq #[] c₁ } →
      codeAny (model prog w) A (.builtin "list.extend.loop" ⟨[.ref S, .ref z, res], []⟩) R { s with heap := h, toks := tk } := fun h c₁ tk hk g =>
    fill (h₁ := s.heap) hh D O oz o1 o2 oT hxy hn res hR xs.size 0 h tk c₁ #[] [] (Nat.sub_zero _) (Nat.zero_le _) (Z.keep O hk) (fun b o hb _ _ _ _ e => hk b o hb e) g rfl rfl
      ⟨List.nodup_nil, (fun _ ha => nomatch ha), (fun _ ha => nomatch ha), fun j a hj => by simp at hj⟩
  have ty : s.TypeIs (.ref z) "zip" := ⟨_, gz, rfl⟩
  unfold Builtin.List.listExtendWith
  refine wpAny_bind (wpAny_typeOf ty ?_)
  have e1 : Builtin.List.listSameRef (.ref S) (.ref z) = false := by simp [Builtin.List.listSameRef, O.z.symm]
  have e2 : (Value.type "zip" == Value.type "list") = false := by decide
  have e3 : (Value.type "zip" == Value.type "tuple") = false := by decide
  simp only [e1, e2, e3, Bool.or_false, Bool.false_eq_true, if_false]
  refine wpAny_bind (wpAny_pyIter_zip gz (wpAny_bind (wpAny_holding (zipHint ty ?_))))
  refine wpAny_ite_split (fun _ => ?_) (fun _ => wpAny_pure ⟨plainId_quiet PySem.F.plain_extend_loop _, key _ c₀ _ (fun b o _ e => e) hS⟩)
  refine wpAny_bind (wpAny_rule (wpAny_bind ?_))
  show wpAny (model prog w) A.in1 (updateSeq S (·.push .none) >>= fun _ => updateSeq S (·.pop)) _ _ _
  refine wpAny_bind (wpAny_updateSeq hS rfl ?_)
  have g2 := Heap.get?_update_self (Obj.mapSeq (·.push Value.none)) hS rfl
  refine wpAny_updateSeq (hz := by seq_fits) g2 rfl ?_
  have g3 := Heap.get?_update_self (Obj.mapSeq (·.pop)) g2 rfl
  refine wpAny_pure ⟨plainId_quiet PySem.F.plain_extend_loop _, key _ _ _ (fun b o hb e => ?_) g3⟩
  exact (Heap.get?_update_other _ _ (Ne.symm hb)).trans ((Heap.get?_update_other _ _ (Ne.symm hb)).trans e)
/-- list(z) of a zip that was just made: S is the next address -/
theorem listZip {z TI TO i1 i2 l1 l2 : Addr} {xs ys : Array Value} {Q : Value → Shared → Prop} (hh : A.handled = none) (D : ZipApart z TI TO i1 i2 l1 l2) (O : Off z TI TO i1 i2 l1 l2 s.heap.objs.size) (hxy : xs.size = ys.size) (hn : xs.size ≤ sizeLine)
    (gz : IsZip s.heap z TI TO .none) (Z : ZS s.heap z TI TO i1 i2 l1 l2 s.heap.objs.size xs ys 0) (gO : TO < s.heap.objs.size)
    (hQ : ∀ h' tk acc c as, (∀ b o, b ≠ z → b ≠ TO → b ≠ i1 → b ≠ i2 → s.heap.get? b = some o → h'.get? b = some o) → h'.get? s.heap.objs.size = some { cls := .type "list", dict := none, data := .seq acc c, slots := #[] } → as.length = xs.size → Prs h' s.heap.objs.size xs ys as →
      acc.toList = as.map Value.ref → Q (.ref s.heap.objs.size) { s with heap := h', toks := tk }) :
    wpAny (model prog w) A (call (.type "list") [.ref z]) Q E s := by
  have lt : ∀ {c o}, s.heap.get? c = some o → c < s.heap.objs.size := fun e => Heap.lt_size e
  have l1 : i1 < s.heap.objs.size := let ⟨_, e, _⟩ := Z.a1; lt e
  have l2 : i2 < s.heap.objs.size := let ⟨_, e, _⟩ := Z.a2; lt e
  refine callType_codes (Q₁ := fun obj s₁ => obj = .ref s.heap.objs.size ∧ s₁ = { s with heap := s.heap.push { cls := .type "list", data := .seq #[] } }) PySem.F.called_list (PySem.F.typeCall_list_1 _) PySem.F.entry_list_init (code_list_new _ ⟨rfl, rfl⟩) fun obj s₁ q => ?_
  obtain ⟨rfl, rfl⟩ := q
  have g0 : (s.heap.push { cls := .type "list", data := .seq #[] }).get? s.heap.objs.size = some { cls := .type "list", data := .seq #[] } := Heap.get?_push_size _ rfl
  refine ⟨⟨_, g0, rfl⟩, PySem.F.args_list_init_2 _ _, ?_⟩
  show wpAny _ A.in1.in1 (do let old ← Builtin.List.listItems (.ref s.heap.objs.size); Builtin.List.listUpdate (.ref s.heap.objs.size) (fun _ => #[]); letGo old.toList.reverse; Builtin.List.listExtendWith (.ref s.heap.objs.size) (.ref z) .none) _ _ _
  refine wpAny_bind ?_
  unfold Builtin.List.listItems
  refine wpAny_bind (wpAny_seqItems g0 rfl (wpAny_pure ?_))
  show wpAny _ A.in1.in1 (updateSeq s.heap.objs.size (fun _ => #[]) >>= fun _ => letGo (#[] : Array Value).toList.reverse >>= fun _ => Builtin.List.listExtendWith (.ref s.heap.objs.size) (.ref z) .none) _ _ _
  refine wpAny_bind (wpAny_updateSeq g0 rfl ?_)
  have g2 := Heap.get?_update_self (Obj.mapSeq (fun _ => (#[] : Array Value))) g0 rfl
  have kp : ∀ b o, b ≠ s.heap.objs.size → s.heap.get? b = some o → ((s.heap.push { cls := .type "list", data := .seq #[] }).update s.heap.objs.size (Obj.mapSeq (fun _ => (#[] : Array Value)))).get? b = some o :=
    fun b o hb e => (Heap.get?_update_other _ _ (Ne.symm hb)).trans (Heap.get?_push_of_some _ e)
  refine wpAny_bind (wpAny_letGo ?_)
  refine zipExt (A := A.in1) hh D O (lt gz) l1 l2 gO hxy hn .none (kp _ _ O.z gz) (Z.keep O kp) g2 fun h' tk acc c as hk hS' hl G hacc => ?_
  exact ⟨rfl, hQ h' tk acc c as (fun b o p1 p2 p3 p4 e => hk b o (Nat.ne_of_lt (lt e)) p1 p2 p3 p4 (kp b o (Nat.ne_of_lt (lt e)) e)) hS' hl G hacc⟩
end

/-! ### over the layer -/
open L2
/-- several new objects are tracked at once -/
theorem many {X : Cx} {pins : List (Addr × Obj)} {σ : L2.St} {H H' : Hp} {s : Shared} {h' : Heap} (t' : Nat) (I : Inv X pins σ H s) (k : ∀ b u, s.heap.get? b = some u → h'.get? b = some u)
    (old : ∀ b, b < s.heap.objs.size → H' b = H b) (new : ∀ b o, H' b = some o → s.heap.objs.size ≤ b → ObjOk X.prog X.w H' h' b o) : Inv X pins σ H' { s with heap := h', toks := t' } := by
  have up : ∀ b o, H b = some o → H' b = some o := fun b o e => by rw [old b (I.hok.lt e)]; exact e
  refine I.un (t' := t') ⟨fun b u q _ _ _ => k b u q, fun b u q _ _ _ => ⟨u.slots, k b u q⟩, fun b u q n _ => by rw [old b (Heap.lt_size q)]; exact n, fun b u q _ => ⟨u, k b u q⟩, fun b xs q => up b _ q, fun b u xs q => up b _ q, fun b ps q => ⟨#[], by rw [up b _ q]; simp⟩⟩ fun b o e => ?_
  rcases Nat.lt_or_ge b s.heap.objs.size with h | h
  · rw [old b h] at e
    exact (I.hok b o e).stay (fun c v _ q => k c v q) (fun c q => up c _ q) fun c xs q => up c _ q
  · exact new b o e h
/-- pairs laid one behind another -/
def layP (H : Hp) : List (Addr × V × V) → Hp
  | [] => H
  | p :: r => upd (layP H r) p.1 (.tup [p.2.1, p.2.2])
theorem layP_out {H : Hp} {b : Addr} : ∀ {l : List (Addr × V × V)}, b ∉ l.map (·.1) → layP H l b = H b
  | [], _ => rfl
  | p :: r, h => by
    rw [List.map_cons, List.mem_cons, not_or] at h
    show upd (layP H r) p.1 _ b = H b
    rw [upd_ne h.1, layP_out h.2]
theorem layP_in {H : Hp} {p : Addr × V × V} : ∀ {l : List (Addr × V × V)}, (l.map (·.1)).Nodup → p ∈ l → layP H l p.1 = some (.tup [p.2.1, p.2.2])
  | q :: r, nd, h => by
    rw [List.map_cons, List.nodup_cons] at nd
    show upd (layP H r) q.1 _ p.1 = _
    rcases List.mem_cons.mp h with rfl | h
    · exact upd_same
    · rw [upd_ne (fun e => nd.1 (by rw [← e]; exact List.mem_map_of_mem (f := (·.1)) h))]
      exact layP_in nd.2 h
theorem layP_cases {H : Hp} {b : Addr} {l : List (Addr × V × V)} (nd : (l.map (·.1)).Nodup) : layP H l b = H b ∨ ∃ p ∈ l, p.1 = b ∧ layP H l b = some (.tup [p.2.1, p.2.2]) := by
  by_cases h : b ∈ l.map (·.1)
  · obtain ⟨p, hp, e⟩ := List.mem_map.mp h
    exact .inr ⟨p, hp, e, e ▸ layP_in nd hp⟩
  · exact .inl (layP_out h)
/-- the reading of list(zip(t, u)): a new list of new pairs -/
def tLz (K : PySem.W.Frag) (ta : TA) : TE := fun σ H Q => ta σ H fun vs H1 => ∃ a b xs ys, vs = [.ref a, .ref b] ∧ SqT K H1 a xs ∧ SqT K H1 b ys ∧ xs.length = ys.length ∧
  ∀ (D : Addr) (H2 : Hp) (as : List Addr), H1 D = none → Same H1 H2 → H2 D = some (.lst (as.map V.ref)) → as.length = xs.length →
    (∀ (j : Nat) (c : Addr) (x y : V), as[j]? = some c → xs[j]? = some x → ys[j]? = some y → H2 c = some (.tup [x, y])) → Q (.ref D) H2
theorem pe_listZip {X : Cx} {e1 e2 : Expr} {ta : TA} {p p2 q pos : Pos} (hc : X.calm = true) (hg : Gl X "list") (hm : X.mg "list" = none) (hg2 : Gl X "zip") (hm2 : X.mg "zip" = none) (ha : PA X [e1, e2] ta)
    (hs : starEach [e1, e2] X.env = (false, eval e1 X.env) :: starEach [e2] X.env := by rfl) (hpl : (backTo q (starEach [e2] X.env)).any (·.1) = false := by rfl)
    (na : starEach [Expr.Call (.Name "zip" p2) [e1, e2] [] q] X.env = (false, eval (.Call (.Name "zip" p2) [e1, e2] [] q) X.env) :: starEach [] X.env := by rfl) :
    PE X (.Call (.Name "list" p) [.Call (.Name "zip" p2) [e1, e2] [] q] [] pos) (tLz X.K ta) := by
  refine ⟨fun pins s σ H Q I h => ?_⟩
  refine Call_ (ld_blt I hg hm (show bootBuiltins "list" = some (.type "list") from by decide +kernel) ?_)
  refine PyProof.Rows.callWith_type1 (PyProof.Rows.args_cons ?_ na) na rfl
  refine Call_ (ld_blt I hg2 hm2 PyProof.Rows.boot_zip (PyProof.Rows.callWith_type1 (thn (ha.run q pins s σ H _ I h) fun us s1 ⟨vs, H1, I1, r1, q1⟩ => ?_) hs hpl))
  obtain ⟨a, b, xs, ys, rfl, hqx, hqy, hlen, k⟩ := q1
  obtain ⟨u1, u2, rfl, ra, rb⟩ := vals2 r1
  cases ra
  cases rb
  obtain ⟨ia, va, pa, la⟩ := I1.tuple hqx
  obtain ⟨ib, vb, pb, lb⟩ := I1.tuple hqy
  obtain ⟨oa, hoa, _⟩ := id pa
  obtain ⟨ob, hob, _⟩ := id pb
  generalize hn : s1.heap.objs.size = n
  have an : a < n := hn ▸ Heap.lt_size hoa
  have bn : b < n := hn ▸ Heap.lt_size hob
  refine RZ.call_zipT (show s1.heap.IsTuple a ia.toArray from pa) (show s1.heap.IsTuple b ib.toArray from pb) fun h' hz hI hO h1 h2 hsz hk => PyProof.Rows.args_nil ?_
  rw [hn] at hz hI hO h1 h2 hsz ⊢
  have D := zipApart_new an bn
  have lt5 : ∀ {c : Nat}, c < n + 5 → c ≠ n + 5 := fun h => Nat.ne_of_lt h
  have O : Off (n + 4) (n + 2) (n + 3) n (n + 1) a b (n + 5) := ⟨lt5 (by omega), lt5 (by omega), lt5 (by omega), lt5 (by omega), lt5 (by omega), lt5 (Nat.lt_of_lt_of_le an (Nat.le_add_right _ _)), lt5 (Nat.lt_of_lt_of_le bn (Nat.le_add_right _ _))⟩
  have ta' : h'.IsTuple a ia.toArray := let ⟨o, ho, r⟩ := pa; ⟨o, hk _ _ ho, r⟩
  have tb' : h'.IsTuple b ib.toArray := let ⟨o, ho, r⟩ := pb; ⟨o, hk _ _ ho, r⟩
  have lxy : ia.toArray.size = ib.toArray.size := by
    have h1 := va.length
    have h2 := vb.length
    simp only [List.size_toArray]; omega
  have Z : ZS h' (n + 4) (n + 2) (n + 3) n (n + 1) a b (n + 5) ia.toArray ib.toArray 0 := ⟨hI, h1, h2, ta', tb', .inl ⟨hz, _, _, hO⟩⟩
  refine listZip (s := { s1 with heap := h' }) (TO := n + 3) (I1.ok.hd hc) D (by rw [show ({ s1 with heap := h' } : Shared).heap.objs.size = n + 5 from hsz]; exact O) lxy (by rw [List.size_toArray, ← va.length]; exact la) hz
    (by rw [show ({ s1 with heap := h' } : Shared).heap.objs.size = n + 5 from hsz]; exact Z) (by rw [show ({ s1 with heap := h' } : Shared).heap.objs.size = n + 5 from hsz]; exact Nat.lt_succ_of_lt (Nat.lt_succ_self _)) fun h2' tk acc cc as kp gS hl G hacc => ?_
  rw [show ({ s1 with heap := h' } : Shared).heap.objs.size = n + 5 from hsz] at gS G ⊢
  -- the new abstract heap
  have lz : (as.zip (xs.zip ys)).map (·.1) = as := by
    refine List.map_fst_zip ?_
    have h1 := va.length
    rw [List.length_zip, hl, List.size_toArray]; omega
  have nd : ((as.zip (xs.zip ys)).map (·.1)).Nodup := by rw [lz]; exact G.nd
  have hla : as.length = xs.length := by rw [hl, List.size_toArray, va.length]
  have kp2 : ∀ c o, s1.heap.get? c = some o → h2'.get? c = some o := fun c o e => by
    have hc : c < n := hn ▸ Heap.lt_size e
    exact kp c o (Nat.ne_of_lt (Nat.lt_of_lt_of_le hc (Nat.le_add_right n 4))) (Nat.ne_of_lt (Nat.lt_of_lt_of_le hc (Nat.le_add_right n 3))) (Nat.ne_of_lt hc) (Nat.ne_of_lt (Nat.lt_of_lt_of_le hc (Nat.le_add_right n 1))) (hk c o e)
  have fr : ∀ c, n ≤ c → H1 c = none := fun c hc => I1.hok.fresh (hn ▸ hc)
  have asn : ∀ c ∈ as, n + 5 < c := fun c hc => G.above c hc
  have old : ∀ c : Addr, c < n → upd (layP H1 (as.zip (xs.zip ys))) (n + 5) (.lst (as.map V.ref)) c = H1 c := fun c hc => by
    rw [upd_ne (Nat.ne_of_lt (Nat.lt_of_lt_of_le hc (Nat.le_add_right n 5)))]
    refine layP_out ?_
    rw [lz]
    exact fun hm => absurd (Nat.lt_of_le_of_lt (Nat.le_add_right n 5) (asn c hm)) (Nat.lt_asymm hc)
  have pairs : ∀ (j : Nat) (c : Addr) (x y : V), as[j]? = some c → xs[j]? = some x → ys[j]? = some y → (c, x, y) ∈ as.zip (xs.zip ys) := fun j c x y e1 e2 e3 => by
    refine List.mem_of_getElem? (i := j) ?_
    rw [List.getElem?_zip_eq_some, List.getElem?_zip_eq_some]
    exact ⟨e1, e2, e3⟩
  have at_ : ∀ (c : Addr) (x y : V), (c, x, y) ∈ as.zip (xs.zip ys) → upd (layP H1 (as.zip (xs.zip ys))) (n + 5) (.lst (as.map V.ref)) c = some (.tup [x, y]) := fun c x y hm => by
    have hc : c ∈ as := lz ▸ List.mem_map_of_mem (f := (·.1)) hm
    rw [upd_ne (Nat.ne_of_gt (asn c hc))]
    exact layP_in (p := (c, x, y)) nd hm
  refine ⟨.ref (n + 5), upd (layP H1 (as.zip (xs.zip ys))) (n + 5) (.lst (as.map V.ref)), many (s := s1) (H := H1) tk I1 (h' := h2') kp2 (by rw [hn]; exact old) ?_, rfl, k (n + 5) _ as (fr _ (Nat.le_add_right n 5)) (fun c o e => by rw [old c (hn ▸ I1.hok.lt e)]; exact e) upd_same hla fun j c x y e1 e2 e3 => at_ c x y (pairs j c x y e1 e2 e3)⟩
  rw [hn]
  intro c o e hc
  by_cases h5 : c = n + 5
  · subst h5
    rw [upd_same] at e
    cases e
    refine ⟨by rw [List.length_map, hla]; exact la, as.map Value.ref, cc, ?_, ?_⟩
    · clear hacc hl hla lz nd old pairs at_ G asn gS
      induction as with
      | nil => exact .nil
      | cons a r ih => exact .cons rfl ih
    · rw [← hacc, Array.toArray_toList]; exact gS
  · rw [upd_ne h5] at e
    rcases layP_cases (H := H1) (b := c) nd with g | ⟨p, hp, rfl, g⟩
    · rw [g, fr c hc] at e; cases e
    · rw [g] at e
      cases e
      obtain ⟨j, hj⟩ := List.getElem?_of_mem hp
      obtain ⟨c, x, y⟩ := p
      rw [List.getElem?_zip_eq_some, List.getElem?_zip_eq_some] at hj
      obtain ⟨j1, j2, j3⟩ := hj
      obtain ⟨u, v, e1, e2, e3⟩ := G.pair j c j1
      obtain ⟨u', g1, r1⟩ := va.get j2
      obtain ⟨v', g2, r2⟩ := vb.get j3
      have eu : u' = u := by
        rw [List.getElem?_toArray, g1] at e1; exact Option.some.inj e1
      have ev : v' = v := by
        rw [List.getElem?_toArray, g2] at e2; exact Option.some.inj e2
      subst eu ev
      exact ⟨by show 2 ≤ sizeLine; decide, [u', v'], .cons r1 (.cons r2 .nil), _, e3, rfl, _, rfl⟩
end GZ
/-! Rules that the hand layer lacks: min of a tuple, `not in` of a dict as an operator's rule, powers of great numbers, dict comprehensions whose keys are tuples. -/
namespace GL
open PySem PySem.W PySem.Spec PyProof.Rows L2
section
variable {prog : Program} {w : World} {A : Around} {E : Value → Shared → Prop} {s : Shared} {l : Addr}
theorem minTup {xs : Array (Int × Tok)} {Q : Value → Shared → Prop} (hh : A.handled = none) (hl : s.heap.IsTuple l (intItems xs)) (hne : 0 < xs.size)
    (h : ∀ v h' tk, (intItems xs)[argBest (fun i j => decide (numAt xs i < numAt xs j)) (xs.size - 1)]? = some v → (∀ b o, s.heap.get? b = some o → h'.get? b = some o) → Q v { s with heap := h', toks := tk }) :
    wpAny (model prog w) A (call (.builtin "min") [.ref l]) Q E s := by
  have lt : l < s.heap.objs.size := by obtain ⟨_, e, _⟩ := hl; exact Heap.lt_size e
  refine call_min_walk (wpAny_pyIter_tuple hl ?_)
  refine ⟨_, [_, l], [_], _, _, _, _, rfl, Walks.tuple (A := A.in1) hh _ l (Nat.ne_of_lt lt) (intItems xs), ⟨⟨_, Heap.get?_push_size _ rfl, rfl, rfl⟩, hl.push _⟩, fun c hc => ?_, by simpa [intItems] using hne, CmpOf.ints_lt (numAt xs) (fun _ _ => intItems_at), fun v h' tk hP hk => ?_⟩
  · show c < (s.heap.push _).objs.size
    rw [Heap.size_push]
    rcases List.mem_cons.mp hc with rfl | hc
    · exact Nat.lt_succ_self _
    · rw [List.mem_singleton.mp hc]; exact Nat.lt_succ_of_lt lt
  · refine h v h' tk (by simpa [intItems] using hP) fun b o e => hk b o (fun hm => ?_) (Heap.get?_push_of_some _ e)
    exact absurd (Heap.lt_size e) (by rw [List.mem_singleton.mp hm]; exact Nat.lt_irrefl _)
theorem argBest_is {ns : List Int} {its : List Value} (hi : IntsAre its ns) (hne : 0 < ns.length) (hh : A.handled = none) (hl : s.heap.IsTuple l its.toArray) {Q : Value → Shared → Prop}
    (h : ∀ h' tk M t', (∀ b o, s.heap.get? b = some o → h'.get? b = some o) → M ∈ ns → (∀ a, a ∈ ns → M ≤ a) → Q (.int M t') { s with heap := h', toks := tk }) : wpAny (model prog w) A (call (.builtin "min") [.ref l]) Q E s := by
  obtain ⟨xs, e⟩ := hi.allInts.items
  have hn : numsOf (intItems xs).toList = ns := by rw [← e]; exact hi.numsOf
  rw [nums_intItems] at hn; subst hn; rw [e] at hl
  have sz : 0 < xs.size := by simpa using hne
  refine minTup hh hl sz fun v h' tk hv hk => ?_
  obtain ⟨t, rfl⟩ := intItems_at hv
  obtain ⟨p, q⟩ := argBest_lt (numAt xs) (xs.size - 1)
  refine h h' tk _ t hk (by rw [numAt_eq]; exact PySem.getD_mem (by rw [List.length_map, Array.length_toList]; omega)) fun a ha => ?_
  obtain ⟨j, hj, rfl⟩ := mem_getD ha
  rw [List.length_map, Array.length_toList] at hj
  rw [← numAt_eq]; exact q j (by omega)
end
section
variable {X : Cx}
/-- min of a tuple of ints -/
def rMinT (K : PySem.W.Frag) : List V → Hp → VK → Prop := fun vs H Q => ∃ (a : Addr) (ns : List Int), vs = [V.ref a] ∧ SqT K H a (ns.map V.int) ∧ 0 < ns.length ∧ ∀ m, m ∈ ns → (∀ y, y ∈ ns → m ≤ y) → Q (.int m) H
theorem cr_minT (hc : X.calm = true) : CallR X (.builtin "min") (rMinT X.K) := fun pins s σ H vs us Q I r h => by
  obtain ⟨a, ns, rfl, hs, hne, q⟩ := h
  obtain ⟨its, rv, hl, _⟩ := I.tuple hs
  rw [Vals.ref1 r]
  exact argBest_is rv.ints hne (I.ok.hd hc) hl fun h' tk m t' hk h1 h2 => ⟨.int _, H, I.kept hk, ⟨_, rfl⟩, q m h1 h2⟩
/-- k not in d, by values -/
theorem op_nin (hu : X.A.units + 1 < cLine) : OpR X (compareOp .NotIn) (fun x y H Q => ∃ a o, y = .ref a ∧ DGet H a x o ∧ Q (.bl (!o.isSome)) H) := fun pins s σ H x y v u Q I rx ry h => by
  obtain ⟨a, o, rfl, g, q⟩ := h
  cases ry
  exact d_notIn hu I g rx fun s' I' => ⟨.bl _, H, I', rfl, q⟩
/-- a ** b of greater numbers -/
theorem op_powW : OpR X (binaryOp .Pow) (rI (fun i j => 0 ≤ j ∧ (Builtin.Int.intBits i : Int) * j ≤ 2 ^ 27) fun i j => .int (i ^ j.toNat)) := opI fun _ _ _ _ _ _ _ hc q => pow_int hc.1 hc.2 q
end

/-! ### {(a, b): v for .. in ..}: keys that are tuples -/
/-- what is shown for the block of a comprehension, whatever its frame is -/
abbrev InBlk (X : Cx) (scope : Scope) (f : Cx → Prop) : Prop := ∀ (s : Shared) (H : Hp) (C : Addr) (cl : List (Str × Addr)) (fp : List Addr), f (X.blk s H scope (compEnvC scope cl C X.env) fp)
/-- one store into the new dict -/
theorem putT {X : Cx} {pins : List (Addr × Obj)} {σ : L2.St} {H : Hp} {s : Shared} {E : Value → Shared → Prop} {D b : Addr} {kvs : List (List Key × V)} {k : List Key} {v : V} {u r : Value} {Q : Unit → Shared → Prop} (hu : X.A.units < cLine) (I : Inv X pins σ H s) (hD : H D = some (.dT kvs)) (hz : kvs.length < sizeLine)
    (hb : H b = some (.tup (k.map kV))) (ry : RelV (.ref b) u) (rv : RelV v r) (h : ∀ s', Inv X pins σ (upd H D (.dT (putK kvs k v))) s' → Q () s') : wpAny (model X.prog X.w) X.A (dictSet D u r) Q E s := by
  cases (show u = Value.ref b from ry)
  obtain ⟨z, hd, xs, rel, dd⟩ := dt_of I.hok hD
  have z1 : xs.length ≤ sizeLine := by rw [← Paired.length rel]; exact z
  have z2 : (putK kvs k v).length ≤ sizeLine := by have := length_putK kvs k v; omega
  refine wpAny_dictSet_heap (hsz := z1) (show (tupleKind (mixKind X.prog X.w)).room X.A from hu) (key_of I.hok hb) dd fun h' dd' hs => h _ ?_
  obtain ⟨q, es, ep, hq, p2, p3, p4, _, p5⟩ := dd'
  refine d_write I (by rw [hD]; exact True.intro) hs ⟨q, hq⟩ ⟨z2, hd, _, (rel.put k hb rv).keeps fun c ys ec => ?_, q, es, ep, hq, p2, p3, p4, p5⟩
  rw [upd_ne (ne_of ec hD (fun z => nomatch z))]; exact ec
section
variable {X : Cx}
/-- the reading: D the new dict, y the key's tuple -/
def tDcT (wi : TI) (g : TG) (tt : TT) (tk tv : TE) (vs : List Nat) : TE := fun σ H Q => wi σ H fun J H1 => ∀ D, H1 D = none → ∃ W : Nat → Nat → Hp → Prop, (∃ m, W 0 m (upd H1 D (.dT []))) ∧ ∀ i m H, W i m H →
  (J.stop i H ∧ Q (.ref D) H) ∨ (J.go i H ∧ ∃ Nx : Hp → Prop, (∀ H', Nx H' → ∃ m', m' < m ∧ W (i + 1) m' H') ∧ ∀ x H', J.yld i H x H' → g x (wipe σ vs) H' fun σ2 H2 => wipe σ2 vs = wipe σ vs ∧ tt σ2 H2 fun b H3 =>
    if b = true then tk σ2 H3 fun y H4 => tv σ2 H4 fun z H5 => ∃ kvs k a, y = .ref a ∧ H5 a = some (.tup (k.map kV)) ∧ H5 D = some (.dT kvs) ∧ kvs.length < sizeLine ∧ Nx (upd H5 D (.dT (putK kvs k z))) else Nx H3)
theorem dcT_run {pins : List (Addr × Obj)} {s : Shared} {σ : L2.St} {H : Hp} {Q : VK} {kx vx tg iter : Expr} {ifs : List Expr} {scope : Scope} {own : List (Str × Nat)} {pos pos' : Pos} {wi : TI} {g : TG} {tt : TT} {tk tv : TE} {use : Option (Value → Sem Unit)} {Qf : Value → Shared → Prop}
    (hu : X.A.units < cLine) (hc : X.calm = true) (hN : X.N.Nodup) (I : Inv X pins σ H s) (hi : PI X tg iter wi) (ok : BlkOk X.N X.env.scope scope own) (hg : InBlk X scope fun Y => PG Y tg g) (ht : InBlk X scope fun Y => PTs Y ifs tt) (hk : InBlk X scope fun Y => PE Y kx tk) (he : InBlk X scope fun Y => PE Y vx tv)
    (hs : ∀ x, foldedSetIterable iter X.env x = pure x) (h : tDcT wi g tt tk tv (own.map (·.2)) σ H Q)
    (hend : ∀ D C s' m H', Inv X pins σ H' s' → Q (.ref D) H' → s'.heap.Ns C m → FpOk X pins H' C → compPost (model X.prog X.w) X.A X.xe use Qf (.ref D) C (.ok .next) s') :
    wpAny (model X.prog X.w) X.A (comprehension (.DictComp kx vx [⟨tg, iter, ifs, 0⟩] scope pos) scope X.env pos' newDict false (eval iter X.env) use) Qf X.xe s := by
  have cap : ∀ y ∈ scope.names, y.2 = .free → ∃ c, X.env.cells.lookup y.1 = some c := fun y hy e => (ok.free y hy e).elim (fun k => I.ok.has _ (.inl k)) fun k => I.ok.has _ (.inr k)
  refine wpAny_comprehension_free (use := use) rfl hs (closure_ok cap) ok.kind (fun y hy e => by rw [ok.uniq y hy, e]) (thn (hi.run pins s σ H _ I h) fun xv sA hx => thn hx fun itv sB hB => ?_)
  obtain ⟨it, fp, tn, J, HB, rfl, IB, T, stB, fB, q⟩ := hB
  refine wpAny_newObj_type (newEnv_comp ?_)
  generalize eD : sB.heap.objs.size = D
  have nD : HB D = none := IB.hok.fresh (Nat.le_of_eq eD)
  obtain ⟨W, ⟨m0, w0⟩, turn⟩ := q D nD
  generalize eC : ({ sB with heap := sB.heap.push { cls := .type "dict", data := .dict #[] } } : Shared) = sC
  have IC : Inv X pins σ (upd HB D (.dT [])) sC := by
    subst eC
    exact IB.laid (t' := sB.toks) (fun b o e => Heap.get?_push_of_some _ e) (Nat.le_of_eq eD) (eD ▸ dt_empty sB.heap IB.big)
  have hC : sC.heap = sB.heap.push { cls := .type "dict", data := .dict #[] } := by rw [← eC]
  have small : ∀ b ∈ fp, b < sB.heap.objs.size := fun b hb => let ⟨o, e, _⟩ := T.obj _ _ stB b hb; Heap.lt_size e
  have fC : ∀ b ∈ fp, FpOk X pins (upd HB D (.dT [])) b ∧ b < sC.heap.objs.size := fun b hb => by
    refine ⟨⟨?_, (fB b hb).2⟩, by rw [hC, Heap.size_push]; exact Nat.lt_succ_of_lt (small b hb)⟩
    rw [upd_ne (by rw [← eD]; exact Nat.ne_of_lt (small b hb))]; exact (fB b hb).1
  have stC : tn 0 sC.heap := T.keep _ _ _ stB fun b _ o e => by rw [hC]; exact Heap.get?_push_of_some _ e
  have ID := block_start IC ok hN fC
  generalize eL : cellsFrom (sC.heap.objs.size + 1) scope.names (cloFrom X.env.cells scope.names []) = cl at ID
  have pg := hg sC (upd HB D (.dT [])) sC.heap.objs.size cl fp
  have pt := ht sC (upd HB D (.dT [])) sC.heap.objs.size cl fp
  have pk := hk sC (upd HB D (.dT [])) sC.heap.objs.size cl fp
  have pv := he sC (upd HB D (.dT [])) sC.heap.objs.size cl fp
  show codeAny _ _ (.compStart (.DictComp kx vx [⟨tg, iter, ifs, 0⟩] scope pos) 0 (.ref it) (.ref D) (compEnvC scope cl sC.heap.objs.size X.env)) (compPost (model X.prog X.w) X.A X.xe use Qf (.ref D) sC.heap.objs.size) { sC with heap := pushCells (sC.heap.push { cls := .type "dict", data := .dict #[] }) scope.names }
  have nfp : ∀ b ∈ fp, (upd HB D (.dT [])) b = none := fun b hb => (fC b hb).1.1
  generalize ece : compEnvC scope cl sC.heap.objs.size X.env = ce at ID pg pt pk pv ⊢
  have cL : ce.locals = sC.heap.objs.size := by subst ece; rfl
  generalize eH : upd HB D (.dT []) = HC at IC ID pg pt pk pv w0 nfp fC
  generalize eS : ({ sC with heap := pushCells (sC.heap.push { cls := .type "dict", data := .dict #[] }) scope.names } : Shared) = sD at ID ⊢
  have stD : tn 0 sD.heap := T.keep _ _ _ stC fun b _ o e => by rw [← eS]; exact pushCells_keeps _ _ _ _ (Heap.get?_push_of_some _ e)
  have stat : ∀ {σ' : L2.St} {H' : Hp} {s' : Shared}, Inv (X.blk sC HC scope ce fp) [] σ' H' s' → (∀ b ∈ fp, H' b = none) → ∀ b ∈ fp, FpOk (X.blk sC HC scope ce fp) [] H' b := fun I' hn b hb =>
    ⟨hn b hb, (I'.ok.exf b hb).1, I'.ok.exfs b hb, .inl hb, fun x c e => (I'.ok.exf b hb).2 x c e, fun p hp => absurd (show p ∈ ([] : List (Addr × Obj)) ++ [] from hp) (by simp)⟩
  have loop : codeAny (model X.prog X.w) X.A (.compLoop (.DictComp kx vx [⟨tg, iter, ifs, 0⟩] scope pos) 0 (.ref it) (.ref D) ce) (compPost (model X.prog X.w) X.A X.xe use Qf (.ref D) sC.heap.objs.size) sD := by
    refine compLoop_anyD (fun n s' => ∃ i H', Inv (X.blk sC HC scope ce fp) [] (wipe σ (own.map (·.2))) H' s' ∧ tn i s'.heap ∧ (∀ b ∈ fp, H' b = none) ∧ W i n H') ?_ m0 ⟨0, HC, ID, stD, nfp, w0⟩
    rintro n s5 ⟨i, H5, I5, st5, n5, w5⟩
    rcases turn i n H5 w5 with ⟨stop, qq⟩ | ⟨go, Nx, hNx, step⟩
    · refine thnF (T.done (X.blk sC HC scope ce fp) rfl rfl rfl hc i [] s5 _ H5 (fun _ _ => False) I5 (stat I5 n5) st5 stop) fun r s6 ⟨hr, I6⟩ => ?_
      subst hr
      have I7 : Inv X pins σ H5 s6 := IC.call' (ch := fp) I6.os I6.base I6.hok I6.bare fun b hb => let z := (fC b hb).1; ⟨z.2.2.2.1, z.2.1, z.2.2.2.2.1, z.2.2.2.2.2⟩
      have nC : H5 sC.heap.objs.size = none := cL ▸ (show H5 ce.locals = none from I6.free)
      obtain ⟨m, hn, _⟩ := I6.loc
      exact hend D sC.heap.objs.size s6 m H5 I7 qq (cL ▸ (show s6.heap.Ns ce.locals m from hn)) (IC.fpOk (Nat.le_refl _) nC)
    · refine thnF (T.item (X.blk sC HC scope ce fp) rfl rfl rfl hc i [] s5 _ H5 (fun _ _ => False) I5 (stat I5 n5) st5 go) fun r s6 ⟨u, hr, h6⟩ => ?_
      subst hr
      refine thnF h6 fun _ s7 ⟨x, H7, I7, r7, y7, st7, n7⟩ => ?_
      refine thnF (pg.run _ s7 _ H7 x u _ (I7.pinned (stat I7 n7) (T.obj _ _ st7)) r7 (step x H7 y7)) fun _ s8 ⟨σ8, H8, I8, hw8, q8⟩ => ?_
      refine thnF (pt.run _ s8 σ8 H8 _ I8 q8) fun b s9 ⟨H9, I9, q9⟩ => ?_
      have fin : ∀ {s' : Shared} {H' : Hp}, Inv (X.blk sC HC scope ce fp) ([] ++ pinsAt fp s7.heap) σ8 H' s' → Nx H' → ∃ m, m < n ∧ ∃ i H', Inv (X.blk sC HC scope ce fp) [] (wipe σ (own.map (·.2))) H' s' ∧ tn i s'.heap ∧ (∀ b ∈ fp, H' b = none) ∧ W i m H' := fun {s' H'} I' nx => by
        obtain ⟨m', hm, w'⟩ := hNx H' nx
        have kept : ∀ b ∈ fp, ∀ o, s7.heap.get? b = some o → s'.heap.get? b = some o ∧ H' b = none := fun b hb o e =>
          let z := I'.pin (b, o) (List.mem_append_right _ (List.mem_append_right _ (mem_pinsAt hb e)))
          ⟨z.1, z.2.1⟩
        refine ⟨m', hm, i + 1, H', (I'.unpinned (pins := [])).weak (by rw [← hw8, wipe_length]) (fun j v e => (wipe_some (hw8 ▸ e)).1), T.keep _ _ _ st7 fun b hb o e => (kept b hb o e).1, fun b hb => ?_, w'⟩
        obtain ⟨o, e, _⟩ := T.obj _ _ st7 b hb
        exact (kept b hb o e).2
      cases b with
      | false => simp only [Bool.false_eq_true, if_false] at q9 ⊢; exact fin I9 q9
      | true =>
        simp only [if_true] at q9 ⊢
        refine thnF (pk.run _ s9 σ8 H9 _ I9 q9) fun z s10 ⟨yk, H10, I10, r10, q10⟩ => thnF (pv.run _ s10 σ8 H10 _ I10 q10) fun z2 s11 ⟨yv, H11, I11, r11, kvs, k, a, ek, ea, eD11, z11, nx⟩ => ?_
        subst ek
        exact putT (X := X.blk sC HC scope ce fp) hu I11 eD11 z11 ea r10 r11 fun s12 I12 => fin I12 nx
  exact codeAny_compStart_dict loop (T.self X.A 0 _ _ _ stD loop)
theorem pe_dcT {kx vx tg iter : Expr} {ifs : List Expr} {scope : Scope} {own : List (Str × Nat)} {pos : Pos} {wi : TI} {g : TG} {tt : TT} {tk tv : TE} (hu : X.A.units < cLine) (hc : X.calm = true) (hN : X.N.Nodup) (hi : PI X tg iter wi) (ok : BlkOk X.N X.env.scope scope own)
    (hg : InBlk X scope fun Y => PG Y tg g) (ht : InBlk X scope fun Y => PTs Y ifs tt) (hk : InBlk X scope fun Y => PE Y kx tk) (he : InBlk X scope fun Y => PE Y vx tv) (hs : ∀ x, foldedSetIterable iter X.env x = pure x := by intro _; rfl) :
    PE X (.DictComp kx vx [⟨tg, iter, ifs, 0⟩] scope pos) (tDcT wi g tt tk tv (own.map (·.2))) := by
  refine ⟨fun pins s σ H Q I h => ?_⟩
  rw [arm_eval_DictComp]
  refine dcT_run hu hc hN I hi ok hg ht hk he hs h fun D C s' m H' I' q hn f => ⟨m, hn, fun h'' sb => ?_⟩
  exact ⟨.ref D, H', I'.turned (t' := s'.toks) (fun b o hb e => (sb.2 b hb).trans e) f.1 f.2.1 f.2.2.2.1 f.2.2.2.2.1 f.2.2.2.2.2, rfl, q⟩
/-- over a tuple that stays -/
theorem dcT_tup {K : PySem.W.Frag} {a : Addr} {xs : List V} {g : TG} {tt : TT} {tk tv : TE} {vs : List Nat} {σ : L2.St} {H1 : Hp} {D : Addr} {Qd : Hp → Prop} (Pv : Nat → Hp → Prop) (h0 : Pv 0 (upd H1 D (.dT []))) (hl : ∀ i H, i ≤ xs.length → Pv i H → SqT K H a xs)
    (hs : ∀ i x H, xs[i]? = some x → Pv i H → g x (wipe σ vs) H fun σ2 H2 => wipe σ2 vs = wipe σ vs ∧ tt σ2 H2 fun b H3 =>
      if b = true then tk σ2 H3 fun y H4 => tv σ2 H4 fun z H5 => ∃ kvs k a, y = .ref a ∧ H5 a = some (.tup (k.map kV)) ∧ H5 D = some (.dT kvs) ∧ kvs.length < sizeLine ∧ Pv (i + 1) (upd H5 D (.dT (putK kvs k z))) else Pv (i + 1) H3) (hd : ∀ H, Pv xs.length H → Qd H) :
    ∃ W : Nat → Nat → Hp → Prop, (∃ m, W 0 m (upd H1 D (.dT []))) ∧ ∀ i m H, W i m H →
      ((Itt K a).stop i H ∧ Qd H) ∨ ((Itt K a).go i H ∧ ∃ Nx : Hp → Prop, (∀ H', Nx H' → ∃ m', m' < m ∧ W (i + 1) m' H') ∧ ∀ x H', (Itt K a).yld i H x H' → g x (wipe σ vs) H' fun σ2 H2 => wipe σ2 vs = wipe σ vs ∧ tt σ2 H2 fun b H3 =>
        if b = true then tk σ2 H3 fun y H4 => tv σ2 H4 fun z H5 => ∃ kvs k a, y = .ref a ∧ H5 a = some (.tup (k.map kV)) ∧ H5 D = some (.dT kvs) ∧ kvs.length < sizeLine ∧ Nx (upd H5 D (.dT (putK kvs k z))) else Nx H3) := by
  refine ⟨fun i m H => m = xs.length - i ∧ i ≤ xs.length ∧ Pv i H, ⟨xs.length, (Nat.sub_zero _).symm, Nat.zero_le _, h0⟩, ?_⟩
  rintro i m H ⟨rfl, hi, p⟩
  rcases Nat.lt_or_ge i xs.length with hlt | hge
  · refine .inr ⟨⟨xs, xs[i], hl i H hi p, List.getElem?_eq_getElem hlt⟩, Pv (i + 1), fun H' p' => ⟨xs.length - (i + 1), by omega, rfl, hlt, p'⟩, ?_⟩
    rintro x H' ⟨rfl, y⟩
    exact hs i x _ (y xs (hl i _ hi p)) p
  · have e : i = xs.length := Nat.le_antisymm hi hge
    subst e
    exact .inl ⟨⟨xs, hl _ H hi p, Nat.le_refl _⟩, hd H p⟩
end
end GL
namespace W
open PySem L2
def top (i : Nat) : Stmt := PySem.Challenge.pw_rotatedlogs_k00_pins_that_end_by_other_e.main.body.getD i (.Pass ⟨0, 0, 0, 0⟩)
abbrev sTake : Stmt := top 18
abbrev sOf : Stmt := top 19
abbrev sBox : Stmt := top 17
/-- what stands behind a name that the module does not bind -/
structure Bi (mg : Str → Option Value) : Prop where
  range : mg "range" = none
  len : mg "len" = none
  tuple : mg "tuple" = none
  min : mg "min" = none
  max : mg "max" = none
  abs : mg "abs" = none
  int : mg "int" = none
  str : mg "str" = none
  bool : mg "bool" = none
  all : mg "all" = none
  isinstance : mg "isinstance" = none
theorem SqT.same {K : PySem.W.Frag} {H H' : Hp} {a : Addr} {xs : List V} (e : Same H H') (h : SqT K H a xs) : SqT K H' a xs := by
  rcases h with (h | ⟨o, h⟩) | h
  · exact .inl (.inl (e _ _ h))
  · exact .inl (.inr ⟨o, e _ _ h⟩)
  · exact .inr h
theorem Same.put {H : Hp} {p : Addr} {o : HO} (h : H p = none) : Same H (upd H p o) := fun b u e => by rw [upd_ne (ne_of_none e h)]; exact e
def But (p : Addr) (H H' : Hp) : Prop := ∀ b o, b ≠ p → H b = some o → H' b = some o
theorem But.trans {p : Addr} {H H1 H2 : Hp} (a : But p H H1) (b : But p H1 H2) : But p H H2 := fun c o n e => b c o n (a c o n e)
theorem But.of {p : Addr} {H H1 : Hp} (a : Same H H1) : But p H H1 := fun c o _ e => a c o e
theorem But.own {p : Addr} {H H1 : Hp} {o : HO} (a : But p H H1) : But p H (upd H1 p o) := fun c u n e => by rw [upd_ne n]; exact a c u n e
/-- the law's box: the digits that are left, a number, how many were mixed -/
def BoxAt (H : Hp) (p : Addr) (n : Nat) : Prop := ∃ o m c : Int, H p = some (.lst [.int o, .int m, .int c]) ∧ 0 ≤ o ∧ 0 ≤ m ∧ m < 2305843009213693921 ∧ 0 ≤ c ∧ c ≤ n
theorem BoxAt.same {H H' : Hp} {p : Addr} {n : Nat} (B : BoxAt H p n) (e : Same H H') : BoxAt H' p n := let ⟨o, m, c, h, r⟩ := B; ⟨o, m, c, e _ _ h, r⟩
theorem BoxAt.mono {H : Hp} {p : Addr} {n k : Nat} (B : BoxAt H p n) (e : n ≤ k) : BoxAt H p k := let ⟨o, m, c, h, r1, r2, r3, r4, r5⟩ := B; ⟨o, m, c, h, r1, r2, r3, r4, by omega⟩
section
variable {P : Program} {w : World} {K : PySem.W.Frag} {mg : Str → Option Value} {base : Heap}
def spTake : Sp := fun vs H Q _ => ∃ (p : Addr) (many : Int) (n : Nat), vs = [.ref p, .int many] ∧ 0 < many ∧ many < 2 ^ 63 ∧ BoxAt H p n ∧ n ≤ 1000000 ∧ ∀ (H' : Hp) (v : Int), But p H H' → BoxAt H' p (n + 1) → 0 ≤ v → v < many → Q (.int v) H'
theorem scTake : FnScope ["box", "many", "digit", "mixed"] ["box", "many"] (defScope sTake) := ⟨rfl, rfl, rfl, by decide +kernel, rfl, by decide +kernel, by decide +kernel⟩
theorem ok_take {fa : Addr} {fd : FuncData} (F : Fun K "_law_take" "_law_take" sTake fa fd) : FnOk P w K mg base CX0 1 fa fd ["box", "many"] spTake := by
  refine F.ok scTake (fun vs H Q E h => ?_) (fun cdv A outer s H vs Q E hr h => ?_)
  · obtain ⟨p, many, n, rfl, _⟩ := h
    rfl
  · obtain ⟨p, many, n, rfl, m0, m1, ⟨o, m, c, hp, o0, b0, b1, c0, c1⟩, hn, k⟩ := h
    have nd := scTake.nd
    refine ⟨_, pss_cons (ps_if (pt_cmpR op_gt (pe_ix ix_list (pv 0) pe_int (fun _ _ => rfl)) pe_int (nomark _))
        (pss_cons (ps_set (i := 2) nd rfl (.inl rfl) (pe_op op_mod (pe_ix ix_list (pv 0) pe_int (fun _ _ => rfl)) (pv 1)))
        (pss_cons (ps_asg (pe_op op_fdivW (pe_ix ix_list (pv 0) pe_int (fun _ _ => rfl)) (pv 1)) (pg_sub (pv 0) pe_int set_list))
        (pss_one (ps_ret (pv 2))))) pss_nil)
      (pss_cons (ps_asg (pe_op op_add (pe_ix ix_list (pv 0) pe_int (fun _ _ => rfl)) pe_int) (pg_sub (pv 0) pe_int set_list))
      (pss_cons (ps_set (i := 3) nd rfl (.inl rfl) (pe_op op_mod (pe_op op_mul (pe_op op_add (pe_op op_add (pe_ix ix_list (pv 0) pe_int (fun _ _ => rfl)) (pe_op op_mul (pe_op op_mul pe_int (pe_ix ix_list (pv 0) pe_int (fun _ _ => rfl))) (pe_ix ix_list (pv 0) pe_int (fun _ _ => rfl)))) pe_int) pe_int) pe_int))
      (pss_cons (ps_set (i := 3) nd rfl (.inl rfl) (pe_op op_mod (pe_op op_mul (pv 3) (pe_op op_add (pe_op op_mod (pv 3) pe_int) (pe_op op_mul pe_int (pe_ix ix_list (pv 0) pe_int (fun _ _ => rfl))))) pe_int))
      (pss_one (ps_ret (pe_op op_mod (pe_op op_add (pe_op op_fdiv (pv 3) pe_int) (pe_op op_fdiv (pv 3) pe_int)) (pv 1))))))), ?_⟩
    have at0 : ∀ a b d : V, atI [a, b, d] 0 = some a := fun a b d => at_of (j := 0) rfl rfl
    have at1 : ∀ a b d : V, atI [a, b, d] 1 = some b := fun a b d => at_of (j := 1) rfl rfl
    have at2 : ∀ a b d : V, atI [a, b, d] 2 = some d := fun a b d => at_of (j := 2) rfl rfl
    refine ⟨_, rfl, p, _, 0, _, rfl, rfl, SqL.of hp, at0 _ _ _, _, _, rfl, rfl, _, rfl, ?_⟩
    by_cases q : (0 : Int) < o
    · rw [decide_eq_true q]
      refine iteT ⟨_, rfl, p, _, 0, _, rfl, rfl, SqL.of hp, at0 _ _ _, _, rfl, _, _, rfl, rfl, m0, ?_⟩
      refine ⟨_, rfl, p, _, 0, _, rfl, rfl, SqL.of hp, at0 _ _ _, _, rfl, _, _, rfl, rfl, wide_div (b := 63) m0 (by omega) (by decide) (by decide), ?_⟩
      refine ⟨_, rfl, p, _, 0, 0, rfl, rfl, hp, rfl, _, rfl, ?_⟩
      exact k _ _ (But.own (But.of (Same.refl H))) ⟨o / many, m, c, upd_same, Int.ediv_nonneg (by omega) (by omega), b0, b1, c0, by omega⟩ (Int.emod_nonneg _ (by omega)) (Int.emod_lt_of_pos _ m0)
    · rw [decide_eq_false q]
      refine iteF ⟨_, rfl, p, _, 2, _, rfl, rfl, SqL.of hp, at2 _ _ _, _, _, rfl, rfl, _, rfl, p, _, 2, 2, rfl, rfl, hp, rfl, ?_⟩
      have hp1 : upd H p (.lst (([.int o, .int m, .int c] : List V).set 2 (.int (c + 1)))) p = some (.lst [.int o, .int m, .int (c + 1)]) := upd_same
      generalize eH1 : upd H p (.lst (([.int o, .int m, .int c] : List V).set 2 (.int (c + 1)))) = H1 at hp1
      have b1' : But p H H1 := eH1 ▸ But.own (But.of (Same.refl H))
      show tSeq _ _ _ _ H1
      refine ⟨_, rfl, p, _, 1, _, rfl, rfl, SqL.of hp1, at1 _ _ _, _, rfl, p, _, 2, _, rfl, rfl, SqL.of hp1, at2 _ _ _, _, _, rfl, rfl, .inl ⟨by decide, by decide⟩, _, rfl, p, _, 2, _, rfl, rfl, SqL.of hp1, at2 _ _ _, _, _, rfl, rfl, .inr ⟨by omega, by omega⟩, _, _, rfl, rfl, _, _, rfl, rfl, _, _, rfl, rfl, .inr ⟨by decide, by decide⟩, _, _, rfl, rfl, by show (0 : Int) < 2305843009213693921; decide, ?_⟩
      generalize eX : (m + 65557 * (c + 1) * (c + 1) + 19) * 48311 % 2305843009213693921 = x1
      have x0 : 0 ≤ x1 := eX ▸ Int.emod_nonneg _ (by decide)
      have x2 : x1 < 2305843009213693921 := eX ▸ Int.emod_lt_of_pos _ (by decide)
      refine ⟨_, rfl, _, rfl, _, _, rfl, rfl, by show (0 : Int) < 1000037; decide, _, rfl, p, _, 2, _, rfl, rfl, SqL.of hp1, at2 _ _ _, _, _, rfl, rfl, .inl ⟨by decide, by decide⟩, _, _, rfl, rfl, _, _, rfl, rfl, .inl ⟨?_, ?_⟩, _, _, rfl, rfl, by show (0 : Int) < 2305843009213693907; decide, ?_⟩
      · show -(2 ^ 64) < (m + 65557 * (c + 1) * (c + 1) + 19) * 48311 % 2305843009213693921
        rw [eX]; omega
      · show (m + 65557 * (c + 1) * (c + 1) + 19) * 48311 % 2305843009213693921 < 2 ^ 64
        rw [eX]; omega
      refine ⟨_, rfl, _, _, rfl, rfl, ⟨by decide, by decide⟩, _, rfl, _, _, rfl, rfl, ⟨by decide, by decide⟩, _, _, rfl, rfl, _, rfl, _, _, rfl, rfl, m0, ?_⟩
      exact k _ _ b1' ⟨o, m, c + 1, hp1, o0, b0, b1, by omega, by omega⟩ (Int.emod_nonneg _ (by omega)) (Int.emod_lt_of_pos _ m0)
/-- one of some things -/
def spOf (K : PySem.W.Frag) : Sp := fun vs H Q _ => ∃ (p q : Addr) (n : Nat) (xs : List V), vs = [.ref p, .ref q] ∧ p ≠ q ∧ H q = some (.lst xs) ∧ xs ≠ [] ∧ xs.length ≤ 1000 ∧ BoxAt H p n ∧ n ≤ 1000000 ∧ ∀ (H' : Hp) (x : V), But p H H' → BoxAt H' p (n + 1) → x ∈ xs → Q x H'
theorem scOf : FnScope ["box", "some"] ["box", "some"] (defScope sOf) := ⟨rfl, rfl, rfl, by decide +kernel, rfl, by decide +kernel, by decide +kernel⟩
theorem ok_of {fa fT : Addr} {fd fdT : FuncData} (F : Fun K "_law_of" "_law_of" sOf fa fd) (B : Bi mg) (GT : FnOk P w K mg base CX0 1 fT fdT ["box", "many"] spTake) (kT : PySem.W.keepIn K (.ref fT) = true) (mT : mg "_law_take" = some (.ref fT)) (bT : Binds K fdT ["box", "many"] []) : FnOk P w K mg base CX0 2 fa fd ["box", "some"] (spOf K) := by
  refine F.ok scOf (fun vs H Q E h => ?_) (fun cdv A outer s H vs Q E hr h => ?_)
  · obtain ⟨p, q, n, xs, rfl, _⟩ := h
    rfl
  · obtain ⟨p, q, n, xs, rfl, hpq, hq, hne, hl, BX, hn, k⟩ := h
    have hpos := List.length_pos_iff.mpr hne
    refine ⟨_, pss_one (ps_ret (pe_ix ix_list (pv 1) (pe_call GT hr (by rfl) mT kT bT .nil pass0 (pa_cons (pv 0) (pa_cons (pe_callB call_len_seq (by rfl) B.len PySem.boot_len (pa_cons (pv 1) pa_nil)) pa_nil))) (fun _ _ => rfl))), ?_⟩
    refine ⟨_, rfl, _, rfl, _, rfl, q, xs, rfl, .inl (SqL.of hq), p, (xs.length : Nat), n, rfl, by omega, by omega, BX, hn, fun H' v b BX' v0 v1 => ?_⟩
    have lt : v.toNat < xs.length := by omega
    have ex := List.getElem?_eq_getElem lt
    refine ⟨q, xs, v, xs[v.toNat], rfl, rfl, SqL.of (b _ _ (Ne.symm hpq) hq), at_of (j := v.toNat) (by omega) ex, k H' _ b BX' (List.mem_of_getElem? ex)⟩
/-! ### _law_box -/
theorem b01 (b : Bool) : (-(2 ^ 64) < (if b = true then (1 : Int) else 0) ∧ (if b = true then (1 : Int) else 0) < 2 ^ 64) ∧ 0 ≤ (if b = true then (1 : Int) else 0) := by cases b <;> decide
def spBox (K : PySem.W.Frag) : Sp := fun vs H Q _ => ∃ (a : Addr) (ns : List Int) (k : Int), vs = [.ref a, .int k] ∧ SqL K H a (ns.map V.int) ∧ 0 ≤ k ∧ k ≤ 100 ∧ ∀ (p : Addr) (H' : Hp), H p = none → Same H H' → BoxAt H' p 0 → Q (.ref p) H'
theorem scBox : FnScope ["script", "k", "cell", "own"] ["script", "k"] (defScope sBox) := ⟨rfl, rfl, rfl, by decide +kernel, rfl, by decide +kernel, by decide +kernel⟩
theorem ok_box {fa : Addr} {fd : FuncData} (F : Fun K "_law_box" "_law_box" sBox fa fd) (B : Bi mg) : FnOk P w K mg base CX0 1 fa fd ["script", "k"] (spBox K) := by
  refine F.ok scBox (fun vs H Q E h => ?_) (fun cdv A outer s H vs Q E hr h => ?_)
  · obtain ⟨a, ns, k, rfl, _⟩ := h
    rfl
  · obtain ⟨a, ns, kk, rfl, ha, k0, k1, k⟩ := h
    have nd := scBox.nd
    refine ⟨_, pss_cons (ps_set (i := 2) nd rfl (.inl rfl) (pe_ifExp (pt_cmpR op_lt (pv 1) (pe_callB call_len_seq (by rfl) B.len PySem.boot_len (pa_cons (pv 0) pa_nil)) (nomark _)) (pe_ix ix_list (pv 0) (pv 1) (fun _ _ => rfl)) (pe_op op_add (pe_op op_mul pe_int (pv 1)) pe_int)))
      (pss_cons (ps_set (i := 3) nd rfl (.inl rfl) (pe_op op_mul (pe_op op_mod (pe_callB call_abs (by rfl) B.abs PyProof.Rows.boot_abs (pa_cons (pv 2) pa_nil)) (pe_op GL.op_powW (pe_op op_pow pe_int pe_int) pe_int))
        (pe_callTy call_int1 (by rfl) B.int (by decide +kernel) (pa_cons (pe_cmpR op_ge (pe_callB call_abs (by rfl) B.abs PyProof.Rows.boot_abs (pa_cons (pv 2) pa_nil)) (pe_op op_pow pe_int pe_int) (nomark _)) pa_nil))))
      (pss_one (ps_ret (pe_lst (pa_cons (pv 3) (pa_cons (pe_op op_mod (pe_op op_add (pe_op op_add (pe_op op_mul (pe_op op_mod (pv 2) pe_int) pe_int) (pe_op op_mul (pe_op op_mul pe_int (pv 1)) (pv 1))) pe_int) pe_int) (pa_cons pe_int pa_nil))))))), ?_⟩
    refine ⟨_, rfl, _, rfl, a, _, rfl, .inl ha, _, _, rfl, rfl, _, rfl, ?_⟩
    by_cases q : kk < (ns.length : Nat)
    · rw [List.length_map, decide_eq_true q]
      have lt : kk.toNat < ns.length := by omega
      have ex := List.getElem?_eq_getElem lt
      refine iteT ⟨_, rfl, _, rfl, a, _, kk, .int ns[kk.toNat], rfl, rfl, ha, at_of (j := kk.toNat) (by omega) (by rw [List.getElem?_map, ex]; rfl), ?_⟩
      refine ⟨_, rfl, _, rfl, _, _, rfl, rfl, ⟨by decide, by decide, by decide⟩, _, _, rfl, rfl, ⟨by decide, by decide +kernel⟩, _, _, rfl, rfl, ?_, _, rfl, _, rfl, _, _, rfl, rfl, ⟨by decide, by decide, by decide⟩, _, _, rfl, rfl, .inr ⟨_, rfl, _, _, rfl, rfl, .inr ?_, ?_⟩⟩
      · show (0 : Int) < ((10 : Int) ^ (60 : Int).toNat) ^ (5 : Int).toNat
        decide +kernel
      · exact (b01 _).1
      refine ⟨_, rfl, _, rfl, _, _, rfl, rfl, by show (0 : Int) < 2305843009213693951; decide, _, _, rfl, rfl, .inr ⟨by decide, by decide⟩, _, rfl, _, _, rfl, rfl, .inl ⟨by decide, by decide⟩, _, rfl, _, _, rfl, rfl, .inr ⟨by omega, by omega⟩, _, _, rfl, rfl, _, _, rfl, rfl, _, _, rfl, rfl, by show (0 : Int) < 2305843009213693921; decide, by show 3 ≤ sizeLine; decide, fun p np => ?_⟩
      refine k p _ np (Same.put np) ⟨_, _, _, upd_same, ?_, Int.emod_nonneg _ (by decide), Int.emod_lt_of_pos _ (by decide), Int.le_refl _, Int.le_refl _⟩
      refine Int.mul_nonneg (Int.emod_nonneg _ (by decide +kernel)) (b01 _).2
    · rw [List.length_map, decide_eq_false q]
      refine iteF ⟨_, rfl, _, _, rfl, rfl, .inl ⟨by decide, by decide⟩, _, _, rfl, rfl, ?_⟩
      refine ⟨_, rfl, _, rfl, _, _, rfl, rfl, ⟨by decide, by decide, by decide⟩, _, _, rfl, rfl, ⟨by decide, by decide +kernel⟩, _, _, rfl, rfl, ?_, _, rfl, _, rfl, _, _, rfl, rfl, ⟨by decide, by decide, by decide⟩, _, _, rfl, rfl, .inr ⟨_, rfl, _, _, rfl, rfl, .inr ?_, ?_⟩⟩
      · show (0 : Int) < ((10 : Int) ^ (60 : Int).toNat) ^ (5 : Int).toNat
        decide +kernel
      · exact (b01 _).1
      refine ⟨_, rfl, _, rfl, _, _, rfl, rfl, by show (0 : Int) < 2305843009213693951; decide, _, _, rfl, rfl, .inr ⟨by decide, by decide⟩, _, rfl, _, _, rfl, rfl, .inl ⟨by decide, by decide⟩, _, rfl, _, _, rfl, rfl, .inr ⟨by omega, by omega⟩, _, _, rfl, rfl, _, _, rfl, rfl, _, _, rfl, rfl, by show (0 : Int) < 2305843009213693921; decide, by show 3 ≤ sizeLine; decide, fun p np => ?_⟩
      refine k p _ np (Same.put np) ⟨_, _, _, upd_same, ?_, Int.emod_nonneg _ (by decide), Int.emod_lt_of_pos _ (by decide), Int.le_refl _, Int.le_refl _⟩
      refine Int.mul_nonneg (Int.emod_nonneg _ (by decide +kernel)) (b01 _).2
end
end W
namespace W
open PySem L2
abbrev iLF : Nat := 13
abbrev iPin : Nat := 14
abbrev iLog : Nat := 15
abbrev sLfInit : Stmt := inClass (top iLF) 0
abbrev sPinInit : Stmt := inClass (top iPin) 0
abbrev sEnter : Stmt := inClass (top iPin) 1
abbrev sExit : Stmt := inClass (top iPin) 2
theorem look_at : ∀ {ks : List Str} {vs : List V} {f : Str} {i : Nat} {v : V}, ks.findIdx? (fun k => f == k) = some i → vs[i]? = some v → (ks.zip vs).lookup f = some v
  | [], _, _, _, _, h, _ => by simp at h
  | k :: ks, [], _, _, _, _, h => by simp at h
  | k :: ks, w :: vs, f, i, v, h, hv => by
    rw [List.zip_cons_cons, List.lookup_cons]
    rw [List.findIdx?_cons] at h
    cases e : f == k with
    | true =>
      rw [e, if_pos rfl] at h
      cases h
      simpa using hv
    | false =>
      rw [e, if_neg (by decide)] at h
      obtain ⟨j, hj, rfl⟩ := Option.map_eq_some_iff.mp h
      exact look_at hj (by simpa using hv)
theorem look_no : ∀ {ks : List Str} {vs : List V} {f : Str}, ks.findIdx? (fun k => f == k) = none → (ks.zip vs).lookup f = none
  | [], _, _, _ => rfl
  | k :: ks, [], _, _ => rfl
  | k :: ks, w :: vs, f, h => by
    rw [List.zip_cons_cons, List.lookup_cons]
    rw [List.findIdx?_cons] at h
    cases e : f == k with
    | true => rw [e, if_pos rfl] at h; cases h
    | false =>
      rw [e, if_neg (by decide)] at h
      exact look_no (Option.map_eq_none_iff.mp h)
theorem putF_new : ∀ {ks : List Str} {vs : List V} {f : Str} {v : V}, ks.findIdx? (fun k => f == k) = none → ks.length = vs.length → putF f v (ks.zip vs) = (ks ++ [f]).zip (vs ++ [v])
  | [], [], _, _, _, _ => rfl
  | [], _ :: _, _, _, _, h => by simp at h
  | _ :: _, [], _, _, _, h => by simp at h
  | k :: ks, w :: vs, f, v, h, hl => by
    rw [List.findIdx?_cons] at h
    cases e : f == k with
    | true => rw [e, if_pos rfl] at h; cases h
    | false =>
      rw [e, if_neg (by decide)] at h
      have ne : ¬ k = f := fun z => by subst z; simp at e
      show (if k = f then _ else (k, w) :: putF f v (ks.zip vs)) = (k, w) :: (ks ++ [f]).zip (vs ++ [v])
      rw [if_neg ne, putF_new (Option.map_eq_none_iff.mp h) (by simpa using hl)]
theorem putF_at : ∀ {ks : List Str} {vs : List V} {f : Str} {i : Nat} {v : V}, ks.findIdx? (fun k => f == k) = some i → ks.length = vs.length → putF f v (ks.zip vs) = ks.zip (vs.set i v)
  | [], _, _, _, _, h, _ => by simp at h
  | _ :: _, [], _, _, _, _, l => by simp at l
  | k :: ks, x :: vs, f, i, v, h, l => by
    rw [List.findIdx?_cons] at h
    cases e : f == k with
    | true =>
      rw [e, if_pos rfl] at h
      cases h
      have z : f = k := by simpa using e
      subst z
      show (if f = f then (f, v) :: ks.zip vs else _) = _
      rw [if_pos rfl]; rfl
    | false =>
      rw [e, if_neg (by decide)] at h
      obtain ⟨j, hj, rfl⟩ := Option.map_eq_some_iff.mp h
      have ne : ¬ k = f := fun z => by subst z; simp at e
      show (if k = f then _ else (k, x) :: putF f v (ks.zip vs)) = (k, x) :: ks.zip (vs.set j v)
      rw [if_neg ne, putF_at hj (by simpa using l)]
/-- a Log's attributes, in the order of their stores -/
def kL : List Str := ["own_size", "own_kept", "present", "present_fill", "count", "pins"]
def logV (size kept : Int) (pres : Addr) (fill count pins : Int) : List V := [.int size, .int kept, .ref pres, .int fill, .int count, .int pins]
/-- the class Log -/
structure KL (K : PySem.W.Frag) (C : Addr) : Prop where
  cl : Cls K C
  size : NoAttr K C "own_size"
  kept : NoAttr K C "own_kept"
  pres : NoAttr K C "present"
  fill : NoAttr K C "present_fill"
  count : NoAttr K C "count"
  pins : NoAttr K C "pins"
section
variable {P : Program} {w : World} {K : PySem.W.Frag} {mg : Str → Option Value} {base : Heap} {CP CL : Addr}
/-- the class Pin -/
structure KP (K : PySem.W.Frag) (C : Addr) : Prop where
  cl : Cls K C
  log : NoAttr K C "pinned_log"
def spPinInit (CP : Addr) : Sp := fun vs H Q _ => ∃ (p dx l : Addr), vs = [.ref p, .ref l] ∧ H p = some (.ins CP dx []) ∧ Q .non (upd H p (.ins CP dx [("pinned_log", .ref l)]))
theorem scPinInit : FnScope ["self", "log"] ["self", "log"] (defScope sPinInit) := ⟨rfl, rfl, rfl, by decide +kernel, rfl, by decide +kernel, by decide +kernel⟩
theorem ok_pinit {fa : Addr} {fd : FuncData} (F : Fun K "__init__" "Pin.__init__" sPinInit fa fd) (T : KP K CP) : FnOk P w K mg base CX0 1 fa fd ["self", "log"] (spPinInit CP) := by
  refine F.ok scPinInit (fun vs H Q E h => ?_) (fun cdv A outer s H vs Q E hr h => ?_)
  · obtain ⟨p, dx, l, rfl, _⟩ := h
    rfl
  · obtain ⟨p, dx, l, rfl, hp, k⟩ := h
    exact ⟨_, pss_one (ps_fld (pv 0) (pv 1) rfl), _, rfl, _, rfl, p, CP, dx, _, rfl, hp, T.cl, T.log, by show 0 < 1000; decide, k⟩
/-- a Log with so many pins: its object alone -/
def LogO (H : Hp) (CL g : Addr) (size kept : Int) (pres : Addr) (fill count pins : Int) : Prop := ∃ dx, H g = some (.ins CL dx (kL.zip (logV size kept pres fill count pins)))
def spEnter (CP CL : Addr) : Sp := fun vs H Q _ => ∃ (p dp g : Addr) (size kept : Int) (pres : Addr) (fill count pins : Int) (dx : Addr), vs = [.ref p] ∧ H p = some (.ins CP dp [("pinned_log", .ref g)]) ∧ H g = some (.ins CL dx (kL.zip (logV size kept pres fill count pins))) ∧
  Q (.ref g) (upd H g (.ins CL dx (kL.zip (logV size kept pres fill count (pins + 1)))))
theorem scEnter : FnScope ["self"] ["self"] (defScope sEnter) := ⟨rfl, rfl, rfl, by decide +kernel, rfl, by decide +kernel, by decide +kernel⟩
theorem ok_enter {fa : Addr} {fd : FuncData} (F : Fun K "__enter__" "Pin.__enter__" sEnter fa fd) (T : KP K CP) (TL : KL K CL) : FnOk P w K mg base CX0 1 fa fd ["self"] (spEnter CP CL) := by
  refine F.ok scEnter (fun vs H Q E h => ?_) (fun cdv A outer s H vs Q E hr h => ?_)
  · obtain ⟨p, dp, g, size, kept, pres, fill, count, pins, dx, rfl, _⟩ := h
    rfl
  · obtain ⟨p, dp, g, size, kept, pres, fill, count, pins, dx, rfl, hp, hg, k⟩ := h
    refine ⟨_, pss_cons (ps_fldaug (pe_fld (pv 0) rfl) pe_int in_add) (pss_one (ps_ret (pe_fld (pv 0) rfl))), ?_⟩
    refine ⟨_, rfl, p, CP, dp, _, _, rfl, hp, T.cl, T.log, rfl, g, CL, dx, _, .int pins, rfl, hg, TL.cl, TL.pins, look_at (i := 5) (by decide +kernel) rfl, _, _, rfl, rfl, _, _, hg, by show 6 < 1000; decide, ?_⟩
    have pg : p ≠ g := ne_of hp hg (by intro z; cases z)
    rw [show putF "pins" (V.int (pins + 1)) (kL.zip (logV size kept pres fill count pins)) = kL.zip (logV size kept pres fill count (pins + 1)) from putF_at (i := 5) (by decide +kernel) rfl]
    exact ⟨_, rfl, p, CP, dp, _, _, rfl, by rw [upd_ne pg]; exact hp, T.cl, T.log, rfl, k⟩
def spExit (CP CL : Addr) : Sp := fun vs H Q _ => ∃ (p dp g : Addr) (size kept : Int) (pres : Addr) (fill count pins : Int) (dx : Addr) (v1 v2 v3 : V), vs = [.ref p, v1, v2, v3] ∧ H p = some (.ins CP dp [("pinned_log", .ref g)]) ∧ H g = some (.ins CL dx (kL.zip (logV size kept pres fill count pins))) ∧
  Q .non (upd H g (.ins CL dx (kL.zip (logV size kept pres fill count (pins - 1)))))
theorem scExit : FnScope ["self", "kind", "value", "trace"] ["self", "kind", "value", "trace"] (defScope sExit) := ⟨rfl, rfl, rfl, by decide +kernel, rfl, by decide +kernel, by decide +kernel⟩
theorem ok_exit {fa : Addr} {fd : FuncData} (F : Fun K "__exit__" "Pin.__exit__" sExit fa fd) (T : KP K CP) (TL : KL K CL) : FnOk P w K mg base CX0 1 fa fd ["self", "kind", "value", "trace"] (spExit CP CL) := by
  refine F.ok scExit (fun vs H Q E h => ?_) (fun cdv A outer s H vs Q E hr h => ?_)
  · obtain ⟨p, dp, g, size, kept, pres, fill, count, pins, dx, v1, v2, v3, rfl, _⟩ := h
    rfl
  · obtain ⟨p, dp, g, size, kept, pres, fill, count, pins, dx, v1, v2, v3, rfl, hp, hg, k⟩ := h
    refine ⟨_, pss_one (ps_fldaug (pe_fld (pv 0) rfl) pe_int in_sub), ?_⟩
    refine ⟨_, rfl, p, CP, dp, _, _, rfl, hp, T.cl, T.log, rfl, g, CL, dx, _, .int pins, rfl, hg, TL.cl, TL.pins, look_at (i := 5) (by decide +kernel) rfl, _, _, rfl, rfl, _, _, hg, by show 6 < 1000; decide, ?_⟩
    rw [show putF "pins" (V.int (pins - 1)) (kL.zip (logV size kept pres fill count pins)) = kL.zip (logV size kept pres fill count (pins - 1)) from putF_at (i := 5) (by decide +kernel) rfl]
    exact k
theorem ok_exitH {fa : Addr} {fd : FuncData} (F : Fun K "__exit__" "Pin.__exit__" sExit fa fd) (T : KP K CP) (TL : KL K CL) : Lm.HFn P w K mg base 1 fa fd ["self", "kind", "value", "trace"] (spExit CP CL) := by
  refine Lm.hfn F scExit (fun vs H Q E h => ?_) (fun cdv A outer s H vs Q E pp hr h => ?_)
  · obtain ⟨p, dp, g, size, kept, pres, fill, count, pins, dx, v1, v2, v3, rfl, _⟩ := h
    rfl
  · obtain ⟨p, dp, g, size, kept, pres, fill, count, pins, dx, v1, v2, v3, rfl, hp, hg, k⟩ := h
    refine ⟨_, pss_one (ps_fldaug (pe_fld (pv 0) rfl) pe_int in_sub), ?_⟩
    refine ⟨_, rfl, p, CP, dp, _, _, rfl, hp, T.cl, T.log, rfl, g, CL, dx, _, .int pins, rfl, hg, TL.cl, TL.pins, look_at (i := 5) (by decide +kernel) rfl, _, _, rfl, rfl, _, _, hg, by show 6 < 1000; decide, ?_⟩
    rw [show putF "pins" (V.int (pins - 1)) (kL.zip (logV size kept pres fill count pins)) = kL.zip (logV size kept pres fill count (pins - 1)) from putF_at (i := 5) (by decide +kernel) rfl]
    exact k
end
end W
namespace W
open PySem L2
abbrev sPinned : Stmt := inClass (top iLog) 16
abbrev sPwhile : Stmt := inClass (top iLog) 17
section
variable {P : Program} {w : World} {K : PySem.W.Frag} {mg : Str → Option Value} {base : Heap} {CP CL : Addr}
def spPinned (CP : Addr) : Sp := fun vs H Q _ => ∃ g : Addr, vs = [.ref g] ∧ ∀ p dp, H p = none → H dp = none → dp ≠ p → Q (.ref p) (upd (upd (upd H dp (.own p)) p (.ins CP dp [])) p (.ins CP dp [("pinned_log", .ref g)]))
theorem scPinned : FnScope ["self"] ["self"] (defScope sPinned) := ⟨rfl, rfl, rfl, by decide +kernel, rfl, by decide +kernel, by decide +kernel⟩
theorem ok_pinned {fa fI : Addr} {fd fdI : FuncData} (F : Fun K "pinned" "Log.pinned" sPinned fa fd) (M : Mk K CP fI) (GI : FnOk P w K mg base CX0 1 fI fdI ["self", "log"] (spPinInit CP)) (bI : Binds K fdI ["self", "log"] []) (mP : mg "Pin" = some (.ref CP)) : FnOk P w K mg base CX0 3 fa fd ["self"] (spPinned CP) := by
  refine F.ok scPinned (fun vs H Q E h => ?_) (fun cdv A outer s H vs Q E hr h => ?_)
  · obtain ⟨g, rfl, _⟩ := h
    rfl
  · obtain ⟨g, rfl, k⟩ := h
    refine ⟨_, pss_one (ps_ret (pe_make M GI hr (by rfl) mP bI .nil pass0 (pa_cons (pv 0) pa_nil))), ?_⟩
    exact ⟨_, rfl, fun p dp np nd ne => ⟨p, dp, g, rfl, upd_same, rfl, k p dp np nd ne⟩⟩
/-- the heap in which look runs -/
abbrev pinH (CP CL : Addr) (H : Hp) (p dp g dx : Addr) (size kept : Int) (pres : Addr) (fill count pins : Int) : Hp := upd (upd (upd (upd H dp (.own p)) p (.ins CP dp [])) p (.ins CP dp [("pinned_log", .ref g)])) g (.ins CL dx (kL.zip (logV size kept pres fill count (pins + 1))))
/-- what look must leave: the pin, the log -/
def Left (CP CL p dp g : Addr) (H : Hp) (k : Hp → Prop) : Prop := ∃ (size kept : Int) (pres : Addr) (fill count pins : Int) (dx : Addr), H p = some (.ins CP dp [("pinned_log", .ref g)]) ∧ H g = some (.ins CL dx (kL.zip (logV size kept pres fill count pins))) ∧ k (upd H g (.ins CL dx (kL.zip (logV size kept pres fill count (pins - 1)))))
def SPw (CP CL : Addr) : Addr → Sp → Sp := fun f c vs H Q E => ∃ (g : Addr) (size kept : Int) (pres : Addr) (fill count pins : Int) (dx : Addr), vs = [.ref g, .ref f] ∧ H g = some (.ins CL dx (kL.zip (logV size kept pres fill count pins))) ∧ ∀ p dp, H p = none → H dp = none → dp ≠ p →
  c [.ref g] (pinH CP CL H p dp g dx size kept pres fill count pins) (fun z H3 => spExit CP CL [.ref p, .non, .non, .non] H3 (fun _ H4 => Q z H4) fun _ _ _ => False) (fun cls d H3 => (∃ vt, RelV vt cls) ∧ Left CP CL p dp g H3 (E cls d))
theorem scPwhile : FnScope ["self", "look"] ["self", "look"] (defScope sPwhile) := ⟨rfl, rfl, rfl, by decide +kernel, rfl, by decide +kernel, by decide +kernel⟩
theorem ok_pwhile {fa fP fE fX : Addr} {fd fdP fdE fdX : FuncData} {m kc : Nat} (hk : kc ≤ m) (h3 : 3 ≤ m) (F : Fun K "pinned_while" "Log.pinned_while" sPwhile fa fd) (TL : KL K CL) (T : KP K CP) (GP : FnOk P w K mg base CX0 3 fP fdP ["self"] (spPinned CP)) (mP : Meth K CL "pinned" fP) (bP : Binds K fdP ["self"] [])
    (GE : FnOk P w K mg base CX0 1 fE fdE ["self"] (spEnter CP CL)) (mE : Meth K CP "__enter__" fE) (bE : Binds K fdE ["self"] []) (GX : FnOk P w K mg base CX0 1 fX fdX ["self", "kind", "value", "trace"] (spExit CP CL)) (HX : Lm.HFn P w K mg base 1 fX fdX ["self", "kind", "value", "trace"] (spExit CP CL)) (mX : Meth K CP "__exit__" fX) (bX : Binds K fdX ["self", "kind", "value", "trace"] []) :
    Lm.CFn P w K mg base (m + 1) kc fa fd ["self", "look"] (SPw CP CL) := by
  refine Lm.cfn F scPwhile (fun f c vs H Q E h => ?_) (fun cdv A outer s H vs Q E f c C hr h => ?_)
  · obtain ⟨g, size, kept, pres, fill, count, pins, dx, rfl, _⟩ := h
    rfl
  · obtain ⟨g, size, kept, pres, fill, count, pins, dx, rfl, hg, k⟩ := h
    have r3 : Room 3 _ := hr.mono h3
    have r1 : Room 1 _ := hr.mono (Nat.le_trans (by decide) h3)
    refine ⟨_, pss_one (Lm.ps_with (C := CP) (te := fun W σ H Q => ∃ E' : XK, (∀ cls d σ' H', E' cls d H' → W cls d σ' H') ∧ Lm.tClo 1 f c E' (tCons (tVar 0) tNil) σ H Q) (Wout := fun cls d _ H => E cls d H) rfl rfl rfl (takes_of rfl rfl rfl rfl) (pe_meth0 (pv 0) TL.cl mP GP r3 bP .nil pass0) mE.at_ mE.fn mX.at_ mX.fn GE r1 bE GX HX r1 bX
      (fun W pn xe tk _ => ⟨fun pins s σ H Q I h => ?_⟩)), ?_⟩
    · obtain ⟨E', hW, h⟩ := h
      exact (Lm.pe_clo C rfl (hr.mono hk) (passes_call tk hW) (by rfl) (.inl rfl) (pa_cons (pv 0) pa_nil)).run pins s σ H Q I h
    · refine ⟨_, rfl, g, dx, _, rfl, hg, look_no (by decide +kernel), g, rfl, fun p dp np nd ne => ⟨p, dp, _, rfl, upd_same, p, dp, g, size, kept, pres, fill, count, pins, dx, rfl, upd_same, ?_, ?_⟩⟩
      · rw [upd_ne (ne_of_none hg np), upd_ne (ne_of_none hg np), upd_ne (ne_of_none hg nd)]; exact hg
      · exact ⟨fun cls d H3 => (∃ vt, RelV vt cls) ∧ Left CP CL p dp g H3 (E cls d), fun cls d σ' H' ⟨⟨vt, rv⟩, s2, k2, pr, fi, co, pi, dx2, h1, h2, h3⟩ => ⟨vt, rv, fun va vb => ⟨p, dp, g, s2, k2, pr, fi, co, pi, dx2, vt, va, vb, rfl, h1, h2, rfl, h3⟩⟩, rfl, _, rfl, k p dp np nd ne⟩
end
end W
namespace W
open PySem L2
abbrev sWord : Stmt := top 23
theorem exm_ZE_KE {K : PySem.W.Frag} : PySem.W.exmOne K (.type "ZeroDivisionError") (.type "KeyError") = some false := by kernel_rfl
theorem exm_ZE {K : PySem.W.Frag} : PySem.W.exmOne K (.type "ZeroDivisionError") (.type "ZeroDivisionError") = some true := by kernel_rfl
section
variable {P : Program} {w : World} {K : PySem.W.Frag} {mg : Str → Option Value} {base : Heap}
/-- the word of what ask ends with -/
def SPword : Addr → Sp → Sp := fun f c vs H Q _ => vs = [.ref f] ∧ c [] H (fun _ H' => ∃ v, (some (some (V.str "fine")) : Option (Option V)) = some (some v) ∧ Q v H') (fun cls _ H' => (cls = .type "KeyError" ∧ Q (.str "key") H') ∨ (cls = .type "ZeroDivisionError" ∧ Q (.str "nought") H'))
theorem scWord : FnScope ["ask", "word"] ["ask"] (defScope sWord) := ⟨rfl, rfl, rfl, by decide +kernel, rfl, by decide +kernel, by decide +kernel⟩
theorem ok_word {fa : Addr} {fd : FuncData} {m kc : Nat} (hk : kc ≤ m) (F : Fun K "_law_word" "_law_word" sWord fa fd) (mK : mg "KeyError" = none) (mZ : mg "ZeroDivisionError" = none) : Lm.CFn P w K mg base (m + 1) kc fa fd ["ask"] SPword := by
  refine Lm.cfn F scWord (fun f c vs H Q E h => ?_) (fun cdv A outer s H vs Q E f c C hr h => ?_)
  · obtain ⟨rfl, _⟩ := h
    rfl
  · obtain ⟨rfl, h⟩ := h
    have nd := scWord.nd
    refine ⟨_, pss_cons (ps_set (i := 1) nd rfl (.inl rfl) pe_str) (pss_cons (ps_try_many (Wout := fun _ _ _ _ => False) rfl rfl takes_none5 (fun W pn xe tk _ => pss_one (ps_expr (Lm.pe_cloW0 (i := 0) C rfl (hr.mono hk) tk (by rfl) (.inl rfl))))
      (.cons (names_blt (by rfl) mK boot_KeyError) (fun a oe cls d pn _ _ => pss_one (ps_set (i := 1) nd rfl (.inl rfl) pe_str)) (.cons (names_blt (by rfl) mZ boot_ZeroDivisionError) (fun a oe cls d pn _ _ => pss_one (ps_set (i := 1) nd rfl (.inl rfl) pe_str)) .nil)))
      (pss_one (ps_ret (pv 1)))), ?_⟩
    refine ⟨(fun cls _ H' => (cls = .type "KeyError" ∧ Q (.str "key") H') ∨ (cls = .type "ZeroDivisionError" ∧ Q (.str "nought") H')), ?_, rfl, h⟩
    · rintro cls d H' (⟨rfl, q⟩ | ⟨rfl, q⟩)
      · exact ⟨true, exm_KE, fun _ a _ => ⟨_, rfl, q⟩, (fun z => by cases z)⟩
      · exact ⟨false, exm_ZE_KE, (fun z => by cases z), fun _ => ⟨true, exm_ZE, fun _ a _ => ⟨_, rfl, q⟩, (fun z => by cases z)⟩⟩
end
end W
namespace W
open PySem L2
abbrev sIsNum : Stmt := top 12
section
variable {P : Program} {w : World} {K : PySem.W.Frag} {mg : Str → Option Value} {base : Heap} {CP CL CF : Addr}
def spIsNum : Sp := fun vs H Q _ => ∃ z lo hi : Int, vs = [.int z, .int lo, .int hi] ∧ lo ≤ z ∧ z ≤ hi ∧ Q (.bl true) H
theorem scIsNum : FnScope ["value", "least", "most"] ["value", "least", "most"] (defScope sIsNum) := ⟨rfl, rfl, rfl, by decide +kernel, rfl, by decide +kernel, by decide +kernel⟩
theorem ok_isnum {fa : Addr} {fd : FuncData} (F : Fun K "is_number" "is_number" sIsNum fa fd) (B : Bi mg) : FnOk P w K mg base CX0 1 fa fd ["value", "least", "most"] spIsNum := by
  refine F.ok scIsNum (fun vs H Q E h => ?_) (fun cdv A outer s H vs Q E hr h => ?_)
  · obtain ⟨z, lo, hi, rfl, _⟩ := h
    rfl
  · obtain ⟨z, lo, hi, rfl, h1, h2, k⟩ := h
    refine ⟨_, pss_one (ps_ret (pe_and (pe_callB call_isi (by rfl) B.isinstance PyProof.Rows.boot_isinstance (pa_cons (pv 0) (pa_cons (pe_bltn (v := .ty "int") (u := .type "int") (by rfl) B.int (by decide +kernel) rfl) pa_nil)))
      (pe_and (pe_not (pe_callB call_isi (by rfl) B.isinstance PyProof.Rows.boot_isinstance (pa_cons (pv 0) (pa_cons (pe_bltn (v := .ty "bool") (u := .type "bool") (by rfl) B.bool (by decide +kernel) rfl) pa_nil))))
        (pe_one (pe_chain op_le op_le (pv 1) (pv 0) (pv 2)))))), ?_⟩
    refine ⟨_, rfl, .int z, .ty "int", .type "int", .type "int", true, rfl, .ty "int", .base (.int z), kit_ty (by decide +kernel), _, rfl, iteT ⟨_, rfl, .int z, .ty "bool", .type "int", .type "bool", false, rfl, .ty "bool", .base (.int z), kit_ty (by decide +kernel), _, rfl, _, rfl, iteT ⟨_, rfl, _, rfl, _, _, rfl, rfl, _, rfl, ?_⟩⟩⟩
    rw [decide_eq_true h1]
    refine iteT ⟨_, rfl, _, _, rfl, rfl, ?_⟩
    show Q (.bl (decide (z ≤ hi))) H
    rw [decide_eq_true h2]
    exact k
/-- the class LogFile -/
structure KF (K : PySem.W.Frag) (C : Addr) : Prop where
  cl : Cls K C
  begin_ : NoAttr K C "begin"
  lines : NoAttr K C "lines"
def kF : List Str := ["begin", "lines"]
def spLfInit (CF : Addr) : Sp := fun vs H Q _ => ∃ (p dx : Addr) (b : Int), vs = [.ref p, .int b] ∧ H p = some (.ins CF dx []) ∧ ∀ l H', But p H H' → H l = none → l ≠ p → H' l = some (.lst []) → H' p = some (.ins CF dx (kF.zip [.int b, .ref l])) → Q .non H'
theorem scLfInit : FnScope ["self", "begin"] ["self", "begin"] (defScope sLfInit) := ⟨rfl, rfl, rfl, by decide +kernel, rfl, by decide +kernel, by decide +kernel⟩
theorem ok_lfinit {fa : Addr} {fd : FuncData} (F : Fun K "__init__" "LogFile.__init__" sLfInit fa fd) (T : KF K CF) : FnOk P w K mg base CX0 1 fa fd ["self", "begin"] (spLfInit CF) := by
  refine F.ok scLfInit (fun vs H Q E h => ?_) (fun cdv A outer s H vs Q E hr h => ?_)
  · obtain ⟨p, dx, b, rfl, _⟩ := h
    rfl
  · obtain ⟨p, dx, b, rfl, hp, k⟩ := h
    refine ⟨_, pss_cons (ps_fld (pv 0) (pv 1) rfl) (pss_one (ps_fld (pv 0) (pe_lst pa_nil) rfl)), ?_⟩
    refine ⟨_, rfl, _, rfl, p, CF, dx, _, rfl, hp, T.cl, T.begin_, by show 0 < 1000; decide, ?_⟩
    have hp1 : upd H p (.ins CF dx (putF "begin" (.int b) [])) p = some (.ins CF dx (putF "begin" (.int b) [])) := upd_same
    refine ⟨by show 0 ≤ sizeLine; exact Nat.zero_le _, fun l nl => ?_⟩
    have lp : p ≠ l := ne_of_none hp1 nl
    have nlH : H l = none := by rw [upd_ne (Ne.symm lp)] at nl; exact nl
    refine ⟨_, rfl, p, CF, dx, _, rfl, by rw [upd_ne lp]; exact hp1, T.cl, T.lines, by show 1 < 1000; decide, ?_⟩
    refine k l _ (But.own (fun c o n e => by rw [upd_ne (ne_of_none e nlH), upd_ne n]; exact e)) nlH (Ne.symm lp) (by rw [upd_ne (Ne.symm lp)]; exact upd_same) ?_
    rw [upd_same, show putF "lines" (V.ref l) (putF "begin" (V.int b) []) = kF.zip [V.int b, V.ref l] from putF_new (ks := ["begin"]) (vs := [V.int b]) (by decide +kernel) rfl]
end
end W
namespace W
open PySem L2
/-- what a Log holds -/
structure LogS where
  size : Int
  kept : Int
  files : List (List Str)
  fill : Int
  count : Int
  pins : Int
/-- a file: its object at a, its lines' list at l -/
structure FR where
  a : Addr
  l : Addr
  ts : List Str
def FileAt (CF : Addr) (H : Hp) (r : FR) : Prop := (∃ dx b, H r.a = some (.ins CF dx (kF.zip [.int b, .ref r.l]))) ∧ H r.l = some (.lst (r.ts.map V.str))
section
variable {a b c n f : Int} {p : Addr} {z : Int} {q : Addr}
theorem put_pres : putF "present" (.ref q) (kL.zip (logV a b p f c n)) = kL.zip (logV a b q f c n) := putF_at (i := 2) (by decide +kernel) rfl
theorem put_fill : putF "present_fill" (.int z) (kL.zip (logV a b p f c n)) = kL.zip (logV a b p z c n) := putF_at (i := 3) (by decide +kernel) rfl
theorem put_count : putF "count" (.int z) (kL.zip (logV a b p f c n)) = kL.zip (logV a b p f z n) := putF_at (i := 4) (by decide +kernel) rfl
theorem put_pins : putF "pins" (.int z) (kL.zip (logV a b p f c n)) = kL.zip (logV a b p f c z) := putF_at (i := 5) (by decide +kernel) rfl
theorem look_size : (kL.zip (logV a b p f c n)).lookup ("own_size" : Str) = some (V.int a) := look_at (i := 0) (by decide +kernel) rfl
theorem look_kept : (kL.zip (logV a b p f c n)).lookup ("own_kept" : Str) = some (V.int b) := look_at (i := 1) (by decide +kernel) rfl
theorem look_pres : (kL.zip (logV a b p f c n)).lookup ("present" : Str) = some (V.ref p) := look_at (i := 2) (by decide +kernel) rfl
theorem look_fill : (kL.zip (logV a b p f c n)).lookup ("present_fill" : Str) = some (V.int f) := look_at (i := 3) (by decide +kernel) rfl
theorem look_count : (kL.zip (logV a b p f c n)).lookup ("count" : Str) = some (V.int c) := look_at (i := 4) (by decide +kernel) rfl
theorem look_pins : (kL.zip (logV a b p f c n)).lookup ("pins" : Str) = some (V.int n) := look_at (i := 5) (by decide +kernel) rfl
end
/-- the log at g, its parts by name -/
structure LogR (CL CF : Addr) (H : Hp) (g : Addr) (F : List Addr) (S : LogS) (dx pres : Addr) (rs : List FR) : Prop where
  foot : F = g :: pres :: rs.map FR.l
  nd : F.Nodup
  obj : H g = some (.ins CL dx (kL.zip (logV S.size S.kept pres S.fill S.count S.pins)))
  lst : H pres = some (.lst (rs.map fun r => V.ref r.a))
  ts : rs.map FR.ts = S.files
  all : ∀ r ∈ rs, FileAt CF H r
def LogAt (CL CF : Addr) (H : Hp) (g : Addr) (F : List Addr) (S : LogS) : Prop := ∃ dx pres rs, LogR CL CF H g F S dx pres rs
/-- all outside F is kept; the new footprint has old members and fresh ones -/
structure Stp (F : List Addr) (H : Hp) (F' : List Addr) (H' : Hp) : Prop where
  kp : ∀ b o, b ∉ F → H b = some o → H' b = some o
  fr : ∀ b ∈ F', b ∈ F ∨ H b = none
theorem Stp.refl (F : List Addr) (H : Hp) : Stp F H F H := ⟨fun _ _ _ e => e, fun _ h => .inl h⟩
theorem Stp.trans {F F1 F2 : List Addr} {H H1 H2 : Hp} (a : Stp F H F1 H1) (b : Stp F1 H1 F2 H2) : Stp F H F2 H2 := by
  refine ⟨fun c o n e => b.kp c o (fun z => ?_) (a.kp c o n e), fun c hc => ?_⟩
  · rcases a.fr c z with q | q
    · exact n q
    · rw [q] at e; cases e
  · rcases b.fr c hc with q | q
    · exact a.fr c q
    · cases e : H c with
      | none => exact .inr rfl
      | some o =>
        refine .inl (Classical.byContradiction fun n => ?_)
        rw [a.kp c o n e] at q; cases q
theorem Stp.of_same {F : List Addr} {H H' : Hp} (e : Same H H') : Stp F H F H' := ⟨fun b o _ h => e b o h, fun _ h => .inl h⟩
/-- a step of a log leaves what is outside of it, and the outside of the next footprint -/
theorem Stp.out {F F' : List Addr} {H H' : Hp} {b : Addr} {o : HO} (s : Stp F H F' H') (n : b ∉ F) (e : H b = some o) : b ∉ F' ∧ H' b = some o :=
  ⟨(fun z => by
    rcases s.fr b z with q | q
    · exact n q
    · rw [q] at e; cases e), s.kp b o n e⟩
section
variable {CL CF g dx pres : Addr} {H H' : Hp} {F F' : List Addr} {S : LogS} {rs : List FR}
theorem FileAt.kp {r : FR} (e : ∀ b o, (b = r.a ∨ b = r.l) → H b = some o → H' b = some o) (h : FileAt CF H r) : FileAt CF H' r :=
  let ⟨⟨d, b, q⟩, r2⟩ := h; ⟨⟨d, b, e _ _ (.inl rfl) q⟩, e _ _ (.inr rfl) r2⟩
theorem LogR.same (L : LogR CL CF H g F S dx pres rs) (e : Same H H') : LogR CL CF H' g F S dx pres rs :=
  ⟨L.foot, L.nd, e _ _ L.obj, e _ _ L.lst, L.ts, fun r hr => (L.all r hr).kp fun b o _ q => e b o q⟩
theorem LogAt.same (L : LogAt CL CF H g F S) (e : Same H H') : LogAt CL CF H' g F S := let ⟨dx, pres, rs, L⟩ := L; ⟨dx, pres, rs, L.same e⟩
theorem LogR.foot_kind (L : LogR CL CF H g F S dx pres rs) {b : Addr} (hb : b ∈ F) : (b = g) ∨ ∃ xs, H b = some (.lst xs) := by
  rw [L.foot] at hb
  rcases List.mem_cons.mp hb with q | q
  · exact .inl q
  · rcases List.mem_cons.mp q with q | q
    · exact .inr ⟨_, by rw [q]; exact L.lst⟩
    · obtain ⟨r, hr, e⟩ := List.mem_map.mp q
      exact .inr ⟨_, by rw [← e]; exact (L.all r hr).2⟩
theorem LogR.out (L : LogR CL CF H g F S dx pres rs) {b : Addr} {o : HO} (e : H b = some o) (n1 : ∀ xs, o ≠ .lst xs) (n2 : ∀ C d vs, o ≠ .ins C d (kL.zip vs) ∨ vs.length < 3) : b ∉ F := fun hb => by
  rcases L.foot_kind hb with q | ⟨xs, q⟩
  · subst q
    rcases n2 CL dx (logV S.size S.kept pres S.fill S.count S.pins) with z | z
    · exact z (Option.some.inj (e.symm.trans L.obj))
    · exact absurd (show 6 < 3 from z) (by decide)
  · exact n1 xs (Option.some.inj (e.symm.trans q))
theorem file_ne {CF : Addr} {d : Addr} {b : Int} {l C dx : Addr} {vs : List V} (h : HO.ins CF d (kF.zip [.int b, .ref l]) = .ins C dx (kL.zip vs)) : vs.length < 3 := by
  match vs with
  | [] => show 0 < 3; decide
  | [_] => show 1 < 3; decide
  | [_, _] => show 2 < 3; decide
  | _ :: _ :: _ :: _ => cases h
theorem LogR.out_file (L : LogR CL CF H g F S dx pres rs) {a C d : Addr} {b : Int} {l : Addr} (e : H a = some (.ins C d (kF.zip [.int b, .ref l]))) : a ∉ F :=
  L.out e (fun xs z => by cases z) fun C d vs => by
    by_cases q : vs.length < 3
    · exact .inr q
    · exact .inl fun z => q (file_ne z)
theorem LogAt.out_file (L : LogAt CL CF H g F S) {a C d : Addr} {b : Int} {l : Addr} (e : H a = some (.ins C d (kF.zip [.int b, .ref l]))) : a ∉ F := let ⟨_, _, _, L⟩ := L; L.out_file e
/-- another log stays apart -/
theorem LogAt.apart {g2 : Addr} {F2 : List Addr} {S2 : LogS} (L : LogAt CL CF H g F S) (M : LogAt CL CF H g2 F2 S2) (dis : ∀ b ∈ F2, b ∉ F) (st : Stp F H F' H') : LogAt CL CF H' g2 F2 S2 ∧ ∀ b ∈ F2, b ∉ F' := by
  obtain ⟨dx, pres, rs, M⟩ := M
  have has : ∀ b ∈ F2, ∃ o, H b = some o := fun b hb => by
    rcases M.foot_kind hb with q | ⟨xs, q⟩
    · exact ⟨_, by rw [q]; exact M.obj⟩
    · exact ⟨_, q⟩
  have mem : ∀ b, (b = g2 ∨ b = pres ∨ ∃ r ∈ rs, b = r.l) → b ∉ F := fun b hb => dis b (by
    rw [M.foot]
    rcases hb with q | q | ⟨r, hr, q⟩
    · rw [q]; exact List.mem_cons_self
    · rw [q]; exact List.mem_cons_of_mem _ List.mem_cons_self
    · rw [q]; exact List.mem_cons_of_mem _ (List.mem_cons_of_mem _ (List.mem_map.mpr ⟨r, hr, rfl⟩)))
  refine ⟨⟨dx, pres, rs, M.foot, M.nd, st.kp _ _ (mem _ (.inl rfl)) M.obj, st.kp _ _ (mem _ (.inr (.inl rfl))) M.lst, M.ts, fun r hr => ?_⟩, fun b hb => ?_⟩
  · obtain ⟨⟨d, b, q⟩, q2⟩ := M.all r hr
    exact ⟨⟨d, b, st.kp _ _ (L.out_file q) q⟩, st.kp _ _ (mem _ (.inr (.inr ⟨r, hr, rfl⟩))) q2⟩
  · obtain ⟨o, ho⟩ := has b hb
    exact (st.out (dis b hb) ho).1
/-- the log's own object is stored anew -/
theorem LogR.put (L : LogR CL CF H g F S dx pres rs) (S' : LogS) (e1 : S'.files = S.files) : LogR CL CF (upd H g (.ins CL dx (kL.zip (logV S'.size S'.kept pres S'.fill S'.count S'.pins)))) g F S' dx pres rs := by
  have nd := L.nd
  rw [L.foot] at nd
  have n1 : pres ≠ g := fun z => (List.nodup_cons.mp nd).1 (by rw [z]; exact List.mem_cons_self)
  refine ⟨L.foot, L.nd, upd_same, by rw [upd_ne n1]; exact L.lst, L.ts.trans e1.symm, fun r hr => ?_⟩
  have n2 : r.l ≠ g := fun z => (List.nodup_cons.mp nd).1 (List.mem_cons_of_mem _ (by rw [← z]; exact List.mem_map.mpr ⟨r, hr, rfl⟩))
  obtain ⟨⟨d, b, q⟩, q2⟩ := L.all r hr
  have n3 : r.a ≠ g := fun z => L.out_file q (by rw [z, L.foot]; exact List.mem_cons_self)
  exact ⟨⟨d, b, by rw [upd_ne n3]; exact q⟩, by rw [upd_ne n2]; exact q2⟩
theorem LogR.gF (L : LogR CL CF H g F S dx pres rs) : g ∈ F := by rw [L.foot]; exact List.mem_cons_self
theorem LogR.presF (L : LogR CL CF H g F S dx pres rs) : pres ∈ F := by rw [L.foot]; exact List.mem_cons_of_mem _ List.mem_cons_self
theorem LogR.lF (L : LogR CL CF H g F S dx pres rs) {r : FR} (hr : r ∈ rs) : r.l ∈ F := by rw [L.foot]; exact List.mem_cons_of_mem _ (List.mem_cons_of_mem _ (List.mem_map.mpr ⟨r, hr, rfl⟩))
theorem LogR.gp (L : LogR CL CF H g F S dx pres rs) : g ≠ pres := fun z => by
  have nd := L.nd
  rw [L.foot] at nd
  exact (List.nodup_cons.mp nd).1 (by rw [z]; exact List.mem_cons_self)
theorem LogR.gl (L : LogR CL CF H g F S dx pres rs) {r : FR} (hr : r ∈ rs) : r.l ≠ g := fun z => by
  have nd := L.nd
  rw [L.foot] at nd
  exact (List.nodup_cons.mp nd).1 (List.mem_cons_of_mem _ (by rw [← z]; exact List.mem_map.mpr ⟨r, hr, rfl⟩))
theorem LogR.pl (L : LogR CL CF H g F S dx pres rs) {r : FR} (hr : r ∈ rs) : r.l ≠ pres := fun z => by
  have nd := L.nd
  rw [L.foot] at nd
  exact (List.nodup_cons.mp (List.nodup_cons.mp nd).2).1 (by rw [← z]; exact List.mem_map.mpr ⟨r, hr, rfl⟩)
theorem LogR.stp_g (L : LogR CL CF H g F S dx pres rs) (o : HO) : Stp F H F (upd H g o) := ⟨fun b u n e => by rw [upd_ne (fun z => n (by rw [z]; exact L.gF))]; exact e, fun _ h => .inl h⟩
end
end W
namespace W
open PySem L2
abbrev sRot : Stmt := inClass (top iLog) 11
/-- the last n + 1 of a list -/
def lastN {α : Type} (n : Nat) (xs : List α) : List α := xs.drop (xs.length - (n + 1))
theorem lastN_map {α β : Type} (f : α → β) (n : Nat) (xs : List α) : lastN n (xs.map f) = (lastN n xs).map f := by unfold lastN; rw [List.length_map, List.map_drop]
theorem lastN_mem {α : Type} {n : Nat} {xs : List α} {x : α} (h : x ∈ lastN n xs) : x ∈ xs := List.mem_of_mem_drop h
theorem lastN_cut {n : Nat} {z : Int} {xs : List V} (hz : z = -1 - (n : Int)) : cutV xs (some z) none = lastN n xs := by
  unfold cutV lastN
  have e : HT.sIx xs.length 0 (some z) = xs.length - (n + 1) := by
    show (if z < 0 then (z + (xs.length : Int)).toNat else min z.toNat xs.length) = _
    rw [if_pos (by omega)]; omega
  rw [e, HT.sIx_none, List.take_of_length_le (by rw [List.length_drop]; exact Nat.le_refl _)]
theorem lastN_sub {α : Type} (n : Nat) (xs : List α) : (lastN n xs).Sublist xs := List.drop_sublist _ _
def growS (S : LogS) : LogS := { S with files := S.files ++ [[]], fill := 0 }
def rotS (S : LogS) : LogS := { S with files := if S.pins = 0 then lastN S.kept.toNat (S.files ++ [[]]) else S.files ++ [[]], fill := 0 }
/-- an if whose two ways come together -/
theorem ite_via {c : Bool} {t u : TS} {D : Ends} {σ : L2.St} {H : Hp} (Z : Hp → Prop) (h : ∀ H1, Z H1 → D.nx σ H1) (hT : c = true → (∀ H1, Z H1 → D.nx σ H1) → t D σ H) (hF : c = false → (∀ H1, Z H1 → D.nx σ H1) → u D σ H) : if c = true then t D σ H else u D σ H := by
  cases c with
  | true => exact hT rfl h
  | false => exact hF rfl h
section
variable {CL CF g dx pres p l dp p2 : Addr} {H H1 : Hp} {F : List Addr} {S : LogS} {rs : List FR} {b : Int}
/-- a new file stands at the end -/
theorem LogR.grow (L : LogR CL CF H g F S dx pres rs) (s1 : Same H H1) (np : H p = none) (nl : H l = none) (hp : H1 p = some (.ins CF dp (kF.zip [.int b, .ref l]))) (hl : H1 l = some (.lst [])) :
    LogR CL CF (upd H1 pres (.lst ((rs.map fun r => V.ref r.a) ++ [.ref p]))) g (F ++ [l]) { S with files := S.files ++ [[]] } dx pres (rs ++ [⟨p, l, []⟩]) ∧ Stp F H (F ++ [l]) (upd H1 pres (.lst ((rs.map fun r => V.ref r.a) ++ [.ref p]))) := by
  have L1 := L.same s1
  have inF : ∀ c ∈ F, H c ≠ none := fun c hc z => by
    rcases L.foot_kind hc with q | ⟨xs, q⟩
    · rw [q, L.obj] at z; cases z
    · rw [q] at z; cases z
  have lp : l ≠ pres := fun z => inF pres L.presF (by rw [← z]; exact nl)
  have pp : p ≠ pres := fun z => inF pres L.presF (by rw [← z]; exact np)
  refine ⟨⟨by rw [L.foot, List.map_append]; rfl, ?_, by rw [upd_ne L.gp]; exact L1.obj, by rw [upd_same, List.map_append]; rfl, by rw [List.map_append, L.ts]; rfl, fun r hr => ?_⟩, fun c o n e => ?_, fun c hc => ?_⟩
  · rw [List.nodup_append]
    refine ⟨L.nd, by simp, fun c hc d hd e => ?_⟩
    rw [List.mem_singleton.mp hd] at e
    exact inF c hc (by rw [e]; exact nl)
  · rcases List.mem_append.mp hr with q | q
    · refine (L1.all r q).kp fun c o hc e => ?_
      rw [upd_ne]
      · exact e
      · rcases hc with z | z
        · rw [z]
          obtain ⟨⟨d, b, e1⟩, _⟩ := L1.all r q
          exact fun z2 => L1.out_file e1 (by rw [z2]; exact L.presF)
        · rw [z]; exact L.pl q
    · rw [List.mem_singleton.mp q]
      exact ⟨⟨dp, b, by rw [upd_ne pp]; exact hp⟩, by rw [upd_ne lp]; exact hl⟩
  · rw [upd_ne (fun z => n (by rw [z]; exact L.presF))]; exact s1 _ _ e
  · rcases List.mem_append.mp hc with q | q
    · exact .inl q
    · rw [List.mem_singleton.mp q]; exact .inr nl
/-- the present list is another one, of some of the files -/
theorem LogR.cut (L : LogR CL CF H g F S dx pres rs) (n2 : H p2 = none) (rs2 : List FR) (sub : rs2.Sublist rs) (S2 : LogS) (eS : S2.files = rs2.map FR.ts) :
    LogR CL CF (upd (upd H p2 (.lst (rs2.map fun r => V.ref r.a))) g (.ins CL dx (kL.zip (logV S2.size S2.kept p2 S2.fill S2.count S2.pins)))) g (g :: p2 :: rs2.map FR.l) S2 dx p2 rs2 ∧
      Stp F H (g :: p2 :: rs2.map FR.l) (upd (upd H p2 (.lst (rs2.map fun r => V.ref r.a))) g (.ins CL dx (kL.zip (logV S2.size S2.kept p2 S2.fill S2.count S2.pins)))) := by
  have inF : ∀ c ∈ F, H c ≠ none := fun c hc z => by
    rcases L.foot_kind hc with q | ⟨xs, q⟩
    · rw [q, L.obj] at z; cases z
    · rw [q] at z; cases z
  have gp2 : g ≠ p2 := fun z => inF g L.gF (by rw [z]; exact n2)
  have nd := L.nd
  rw [L.foot] at nd
  have ndl := (List.nodup_cons.mp (List.nodup_cons.mp nd).2).2
  have lm : ∀ c ∈ rs2.map FR.l, ∃ r ∈ rs, r.l = c := fun c hc => by
    obtain ⟨r, hr, e⟩ := List.mem_map.mp hc
    exact ⟨r, sub.subset hr, e⟩
  refine ⟨⟨rfl, ?_, upd_same, by rw [upd_ne (Ne.symm gp2)]; exact upd_same, eS.symm, fun r hr => ?_⟩, fun c o n e => ?_, fun c hc => ?_⟩
  · refine List.nodup_cons.mpr ⟨fun h => ?_, List.nodup_cons.mpr ⟨fun h => ?_, ?_⟩⟩
    · rcases List.mem_cons.mp h with q | q
      · exact gp2 q
      · obtain ⟨r, hr, e⟩ := lm _ q
        exact L.gl hr e
    · obtain ⟨r, hr, e⟩ := lm _ h
      exact inF _ (L.lF hr) (by rw [e]; exact n2)
    · exact (sub.map FR.l).nodup ndl
  · have hr' := sub.subset hr
    refine (L.all r hr').kp fun c o hc e => ?_
    have c2 : c ≠ p2 := ne_of_none e n2
    rw [upd_ne, upd_ne c2]
    · exact e
    · rcases hc with z | z
      · rw [z]
        obtain ⟨⟨d, b, e1⟩, _⟩ := L.all r hr'
        exact fun z2 => L.out_file e1 (by rw [z2]; exact L.gF)
      · rw [z]; exact L.gl hr'
  · rw [upd_ne (fun z => n (by rw [z]; exact L.gF)), upd_ne (ne_of_none e n2)]; exact e
  · rcases List.mem_cons.mp hc with q | q
    · exact .inl (by rw [q]; exact L.gF)
    · rcases List.mem_cons.mp q with q | q
      · exact .inr (by rw [q]; exact n2)
      · obtain ⟨r, hr, e⟩ := lm _ q
        exact .inl (by rw [← e]; exact L.lF hr)
end
section
variable {P : Program} {w : World} {K : PySem.W.Frag} {mg : Str → Option Value} {base : Heap} {CL CF : Addr}
def spRot (CL CF : Addr) : Sp := fun vs H Q _ => ∃ (g : Addr) (F : List Addr) (S : LogS), vs = [.ref g] ∧ LogAt CL CF H g F S ∧ S.files.length ≤ 1000 ∧ 0 ≤ S.kept ∧ ∀ (H' : Hp) (F' : List Addr), Stp F H F' H' → LogAt CL CF H' g F' (rotS S) → Q .non H'
theorem scRot : FnScope ["self"] ["self"] (defScope sRot) := ⟨rfl, rfl, rfl, by decide +kernel, rfl, by decide +kernel, by decide +kernel⟩
theorem ok_rot {fa fI : Addr} {fd fdI : FuncData} (F : Fun K "rotate" "Log.rotate" sRot fa fd) (T : KL K CL) (M : Mk K CF fI) (GI : FnOk P w K mg base CX0 1 fI fdI ["self", "begin"] (spLfInit CF)) (bI : Binds K fdI ["self", "begin"] []) (mF : mg "LogFile" = some (.ref CF)) : FnOk P w K mg base CX0 3 fa fd ["self"] (spRot CL CF) := by
  refine F.ok scRot (fun vs H Q E h => ?_) (fun cdv A outer s H vs Q E hr h => ?_)
  · obtain ⟨g, F, S, rfl, _⟩ := h
    rfl
  · obtain ⟨g, F, S, rfl, ⟨dx, pres, rs, L⟩, fl, k0, k⟩ := h
    refine ⟨_, pss_cons (ps_expr (pe_bm PySem.F.plainAttrs_list PySem.F.slot_list_append PySem.F.type_list_append mt_append (pe_fld (pv 0) rfl) (pa_cons (pe_make M GI hr (by rfl) mF bI .nil pass0 (pa_cons (pe_fld (pv 0) rfl) pa_nil)) pa_nil)))
      (pss_cons (ps_fld (pv 0) pe_int rfl)
      (pss_one (ps_if (pt_cmpR op_eq (pe_fld (pv 0) rfl) pe_int (nomark _)) (pss_one (ps_fld (pv 0) (pe_slice sl_list (pe_fld (pv 0) rfl) (po_some (pe_op op_sub (pe_un un_neg pe_int) (pe_fld (pv 0) rfl))) po_none) rfl)) pss_nil))), ?_⟩
    have rl : rs.length ≤ 1000 := by rw [← L.ts, List.length_map] at fl; exact fl
    refine ⟨_, rfl, g, CL, dx, _, _, rfl, L.obj, T.cl, T.pres, look_at (i := 2) (by decide +kernel) rfl, .inl ⟨rfl, _, SqL.of L.lst⟩, _, rfl, g, CL, dx, _, _, rfl, L.obj, T.cl, T.count, look_at (i := 4) (by decide +kernel) rfl, fun p dp np ndp ne => ⟨p, dp, S.count, rfl, upd_same, fun l H1 b1 nl lp hl hp => ⟨rfl, ?_⟩⟩⟩
    have nl1 : upd H dp (.own p) l = none := by rw [upd_ne lp] at nl; exact nl
    have ld : l ≠ dp := fun z => by rw [z, upd_same] at nl1; cases nl1
    have nlH : H l = none := by rw [upd_ne ld] at nl1; exact nl1
    have s1 : Same H H1 := fun c o e => b1 c o (ne_of_none e np) (by rw [upd_ne (ne_of_none e np), upd_ne (ne_of_none e ndp)]; exact e)
    obtain ⟨L2, st2⟩ := L.grow s1 np nlH hp hl
    refine ⟨_, _, _, rfl, rfl, (L.same s1).lst, ?_, ?_⟩
    · have : (1001 : Nat) ≤ sizeLine := by decide
      rw [List.length_map]; omega
    generalize upd H1 pres (.lst ((rs.map fun r => V.ref r.a) ++ [.ref p])) = H2 at L2 st2 ⊢
    refine ⟨_, rfl, g, CL, dx, _, rfl, L2.obj, T.cl, T.fill, by show 6 < 1000; decide, ?_⟩
    rw [put_fill]
    have L3 := L2.put { S with files := S.files ++ [[]], fill := 0 } rfl
    have st3 := st2.trans (L2.stp_g (.ins CL dx (kL.zip (logV S.size S.kept pres 0 S.count S.pins))))
    dsimp only at L3 st3 ⊢
    generalize upd H2 g (.ins CL dx (kL.zip (logV S.size S.kept pres 0 S.count S.pins))) = H3 at L3 st3 ⊢
    refine ⟨_, rfl, g, CL, dx, _, _, rfl, L3.obj, T.cl, T.pins, look_at (i := 5) (by decide +kernel) rfl, rfl, _, rfl, ?_⟩
    by_cases q : S.pins = 0
    · rw [show decide (V.int S.pins = V.int 0) = true from decide_eq_true (congrArg V.int q)]
      refine iteT ⟨_, rfl, g, CL, dx, _, _, rfl, L3.obj, T.cl, T.pres, look_at (i := 2) (by decide +kernel) rfl, _, rfl, _, rfl, g, CL, dx, _, _, rfl, L3.obj, T.cl, T.kept, look_at (i := 1) (by decide +kernel) rfl, _, _, rfl, rfl, _, rfl, pres, _, rfl, SqL.of L3.lst, fun p2 n2 => ?_⟩
      have gp2 : g ≠ p2 := ne_of_none L3.obj n2
      refine ⟨_, rfl, g, CL, dx, _, rfl, by rw [upd_ne gp2]; exact L3.obj, T.cl, T.pres, by show 6 < 1000; decide, ?_⟩
      rw [put_pres, lastN_cut (n := S.kept.toNat) (by dsimp only; omega), lastN_map]
      obtain ⟨L4, st4⟩ := L3.cut n2 (lastN S.kept.toNat (rs ++ [⟨p, l, []⟩])) (lastN_sub _ _) (rotS S) (by
        show (if S.pins = 0 then lastN S.kept.toNat (S.files ++ [[]]) else S.files ++ [[]]) = _
        rw [if_pos q, ← lastN_map, List.map_append, L.ts]; rfl)
      exact k _ _ (st3.trans st4) ⟨_, _, _, L4⟩
    · rw [show decide (V.int S.pins = V.int 0) = false from decide_eq_false fun z => q (V.int.inj z)]
      have e : rotS S = { S with files := S.files ++ [[]], fill := 0 } := by unfold rotS; rw [if_neg q]
      exact iteF (k _ _ st3 ⟨_, _, _, by rw [e]; exact L3⟩)
end
end W
namespace W
open PySem PySem.Spec PyProof.Rows L2
section
variable {X : Cx}
/-- a text times an int -/
def rMulS : R2 := fun x y H Q => ∃ z n, x = .str z ∧ y = .int n ∧ MulOk z n ∧ Q (.str (Txt.mul z n)) H
theorem op_mulS : OpR X (binaryOp .Mult) rMulS := by
  intro pins s σ H x y v u Q I rx ry h
  obtain ⟨i, n, rfl, rfl, hz, q⟩ := h
  obtain ⟨t, rfl⟩ := rx
  obtain ⟨t', rfl⟩ := ry
  exact SB.mul hz (fun t' tk => ⟨.str (Txt.mul i n), H, I.tok _, ⟨_, rfl⟩, q⟩)
/-- o.f = .. as a target -/
def gFld (K : PySem.W.Frag) (to : TE) (f : Str) : TG := fun v σ H Q => to σ H fun x H1 => ∃ a C dx fs, x = .ref a ∧ H1 a = some (.ins C dx fs) ∧ Cls K C ∧ NoAttr K C f ∧ fs.length < 1000 ∧ Q σ (upd H1 a (.ins C dx (putF f v fs)))
theorem pg_fld {o : Expr} {to : TE} {f : Str} {pos : Pos} (ho : PE X o to) : PG X (.Attribute o f pos) (gFld X.K to f) := by
  refine ⟨fun pins s σ H v u Q I r h => ?_⟩
  rw [assign_Attribute]
  refine wpAny_bind (wpAny_holding (thn (ho.run pins s σ H _ I h) fun ov s1 ⟨x, H1, I1, rx, a, C, dx, fs, ex, ea, c, n, l, q⟩ => ?_))
  subst ex
  obtain rfl : ov = Value.ref a := rx
  exact wpAny_bind (wpAny_standAt (wpAny_bind (wpAny_holding (setattr_ok I1 ea c n l r fun s2 I2 => wpAny_release ⟨σ, _, I2, q⟩))))
/-- x(e, ..), x a local that holds an own class -/
theorem pe_makeV {CX : CXT} {k i : Nat} {f C : Addr} {fd : FuncData} {ps : List Str} {sp : Sp} {E : XK} {x : Str} {e : Expr} {es : List Expr} {t : TA} {p pos : Pos} (M : Mk X.K C f) (F : FnOk X.prog X.w X.K X.mg X.base CX k f fd ps sp) (hr : Room (k + 1) X.A) (hb : Binds X.K fd ps []) (hx : Passes CX X E)
    (hN : X.N[i]? = some x) (hv : Vis X.env.scope x) (ha : PA X (e :: es) t) (hd : (x == ("__debug__" : Str)) = false := by decide) (hcd : (x == ("__classdict__" : Str)) = false := by decide)
    (he : starEach (e :: es) X.env = (false, eval e X.env) :: starEach es X.env := by rfl) (hpl : (backTo pos (starEach es X.env)).any (·.1) = false := by rfl) :
    PE X (.Call (.Name x p) (e :: es) [] pos) (fun σ H Q => σ[i]? = some (some (.ref C)) ∧ StX.tMakeR C (fun vs H Q E => sp (vs ++ []) H Q E) E t σ H Q) := ⟨fun pins s σ H Q I h => by
  obtain ⟨hs, ht⟩ := h
  refine wpAny_Call_Name_kw (thn ((pe_var (pos := p) hN hv hd hcd).run pins s σ H (fun v H1 => v = .ref C ∧ H1 = H) I ⟨.ref C, hs, rfl, rfl⟩) fun u s1 z => ?_)
  obtain ⟨_, H1, J, ru, rfl, eH⟩ := z
  rw [eH] at J
  cases ru
  refine PySem.W.callWith_K (h₀ := X.base) I.ok.mod.kin M.kp (thn (ha.run pos pins s1 σ _ _ J ht) fun us s2 z => ?_) he hpl
  obtain ⟨vs, H2, J2, r, q⟩ := z
  exact ⟨J2.kIn, StX.run_makeR M (F.raw hb .nil) hr hx J2 r q⟩⟩
end
end W
namespace W
open PySem L2
abbrev sCheck : Stmt := inClass (top iLog) 7
abbrev sPut : Stmt := inClass (top iLog) 8
abbrev sWrite : Stmt := inClass (top iLog) 9
abbrev sWall : Stmt := inClass (top iLog) 10
/-- a line that a log of this size takes -/
structure TxOk (size : Int) (t : Str) : Prop where
  feed : 10 ∉ t.cps.toList
  short : t.length ≤ 1000
  fits : (t.length : Int) + 1 ≤ size
def addLast (t : Str) (fs : List (List Str)) : List (List Str) := fs.dropLast ++ [(fs.getLast?.getD []) ++ [t]]
theorem addLast_snoc (t : Str) (fs : List (List Str)) (x : List Str) : addLast t (fs ++ [x]) = fs ++ [x ++ [t]] := by unfold addLast; simp
def fitS (S : LogS) (t : Str) : LogS := if S.fill + ((t.length : Int) + 1) > S.size then rotS S else S
def putS (S : LogS) (t : Str) : LogS := { fitS S t with files := addLast t (fitS S t).files, fill := (fitS S t).fill + ((t.length : Int) + 1), count := (fitS S t).count + 1 }
theorem rotS_ne (S : LogS) : (rotS S).files ≠ [] := by
  show (if S.pins = 0 then lastN S.kept.toNat (S.files ++ [[]]) else S.files ++ [[]]) ≠ []
  split
  · unfold lastN
    intro h
    have := List.drop_eq_nil_iff.mp h
    rw [List.length_append] at this
    simp at this
    omega
  · simp
section
variable {P : Program} {w : World} {K : PySem.W.Frag} {mg : Str → Option Value} {base : Heap} {CL CF : Addr}
def spCheck (CL : Addr) : Sp := fun vs H Q _ => ∃ (g dx : Addr) (t : Str) (size kept : Int) (pres : Addr) (fill count pins : Int), vs = [.ref g, .str t] ∧ H g = some (.ins CL dx (kL.zip (logV size kept pres fill count pins))) ∧ TxOk size t ∧ Q .non H
theorem scCheck : FnScope ["self", "line", "length"] ["self", "line"] (defScope sCheck) := ⟨rfl, rfl, rfl, by decide +kernel, rfl, by decide +kernel, by decide +kernel⟩
theorem ok_check {fa : Addr} {fd : FuncData} {tf : Tok} (F : Fun K "check" "Log.check" sCheck fa fd) (B : Bi mg) (T : KL K CL) (mF : mg "FEED" = some (.str "\n" tf)) : FnOk P w K mg base CX0 1 fa fd ["self", "line"] (spCheck CL) := by
  refine F.ok scCheck (fun vs H Q E h => ?_) (fun cdv A outer s H vs Q E hr h => ?_)
  · obtain ⟨g, dx, t, size, kept, pres, fill, count, pins, rfl, _⟩ := h
    rfl
  · obtain ⟨g, dx, t, size, kept, pres, fill, count, pins, rfl, hg, ok, k⟩ := h
    have nd := scCheck.nd
    refine ⟨_, pss_cons (ps_if (pw_or (pt_not (pt_val (pe_callB call_isi (by rfl) B.isinstance PyProof.Rows.boot_isinstance (pa_cons (pv 1) (pa_cons (pe_bltn (v := .ty "str") (u := .type "str") (by rfl) B.str (by decide +kernel) rfl) pa_nil)))))
        (pw_or1 (pt_cmpR op_in_sign (pe_glob (v := .str ⟨#[10]⟩) (by rfl) mF ⟨_, rfl⟩) (pv 1) (by rfl)))).pt (pss_one ps_never) pss_nil)
      (pss_one (ps_ifW (ptw_cmp op_gt (pew_named (i := 2) nd rfl (.inl rfl) (pew_of (pe_op op_add (pe_callB call_len_str (by rfl) B.len PySem.boot_len (pa_cons (pv 1) pa_nil)) pe_int))) (pe_fld (pv 0) rfl) (by rfl)) (pss_one ps_never) pss_nil)), ?_⟩
    refine ⟨_, rfl, .str t, .ty "str", .type "str", .type "str", true, rfl, .ty "str", .base (.str t), kit_ty (by decide +kernel), _, rfl, iteF ⟨_, rfl, 10, t, rfl, rfl, _, rfl, ?_⟩⟩
    rw [decide_eq_false ok.feed]
    refine iteF ⟨_, rfl, _, rfl, ?_, _, _, rfl, rfl, _, rfl, g, CL, dx, _, _, rfl, hg, T.cl, T.size, look_at (i := 0) (by decide +kernel) rfl, _, _, rfl, rfl, _, rfl, ?_⟩
    · have := ok.short
      have : (1000 : Nat) ≤ sizeLine := by decide
      omega
    · have h2 := ok.fits
      rw [decide_eq_false (by omega)]
      exact iteF k
/-- the last file's list grows by a line -/
theorem LogR.line {H : Hp} {g dx pres : Addr} {F : List Addr} {S : LogS} {rs : List FR} {r : FR} {t : Str} (L : LogR CL CF H g F S dx pres (rs ++ [r])) :
    LogR CL CF (upd H r.l (.lst (r.ts.map V.str ++ [.str t]))) g F { S with files := addLast t S.files } dx pres (rs ++ [⟨r.a, r.l, r.ts ++ [t]⟩]) ∧ Stp F H F (upd H r.l (.lst (r.ts.map V.str ++ [.str t]))) := by
  have hr : r ∈ rs ++ [r] := List.mem_append_right _ List.mem_cons_self
  have nd := L.nd
  rw [L.foot] at nd
  have ndl := (List.nodup_cons.mp (List.nodup_cons.mp nd).2).2
  rw [List.map_append, List.nodup_append] at ndl
  refine ⟨⟨by rw [L.foot]; simp, L.nd, by rw [upd_ne (Ne.symm (L.gl hr))]; exact L.obj, by rw [upd_ne (Ne.symm (L.pl hr)), L.lst]; simp, ?_, fun q hq => ?_⟩, fun b o n e => by rw [upd_ne (fun z => n (by rw [z]; exact L.lF hr))]; exact e, fun _ h => .inl h⟩
  · show (rs ++ [(⟨r.a, r.l, r.ts ++ [t]⟩ : FR)]).map FR.ts = addLast t S.files
    rw [← L.ts, List.map_append, List.map_append]
    exact (addLast_snoc t (rs.map FR.ts) r.ts).symm
  · have ne : ∀ a d b (l : Addr), H a = some (.ins CF d (kF.zip [.int b, .ref l])) → a ≠ r.l := fun a d b l e z => L.out_file e (by rw [z]; exact L.lF hr)
    rcases List.mem_append.mp hq with z | z
    · obtain ⟨⟨d, b, e1⟩, e2⟩ := L.all q (List.mem_append_left _ z)
      have n2 : q.l ≠ r.l := ndl.2.2 q.l (List.mem_map.mpr ⟨q, z, rfl⟩) r.l (by simp)
      exact ⟨⟨d, b, by rw [upd_ne (ne _ _ _ _ e1)]; exact e1⟩, by rw [upd_ne n2]; exact e2⟩
    · rw [List.mem_singleton.mp z]
      obtain ⟨⟨d, b, e1⟩, _⟩ := L.all r hr
      exact ⟨⟨d, b, by rw [upd_ne (ne _ _ _ _ e1)]; exact e1⟩, by rw [upd_same, List.map_append]; rfl⟩
def spPut (CL CF : Addr) : Sp := fun vs H Q _ => ∃ (g : Addr) (F : List Addr) (S : LogS) (t : Str), vs = [.ref g, .str t] ∧ LogAt CL CF H g F S ∧ t.length ≤ 1000 ∧ S.files ≠ [] ∧ S.files.length ≤ 1000 ∧ (∀ ls ∈ S.files, ls.length ≤ 1000) ∧ 0 ≤ S.kept ∧
  ∀ (H' : Hp) (F' : List Addr), Stp F H F' H' → LogAt CL CF H' g F' (putS S t) → Q .non H'
theorem scPut : FnScope ["self", "line", "length"] ["self", "line"] (defScope sPut) := ⟨rfl, rfl, rfl, by decide +kernel, rfl, by decide +kernel, by decide +kernel⟩
theorem fit_len {S : LogS} {t : Str} (h : ∀ ls ∈ S.files, ls.length ≤ 1000) : ∀ ls ∈ (fitS S t).files, ls.length ≤ 1000 := by
  unfold fitS
  split
  · intro ls hl
    have hl : ls ∈ (if S.pins = 0 then lastN S.kept.toNat (S.files ++ [[]]) else S.files ++ [[]]) := hl
    have : ls ∈ S.files ++ [[]] := by
      split at hl
      · exact lastN_mem hl
      · exact hl
    rcases List.mem_append.mp this with q | q
    · exact h ls q
    · rw [List.mem_singleton.mp q]; decide
  · exact h
theorem ok_put {fa fR : Addr} {fd fdR : FuncData} (F : Fun K "put" "Log.put" sPut fa fd) (B : Bi mg) (T : KL K CL) (TF : KF K CF) (GR : FnOk P w K mg base CX0 3 fR fdR ["self"] (spRot CL CF)) (mR : Meth K CL "rotate" fR) (bR : Binds K fdR ["self"] []) : FnOk P w K mg base CX0 4 fa fd ["self", "line"] (spPut CL CF) := by
  refine F.ok scPut (fun vs H Q E h => ?_) (fun cdv A outer s H vs Q E hr h => ?_)
  · obtain ⟨g, F, S, t, rfl, _⟩ := h
    rfl
  · obtain ⟨g, F, S, t, rfl, ⟨dx, pres, rs, L⟩, tl, hne, fl, ll, k0, k⟩ := h
    have nd := scPut.nd
    refine ⟨_, pss_cons (ps_set (i := 2) nd rfl (.inl rfl) (pe_op op_add (pe_callB call_len_str (by rfl) B.len PySem.boot_len (pa_cons (pv 1) pa_nil)) pe_int))
      (pss_cons (ps_if (pt_cmpR op_gt (pe_op op_add (pe_fld (pv 0) rfl) (pv 2)) (pe_fld (pv 0) rfl) (nomark _)) (pss_one (ps_expr (pe_meth0 (pv 0) T.cl mR GR hr bR .nil pass0))) pss_nil)
      (pss_cons (ps_expr (pe_bm PySem.F.plainAttrs_list PySem.F.slot_list_append PySem.F.type_list_append mt_append (pe_fld (pe_ix ix_list (pe_fld (pv 0) rfl) (pe_un un_neg pe_int) (fun _ _ => rfl)) rfl) (pa_cons (pv 1) pa_nil)))
      (pss_cons (ps_fldaug (pv 0) (pv 2) in_add)
      (pss_one (ps_fldaug (pv 0) pe_int in_add))))), ?_⟩
    refine ⟨_, rfl, _, rfl, ?_, _, _, rfl, rfl, ?_⟩
    · have : (1000 : Nat) ≤ sizeLine := by decide
      omega
    refine ⟨_, rfl, g, CL, dx, _, _, rfl, L.obj, T.cl, T.fill, look_fill, _, rfl, _, _, rfl, rfl, _, rfl, g, CL, dx, _, _, rfl, L.obj, T.cl, T.size, look_size, _, _, rfl, rfl, _, rfl, ?_⟩
    refine ite_via (fun H1 => ∃ F1, Stp F H F1 H1 ∧ LogAt CL CF H1 g F1 (fitS S t) ∧ (fitS S t).files ≠ []) ?_ (fun c z => ?_) (fun c z => z _ ⟨F, Stp.refl F H, ?_⟩)
    · rintro H1 ⟨F1, st1, ⟨dx1, pres1, rs1, L1⟩, ne1⟩
      obtain ⟨rs0, r, rfl⟩ : ∃ rs0 r, rs1 = rs0 ++ [r] := by
        rcases List.eq_nil_or_concat rs1 with q | ⟨l, x, q⟩
        · rw [← L1.ts, q] at ne1
          exact absurd rfl ne1
        · exact ⟨l, x, by rw [q]; simp⟩
      have hr1 : r ∈ rs0 ++ [r] := List.mem_append_right _ List.mem_cons_self
      obtain ⟨⟨d1, b1, o1⟩, o2⟩ := L1.all r hr1
      have rlen : r.ts.length ≤ 1000 := fit_len ll r.ts (by rw [← L1.ts]; exact List.mem_map.mpr ⟨r, hr1, rfl⟩)
      refine ⟨_, rfl, g, CL, dx1, _, _, rfl, L1.obj, T.cl, T.pres, look_pres, _, rfl, pres1, _, _, V.ref r.a, rfl, rfl, SqL.of L1.lst, by rw [List.map_append]; exact atI_last _ _, r.a, CF, d1, _, _, rfl, o1, TF.cl, TF.lines, look_at (i := 1) (by decide +kernel) rfl, .inl ⟨rfl, _, SqL.of o2⟩, _, rfl, _, _, _, rfl, rfl, o2, ?_, ?_⟩
      · have : (1001 : Nat) ≤ sizeLine := by decide
        rw [List.length_map]; omega
      obtain ⟨L2, st2⟩ := L1.line (t := t)
      have st2 := st1.trans st2
      generalize upd H1 r.l (.lst (r.ts.map V.str ++ [.str t])) = H2 at L2 st2 ⊢
      refine ⟨_, rfl, g, CL, dx1, _, _, rfl, L2.obj, T.cl, T.fill, look_fill, _, rfl, _, _, rfl, rfl, _, _, L2.obj, by show 6 < 1000; decide, ?_⟩
      rw [put_fill]
      have L3 := L2.put { fitS S t with files := addLast t (fitS S t).files, fill := (fitS S t).fill + ((t.length : Int) + 1) } rfl
      have st3 := st2.trans (L2.stp_g (.ins CL dx1 (kL.zip (logV (fitS S t).size (fitS S t).kept pres1 ((fitS S t).fill + ((t.length : Int) + 1)) (fitS S t).count (fitS S t).pins))))
      dsimp only at L3 st3 ⊢
      generalize upd H2 g (.ins CL dx1 (kL.zip (logV (fitS S t).size (fitS S t).kept pres1 ((fitS S t).fill + ((t.length : Int) + 1)) (fitS S t).count (fitS S t).pins))) = H3 at L3 st3 ⊢
      refine ⟨_, rfl, g, CL, dx1, _, _, rfl, L3.obj, T.cl, T.count, look_count, _, _, rfl, rfl, _, _, L3.obj, by show 6 < 1000; decide, ?_⟩
      rw [put_count]
      have L4 := L3.put (putS S t) rfl
      have st4 := st3.trans (L3.stp_g (.ins CL dx1 (kL.zip (logV (fitS S t).size (fitS S t).kept pres1 ((fitS S t).fill + ((t.length : Int) + 1)) ((fitS S t).count + 1) (fitS S t).pins))))
      exact k _ _ st4 ⟨_, _, _, L4⟩
    · have q : S.fill + ((t.length : Int) + 1) > S.size := by simpa using c
      have e : fitS S t = rotS S := if_pos q
      exact ⟨_, rfl, g, dx, _, rfl, L.obj, look_no (by decide +kernel), g, F, S, rfl, ⟨_, _, _, L⟩, fl, k0, fun H' F' st L' => z _ ⟨F', st, by rw [e]; exact ⟨L', rotS_ne S⟩⟩⟩
    · have q : ¬ S.fill + ((t.length : Int) + 1) > S.size := by simpa using c
      have e : fitS S t = S := if_neg q
      rw [e]
      exact ⟨⟨_, _, _, L⟩, hne⟩
end
end W
namespace W
open PySem L2
/-- bounds of a log -/
structure LogB (n : Nat) (S : LogS) : Prop where
  ne : S.files ≠ []
  len : S.files.length ≤ n
  all : ∀ ls ∈ S.files, ls.length ≤ n
  kept : 0 ≤ S.kept
theorem LogB.mono {n m : Nat} {S : LogS} (h : LogB n S) (e : n ≤ m) : LogB m S := ⟨h.ne, Nat.le_trans h.len e, fun ls hl => Nat.le_trans (h.all ls hl) e, h.kept⟩
theorem rotS_mem {S : LogS} {ls : List Str} (h : ls ∈ (rotS S).files) : ls ∈ S.files ∨ ls = [] := by
  have h : ls ∈ (if S.pins = 0 then lastN S.kept.toNat (S.files ++ [[]]) else S.files ++ [[]]) := h
  have : ls ∈ S.files ++ [[]] := by
    split at h
    · exact lastN_mem h
    · exact h
  rcases List.mem_append.mp this with q | q
  · exact .inl q
  · exact .inr (List.mem_singleton.mp q)
theorem rotS_len (S : LogS) : (rotS S).files.length ≤ S.files.length + 1 := by
  show (if S.pins = 0 then lastN S.kept.toNat (S.files ++ [[]]) else S.files ++ [[]]).length ≤ _
  split
  · have := (lastN_sub S.kept.toNat (S.files ++ [[]])).length_le
    rw [List.length_append] at this
    exact this
  · rw [List.length_append]; exact Nat.le_refl _
theorem LogB.rot {n : Nat} {S : LogS} (h : LogB n S) : LogB (n + 1) (rotS S) := ⟨rotS_ne S, Nat.le_trans (rotS_len S) (Nat.succ_le_succ h.len), fun ls hl => by
  rcases rotS_mem hl with q | q
  · exact Nat.le_succ_of_le (h.all ls q)
  · rw [q]; exact Nat.zero_le _, h.kept⟩
theorem LogB.fit {n : Nat} {S : LogS} (h : LogB n S) (t : Str) : (fitS S t).files ≠ [] ∧ (fitS S t).files.length ≤ n + 1 ∧ (∀ ls ∈ (fitS S t).files, ls.length ≤ n) ∧ 0 ≤ (fitS S t).kept := by
  unfold fitS
  split
  · refine ⟨rotS_ne S, h.rot.len, fun ls hl => ?_, h.kept⟩
    rcases rotS_mem hl with q | q
    · exact h.all ls q
    · rw [q]; exact Nat.zero_le _
  · exact ⟨h.ne, Nat.le_succ_of_le h.len, h.all, h.kept⟩
theorem LogB.put {n : Nat} {S : LogS} (h : LogB n S) (t : Str) : LogB (n + 1) (putS S t) := by
  obtain ⟨h1, h2, h3, h4⟩ := h.fit t
  have e : (putS S t).files = addLast t (fitS S t).files := rfl
  obtain ⟨fs, x, q⟩ : ∃ fs x, (fitS S t).files = fs ++ [x] := by
    rcases List.eq_nil_or_concat (fitS S t).files with q | ⟨l, x, q⟩
    · exact absurd q h1
    · exact ⟨l, x, by rw [q]; simp⟩
  rw [q] at h2 h3
  rw [q, addLast_snoc] at e
  refine ⟨by rw [e]; simp, by rw [e]; simpa using h2, fun ls hl => ?_, h4⟩
  rw [e] at hl
  rcases List.mem_append.mp hl with z | z
  · exact Nat.le_succ_of_le (h3 ls (List.mem_append_left _ z))
  · rw [List.mem_singleton.mp z, List.length_append]
    exact Nat.succ_le_succ (h3 x (List.mem_append_right _ List.mem_cons_self))
theorem putS_size (S : LogS) (t : Str) : (putS S t).size = S.size := by
  show (fitS S t).size = S.size
  unfold fitS; split <;> rfl
section
variable {P : Program} {w : World} {K : PySem.W.Frag} {mg : Str → Option Value} {base : Heap} {CL CF : Addr}
def spWrite (CL CF : Addr) : Sp := fun vs H Q _ => ∃ (g : Addr) (F : List Addr) (S : LogS) (t : Str) (n : Nat), vs = [.ref g, .str t] ∧ LogAt CL CF H g F S ∧ LogB n S ∧ n ≤ 1000 ∧ TxOk S.size t ∧
  ∀ (H' : Hp) (F' : List Addr), Stp F H F' H' → LogAt CL CF H' g F' (putS S t) → Q .non H'
theorem scWrite : FnScope ["self", "line"] ["self", "line"] (defScope sWrite) := ⟨rfl, rfl, rfl, by decide +kernel, rfl, by decide +kernel, by decide +kernel⟩
theorem ok_write {fa fC fP : Addr} {fd fdC fdP : FuncData} (F : Fun K "write" "Log.write" sWrite fa fd) (T : KL K CL) (GC : FnOk P w K mg base CX0 1 fC fdC ["self", "line"] (spCheck CL)) (mC : Meth K CL "check" fC) (bC : Binds K fdC ["self", "line"] [])
    (GP : FnOk P w K mg base CX0 4 fP fdP ["self", "line"] (spPut CL CF)) (mP : Meth K CL "put" fP) (bP : Binds K fdP ["self", "line"] []) : FnOk P w K mg base CX0 5 fa fd ["self", "line"] (spWrite CL CF) := by
  refine F.ok scWrite (fun vs H Q E h => ?_) (fun cdv A outer s H vs Q E hr h => ?_)
  · obtain ⟨g, F, S, t, n, rfl, _⟩ := h
    rfl
  · obtain ⟨g, F, S, t, n, rfl, ⟨dx, pres, rs, L⟩, B, hn, ok, k⟩ := h
    have r1 : Room 1 _ := hr.mono (by decide)
    refine ⟨_, pss_cons (ps_expr (pe_meth (pv 0) T.cl mC GC r1 bC .nil pass0 (pa_cons (pv 1) pa_nil))) (pss_one (ps_expr (pe_meth (pv 0) T.cl mP GP hr bP .nil pass0 (pa_cons (pv 1) pa_nil)))), ?_⟩
    exact ⟨_, rfl, g, dx, _, rfl, L.obj, look_no (by decide +kernel), _, rfl, g, dx, t, _, _, _, _, _, _, rfl, L.obj, ok,
      _, rfl, g, dx, _, rfl, L.obj, look_no (by decide +kernel), _, rfl, g, F, S, t, rfl, ⟨dx, pres, rs, L⟩, ok.short, B.ne, Nat.le_trans B.len hn, fun ls hl => Nat.le_trans (B.all ls hl) hn, B.kept, k⟩
theorem take_foldl (f : LogS → Str → LogS) (S : LogS) (ts : List Str) (i : Nat) (t : Str) (h : ts[i]? = some t) : (ts.take (i + 1)).foldl f S = f ((ts.take i).foldl f S) t := by
  rw [List.take_add_one, h]
  simp
theorem foldS_size (S : LogS) (ts : List Str) : (ts.foldl putS S).size = S.size := by
  induction ts generalizing S with
  | nil => rfl
  | cons t ts ih => rw [List.foldl_cons, ih, putS_size]
theorem str_of_map {ts : List Str} {i : Nat} {x : V} (h : (ts.map V.str)[i]? = some x) : ∃ t, ts[i]? = some t ∧ x = .str t := by
  rw [List.getElem?_map] at h
  obtain ⟨t, h1, h2⟩ := Option.map_eq_some_iff.mp h
  exact ⟨t, h1, h2.symm⟩
/-- write_all, called with the lines as arguments -/
def spWall (CL CF : Addr) : Sp := fun vs H Q _ => ∃ (g : Addr) (F : List Addr) (S : LogS) (ts : List Str) (n : Nat), vs = .ref g :: ts.map V.str ∧ LogAt CL CF H g F S ∧ LogB n S ∧ n + ts.length ≤ 1000 ∧ (∀ t ∈ ts, TxOk S.size t) ∧
  ∀ (H' : Hp) (F' : List Addr), Stp F H F' H' → LogAt CL CF H' g F' (ts.foldl putS S) → Q .non H'
theorem scWall : FnScope ["self", "lines", "line"] ((["self"] : List Str) ++ (["lines"] : List Str)) (defScope sWall) := ⟨rfl, rfl, rfl, by decide +kernel, rfl, by decide +kernel, by decide +kernel⟩
theorem ok_wall {fa fC fP : Addr} {fd fdC fdP : FuncData} (F : Fun K "write_all" "Log.write_all" sWall fa fd) (T : KL K CL) (GC : FnOk P w K mg base CX0 1 fC fdC ["self", "line"] (spCheck CL)) (mC : Meth K CL "check" fC) (bC : Binds K fdC ["self", "line"] [])
    (GP : FnOk P w K mg base CX0 4 fP fdP ["self", "line"] (spPut CL CF)) (mP : Meth K CL "put" fP) (bP : Binds K fdP ["self", "line"] []) : FnR P w K mg base CX0 5 fa (spWall CL CF) := by
  obtain ⟨oc, od, kV, doc, pm, an, cdv, ct, osl, rfl, look, code⟩ := F.ex
  have nd := scWall.nd
  refine FnR.imp (StX.fn_star (ps := ["self"]) (pv := "lines") (sp := fun vs H Q _ => ∃ (g p : Addr) (F : List Addr) (S : LogS) (ts : List Str) (n : Nat), vs = [.ref g, .ref p] ∧ H p = some (.tup (ts.map V.str)) ∧ LogAt CL CF H g F S ∧ LogB n S ∧ n + ts.length ≤ 1000 ∧ (∀ t ∈ ts, TxOk S.size t) ∧
      ∀ (H' : Hp) (F' : List Addr), Stp F H F' H' → LogAt CL CF H' g F' (ts.foldl putS S) → Q .non H') look code scWall StX.cxUp_none (StX.bind_star1 (B := fun xs => bindArgs (PySem.W.fnOf "write_all" "Log.write_all" (defArgs sWall) (defBody sWall) (defScope sWall) .none kV doc pm an cdv ct) ⟨xs, []⟩) (fun a => rfl) (fun a r rs => rfl)) (fun A outer s H vs Q E hr h => ?_)) (fun vs H Q E h => ?_)
  · obtain ⟨g, p, F, S, ts, n, rfl, hp, L, B, hn, ok, k⟩ := h
    have r1 : Room 1 _ := hr.mono (by decide)
    refine ⟨_, PSs.nox (pss_cons (ps_for PassesOwn.never rfl (pi_tup (pv 1)) (pg_name (i := 2) nd rfl (.inl rfl)) (pss_one (ps_expr (pe_meth (pv 0) T.cl mC GC r1 bC .nil pass0 (pa_cons (pv 2) pa_nil)))))
      (pss_one (ps_for PassesOwn.never rfl (pi_tup (pv 1)) (pg_name (i := 2) nd rfl (.inl rfl)) (pss_one (ps_expr (pe_meth (pv 0) T.cl mP GP hr bP .nil pass0 (pa_cons (pv 2) pa_nil))))))), ?_⟩
    obtain ⟨dx, pres, rs, L⟩ := L
    refine ⟨_, rfl, p, rfl, ⟨_, .inl (.inl hp)⟩, for_tup (K := K) (a := p) (xs := ts.map V.str) (fun j σ H1 => H1 = H ∧ ∃ v, σ = [some (.ref g), some (.ref p), v]) ⟨rfl, none, rfl⟩ (fun j σ H1 _ ⟨e, _⟩ => by rw [e]; exact .inl (.inl hp)) ?_ ?_⟩
    · rintro j x σ H1 hj ⟨rfl, v, rfl⟩
      obtain ⟨t, ht, rfl⟩ := str_of_map hj
      exact ⟨_, rfl, g, dx, _, rfl, L.obj, look_no (by decide +kernel), _, rfl, g, dx, t, _, _, _, _, _, _, rfl, L.obj, ok t (List.mem_of_getElem? ht), rfl, _, rfl⟩
    · rintro σ H1 ⟨rfl, v, rfl⟩
      have nF : p ∉ F := L.out hp (fun xs z => by cases z) (fun _ _ _ => .inl fun z => by cases z)
      refine ⟨_, rfl, p, rfl, ⟨_, .inl (.inl hp)⟩, for_tup (K := K) (a := p) (xs := ts.map V.str) (fun j σ H2 => ∃ v F2, σ = [some (.ref g), some (.ref p), v] ∧ Stp F H1 F2 H2 ∧ LogAt CL CF H2 g F2 ((ts.take j).foldl putS S) ∧ LogB (n + j) ((ts.take j).foldl putS S)) ⟨v, F, rfl, Stp.refl _ _, ⟨_, _, _, L⟩, B⟩
        (fun j σ H2 _ ⟨_, _, _, st, _⟩ => .inl (.inl (st.out nF hp).2)) ?_ ?_⟩
      · rintro j x σ H2 hj ⟨v, F2, rfl, st, ⟨dx2, pres2, rs2, L2⟩, B2⟩
        obtain ⟨t, ht, rfl⟩ := str_of_map hj
        have jl : j < ts.length := (List.getElem?_eq_some_iff.mp ht).1
        have hok := ok t (List.mem_of_getElem? ht)
        refine ⟨_, rfl, g, dx2, _, rfl, L2.obj, look_no (by decide +kernel), _, rfl, g, F2, _, t, rfl, ⟨_, _, _, L2⟩, hok.short, B2.ne, Nat.le_trans B2.len (by omega), fun ls hl => Nat.le_trans (B2.all ls hl) (by omega), B2.kept, fun H3 F3 st3 L3 => ?_⟩
        exact ⟨_, F3, rfl, st.trans st3, by rw [take_foldl _ _ _ _ _ ht]; exact L3, by rw [take_foldl _ _ _ _ _ ht]; exact B2.put t⟩
      · rintro σ H2 ⟨v, F2, rfl, st, L2, _⟩
        rw [List.length_map, List.take_length] at L2
        exact k _ _ st L2
  · obtain ⟨g, F, S, ts, n, rfl, L, B, hn, ok, k⟩ := h
    refine ⟨[.ref g], ts.map V.str, rfl, rfl, ?_, fun p np => ⟨g, p, F, S, ts, n, rfl, upd_same, L.same (Same.put np), B, hn, ok, fun H' F' st L' => k _ _ ((Stp.of_same (Same.put np)).trans st) L'⟩⟩
    have : (1000 : Nat) ≤ sizeLine := by decide
    rw [List.length_map]; omega
end
end W
namespace W
open PySem L2
abbrev sLogInit : Stmt := inClass (top iLog) 0
abbrev sMade : Stmt := inClass (top iLog) 1
def newS (size kept : Int) : LogS := ⟨size, kept, [[]], 0, 0, 0⟩
theorem newB {size kept : Int} (h : 0 ≤ kept) : LogB 1 (newS size kept) := ⟨by show ([[]] : List (List Str)) ≠ []; simp, Nat.le_refl _, fun ls hl => by rw [List.mem_singleton.mp hl]; exact Nat.zero_le _, h⟩
section
variable {P : Program} {w : World} {K : PySem.W.Frag} {mg : Str → Option Value} {base : Heap} {CL CF : Addr}
def spLogInit (CL CF : Addr) : Sp := fun vs H Q _ => ∃ (p dx : Addr) (size kept : Int), vs = [.ref p, .int size, .int kept] ∧ H p = some (.ins CL dx []) ∧ 1 ≤ size ∧ size ≤ 1000000 ∧ 0 ≤ kept ∧ kept ≤ 1000000 ∧
  ∀ (H' : Hp) (F' : List Addr), Stp [p] H F' H' → LogAt CL CF H' p F' (newS size kept) → Q .non H'
theorem scLogInit : FnScope ["self", "size", "kept"] ["self", "size", "kept"] (defScope sLogInit) := ⟨rfl, rfl, rfl, by decide +kernel, rfl, by decide +kernel, by decide +kernel⟩
theorem ok_loginit {fa fI fN : Addr} {fd fdI fdN : FuncData} {tm : Tok} (F : Fun K "__init__" "Log.__init__" sLogInit fa fd) (T : KL K CL) (GN : FnOk P w K mg base CX0 1 fN fdN ["value", "least", "most"] spIsNum) (kN : PySem.W.keepIn K (.ref fN) = true) (mN : mg "is_number" = some (.ref fN)) (bN : Binds K fdN ["value", "least", "most"] []) (mM : mg "MOST" = some (.int 1000000 tm))
    (M : Mk K CF fI) (GI : FnOk P w K mg base CX0 1 fI fdI ["self", "begin"] (spLfInit CF)) (bI : Binds K fdI ["self", "begin"] []) (mF : mg "LogFile" = some (.ref CF)) : FnOk P w K mg base CX0 3 fa fd ["self", "size", "kept"] (spLogInit CL CF) := by
  refine F.ok scLogInit (fun vs H Q E h => ?_) (fun cdv A outer s H vs Q E hr h => ?_)
  · obtain ⟨p, dx, size, kept, rfl, _⟩ := h
    rfl
  · obtain ⟨g, dx, size, kept, rfl, hg, s1, s2, k1, k2, k⟩ := h
    have r1 : Room 1 _ := hr.mono (by decide)
    refine ⟨_, pss_cons (ps_if (pt_not (pt_val (pe_call GN r1 (by rfl) mN kN bN .nil pass0 (pa_cons (pv 1) (pa_cons pe_int (pa_cons (pe_glob (v := .int 1000000) (by rfl) mM ⟨_, rfl⟩) pa_nil)))))) (pss_one ps_never) pss_nil)
      (pss_cons (ps_if (pt_not (pt_val (pe_call GN r1 (by rfl) mN kN bN .nil pass0 (pa_cons (pv 2) (pa_cons pe_int (pa_cons (pe_glob (v := .int 1000000) (by rfl) mM ⟨_, rfl⟩) pa_nil)))))) (pss_one ps_never) pss_nil)
      (pss_cons (ps_asg (pe_tup (pa_cons (pv 1) (pa_cons (pv 2) pa_nil))) (pg_tup rfl (pgs_cons (pg_fld (pv 0)) (pgs_cons (pg_fld (pv 0)) pgs_nil))))
      (pss_cons (ps_fld (pv 0) (pe_lst (pa_cons (pe_make M GI hr (by rfl) mF bI .nil pass0 (pa_cons pe_int pa_nil)) pa_nil)) rfl)
      (pss_cons (ps_fld (pv 0) pe_int rfl)
      (pss_cons (ps_fld (pv 0) pe_int rfl)
      (pss_one (ps_fld (pv 0) pe_int rfl))))))), ?_⟩
    refine ⟨_, rfl, size, 1, 1000000, rfl, s1, s2, _, rfl, iteF ⟨_, rfl, kept, 0, 1000000, rfl, k1, k2, _, rfl, iteF ⟨_, rfl, _, rfl, by show 2 ≤ sizeLine; decide, fun t nt => ?_⟩⟩⟩
    have gt : g ≠ t := ne_of_none hg nt
    refine ⟨t, _, rfl, .inl (.inl upd_same), rfl, _, _, rfl, ⟨_, rfl, g, CL, dx, [], rfl, by rw [upd_ne gt]; exact hg, T.cl, T.size, by show 0 < 1000; decide, _, _, rfl, ⟨_, rfl, g, CL, dx, _, rfl, upd_same, T.cl, T.kept, by show 1 < 1000; decide, rfl, ?_⟩⟩⟩
    rw [upd_upd]
    have e2 : putF "own_kept" (V.int kept) (putF "own_size" (V.int size) []) = (["own_size", "own_kept"] : List Str).zip [V.int size, V.int kept] := putF_new (ks := ["own_size"]) (vs := [V.int size]) (by decide +kernel) rfl
    rw [e2]
    generalize eH1 : upd (upd H t (.tup [V.int size, V.int kept])) g (.ins CL dx ((["own_size", "own_kept"] : List Str).zip [V.int size, V.int kept])) = H1
    have b1 : But g H H1 := eH1 ▸ But.own (But.of (Same.put nt))
    have hg1 : H1 g = some (.ins CL dx ((["own_size", "own_kept"] : List Str).zip [V.int size, V.int kept])) := eH1 ▸ upd_same
    have fr1 : ∀ b, H1 b = none → H b = none := fun b z => by
      cases e : H b with
      | none => rfl
      | some o =>
        by_cases q : b = g
        · rw [q, hg1] at z; cases z
        · rw [b1 b o q e] at z; cases z
    show tSeq _ _ _ _ H1
    refine fun p dp np ndp ne => ⟨p, dp, 0, rfl, upd_same, fun l H2 b2 nl lp hl hp => ⟨rfl, by show 1 ≤ sizeLine; decide, fun pr npr => ?_⟩⟩
    have nl1 : upd H1 dp (.own p) l = none := by rw [upd_ne lp] at nl; exact nl
    have ld : l ≠ dp := fun z => by rw [z, upd_same] at nl1; cases nl1
    have nlH : H1 l = none := by rw [upd_ne ld] at nl1; exact nl1
    have st2 : Same H1 H2 := fun c o e => b2 c o (ne_of_none e np) (by rw [upd_ne (ne_of_none e np), upd_ne (ne_of_none e ndp)]; exact e)
    have hg2 := st2 _ _ hg1
    have gpr : g ≠ pr := ne_of_none hg2 npr
    have nprH1 : H1 pr = none := st2.free npr
    have gl : g ≠ l := ne_of_none hg1 nlH
    have pl : pr ≠ l := fun z => by rw [z, hl] at npr; cases npr
    have pg : p ≠ g := Ne.symm (ne_of_none hg1 np)
    have ppr : p ≠ pr := fun z => by rw [← z, hp] at npr; cases npr
    refine ⟨_, rfl, g, CL, dx, _, rfl, by rw [upd_ne gpr]; exact hg2, T.cl, T.pres, by show 2 < 1000; decide, _, rfl, g, CL, dx, _, rfl, upd_same, T.cl, T.fill, by show 3 < 1000; decide, _, rfl, g, CL, dx, _, rfl, upd_same, T.cl, T.count, by show 4 < 1000; decide, _, rfl, g, CL, dx, _, rfl, upd_same, T.cl, T.pins, by show 5 < 1000; decide, ?_⟩
    rw [upd_upd, upd_upd, upd_upd]
    have e6 : putF "pins" (V.int 0) (putF "count" (V.int 0) (putF "present_fill" (V.int 0) (putF "present" (V.ref pr) ((["own_size", "own_kept"] : List Str).zip [V.int size, V.int kept])))) = kL.zip (logV size kept pr 0 0 0) := by
      rw [putF_new (ks := ["own_size", "own_kept"]) (vs := [V.int size, V.int kept]) (by decide +kernel) rfl]
      rw [putF_new (by decide +kernel) rfl, putF_new (by decide +kernel) rfl, putF_new (by decide +kernel) rfl]
      rfl
    rw [e6]
    refine k _ [g, pr, l] ⟨fun b o n e => ?_, fun b hb => ?_⟩ ⟨dx, pr, [⟨p, l, []⟩], rfl, ?_, upd_same, by rw [upd_ne (Ne.symm gpr), upd_same]; rfl, rfl, fun r hr => ?_⟩
    · have bg : b ≠ g := fun z => n (by rw [z]; exact List.mem_cons_self)
      have e2 := st2 _ _ (b1 b o bg e)
      rw [upd_ne bg, upd_ne (ne_of_none e2 npr)]; exact e2
    · rcases List.mem_cons.mp hb with q | q
      · exact .inl (by rw [q]; exact List.mem_cons_self)
      · rcases List.mem_cons.mp q with q | q
        · exact .inr (by rw [q]; exact fr1 _ nprH1)
        · exact .inr (by rw [List.mem_singleton.mp q]; exact fr1 _ nlH)
    · simp [gpr, gl, pl]
    · rw [List.mem_singleton.mp hr]
      exact ⟨⟨dp, 0, by rw [upd_ne pg, upd_ne ppr]; exact hp⟩, by rw [upd_ne (Ne.symm gl), upd_ne (Ne.symm pl)]; exact hl⟩
/-- made, called with the size, kept and some lines -/
def spMade (CL CF : Addr) : Sp := fun vs H Q _ => ∃ (size kept : Int) (ts : List Str), vs = .ref CL :: .int size :: .int kept :: ts.map V.str ∧ 1 ≤ size ∧ size ≤ 1000000 ∧ 0 ≤ kept ∧ kept ≤ 1000000 ∧ ts.length ≤ 900 ∧ (∀ t ∈ ts, TxOk size t) ∧
  ∀ (g : Addr) (H' : Hp) (F' : List Addr), Stp [] H F' H' → LogAt CL CF H' g F' (ts.foldl putS (newS size kept)) → Q (.ref g) H'
theorem scMade : FnScope ["cls", "size", "kept", "lines", "log"] ((["cls", "size", "kept"] : List Str) ++ (["lines"] : List Str)) (defScope sMade) := ⟨rfl, rfl, rfl, by decide +kernel, rfl, by decide +kernel, by decide +kernel⟩
theorem bind_star3 {B : List Value → Sem (List (Str × Value))} {p1 p2 p3 pv : Str} (h0 : ∀ a b c, B [a, b, c] = (newTuple [] >>= fun t => pure [(p1, a), (p2, b), (p3, c), (pv, t)])) (h1 : ∀ a b c r rs, B (a :: b :: c :: r :: rs) = (newTuple (r :: rs) >>= fun t => pure [(p1, a), (p2, b), (p3, c), (pv, t)])) :
    ∀ us rest : List Value, us.length = [p1, p2, p3].length → B (us ++ rest) = (newTuple rest >>= fun t => pure ([p1, p2, p3].zip us ++ [(pv, t)]))
  | [a, b, c], [], _ => h0 a b c
  | [a, b, c], r :: rs, _ => h1 a b c r rs
theorem ok_made {fa fI fW : Addr} {fd fdI : FuncData} (F : Fun K "made" "Log.made" sMade fa fd) (T : KL K CL) (M : Mk K CL fI) (GI : FnOk P w K mg base CX0 3 fI fdI ["self", "size", "kept"] (spLogInit CL CF)) (bI : Binds K fdI ["self", "size", "kept"] [])
    (GW : FnR P w K mg base CX0 5 fW (spWall CL CF)) (mW : BMeth K CL "write_all" fW) : FnR P w K mg base CX0 6 fa (spMade CL CF) := by
  obtain ⟨oc, od, kV, doc, pm, an, cdv, ct, osl, rfl, look, code⟩ := F.ex
  have nd := scMade.nd
  refine FnR.imp (StX.fn_star (ps := ["cls", "size", "kept"]) (pv := "lines") (sp := fun vs H Q _ => ∃ (size kept : Int) (p : Addr) (ts : List Str), vs = [.ref CL, .int size, .int kept, .ref p] ∧ H p = some (.tup (ts.map V.str)) ∧ 1 ≤ size ∧ size ≤ 1000000 ∧ 0 ≤ kept ∧ kept ≤ 1000000 ∧ ts.length ≤ 900 ∧ (∀ t ∈ ts, TxOk size t) ∧
      ∀ (g : Addr) (H' : Hp) (F' : List Addr), Stp [] H F' H' → LogAt CL CF H' g F' (ts.foldl putS (newS size kept)) → Q (.ref g) H') look code scMade StX.cxUp_none (bind_star3 (B := fun xs => bindArgs (PySem.W.fnOf "made" "Log.made" (defArgs sMade) (defBody sMade) (defScope sMade) .none kV doc pm an cdv ct) ⟨xs, []⟩) (fun a b c => rfl) (fun a b c r rs => rfl)) (fun A outer s H vs Q E hr h => ?_)) (fun vs H Q E h => ?_)
  · obtain ⟨size, kept, p, ts, rfl, hp, s1, s2, k1, k2, tl, ok, k⟩ := h
    have r4 : Room 4 _ := hr.mono (by decide)
    refine ⟨_, PSs.nox (pss_cons (ps_set (i := 4) nd rfl (.inl rfl) (pe_makeV (i := 0) M GI r4 bI pass0 rfl (.inl rfl) (pa_cons (pv 1) (pa_cons (pv 2) pa_nil))))
      (pss_cons (ps_expr (pe_methS (pv 4) T.cl mW GW hr pass0 (pv 3)))
      (pss_one (ps_ret (pv 4))))), ?_⟩
    refine ⟨rfl, _, rfl, _, rfl, fun g dx ng ndx ne => ⟨g, dx, size, kept, rfl, upd_same, s1, s2, k1, k2, fun H1 F1 st1 L1 => ⟨rfl, ?_⟩⟩⟩
    have stM : Same H (upd (upd H dx (.own g)) g (.ins CL dx [])) := (Same.put ndx).trans (Same.put (by rw [upd_ne (Ne.symm ne)]; exact ng))
    have st1' : Stp [] H F1 H1 := ⟨fun b o _ e => st1.kp b o (fun z => by rw [List.mem_singleton.mp z, ng] at e; cases e) (stM _ _ e), fun b hb => by
      rcases st1.fr b hb with q | q
      · exact .inr (by rw [List.mem_singleton.mp q]; exact ng)
      · exact .inr (stM.free q)⟩
    obtain ⟨dx1, pres1, rs1, L1⟩ := L1
    refine ⟨_, rfl, g, dx1, _, rfl, L1.obj, look_no (by decide +kernel), fun q nq => ⟨_, rfl, p, ts.map V.str, rfl, .inl (.inl ?_), upd_same, g, F1, newS size kept, ts, 1, rfl, ⟨_, _, _, L1.same (Same.put nq)⟩, newB k1, by omega, ok, fun H2 F2 st2 L2 => ?_⟩⟩
    · rw [upd_ne (ne_of_none (st1'.kp _ _ (by simp) hp) nq)]; exact st1'.kp _ _ (by simp) hp
    · exact ⟨_, rfl, k g H2 F2 (st1'.trans ((Stp.of_same (Same.put nq)).trans st2)) L2⟩
  · obtain ⟨size, kept, ts, rfl, s1, s2, k1, k2, tl, ok, k⟩ := h
    refine ⟨[.ref CL, .int size, .int kept], ts.map V.str, rfl, rfl, ?_, fun p np => ⟨size, kept, p, ts, rfl, upd_same, s1, s2, k1, k2, tl, ok, fun g H' F' st L' => k g H' F' ((Stp.of_same (Same.put np)).trans st) L'⟩⟩
    have : (1000 : Nat) ≤ sizeLine := by decide
    rw [List.length_map]; omega
end
end W
namespace W
open PySem L2
abbrev sFiles : Stmt := inClass (top iLog) 4
abbrev sFill : Stmt := inClass (top iLog) 5
theorem pe_fldK {X : Cx} (K : PySem.W.Frag) {e : Expr} {f : Str} {pos : Pos} {ta : TE} (he : PE X e ta) (hK : X.K = K := by rfl) (hb : attributeBase e f X.env (eval e X.env) = eval e X.env := by rfl) : PE X (.Attribute e f pos) (tFld K ta f) := by subst hK; exact pe_fld he hb
theorem call_tupK {X : Cx} (K : PySem.W.Frag) (hK : X.K = K := by rfl) : CallR X (.type "tuple") (fun xs H Q => ∃ p ys, xs = [.ref p] ∧ ((SqL K H p ys ∧ ∀ l, H l = none → Q (.ref l) (upd H l (.tup ys))) ∨ (SqT K H p ys ∧ Q (.ref p) H))) := by subst hK; exact call_tuple_of
theorem Same.wr {H H' : Hp} {D : Addr} {o : HO} (nD : H D = none) (s : Same H H') : Same H (upd H' D o) := fun b u e => by
  by_cases hb : b = D
  · subst hb; rw [nD] at e; cases e
  · rw [upd_ne hb]; exact s b u e
/-- tuples of lines, one for each file -/
def FT (H : Hp) : List Addr → List (List Str) → Prop := Paired fun q ts => H q = some (.tup (ts.map V.str))
theorem FT.same {H H' : Hp} (e : ∀ b xs, H b = some (.tup xs) → H' b = some (.tup xs)) {qs : List Addr} {fs : List (List Str)} (h : FT H qs fs) : FT H' qs fs := h.mono fun a b q => e _ _ q
/-- the tuple of the files -/
def FilesT (H : Hp) (p : Addr) (fs : List (List Str)) : Prop := ∃ qs : List Addr, H p = some (.tup (qs.map V.ref)) ∧ FT H qs fs
theorem FilesT.same {H H' : Hp} (e : ∀ b xs, H b = some (.tup xs) → H' b = some (.tup xs)) {p : Addr} {fs : List (List Str)} (h : FilesT H p fs) : FilesT H' p fs := let ⟨qs, h1, h2⟩ := h; ⟨qs, e _ _ h1, h2.same e⟩
section
variable {P : Program} {w : World} {K : PySem.W.Frag} {mg : Str → Option Value} {base : Heap} {CL CF : Addr}
def spFiles (CL CF : Addr) : Sp := fun vs H Q _ => ∃ (g : Addr) (F : List Addr) (S : LogS) (n : Nat), vs = [.ref g] ∧ LogAt CL CF H g F S ∧ LogB n S ∧ n ≤ 1000 ∧ ∀ p H', Same H H' → FilesT H' p S.files → Q (.ref p) H'
theorem scFiles : FnScope ["self", "file"] ["self"] (defScope sFiles) := ⟨rfl, rfl, rfl, by decide +kernel, rfl, by decide +kernel, by decide +kernel⟩
theorem ok_files {fa : Addr} {fd : FuncData} (F : Fun K "files" "Log.files" sFiles fa fd) (B : Bi mg) (T : KL K CL) (TF : KF K CF) : FnOk P w K mg base CX0 1 fa fd ["self"] (spFiles CL CF) := by
  refine F.ok scFiles (fun vs H Q E h => ?_) (fun cdv A outer s H vs Q E hr h => ?_)
  · obtain ⟨g, F, S, n, rfl, _⟩ := h
    rfl
  · obtain ⟨g, F, S, n, rfl, ⟨dx, pres, rs, L⟩, LB, hn, k⟩ := h
    have nd := scFiles.nd
    have line : (1000 : Nat) + 1 ≤ sizeLine := by decide
    have rl : rs.length ≤ n := by have := LB.len; rw [← L.ts, List.length_map] at this; exact this
    refine ⟨_, pss_one (ps_ret (pe_callTy call_tuple_of (by rfl) B.tuple (by decide +kernel) (pa_cons
      (pe_lc (own := [("file", 1)]) (g := gName 1) (tt := tYes) rfl nd (pi_list (pe_fld (pv 0) rfl)) (blkOk_by (own := [("file", 1)]) (N := ["self", "file"]) (sc := defScope sFiles) (by decide +kernel))
        (fun _ _ _ _ _ => pg_name (i := 1) nd rfl (Or.inl rfl)) (fun _ _ _ _ _ => pts_nil)
        (fun _ _ _ _ _ => pe_callTy (call_tupK K) (by rfl) B.tuple (by decide +kernel) (pa_cons (pe_fldK K (pv 1)) pa_nil))) pa_nil))), ?_⟩
    refine ⟨_, rfl, g, CL, dx, _, _, rfl, L.obj, T.cl, T.pres, look_pres, pres, rfl, ⟨_, SqL.of L.lst⟩, fun D nD => ?_⟩
    refine lc_list (K := K) (a := pres) (xs := rs.map fun r => V.ref r.a) (fun i H2 => Same H H2 ∧ ∃ qs : List Addr, H2 D = some (.lst (qs.map V.ref)) ∧ FT H2 qs ((rs.take i).map FR.ts)) ⟨Same.put nD, [], upd_same, .nil⟩ (fun i H2 _ ⟨s2, _⟩ => SqL.of (s2 _ _ L.lst)) ?_ ?_
    · rintro i y H2 hi ⟨s2, qs, hD, ft⟩
      obtain ⟨r, hr1, rfl⟩ : ∃ r, rs[i]? = some r ∧ y = V.ref r.a := by
        rw [List.getElem?_map] at hi
        obtain ⟨r, h1, h2⟩ := Option.map_eq_some_iff.mp hi
        exact ⟨r, h1, h2.symm⟩
      have il : i < rs.length := (List.getElem?_eq_some_iff.mp hr1).1
      obtain ⟨⟨d1, b1, o1⟩, o2⟩ := L.all r (List.mem_of_getElem? hr1)
      refine ⟨rfl, _, rfl, r.a, CF, d1, _, _, rfl, s2 _ _ o1, TF.cl, TF.lines, look_at (i := 1) (by decide +kernel) rfl, r.l, _, rfl, .inl ⟨SqL.of (s2 _ _ o2), fun t nt => ⟨_, by rw [upd_ne (ne_of_none hD nt)]; exact hD, ?_, Same.wr nD (s2.trans (Same.put nt)), qs ++ [t], ?_, ?_⟩⟩⟩
      · have := ft.length
        rw [List.length_map, List.length_take] at this
        rw [List.length_map]; omega
      · rw [upd_same, List.map_append]; rfl
      · have e : (rs.take (i + 1)).map FR.ts = (rs.take i).map FR.ts ++ [r.ts] := by rw [List.take_add_one, hr1]; simp
        have tD : t ≠ D := Ne.symm (ne_of_none hD nt)
        rw [e]
        refine Paired.snoc (ft.same fun b xs z => ?_) (by rw [upd_ne tD]; exact upd_same)
        rw [upd_ne (fun q => by rw [q, hD] at z; cases z), upd_ne (ne_of_none z nt)]; exact z
    · rintro H2 ⟨s2, qs, hD, ft⟩
      rw [List.length_map, List.take_length, L.ts] at ft
      refine ⟨D, _, rfl, .inl ⟨SqL.of hD, fun t nt => k t _ (s2.trans (Same.put nt)) ⟨qs, upd_same, ft.same fun b xs z => ?_⟩⟩⟩
      rw [upd_ne (ne_of_none z nt)]; exact z
def spFill (CL : Addr) : Sp := fun vs H Q _ => ∃ (g dx : Addr) (size kept : Int) (pres : Addr) (fill count pins : Int), vs = [.ref g] ∧ H g = some (.ins CL dx (kL.zip (logV size kept pres fill count pins))) ∧ Q (.int fill) H
theorem scFill : FnScope ["self"] ["self"] (defScope sFill) := ⟨rfl, rfl, rfl, by decide +kernel, rfl, by decide +kernel, by decide +kernel⟩
theorem ok_fill {fa : Addr} {fd : FuncData} (F : Fun K "fill" "Log.fill" sFill fa fd) (T : KL K CL) : FnOk P w K mg base CX0 1 fa fd ["self"] (spFill CL) := by
  refine F.ok scFill (fun vs H Q E h => ?_) (fun cdv A outer s H vs Q E hr h => ?_)
  · obtain ⟨g, dx, size, kept, pres, fill, count, pins, rfl, _⟩ := h
    rfl
  · obtain ⟨g, dx, size, kept, pres, fill, count, pins, rfl, hg, k⟩ := h
    exact ⟨_, pss_one (ps_ret (pe_fld (pv 0) rfl)), _, rfl, g, CL, dx, _, _, rfl, hg, T.cl, T.fill, look_fill, k⟩
end
end W
namespace W
open PySem L2
abbrev sText : Stmt := top 20
abbrev sFilled : Stmt := top 21
/-- a text of the law -/
def TextOk (t : Str) : Prop := t.length ≤ 4 ∧ 10 ∉ t.cps.toList ∧ PyData.strOk t = true
theorem TextOk.tx {t : Str} (h : TextOk t) {size : Int} (hs : 5 ≤ size) : TxOk size t := ⟨h.2.1, by have := h.1; omega, by have := h.1; omega⟩
instance (t : Str) : Decidable (TextOk t) := inferInstanceAs (Decidable (_ ∧ _ ∧ _))
theorem mul_text : ∀ x ∈ (["a", "b", "~"] : List Str), ∀ n ∈ ([0, 1, 2, 3, 4] : List Int), TextOk (Txt.mul x n) := by decide +kernel
theorem mul_okN (x : Str) (hx : x.length = 1) (n : Int) (h0 : 0 ≤ n) (h1 : n < 5) : MulOk x n := by
  refine ⟨by rw [decide_eq_false (by omega), decide_eq_false (by omega)]; rfl, fun a _ => ?_, fun a _ => ?_⟩
  · rw [hx]
    have : n = 1 ∨ n = 2 ∨ n = 3 ∨ n = 4 := by omega
    rcases this with rfl | rfl | rfl | rfl <;> decide
  · rw [hx]
    have : n = 1 ∨ n = 2 ∨ n = 3 ∨ n = 4 := by omega
    rcases this with rfl | rfl | rfl | rfl <;> decide +kernel
theorem len_text : ∀ x ∈ (["a", "b", "~"] : List Str), x.length = 1 := by decide +kernel
/-- files behind some lines, each in a file of its own -/
def fillS (S : LogS) (ts : List Str) : LogS := ts.foldl (fun S t => rotS (putS S t)) S
theorem rotS_size (S : LogS) : (rotS S).size = S.size := rfl
theorem foldF_size (S : LogS) (ts : List Str) : (ts.foldl (fun S t => rotS (putS S t)) S).size = S.size := by
  induction ts generalizing S with
  | nil => rfl
  | cons t ts ih => rw [List.foldl_cons, ih, rotS_size, putS_size]
theorem LogB.fill {n : Nat} {S : LogS} (h : LogB n S) (ts : List Str) : LogB (n + 2 * ts.length) (fillS S ts) := by
  unfold fillS
  induction ts generalizing S n with
  | nil => exact h
  | cons t ts ih => rw [List.foldl_cons]; exact (ih (h.put t).rot).mono (by rw [List.length_cons]; omega)
section
variable {P : Program} {w : World} {K : PySem.W.Frag} {mg : Str → Option Value} {base : Heap} {CL CF : Addr}
def spText : Sp := fun vs H Q _ => ∃ (p : Addr) (n : Nat), vs = [.ref p] ∧ BoxAt H p n ∧ n ≤ 10000 ∧ ∀ (H' : Hp) (t : Str), But p H H' → BoxAt H' p (n + 2) → TextOk t → Q (.str t) H'
theorem scText : FnScope ["box"] ["box"] (defScope sText) := ⟨rfl, rfl, rfl, by decide +kernel, rfl, by decide +kernel, by decide +kernel⟩
theorem ok_text {fa fT fO : Addr} {fd fdT fdO : FuncData} (F : Fun K "_law_text" "_law_text" sText fa fd) (GT : FnOk P w K mg base CX0 1 fT fdT ["box", "many"] spTake) (kT : PySem.W.keepIn K (.ref fT) = true) (mT : mg "_law_take" = some (.ref fT)) (bT : Binds K fdT ["box", "many"] [])
    (GO : FnOk P w K mg base CX0 2 fO fdO ["box", "some"] (spOf K)) (kO : PySem.W.keepIn K (.ref fO) = true) (mO : mg "_law_of" = some (.ref fO)) (bO : Binds K fdO ["box", "some"] []) : FnOk P w K mg base CX0 3 fa fd ["box"] spText := by
  refine F.ok scText (fun vs H Q E h => ?_) (fun cdv A outer s H vs Q E hr h => ?_)
  · obtain ⟨p, n, rfl, _⟩ := h
    rfl
  · obtain ⟨p, n, rfl, BX, hn, k⟩ := h
    have r1 : Room 1 _ := hr.mono (by decide)
    refine ⟨_, pss_one (ps_ret (pe_op op_mulS (pe_call GO hr (by rfl) mO kO bO .nil pass0 (pa_cons (pv 0) (pa_cons (pe_lst (pa_cons pe_str (pa_cons pe_str (pa_cons pe_str pa_nil)))) pa_nil))) (pe_call GT r1 (by rfl) mT kT bT .nil pass0 (pa_cons (pv 0) (pa_cons pe_int pa_nil))))), ?_⟩
    refine ⟨_, rfl, by show 3 ≤ sizeLine; decide, fun q nq => ?_⟩
    obtain ⟨o, m, c, hp, rest⟩ := id BX
    have pq : p ≠ q := ne_of_none hp nq
    refine ⟨p, q, n, (["a", "b", "~"] : List Str).map V.str, rfl, pq, upd_same, by simp, by simp, BX.same (Same.put nq), by omega, fun H1 x b1 BX1 hx => ?_⟩
    obtain ⟨z, hz, rfl⟩ := List.mem_map.mp hx
    refine ⟨_, rfl, p, 5, n + 1, rfl, by decide, by decide, BX1, by omega, fun H2 v b2 BX2 v0 v1 => ⟨z, v, rfl, rfl, mul_okN z (len_text z hz) v v0 v1, ?_⟩⟩
    refine k H2 _ ((But.of (Same.put nq)).trans (b1.trans b2)) BX2 (mul_text z hz v ?_)
    have : v = 0 ∨ v = 1 ∨ v = 2 ∨ v = 3 ∨ v = 4 := by omega
    rcases this with rfl | rfl | rfl | rfl | rfl <;> decide
def spFilled (CL CF : Addr) : Sp := fun vs H Q _ => ∃ (g t : Addr) (F : List Addr) (S : LogS) (ts : List Str) (n : Nat), vs = [.ref g, .ref t] ∧ LogAt CL CF H g F S ∧ H t = some (.lst (ts.map V.str)) ∧ t ∉ F ∧ LogB n S ∧ n + 2 * ts.length + 2 ≤ 1000 ∧ (∀ x ∈ ts, TxOk S.size x) ∧
  ∀ (H' : Hp) (F' : List Addr), Stp F H F' H' → LogAt CL CF H' g F' (fillS S ts) → Q (.int ((fillS S ts).files.length : Nat)) H'
theorem scFilled : FnScope ["log", "texts", "text"] ["log", "texts"] (defScope sFilled) := ⟨rfl, rfl, rfl, by decide +kernel, rfl, by decide +kernel, by decide +kernel⟩
theorem FilesT.len {H : Hp} {p : Addr} {fs : List (List Str)} (h : FilesT H p fs) : ∃ vs, H p = some (.tup vs) ∧ vs.length = fs.length := let ⟨qs, h1, h2⟩ := h; ⟨_, h1, by rw [List.length_map, h2.length]⟩
theorem ok_filled {fa fW fR fI pI : Addr} {fd fdW fdR fdI : FuncData} (F : Fun K "_law_filled" "_law_filled" sFilled fa fd) (B : Bi mg) (T : KL K CL) (GW : FnOk P w K mg base CX0 5 fW fdW ["self", "line"] (spWrite CL CF)) (mW : Meth K CL "write" fW) (bW : Binds K fdW ["self", "line"] [])
    (GR : FnOk P w K mg base CX0 3 fR fdR ["self"] (spRot CL CF)) (mR : Meth K CL "rotate" fR) (bR : Binds K fdR ["self"] []) (PI : PropOf K CL "files" pI fI) (GI : FnOk P w K mg base CX0 1 fI fdI ["self"] (spFiles CL CF)) (bI : Binds K fdI ["self"] []) : FnOk P w K mg base CX0 6 fa fd ["log", "texts"] (spFilled CL CF) := by
  refine F.ok scFilled (fun vs H Q E h => ?_) (fun cdv A outer s H vs Q E hr h => ?_)
  · obtain ⟨g, t, F, S, ts, n, rfl, _⟩ := h
    rfl
  · obtain ⟨g, t, F, S, ts, n, rfl, L, ht, tF, LB, hn, ok, k⟩ := h
    have nd := scFilled.nd
    have r3 : Room 3 _ := hr.mono (by decide)
    have r2 : Room 2 _ := hr.mono (by decide)
    refine ⟨_, pss_cons (ps_for PassesOwn.never rfl (pi_list (pv 1)) (pg_name (i := 2) nd rfl (.inl rfl))
        (pss_cons (ps_expr (pe_meth (pv 0) T.cl mW GW hr bW .nil pass0 (pa_cons (pv 2) pa_nil))) (pss_one (ps_expr (pe_meth0 (pv 0) T.cl mR GR r3 bR .nil pass0)))))
      (pss_one (ps_ret (pe_callB call_len_seq (by rfl) B.len PySem.boot_len (pa_cons (pe_prop (pv 0) T.cl PI GI r2 bI .nil pass0 rfl) pa_nil)))), ?_⟩
    refine ⟨_, rfl, t, rfl, ⟨_, SqL.of ht⟩, for_list (K := K) (a := t) (xs := ts.map V.str) (fun j σ H1 => ∃ v F1, σ = [some (.ref g), some (.ref t), v] ∧ Stp F H F1 H1 ∧ LogAt CL CF H1 g F1 ((ts.take j).foldl (fun S t => rotS (putS S t)) S) ∧ LogB (n + 2 * j) ((ts.take j).foldl (fun S t => rotS (putS S t)) S))
      ⟨none, F, rfl, Stp.refl _ _, L, LB⟩ (fun j σ H1 _ ⟨_, _, _, st, _⟩ => SqL.of (st.out tF ht).2) ?_ ?_⟩
    · rintro j x σ H1 hj ⟨v, F1, rfl, st1, ⟨dx1, pres1, rs1, L1⟩, B1⟩
      obtain ⟨y, hy, rfl⟩ := str_of_map hj
      have jl : j < ts.length := (List.getElem?_eq_some_iff.mp hy).1
      have hok := ok y (List.mem_of_getElem? hy)
      refine ⟨_, rfl, g, dx1, _, rfl, L1.obj, look_no (by decide +kernel), _, rfl, g, F1, _, y, n + 2 * j, rfl, ⟨_, _, _, L1⟩, B1, by omega, by rw [foldF_size]; exact hok, fun H2 F2 st2 L2 => ?_⟩
      have B2 := B1.put y
      have L2' := L2
      obtain ⟨dx2, pres2, rs2, L2⟩ := L2
      refine ⟨_, rfl, g, dx2, _, rfl, L2.obj, look_no (by decide +kernel), g, F2, _, rfl, L2', Nat.le_trans B2.len (by omega), B2.kept, fun H3 F3 st3 L3 => ?_⟩
      exact ⟨_, F3, rfl, st1.trans (st2.trans st3), by rw [take_foldl _ _ _ _ _ hy]; exact L3, by rw [take_foldl _ _ _ _ _ hy]; exact B2.rot⟩
    · rintro σ H1 ⟨v, F1, rfl, st1, L1, B1⟩
      rw [List.length_map, List.take_length] at L1 B1
      have L1' := L1
      obtain ⟨dx1, pres1, rs1, L1⟩ := L1
      refine ⟨_, rfl, g, dx1, _, rfl, L1.obj, g, F1, _, _, rfl, L1', B1, by omega, fun p H2 s2 ft => ?_⟩
      obtain ⟨qs, h1, h2⟩ := ft.len
      refine ⟨p, qs, rfl, .inr (.inl (.inl h1)), ?_⟩
      rw [h2]
      exact k H2 F1 (st1.trans (Stp.of_same s2)) (L1'.same s2)
end
end W
namespace W
open PySem L2
abbrev sEnds : Stmt := top 22
abbrev sBoth : Stmt := top 24
/-- the class of the error -/
def errOf (b : Bool) : Value := .type (if b = true then "KeyError" else "ZeroDivisionError")
theorem Stp.left {F F' G : List Addr} {H H' : Hp} (s : Stp F H F' H') : Stp (F ++ G) H (F' ++ G) H' := ⟨fun b o n e => s.kp b o (fun z => n (List.mem_append_left _ z)) e, fun b hb => by
  rcases List.mem_append.mp hb with q | q
  · exact (s.fr b q).imp (List.mem_append_left _) id
  · exact .inl (List.mem_append_right _ q)⟩
theorem Stp.right {F F' G : List Addr} {H H' : Hp} (s : Stp F H F' H') : Stp (G ++ F) H (G ++ F') H' := ⟨fun b o n e => s.kp b o (fun z => n (List.mem_append_right _ z)) e, fun b hb => by
  rcases List.mem_append.mp hb with q | q
  · exact .inl (List.mem_append_left _ q)
  · exact (s.fr b q).imp (List.mem_append_right _) id⟩
section
variable {P : Program} {w : World} {K : PySem.W.Frag} {mg : Str → Option Value} {base : Heap} {CL CF : Addr}
def spEnds (CL CF : Addr) : Sp := fun vs H _ E => ∃ (g t : Addr) (F : List Addr) (S : LogS) (ts : List Str) (n : Nat) (b : Bool), vs = [.ref g, .ref t, .bl b] ∧ LogAt CL CF H g F S ∧ H t = some (.lst (ts.map V.str)) ∧ t ∉ F ∧ LogB n S ∧ n + 2 * ts.length + 2 ≤ 1000 ∧ (∀ x ∈ ts, TxOk S.size x) ∧
  ∀ (H' : Hp) (F' : List Addr), Stp F H F' H' → LogAt CL CF H' g F' (fillS S ts) → ∀ d, E (errOf b) d H'
theorem scEnds : FnScope ["log", "texts", "is_key", "many"] ["log", "texts", "is_key"] (defScope sEnds) := ⟨rfl, rfl, rfl, by decide +kernel, rfl, by decide +kernel, by decide +kernel⟩
theorem ok_ends {fa fD fI pI : Addr} {fd fdD fdI : FuncData} (F : Fun K "_law_ends" "_law_ends" sEnds fa fd) (B : Bi mg) (mK : mg "KeyError" = none) (T : KL K CL) (GD : FnOk P w K mg base CX0 6 fD fdD ["log", "texts"] (spFilled CL CF)) (kD : PySem.W.keepIn K (.ref fD) = true) (mD : mg "_law_filled" = some (.ref fD)) (bD : Binds K fdD ["log", "texts"] [])
    (PI : PropOf K CL "files" pI fI) (GI : FnOk P w K mg base CX0 1 fI fdI ["self"] (spFiles CL CF)) (bI : Binds K fdI ["self"] []) : FnOk P w K mg base (L2.CX P w) 7 fa fd ["log", "texts", "is_key"] (spEnds CL CF) := by
  refine F.okX scEnds (fun vs H Q E h => ?_) (fun cdv A outer s H vs Q E hr h => ?_)
  · obtain ⟨g, t, F, S, ts, n, b, rfl, _⟩ := h
    rfl
  · obtain ⟨g, t, F, S, ts, n, b, rfl, L, ht, tF, LB, hn, ok, k⟩ := h
    have nd := scEnds.nd
    have r2 : Room 2 _ := hr.mono (by decide)
    refine ⟨_, pss_cons (ps_set (i := 3) nd rfl (.inl rfl) (pe_call GD hr (by rfl) mD kD bD .nil pass0 (pa_cons (pv 0) (pa_cons (pv 1) pa_nil))))
      (pss_cons (ps_if (pt_val (pv 2)) (pss_one (ps_raise rfl (takes_of rfl rfl rfl rfl) (pmk_exc PyProof.Rows.excClass_KeyError ty_KeyError (by rfl) mK boot_KeyError (pa_cons pe_str pa_nil)))) pss_nil)
      (pss_one (ps_ret (pe_op (Lm.op_fdiv0 (W0 := fun H => ∀ d, E (.type "ZeroDivisionError") d H) rfl (takes_of rfl rfl rfl rfl) (fun d _ _ h => h d)) (pv 3) (pe_op op_sub (pv 3) (pe_callB call_len_seq (by rfl) B.len PySem.boot_len (pa_cons (pe_prop (pv 0) T.cl PI GI r2 bI .nil pass0 rfl) pa_nil))))))), ?_⟩
    refine ⟨_, rfl, _, rfl, g, t, F, S, ts, n, rfl, L, ht, tF, LB, hn, ok, fun H1 F1 st1 L1 => ⟨_, rfl, b, rfl, ?_⟩⟩
    cases b with
    | true =>
      refine iteT ⟨by show 1 ≤ sizeLine; decide, fun d => ?_⟩
      exact k H1 F1 st1 L1 d
    | false =>
      obtain ⟨dx1, pres1, rs1, L1'⟩ := id L1
      refine iteF ⟨_, rfl, _, rfl, _, rfl, g, dx1, _, rfl, L1'.obj, g, F1, _, _, rfl, L1, LB.fill ts, by omega, fun p H2 s2 ft => ?_⟩
      obtain ⟨qs, h1, h2⟩ := ft.len
      refine ⟨p, qs, rfl, .inr (.inl (.inl h1)), _, _, rfl, rfl, _, rfl, ?_, fun d => ?_⟩
      · rw [h2]; exact congrArg V.int (by omega)
      · exact k H2 F1 (st1.trans (Stp.of_same s2)) (L1.same s2) d
def spBoth (CL CF : Addr) : Sp := fun vs H _ E => ∃ (g o t : Addr) (F G : List Addr) (S R : LogS) (ts : List Str) (n : Nat) (b : Bool), vs = [.ref g, .ref o, .ref t, .bl b] ∧ LogAt CL CF H g F S ∧ LogAt CL CF H o G R ∧ (∀ c ∈ G, c ∉ F) ∧ H t = some (.lst (ts.map V.str)) ∧ t ∉ F ∧ t ∉ G ∧ LogB n S ∧ LogB n R ∧
  n + 2 * ts.length + 2 ≤ 1000 ∧ (∀ x ∈ ts, TxOk S.size x) ∧ (∀ x ∈ ts, TxOk R.size x) ∧ ∀ (H' : Hp) (F' G' : List Addr), Stp (F ++ G) H (F' ++ G') H' → LogAt CL CF H' g F' (fillS S ts) → LogAt CL CF H' o G' (fillS R ts) → (∀ c ∈ G', c ∉ F') → ∀ d, E (errOf b) d H'
theorem scBoth : FnScope ["log", "other", "texts", "is_key"] ["log", "other", "texts", "is_key"] (defScope sBoth) := ⟨rfl, rfl, rfl, by decide +kernel, rfl, by decide +kernel, by decide +kernel⟩
theorem ok_both {fa fD fE : Addr} {fd fdD fdE : FuncData} (F : Fun K "_law_both" "_law_both" sBoth fa fd) (GD : FnOk P w K mg base CX0 6 fD fdD ["log", "texts"] (spFilled CL CF)) (kD : PySem.W.keepIn K (.ref fD) = true) (mD : mg "_law_filled" = some (.ref fD)) (bD : Binds K fdD ["log", "texts"] [])
    (GE : FnOk P w K mg base (L2.CX P w) 7 fE fdE ["log", "texts", "is_key"] (spEnds CL CF)) (kE : PySem.W.keepIn K (.ref fE) = true) (mE : mg "_law_ends" = some (.ref fE)) (bE : Binds K fdE ["log", "texts", "is_key"] []) : FnOk P w K mg base (L2.CX P w) 8 fa fd ["log", "other", "texts", "is_key"] (spBoth CL CF) := by
  refine F.okX scBoth (fun vs H Q E h => ?_) (fun cdv A outer s H vs Q E hr h => ?_)
  · obtain ⟨g, o, t, F, G, S, R, ts, n, b, rfl, _⟩ := h
    rfl
  · obtain ⟨g, o, t, F, G, S, R, ts, n, b, rfl, L, M, dis, ht, tF, tG, LB, MB, hn, ok, ok2, k⟩ := h
    have r6 : Room 6 _ := hr.mono (by decide)
    refine ⟨_, pss_cons (ps_expr (pe_call GD r6 (by rfl) mD kD bD .nil pass0 (pa_cons (pv 1) (pa_cons (pv 2) pa_nil))))
      (pss_one (ps_ret (pe_call GE hr (by rfl) mE kE bE .nil (passes_call (takes_of rfl rfl rfl rfl) (fun _ _ _ _ h => h)) (pa_cons (pv 0) (pa_cons (pv 2) (pa_cons (pv 3) pa_nil)))))), ?_⟩
    have dis' : ∀ c ∈ F, c ∉ G := fun c hc hg => dis c hg hc
    refine ⟨_, rfl, _, rfl, o, t, G, R, ts, n, rfl, M, ht, tG, MB, hn, ok2, fun H1 G1 st1 M1 => ?_⟩
    obtain ⟨L1, d1⟩ := M.apart L dis' st1
    refine ⟨_, rfl, _, rfl, _, rfl, g, t, F, S, ts, n, b, rfl, L1, (st1.out tG ht).2, tF, LB, hn, ok, fun H2 F2 st2 L2 d => ?_⟩
    obtain ⟨M2, d2⟩ := L1.apart M1 (fun c hg hc => d1 c hc hg) st2
    exact k H2 F2 G1 ((st1.right (G := F)).trans (st2.left (G := G1))) L2 M2 d2 d
end
end W
namespace W
open PySem L2
/-- as Stp, but tables of code objects may grow -/
structure StpN (F : List Addr) (H : Hp) (F' : List Addr) (H' : Hp) : Prop where
  kp : ∀ b o, b ∉ F → (∀ ps, o ≠ .tbl ps) → H b = some o → H' b = some o
  fr : ∀ b ∈ F', b ∈ F ∨ ∀ o, H b = some o → ∃ ps, o = .tbl ps
theorem StpN.of {F F' : List Addr} {H H' : Hp} (s : Stp F H F' H') : StpN F H F' H' := ⟨fun b o n _ e => s.kp b o n e, fun b hb => (s.fr b hb).imp id fun z o e => by rw [z] at e; cases e⟩
theorem StpN.ext {F : List Addr} {H H' : Hp} (e : LamX.ExtN H H') : StpN F H F H' := ⟨fun b o _ n h => e b o h n, fun _ h => .inl h⟩
theorem StpN.refl (F : List Addr) (H : Hp) : StpN F H F H := .of (Stp.refl F H)
theorem StpN.trans {F F1 F2 : List Addr} {H H1 H2 : Hp} (a : StpN F H F1 H1) (b : StpN F1 H1 F2 H2) : StpN F H F2 H2 := by
  refine ⟨fun c o n nt e => b.kp c o (fun z => ?_) nt (a.kp c o n nt e), fun c hc => ?_⟩
  · rcases a.fr c z with q | q
    · exact n q
    · obtain ⟨ps, q⟩ := q o e
      exact nt ps q
  · rcases b.fr c hc with q | q
    · exact a.fr c q
    · by_cases n : c ∈ F
      · exact .inl n
      · refine .inr fun o e => Classical.byContradiction fun nt => ?_
        have nt' : ∀ ps, o ≠ .tbl ps := fun ps z => nt ⟨ps, z⟩
        exact nt (q o (a.kp c o n nt' e))
theorem StpN.out {F F' : List Addr} {H H' : Hp} {b : Addr} {o : HO} (s : StpN F H F' H') (n : b ∉ F) (nt : ∀ ps, o ≠ .tbl ps) (e : H b = some o) : b ∉ F' ∧ H' b = some o :=
  ⟨(fun z => by
    rcases s.fr b z with q | q
    · exact n q
    · obtain ⟨ps, q⟩ := q o e
      exact nt ps q), s.kp b o n nt e⟩
section
variable {CL CF g dx pres : Addr} {H H' : Hp} {F F' : List Addr} {S : LogS} {rs : List FR}
theorem LogAt.tracked (L : LogAt CL CF H g F S) : ∀ b ∈ F, H b ≠ none := fun b hb z => by
  obtain ⟨dx, pres, rs, L⟩ := L
  rcases L.foot_kind hb with q | ⟨xs, q⟩
  · rw [q, L.obj] at z; cases z
  · rw [q] at z; cases z
theorem LogAt.extN (L : LogAt CL CF H g F S) (e : LamX.ExtN H H') : LogAt CL CF H' g F S := by
  obtain ⟨dx, pres, rs, L⟩ := L
  exact ⟨dx, pres, rs, L.foot, L.nd, e _ _ L.obj (fun ps z => by cases z), e _ _ L.lst (fun ps z => by cases z), L.ts, fun r hr => let ⟨⟨d, b, q⟩, q2⟩ := L.all r hr; ⟨⟨d, b, e _ _ q (fun ps z => by cases z)⟩, e _ _ q2 (fun ps z => by cases z)⟩⟩
theorem LogAt.apartN {g2 : Addr} {F2 : List Addr} {S2 : LogS} (L : LogAt CL CF H g F S) (M : LogAt CL CF H g2 F2 S2) (dis : ∀ b ∈ F2, b ∉ F) (st : StpN F H F' H') : LogAt CL CF H' g2 F2 S2 ∧ ∀ b ∈ F2, b ∉ F' := by
  obtain ⟨dx, pres, rs, M⟩ := M
  have has : ∀ b ∈ F2, ∃ o, H b = some o ∧ ∀ ps, o ≠ .tbl ps := fun b hb => by
    rcases M.foot_kind hb with q | ⟨xs, q⟩
    · exact ⟨_, by rw [q]; exact M.obj, fun ps z => by cases z⟩
    · exact ⟨_, q, fun ps z => by cases z⟩
  have mem : ∀ b, (b = g2 ∨ b = pres ∨ ∃ r ∈ rs, b = r.l) → b ∉ F := fun b hb => dis b (by
    rw [M.foot]
    rcases hb with q | q | ⟨r, hr, q⟩
    · rw [q]; exact List.mem_cons_self
    · rw [q]; exact List.mem_cons_of_mem _ List.mem_cons_self
    · rw [q]; exact List.mem_cons_of_mem _ (List.mem_cons_of_mem _ (List.mem_map.mpr ⟨r, hr, rfl⟩)))
  refine ⟨⟨dx, pres, rs, M.foot, M.nd, st.kp _ _ (mem _ (.inl rfl)) (fun ps z => by cases z) M.obj, st.kp _ _ (mem _ (.inr (.inl rfl))) (fun ps z => by cases z) M.lst, M.ts, fun r hr => ?_⟩, fun b hb => ?_⟩
  · obtain ⟨⟨d, b, q⟩, q2⟩ := M.all r hr
    exact ⟨⟨d, b, st.kp _ _ (L.out_file q) (fun ps z => by cases z) q⟩, st.kp _ _ (mem _ (.inr (.inr ⟨r, hr, rfl⟩))) (fun ps z => by cases z) q2⟩
  · obtain ⟨o, ho, nt⟩ := has b hb
    exact (st.out (dis b hb) nt ho).1
theorem LogAt.out_of (L : LogAt CL CF H g F S) {b : Addr} {o : HO} (e : H b = some o) (n1 : ∀ xs, o ≠ .lst xs) (n2 : ∀ C d fs, o ≠ .ins C d fs) : b ∉ F := let ⟨_, _, _, L⟩ := L; L.out e n1 fun C d vs => .inl (n2 C d _)
/-- tables of code objects stand through a log's step -/
theorem tabs_stp {T : Lm.TMap} (t : Lm.TabsX T H) (L : LogAt CL CF H g F S) (st : Stp F H F' H') : Lm.TabsX T H' := fun P l h => by
  obtain ⟨ps, h1, h2⟩ := t P l h
  refine ⟨ps, st.kp _ _ (L.out_of h1 (fun xs z => by cases z) (fun _ _ _ z => by cases z)) h1, fun q qs el => ⟨(h2 q qs el).1, fun pos cv hc => ?_⟩⟩
  obtain ⟨c, P2, e1, e2, e3⟩ := (h2 q qs el).2 pos cv hc
  exact ⟨c, P2, e1, st.kp _ _ (L.out_of e2 (fun xs z => by unfold Lm.CodeN at z; cases z) (fun _ _ _ z => by unfold Lm.CodeN at z; cases z)) e2, e3⟩
end
section
variable {CP CL CF g f : Addr} {H : Hp} {F : List Addr} {S : LogS} {c : Sp} {Q : VK} {E : XK}
def pinS (S : LogS) (k : Int) : LogS := { S with pins := S.pins + k }
/-- pinned_while of a log: what look is asked at, and what it must hand on -/
theorem pw_log (L : LogAt CL CF H g F S) (Z : List Addr) (hZ : ∀ b ∈ Z, H b ≠ none)
    (h : ∀ (H1 : Hp) (Q' : VK) (E' : XK), Stp F H F H1 → LogAt CL CF H1 g F (pinS S 1) →
      (∀ z H3 F3 Z3 S3, StpN Z H1 Z3 H3 → LogAt CL CF H3 g F3 S3 → (∀ H4, Stp F3 H3 F3 H4 → LogAt CL CF H4 g F3 (pinS S3 (-1)) → Q z H4) → Q' z H3) →
      (∀ cls d H3 F3 Z3 S3, (∃ vt, RelV vt cls) → StpN Z H1 Z3 H3 → LogAt CL CF H3 g F3 S3 → (∀ H4, Stp F3 H3 F3 H4 → LogAt CL CF H4 g F3 (pinS S3 (-1)) → E cls d H4) → E' cls d H3) → c [.ref g] H1 Q' E') : SPw CP CL f c [.ref g, .ref f] H Q E := by
  obtain ⟨dx, pres, rs, L⟩ := L
  refine ⟨g, _, _, _, _, _, _, dx, rfl, L.obj, fun p dp np ndp ne => ?_⟩
  have gp : g ≠ p := ne_of_none L.obj np
  have gd : g ≠ dp := ne_of_none L.obj ndp
  have s0 : Same H (upd (upd (upd H dp (.own p)) p (.ins CP dp [])) p (.ins CP dp [("pinned_log", .ref g)])) := fun b o e => by
    rw [upd_ne (ne_of_none e np), upd_ne (ne_of_none e np), upd_ne (ne_of_none e ndp)]; exact e
  have L0 := L.same s0
  have hp0 : upd (upd (upd H dp (.own p)) p (.ins CP dp [])) p (.ins CP dp [("pinned_log", .ref g)]) p = some (.ins CP dp [("pinned_log", .ref g)]) := upd_same
  unfold pinH
  generalize upd (upd (upd H dp (.own p)) p (.ins CP dp [])) p (.ins CP dp [("pinned_log", .ref g)]) = H0 at s0 L0 hp0 ⊢
  have L1 := L0.put (pinS S 1) rfl
  have pF : p ∉ Z := fun z => hZ p z np
  have st1 : Stp F H F (upd H0 g (.ins CL dx (kL.zip (logV S.size S.kept pres S.fill S.count (S.pins + 1))))) := (Stp.of_same s0).trans (L0.stp_g _)
  have hp1 : upd H0 g (.ins CL dx (kL.zip (logV S.size S.kept pres S.fill S.count (S.pins + 1)))) p = some (.ins CP dp [("pinned_log", .ref g)]) := by rw [upd_ne (Ne.symm gp)]; exact hp0
  replace L1 : LogR CL CF (upd H0 g (.ins CL dx (kL.zip (logV S.size S.kept pres S.fill S.count (S.pins + 1))))) g F (pinS S 1) dx pres rs := L1
  generalize upd H0 g (.ins CL dx (kL.zip (logV S.size S.kept pres S.fill S.count (S.pins + 1)))) = H1 at L1 st1 hp1 ⊢
  refine h H1 _ _ st1 ⟨_, _, _, L1⟩ (fun z H3 F3 Z3 S3 st3 L3 k => ?_) (fun cls d H3 F3 Z3 S3 vt st3 L3 k => ?_)
  · obtain ⟨dx3, pres3, rs3, L3⟩ := L3
    exact ⟨p, dp, g, _, _, _, _, _, _, dx3, _, _, _, rfl, st3.kp _ _ pF (fun ps z => by cases z) hp1, L3.obj, k _ (L3.stp_g _) ⟨_, _, _, L3.put (pinS S3 (-1)) rfl⟩⟩
  · obtain ⟨dx3, pres3, rs3, L3⟩ := L3
    exact ⟨vt, _, _, _, _, _, _, dx3, st3.kp _ _ pF (fun ps z => by cases z) hp1, L3.obj, k _ (L3.stp_g _) ⟨_, _, _, L3.put (pinS S3 (-1)) rfl⟩⟩
end
end W
namespace W
open PySem L2
/-! ### the plain law: what lines and rotations make of a log's files -/
/-- the last file is empty -/
structure Shape (S : LogS) (fs : List (List Str)) : Prop where
  files : S.files = fs ++ [[]]
  fill : S.fill = 0
theorem rotS_pinned {S : LogS} (h : S.pins ≠ 0) : rotS S = { S with files := S.files ++ [[]], fill := 0 } := by unfold rotS; rw [if_neg h]
theorem rotS_free {S : LogS} (h : S.pins = 0) : rotS S = { S with files := lastN S.kept.toNat (S.files ++ [[]]), fill := 0 } := by unfold rotS; rw [if_pos h]
theorem putS_fit {S : LogS} {t : Str} (h : ¬ S.fill + ((t.length : Int) + 1) > S.size) : putS S t = { S with files := addLast t S.files, fill := S.fill + ((t.length : Int) + 1), count := S.count + 1 } := by
  have e : fitS S t = S := if_neg h
  unfold putS
  rw [e]
/-- pinned: each line stands in a file of its own -/
theorem fillS_pinned (ts : List Str) : ∀ (S : LogS) (fs : List (List Str)), Shape S fs → S.pins ≠ 0 → (∀ t ∈ ts, TxOk S.size t) → Shape (fillS S ts) (fs ++ ts.map fun t => [t]) ∧ (fillS S ts).pins = S.pins ∧ (fillS S ts).kept = S.kept ∧ (fillS S ts).size = S.size := by
  induction ts with
  | nil =>
    intro S fs h _ _
    refine ⟨?_, rfl, rfl, rfl⟩
    simpa [fillS] using h
  | cons t ts ih =>
    intro S fs h hp ok
    have ht := (ok t List.mem_cons_self).fits
    have e1 := putS_fit (S := S) (t := t) (by rw [h.fill]; omega)
    have e2 : rotS (putS S t) = { S with files := (fs ++ [[t]]) ++ [[]], fill := 0, count := S.count + 1 } := by
      rw [rotS_pinned (by rw [e1]; exact hp), e1]
      simp only
      rw [h.files, addLast_snoc]
      simp
    have := ih (rotS (putS S t)) (fs ++ [[t]]) ⟨by rw [e2], by rw [e2]⟩ (by rw [e2]; exact hp) (fun x hx => by rw [e2]; exact ok x (List.mem_cons_of_mem _ hx))
    obtain ⟨a, b, c, d⟩ := this
    refine ⟨?_, by rw [show fillS S (t :: ts) = fillS (rotS (putS S t)) ts from rfl, b, e2], by rw [show fillS S (t :: ts) = fillS (rotS (putS S t)) ts from rfl, c, e2], by rw [show fillS S (t :: ts) = fillS (rotS (putS S t)) ts from rfl, d, e2]⟩
    rw [List.map_cons, show fs ++ [t] :: ts.map (fun t => [t]) = (fs ++ [[t]]) ++ ts.map (fun t => [t]) by simp]
    exact a
theorem lastN_len {α : Type} (n : Nat) (xs : List α) : (lastN n xs).length = min xs.length (n + 1) := by unfold lastN; rw [List.length_drop]; omega
/-- not pinned: so many files at most -/
structure Free (S : LogS) (n : Nat) (k : Nat) : Prop where
  pins : S.pins = 0
  kept : S.kept = k
  ge : min n (k + 1) ≤ S.files.length
  le : S.files.length ≤ k + 1
  ne : S.files ≠ []
theorem addLast_len (t : Str) {fs : List (List Str)} (h : fs ≠ []) : (addLast t fs).length = fs.length := by
  rcases List.eq_nil_or_concat fs with q | ⟨l, x, q⟩
  · exact absurd q h
  · rw [show fs = l ++ [x] by rw [q]; simp, addLast_snoc]; simp
theorem Free.rot {S : LogS} {n k : Nat} (h : Free S n k) : Free (rotS S) (n + 1) k := by
  have e := rotS_free h.pins
  have hk := h.kept
  have l : (rotS S).files.length = min (S.files.length + 1) (k + 1) := by
    rw [e]
    show (lastN S.kept.toNat (S.files ++ [[]])).length = _
    rw [lastN_len, List.length_append, hk]
    simp
  have := h.ge
  have := h.le
  exact ⟨by rw [e]; exact h.pins, by rw [e]; exact hk, by omega, by omega, rotS_ne S⟩
theorem Free.put {S : LogS} {n k : Nat} (h : Free S n k) (t : Str) : Free (putS S t) n k := by
  have key : ∀ S', fitS S t = S' → Free S' n k → Free (putS S t) n k := fun S' e f => by
    have l : (putS S t).files.length = S'.files.length := by
      show (addLast t (fitS S t).files).length = _
      rw [e, addLast_len t f.ne]
    refine ⟨?_, ?_, by rw [l]; exact f.ge, by rw [l]; exact f.le, fun z => ?_⟩
    · show (fitS S t).pins = 0
      rw [e]; exact f.pins
    · show (fitS S t).kept = k
      rw [e]; exact f.kept
    · rw [z] at l
      exact f.ne (List.length_eq_zero_iff.mp l.symm)
  by_cases q : S.fill + ((t.length : Int) + 1) > S.size
  · have r := h.rot
    exact key _ (if_pos q) ⟨r.pins, r.kept, by have := r.ge; omega, r.le, r.ne⟩
  · exact key _ (if_neg q) h
theorem Free.fill (ts : List Str) : ∀ {S : LogS} {n k : Nat}, Free S n k → Free (fillS S ts) (n + ts.length) k := by
  induction ts with
  | nil => intro S n k h; exact h
  | cons t ts ih =>
    intro S n k h
    have := ih (h.put t).rot
    rw [show fillS S (t :: ts) = fillS (rotS (putS S t)) ts from rfl, List.length_cons]
    rw [show n + (ts.length + 1) = n + 1 + ts.length by omega]
    exact this
theorem Free.all {S : LogS} {n k : Nat} (h : Free S n k) (e : k + 1 ≤ n) : S.files.length = k + 1 := by have := h.ge; have := h.le; omega
end W
namespace Lm
open PySem PySem.Spec PyProof.Rows L2
/-! ### the same with the maker's code object named (readings that do not name the context) -/
def tMkC (base : Heap) (c : Addr) (q : Str) (H : Hp) (k : TMap → List Str → Prop) : Prop := ∃ (T : TMap) (P : Addr) (qs : List Str), T P = some (q :: qs) ∧ (PySem.W.CodeHd base c P ∨ ∃ q', H c = some (CodeN c q' P)) ∧ TabsX T H ∧ k T qs
section
variable {X : Cx} {k kc j : Nat} {g c0 : Addr} {base : Heap} {fd : FuncData} {SP : Addr → Sp → Sp} {E : XK} {x m y a : Str} {q : Str} {p pos lpos apos : Pos} {params : Arguments} {body : Expr} {scope : Scope} {tb : Addr → Addr → XK → TE} {C : Addr} {o : Expr} {ta : TE}
theorem mkC_of {H : Hp} {k : TMap → List Str → Prop} (hc : X.env.code = .ref c0) (h : tMkC X.base c0 q H k) : tMk X q H k := let ⟨T, P, qs, h1, h2, h3, h4⟩ := h; ⟨T, P, c0, qs, hc, h1, h2, h3, h4⟩
def tLam0c (base : Heap) (c0 : Addr) (q : Str) (SP : Addr → Sp → Sp) (E : XK) (tb : Addr → Addr → XK → TE) : TE := fun σ H Q => tMkC base c0 q H fun T qs => kMk q H T qs fun f c' P' T' H1 => SP f (fun vs HZ Q E => vs = [] ∧ HZ c' = some (CodeN c' q P') ∧ tb c' P' E σ HZ Q) [.ref f] H1 Q E
theorem pe_lam0c (F : CFn X.prog X.w X.K X.mg X.base k (kc + 1) g fd [a] SP) (hr : Room k X.A) (hg : Gl X x) (hm : X.mg x = some (.ref g)) (hk : PySem.W.keepIn X.K (.ref g) = true) (hb : Binds X.K fd [a] []) (hx : Passes (L2.CX X.prog X.w) X E) (hq : q = X.env.qual ++ "<lambda>") (bm0 : ∃ P0, X.base.BuiltinsAt X.mg P0)
    (hc : X.env.code = .ref c0) (hbs : X.base = base) (L : LamP X.env.scope scope []) (hdef : defaultsOf params X.env = ([], [])) (hbind : ∀ (cl : List (Str × Addr)) (pm cv ctv : Value), bindArgs (PySem.W.kla_fn "<lambda>" q params body scope cl pm cv ctv) ⟨[], []⟩ = pure [])
    (hbody : ∀ (f c' P' : Addr) (A : Around) (outer : List Env) (t : Shared) (HZ : Hp) (E : XK), Room kc (A.deeper (LamX.lamEnv X scope t.heap.objs.size f c')) → PE (LamX.lamCx X A outer t HZ E scope f c') body (tb c' P' E)) (hdb : (x == ("__debug__" : Str)) = false := by decide) :
    PE X (.Call (.Name x p) [.Lambda params body scope lpos] [] pos) (tLam0c base c0 q SP E tb) := ⟨fun pins s σ H Q I h =>
  (pe_lam0 (tb := tb) F hr hg hm hk hb hx hq bm0 L hdef hbind hbody hdb).run pins s σ H Q I (mkC_of hc (by rw [hbs]; exact h))⟩
def tLamMc (base : Heap) (c0 : Addr) (C : Addr) (m q : Str) (j : Nat) (SP : Addr → Sp → Sp) (E : XK) (ta : TE) (tb : Addr → Addr → XK → TE) : TE := fun σ H Q => ta σ H fun v H0 => ∃ a dx fs, v = .ref a ∧ H0 a = some (.ins C dx fs) ∧ fs.lookup m = none ∧
  tMkC base c0 q H0 fun T qs => kMk q H0 T qs fun f c' P' T' H1 => SP f (fun vs HZ Q E => ∃ v, vs = [v] ∧ HZ c' = some (CodeN c' q P') ∧ tb c' P' E (σ.set j (some v)) HZ Q) [.ref a, .ref f] H1 Q E
theorem pe_lamMc {pl : Sem Bool} {b : Str} (he : PE X o ta) (cl : Cls X.K C) (hm : Meth X.K C m g) (F : CFn X.prog X.w X.K X.mg X.base k (kc + 1) g fd [b, a] SP) (hr : Room k X.A) (hb : Binds X.K fd [b, a] []) (hx : Passes (L2.CX X.prog X.w) X E) (hq : q = X.env.qual ++ "<lambda>") (bm0 : ∃ P0, X.base.BuiltinsAt X.mg P0)
    (code : X.env.code = .ref c0) (hbs : X.base = base)
    (L : LamP X.env.scope scope [y]) (hj : X.N[j]? = some y) (nd : X.N.Nodup) (hdef : defaultsOf params X.env = ([], [])) (hbind : ∀ (cl : List (Str × Addr)) (pm cv ctv u : Value), bindArgs (PySem.W.kla_fn "<lambda>" q params body scope cl pm cv ctv) ⟨[u], []⟩ = pure [(y, u)])
    (hbody : ∀ (f c' P' : Addr) (A : Around) (outer : List Env) (t : Shared) (HZ : Hp) (E : XK), Room kc (A.deeper (LamX.lamEnv X scope t.heap.objs.size f c')) → PE (LamX.lamCx X A outer t HZ E scope f c') body (tb c' P' E))
    (ht : eval (.Call (.Attribute o m apos) [.Lambda params body scope lpos] [] pos) X.env = (do
      let ov ← eval o X.env
      standAt apos.atName
      let (f, first) ← holding [ov] (getMethod ov m pl)
      callWith pos f first (backTo pos (starEach [.Lambda params body scope lpos] X.env)) (backToKw pos (keywordEach [] X.env))) := by rfl) :
    PE X (.Call (.Attribute o m apos) [.Lambda params body scope lpos] [] pos) (tLamMc base c0 C m q j SP E ta tb) := ⟨fun pins s σ H Q I h => by
  subst hbs
  refine PySem.W.methodCall_KW (pl := pl) (thn (he.run pins s σ H _ I h) fun u s1 z => ?_) ht
  obtain ⟨v, H0, I0, ru, a0, dx, fs, rfl, ea, l, T, P, qs, tp, chd, hT, h⟩ := z
  cases ru
  refine getmeth_ok I0 ea cl hm l ?_
  refine PySem.W.callWith_K (first := [.ref a0]) (h₀ := X.base) I.ok.mod.kin hm.kp ?_ (by rfl) (by rfl)
  show wpAny _ _ (spliced ((false, eval (.Lambda params body scope lpos) X.env) :: backTo pos (starEach [] X.env))) _ _ _
  refine Calls.spliced_cons (lam_make I0 ⟨c0, P, code, tp, chd⟩ hq bm0 hT hdef (L.has I0.ok) fun T' f c' P' pm ctv H1 s' sub J eN hT' tp' hf hn nf hc => ?_)
  refine Calls.spliced_nil ⟨J.kIn, ?_⟩
  have CL := clo_lam1 (k := kc) (P' := P') J L hj nd hq hf hn nf hbind (hbody f c' P')
  have bd := hb s' [.ref a0, .ref f] J.kIn rfl
  show wpAny _ _ (call (.ref g) [.ref a0, .ref f]) _ _ _
  refine wpAny_call (codeAny_mono (F.run X.A X.stack s' H1 ⟨[.ref a0, .ref f], []⟩ [.ref a0, .ref f] [.ref a0, .ref f] Q E f _ hr J.env0 (by simpa using bd) (.cons rfl (.cons rfl .nil)) CL (h T' f c' P' H1 sub eN hT' tp' hc)) fun r s2 z => ?_)
  cases r with
  | error er => exact hx pins σ H1 s' er s2 J z
  | ok fl =>
    cases fl with
    | ret u => exact J.after z
    | next => exact z.elim
    | brk => exact z.elim
    | cont => exact z.elim⟩
end
end Lm
namespace W
open PySem L2
abbrev sAround : Stmt := top 25
def qA1 : Str := ("_law_around" : Str) ++ (".<locals>." : Str) ++ ("<lambda>" : Str)
def qA2 : Str := qA1 ++ (".<locals>." : Str) ++ ("<lambda>" : Str)
/-- the def st stands at f, its code object at c -/
structure FunC (K : PySem.W.Frag) (x qual : Str) (st : Stmt) (f c : Addr) (fd : FuncData) : Prop where
  ex : ∃ (oc : Value) (od : Option Addr) (kV doc pm : Value) (an : Option Addr) (ct : Value) (osl : Array (Option Value)),
    fd = PySem.W.fnOf x qual (defArgs st) (defBody st) (defScope st) .none kV doc pm an (.ref c) ct ∧ K.lookup f = some ⟨oc, od, .func fd, osl⟩ ∧ PySem.W.codeIn K (.ref c) qual = true
section
variable {P : Program} {w : World} {K : PySem.W.Frag} {mg : Str → Option Value} {base : Heap} {CL CF CP : Addr}
theorem passF {X : Cx} : Passes (L2.CX X.prog X.w) X (fun _ _ _ => False) := fun _ _ _ _ _ _ _ h => by
  obtain ⟨_, _, _, _, _, _, _, _, _, _, _, _, z⟩ := h
  exact z.elim
def wordOf (b : Bool) : Str := if b = true then "key" else "nought"
/-- _law_word: what ask must come to -/
theorem word_ask {f : Addr} {c : Sp} {H : Hp} {Q : VK} {E : XK} (h : ∀ (Qf : VK) (Ew : XK), (∀ (b : Bool) (d : Option Addr) (H' : Hp), Q (.str (wordOf b)) H' → Ew (errOf b) d H') → c [] H Qf Ew) : SPword f c [.ref f] H Q E := ⟨rfl, h _ _ fun b d H' q => by
  cases b with
  | true => exact .inl ⟨rfl, q⟩
  | false => exact .inr ⟨rfl, q⟩⟩
theorem errRel (b : Bool) : ∃ vt, RelV vt (errOf b) := by
  cases b with
  | true => exact ⟨.ty "KeyError", rfl⟩
  | false => exact ⟨.ty "ZeroDivisionError", rfl⟩
theorem putS_pins (S : LogS) (t : Str) : (putS S t).pins = S.pins := by
  show (fitS S t).pins = S.pins
  unfold fitS; split <;> rfl
theorem fillS_pins (ts : List Str) : ∀ S : LogS, (fillS S ts).pins = S.pins := by
  induction ts with
  | nil => intro S; rfl
  | cons t ts ih => intro S; rw [show fillS S (t :: ts) = fillS (rotS (putS S t)) ts from rfl, ih]; exact putS_pins S t
theorem LogB.pin {n : Nat} {S : LogS} (h : LogB n S) (k : Int) : LogB n (pinS S k) := ⟨h.ne, h.len, h.all, h.kept⟩
theorem rot_pinned_len {S : LogS} (h : S.pins ≠ 0) : (rotS S).files.length = S.files.length + 1 := by rw [rotS_pinned h]; simp
def spAround (CL CF Pa : Addr) : Sp := fun vs H Q _ => ∃ (g t : Addr) (F : List Addr) (S : LogS) (ts : List Str) (n : Nat) (b : Bool) (T : Lm.TMap), vs = [.ref g, .ref t, .bl b] ∧ LogAt CL CF H g F S ∧ H t = some (.lst (ts.map V.str)) ∧ t ∉ F ∧ LogB n S ∧ n + 2 * ts.length + 4 ≤ 1000 ∧ (∀ x ∈ ts, TxOk S.size x) ∧ 1 ≤ S.pins ∧ Lm.TabsX T H ∧ T Pa = some [qA1, qA2] ∧
  ∀ (p : Addr) (H' : Hp) (F' : List Addr) (T' : Lm.TMap), Lm.Sub T T' → Lm.TabsX T' H' → StpN F H F' H' → LogAt CL CF H' g F' (rotS (rotS (pinS (fillS (pinS S 1) ts) (-1)))) → H' p = some (.lst [.str (wordOf b), .int 2]) → p ∉ F' → Q (.ref p) H'
theorem scAround : FnScope ["log", "texts", "is_key", "word", "before", "held"] ["log", "texts", "is_key"] (defScope sAround) := ⟨rfl, rfl, rfl, by decide +kernel, rfl, by decide +kernel, by decide +kernel⟩
theorem ok_around {fa c Pa fE fW fP fR fI pI : Addr} {fd fdE fdW fdP fdR fdI : FuncData} (F : FunC K "_law_around" "_law_around" sAround fa c fd) (TB : LamX.TabB base mg c Pa) (B : Bi mg) (T : KL K CL)
    (GE : FnOk P w K mg base (L2.CX P w) 7 fE fdE ["log", "texts", "is_key"] (spEnds CL CF)) (kE : PySem.W.keepIn K (.ref fE) = true) (mE : mg "_law_ends" = some (.ref fE)) (bE : Binds K fdE ["log", "texts", "is_key"] [])
    (GW : Lm.CFn P w K mg base 12 11 fW fdW ["ask"] SPword) (kW : PySem.W.keepIn K (.ref fW) = true) (mW : mg "_law_word" = some (.ref fW)) (bW : Binds K fdW ["ask"] [])
    (GP : Lm.CFn P w K mg base 10 9 fP fdP ["self", "look"] (SPw CP CL)) (mP : Meth K CL "pinned_while" fP) (bP : Binds K fdP ["self", "look"] [])
    (GR : FnOk P w K mg base CX0 3 fR fdR ["self"] (spRot CL CF)) (mR : Meth K CL "rotate" fR) (bR : Binds K fdR ["self"] []) (PI : PropOf K CL "files" pI fI) (GI : FnOk P w K mg base CX0 1 fI fdI ["self"] (spFiles CL CF)) (bI : Binds K fdI ["self"] []) : FnOk P w K mg base CX0 13 fa fd ["log", "texts", "is_key"] (spAround CL CF Pa) := by
  obtain ⟨oc, od, kV, doc, pm, an, ct, osl, rfl, look, code⟩ := F.ex
  have nd := scAround.nd
  refine fn_of look code scAround (fun vs H Q E h => ?_) (fun A outer s H vs Q E hr h => ?_)
  · obtain ⟨g, t, F, S, ts, n, b, T, rfl, _⟩ := h
    rfl
  · obtain ⟨g, t, F, S, ts, n, b, TT, rfl, L, ht, tF, LB, hn, ok, hp, tabs, tp, k⟩ := h
    have r3 : Room 3 _ := hr.mono (by decide)
    have r2 : Room 2 _ := hr.mono (by decide)
    refine ⟨_, PSs.nox (pss_cons (ps_par (i := 3) (j := 4) (by rfl) nd rfl rfl (by decide) rfl rfl (pa_cons
          (Lm.pe_lam0c (kc := 10) (base := base) (c0 := c) (q := qA1) GW hr (by rfl) mW kW bW passF rfl ⟨_, TB.bm⟩ rfl rfl (Lm.lamP_by (by kernel_rfl)) rfl (fun _ _ _ _ => rfl)
            (fun f1 c1 P1 A1 o1 t1 H1 E1 hr1 => Lm.pe_lamMc (kc := 8) (base := base) (c0 := c1) (q := qA2) (j := 5) (y := "held") (pv 0) T.cl mP GP hr1 bP (passes_call (takes_of rfl rfl rfl rfl) (fun _ _ _ _ h => h)) rfl ⟨_, TB.bm⟩ rfl rfl (Lm.lamP_by (by kernel_rfl)) rfl nd rfl (fun _ _ _ _ _ => rfl)
              (fun f2 c2 P2 A2 o2 t2 H2 E2 hr2 => pe_call GE (hr2.mono (by decide)) (by rfl) mE kE bE .nil (passes_call (takes_of rfl rfl rfl rfl) (fun _ _ _ _ h => h)) (pa_cons (pv 5) (pa_cons (pv 1) (pa_cons (pv 2) pa_nil))))))
          (pa_cons (pe_callB call_len_seq (by rfl) B.len PySem.boot_len (pa_cons (pe_prop (pv 0) T.cl PI GI r2 bI .nil pass0 rfl) pa_nil)) pa_nil)) (by rfl))
      (pss_cons (ps_expr (pe_meth0 (pv 0) T.cl mR GR r3 bR .nil pass0))
      (pss_cons (ps_expr (pe_meth0 (pv 0) T.cl mR GR r3 bR .nil pass0))
      (pss_one (ps_ret (pe_lst (pa_cons (pv 3) (pa_cons (pe_op op_sub (pe_callB call_len_seq (by rfl) B.len PySem.boot_len (pa_cons (pe_prop (pv 0) T.cl PI GI r2 bI .nil pass0 rfl) pa_nil)) (pv 4)) pa_nil)))))))), ?_⟩
    have LB1 := LB.pin 1
    have LB5 := (LB1.fill ts).pin (-1)
    have p5 : (pinS (fillS (pinS S 1) ts) (-1)).pins ≠ 0 := by
      show (fillS (pinS S 1) ts).pins + -1 ≠ 0
      rw [fillS_pins]
      show S.pins + 1 + -1 ≠ 0
      omega
    refine ⟨TT, Pa, [qA2], tp, .inl TB.code, tabs, fun T1 f1 c1 P1 H1 sub1 ext1 tabs1 tp1 hc1 => word_ask fun Qf Ew hW => ⟨rfl, hc1, ?_⟩⟩
    have L1 := L.extN ext1
    have ht1 := ext1 _ _ ht (fun ps z => by cases z)
    obtain ⟨dx1, pres1, rs1, L1'⟩ := id L1
    refine ⟨_, rfl, g, dx1, _, rfl, L1'.obj, look_no (by decide +kernel), T1, P1, [], tp1, .inr ⟨qA1, hc1⟩, tabs1, fun T2 f2 c2 P2 H2 sub2 ext2 tabs2 tp2 hc2 => ?_⟩
    have L2 := L1.extN ext2
    have ht2 := ext2 _ _ ht1 (fun ps z => by cases z)
    refine pw_log L2 F L2.tracked (fun H3 Q' E' st3 L3 hQ hE => ⟨.ref g, rfl, ?_, _, rfl, _, rfl, _, rfl, g, t, F, pinS S 1, ts, n, b, rfl, L3, (st3.out tF ht2).2, tF, LB1, by omega, ok, fun H4 F4 st4 L4 d => hE _ d H4 F4 F4 _ (errRel b) (StpN.of st4) L4 fun H5 st5 L5 => ?_⟩)
    · exact st3.kp _ _ (L2.out_of hc2 (fun xs z => by unfold Lm.CodeN at z; cases z) (fun _ _ _ z => by unfold Lm.CodeN at z; cases z)) hc2
    refine hW b d H5 ?_
    have tabs3 := tabs_stp tabs2 L2 st3
    have tabs4 := tabs_stp tabs3 L3 st4
    have tabs5 := tabs_stp tabs4 L4 st5
    have st05 : StpN F H F4 H5 := ((StpN.ext ext1).trans (StpN.ext ext2)).trans ((StpN.of st3).trans ((StpN.of st4).trans (StpN.of st5)))
    generalize pinS (fillS (pinS S 1) ts) (-1) = S5 at L5 LB5 p5 k
    obtain ⟨dx5, pres5, rs5, L5'⟩ := id L5
    refine ⟨_, rfl, g, dx5, _, rfl, L5'.obj, g, F4, S5, _, rfl, L5, LB5, by omega, fun q6 H6 s6 ft6 => ?_⟩
    obtain ⟨qs6, h6, e6⟩ := ft6.len
    refine ⟨q6, qs6, rfl, .inr (.inl (.inl h6)), _, _, rfl, ?_⟩
    have L6 := L5.same s6
    have tabs6 := tabs5.same s6
    obtain ⟨dx6, pres6, rs6, L6'⟩ := id L6
    refine ⟨_, rfl, g, dx6, _, rfl, L6'.obj, look_no (by decide +kernel), g, F4, S5, rfl, L6, Nat.le_trans LB5.len (by omega), LB5.kept, fun H7 F7 st7 L7 => ?_⟩
    have LB7 := LB5.rot
    have tabs7 := tabs_stp tabs6 L6 st7
    obtain ⟨dx7, pres7, rs7, L7'⟩ := id L7
    refine ⟨_, rfl, g, dx7, _, rfl, L7'.obj, look_no (by decide +kernel), g, F7, rotS S5, rfl, L7, Nat.le_trans LB7.len (by omega), LB7.kept, fun H8 F8 st8 L8 => ?_⟩
    have LB8 := LB7.rot
    have tabs8 := tabs_stp tabs7 L7 st8
    obtain ⟨dx8, pres8, rs8, L8'⟩ := id L8
    refine ⟨_, rfl, _, rfl, g, dx8, _, rfl, L8'.obj, g, F8, _, _, rfl, L8, LB8, by omega, fun q9 H9 s9 ft9 => ?_⟩
    obtain ⟨qs9, h9, e9⟩ := ft9.len
    refine ⟨q9, qs9, rfl, .inr (.inl (.inl h9)), _, rfl, _, _, rfl, rfl, by show 2 ≤ sizeLine; decide, fun p np => ?_⟩
    have ee : ((qs9.length : Nat) : Int) - ((qs6.length : Nat) : Int) = 2 := by
      rw [e9, e6, rot_pinned_len (S := rotS S5) p5, rot_pinned_len p5]
      omega
    show Q (V.ref p) (upd H9 p (.lst [.str (wordOf b), .int (((qs9.length : Nat) : Int) - ((qs6.length : Nat) : Int))]))
    rw [ee]
    have s10 := s9.trans (Same.put (o := .lst [.str (wordOf b), .int 2]) np)
    refine k p _ F8 T2 (sub1.trans sub2) (tabs8.same s10) ?_ (L8.same s10) upd_same (fun z => (L8.same s9).tracked p z np)
    exact st05.trans (StpN.of ((Stp.of_same s6).trans (st7.trans (st8.trans (Stp.of_same s10)))))
end
end W
namespace W
open PySem L2
/-! ### the law's own numbers -/
theorem lastN_snoc {α : Type} (n : Nat) (xs : List α) (x : α) : lastN n (xs ++ [x]) = xs.drop (xs.length - n) ++ [x] := by
  unfold lastN
  rw [List.length_append, List.length_singleton, show xs.length + 1 - (n + 1) = xs.length - n by omega]
  exact List.drop_append_of_le_length (by omega)
theorem rotS_shape {S : LogS} (h : S.pins = 0) : Shape (rotS S) (S.files.drop (S.files.length - S.kept.toNat)) := by
  rw [rotS_free h]
  exact ⟨lastN_snoc _ _ _, rfl⟩
theorem Shape.pin {S : LogS} {fs : List (List Str)} (h : Shape S fs) (k : Int) : Shape (pinS S k) fs := ⟨h.files, h.fill⟩
theorem Shape.rotP {S : LogS} {fs : List (List Str)} (h : Shape S fs) (hp : S.pins ≠ 0) : Shape (rotS S) (fs ++ [[]]) := by
  rw [rotS_pinned hp]
  exact ⟨by show S.files ++ [[]] = _; rw [h.files], rfl⟩
def s2 (S1 : LogS) (ts : List Str) : LogS := pinS (fillS (pinS S1 1) ts) (-1)
def s4 (S3 : LogS) (ts : List Str) : LogS := pinS (rotS (rotS (pinS (fillS (pinS (pinS S3 1) 1) ts) (-1)))) (-1)
theorem facts_log {S0 : LogS} {k : Nat} {ts : List Str} (p0 : S0.pins = 0) (hk : S0.kept = k) (hs : 5 ≤ S0.size) (ok : ∀ t ∈ ts, TextOk t) (h3 : 3 ≤ ts.length) (k3 : k ≤ 3) :
    (∃ fs0, (rotS S0).files = fs0 ++ [[]] ∧ (s2 (rotS S0) ts).files = fs0 ++ (ts.map fun t => [t]) ++ [[]]) ∧ (rotS (s2 (rotS S0) ts)).files.length = k + 1 ∧ (rotS (s2 (rotS S0) ts)).pins = 0 ∧ (rotS (s2 (rotS S0) ts)).size = S0.size ∧
      (s4 (rotS (s2 (rotS S0) ts)) ts).size = S0.size ∧ (rotS (putS (s4 (rotS (s2 (rotS S0) ts)) ts) "a")).files.length = k + 1 ∧ (rotS (putS (s4 (rotS (s2 (rotS S0) ts)) ts) "a")).fill = 0 := by
  have tx : ∀ t ∈ ts, TxOk S0.size t := fun t h => (ok t h).tx hs
  have h1 := rotS_shape p0
  obtain ⟨h2, p2, k2, z2⟩ := fillS_pinned ts (pinS (rotS S0) 1) _ (h1.pin 1) (by show S0.pins + 1 ≠ 0; omega) tx
  have h2' := h2.pin (-1)
  have p2' : (s2 (rotS S0) ts).pins = 0 := by
    show (fillS (pinS (rotS S0) 1) ts).pins + -1 = 0
    rw [p2]
    show S0.pins + 1 + -1 = 0
    omega
  have k2' : (s2 (rotS S0) ts).kept = k := k2.trans hk
  have z2' : (s2 (rotS S0) ts).size = S0.size := z2
  have l2 : 4 ≤ (s2 (rotS S0) ts).files.length := by
    rw [show (s2 (rotS S0) ts).files = _ from h2'.files]
    simp
    omega
  refine ⟨⟨_, h1.files, h2'.files⟩, ?_⟩
  generalize s2 (rotS S0) ts = S2 at p2' k2' z2' l2 ⊢
  have h3' := rotS_shape p2'
  have l3 : (rotS S2).files.length = k + 1 := by
    rw [rotS_free p2']
    show (lastN S2.kept.toNat (S2.files ++ [[]])).length = _
    rw [lastN_len, List.length_append, k2']
    simp
    omega
  have p3 : (rotS S2).pins = 0 := p2'
  have k3' : (rotS S2).kept = k := k2'
  have z3 : (rotS S2).size = S0.size := z2'
  refine ⟨l3, p3, z3, ?_⟩
  generalize rotS S2 = S3 at h3' l3 p3 k3' z3 ⊢
  obtain ⟨h4, p4, k4, z4⟩ := fillS_pinned ts (pinS (pinS S3 1) 1) _ ((h3'.pin 1).pin 1) (by show S3.pins + 1 + 1 ≠ 0; omega) (fun t h => by show TxOk S3.size t; rw [z3]; exact tx t h)
  have h5 := h4.pin (-1)
  have p5 : (pinS (fillS (pinS (pinS S3 1) 1) ts) (-1)).pins = 1 := by
    show (fillS (pinS (pinS S3 1) 1) ts).pins + -1 = 1
    rw [p4]
    show S3.pins + 1 + 1 + -1 = 1
    omega
  have k5 : (pinS (fillS (pinS (pinS S3 1) 1) ts) (-1)).kept = k := k4.trans k3'
  have z5 : (pinS (fillS (pinS (pinS S3 1) 1) ts) (-1)).size = S0.size := z4.trans z3
  have l5 : k + 1 ≤ (pinS (fillS (pinS (pinS S3 1) 1) ts) (-1)).files.length := by
    rw [h5.files]
    have := l3
    rw [h3'.files] at this
    simp at this ⊢
    omega
  unfold s4
  generalize pinS (fillS (pinS (pinS S3 1) 1) ts) (-1) = S5 at h5 p5 k5 z5 l5 ⊢
  have h6 := h5.rotP (by omega)
  have h7 := h6.rotP (by show S5.pins ≠ 0; omega)
  have e6 := rot_pinned_len (S := S5) (by omega)
  have e7 := rot_pinned_len (S := rotS S5) (by show S5.pins ≠ 0; omega)
  have h8 := h7.pin (-1)
  have p8 : (pinS (rotS (rotS S5)) (-1)).pins = 0 := by show S5.pins + -1 = 0; omega
  have k8 : (pinS (rotS (rotS S5)) (-1)).kept = k := k5
  have z8 : (pinS (rotS (rotS S5)) (-1)).size = S0.size := z5
  have l8 : k + 1 ≤ (pinS (rotS (rotS S5)) (-1)).files.length := by
    show k + 1 ≤ (rotS (rotS S5)).files.length
    omega
  refine ⟨z8, ?_⟩
  generalize pinS (rotS (rotS S5)) (-1) = S8 at h8 p8 k8 z8 l8 ⊢
  have e9 : putS S8 "a" = { S8 with files := addLast "a" S8.files, fill := S8.fill + (((("a" : Str).length : Nat) : Int) + 1), count := S8.count + 1 } := putS_fit (by
    rw [h8.fill]
    have : ("a" : Str).length = 1 := by decide +kernel
    rw [this]; omega)
  have p9 : (putS S8 "a").pins = 0 := by rw [e9]; exact p8
  have k9 : (putS S8 "a").kept = k := by rw [e9]; exact k8
  have l9 : (putS S8 "a").files.length = S8.files.length := by
    rw [e9]
    exact addLast_len _ (by rw [h8.files]; simp)
  refine ⟨?_, rfl⟩
  rw [rotS_free p9]
  show (lastN (putS S8 "a").kept.toNat ((putS S8 "a").files ++ [[]])).length = _
  rw [lastN_len, List.length_append, k9, l9]
  simp
  omega
theorem facts_other {R0 : LogS} {k : Nat} {ts : List Str} (h : Free R0 1 k) (h3 : 3 ≤ ts.length) (k3 : k ≤ 3) : (fillS R0 ts).files.length = k + 1 := (h.fill ts).all (by omega)
theorem newFree (size : Int) (k : Nat) : Free (newS size k) 1 k := ⟨rfl, rfl, by show min 1 (k + 1) ≤ 1; omega, by show 1 ≤ k + 1; omega, by show ([[]] : List (List Str)) ≠ []; simp⟩
theorem putS_kept (S : LogS) (t : Str) : (putS S t).kept = S.kept := by
  show (fitS S t).kept = S.kept
  unfold fitS; split <;> rfl
theorem tx_a {size : Int} (h : 5 ≤ size) : TxOk size "a" := ⟨by decide +kernel, by decide +kernel, by rw [show ("a" : Str).length = 1 by decide +kernel]; omega⟩
theorem tx_bb {size : Int} (h : 5 ≤ size) : TxOk size "bb" := ⟨by decide +kernel, by decide +kernel, by rw [show ("bb" : Str).length = 2 by decide +kernel]; omega⟩
end W
namespace W
open PySem L2
/-! ### heaps: what stays; tuples of files -/
section
variable {CL CF g p : Addr} {H H' : Hp} {F F' G G' : List Addr} {S R : LogS}
theorem LogAt.but (L : LogAt CL CF H g F S) {xs : List V} (hp : H p = some (.lst xs)) (pF : p ∉ F) (b : But p H H') : LogAt CL CF H' g F S := by
  obtain ⟨dx, pres, rs, L⟩ := L
  have ne : ∀ c ∈ F, c ≠ p := fun c hc z => pF (z ▸ hc)
  refine ⟨dx, pres, rs, L.foot, L.nd, b _ _ (ne _ L.gF) L.obj, b _ _ (ne _ L.presF) L.lst, L.ts, fun r hr => ?_⟩
  obtain ⟨⟨d, bb, q⟩, q2⟩ := L.all r hr
  exact ⟨⟨d, bb, b _ _ (fun z => by rw [z, hp] at q; cases q) q⟩, b _ _ (ne _ (L.lF hr)) q2⟩
/-- tuples are no part of a log -/
theorem tup_keep {Z : List Addr} (L : LogAt CL CF H g F S) {o : Addr} (M : LogAt CL CF H o G R) (st : StpN (F ++ G) H Z H') : ∀ b xs, H b = some (.tup xs) → H' b = some (.tup xs) := fun b xs e =>
  st.kp b _ (fun z => by
    rcases List.mem_append.mp z with q | q
    · exact L.out_of e (fun xs z => by cases z) (fun _ _ _ z => by cases z) q
    · exact M.out_of e (fun xs z => by cases z) (fun _ _ _ z => by cases z) q) (fun ps z => by cases z) e
theorem StpN.left {F F' G : List Addr} {H H' : Hp} (s : StpN F H F' H') : StpN (F ++ G) H (F' ++ G) H' := ⟨fun b o n nt e => s.kp b o (fun z => n (List.mem_append_left _ z)) nt e, fun b hb => by
  rcases List.mem_append.mp hb with q | q
  · exact (s.fr b q).imp (List.mem_append_left _) id
  · exact .inl (List.mem_append_right _ q)⟩
theorem Same.tups {H H' : Hp} (e : Same H H') : ∀ b xs, H b = some (.tup xs) → H' b = some (.tup xs) := fun b xs h => e b _ h
end
theorem tabs_kp {T : Lm.TMap} {H H' : Hp} (t : Lm.TabsX T H) (e : ∀ b o, H b = some o → (∀ xs, o ≠ .lst xs) → (∀ C d fs, o ≠ .ins C d fs) → H' b = some o) : Lm.TabsX T H' := fun P l h => by
  obtain ⟨ps, h1, h2⟩ := t P l h
  refine ⟨ps, e _ _ h1 (fun xs z => by cases z) (fun _ _ _ z => by cases z), fun q qs el => ⟨(h2 q qs el).1, fun pos cv hc => ?_⟩⟩
  obtain ⟨c, P2, e1, e2, e3⟩ := (h2 q qs el).2 pos cv hc
  exact ⟨c, P2, e1, e _ _ e2 (fun xs z => by unfold Lm.CodeN at z; cases z) (fun _ _ _ z => by unfold Lm.CodeN at z; cases z), e3⟩
theorem tabs_but {T : Lm.TMap} {p : Addr} {xs : List V} {H H' : Hp} (t : Lm.TabsX T H) (hp : H p = some (.lst xs)) (b : But p H H') : Lm.TabsX T H' := tabs_kp t fun c o e n1 _ => b c o (fun z => by rw [z, hp] at e; cases e; exact n1 _ rfl) e
theorem tabs_stp2 {T : Lm.TMap} {CL CF g o : Addr} {H H' : Hp} {F G Z : List Addr} {S R : LogS} (t : Lm.TabsX T H) (L : LogAt CL CF H g F S) (M : LogAt CL CF H o G R) (st : Stp (F ++ G) H Z H') : Lm.TabsX T H' := tabs_kp t fun c u e n1 n2 => st.kp c u (fun z => by
  rcases List.mem_append.mp z with q | q
  · exact L.out_of e n1 n2 q
  · exact M.out_of e n1 n2 q) e
/-- all lines of a log -/
def AllL (z : Str → Prop) (S : LogS) : Prop := ∀ ls ∈ S.files, ∀ t ∈ ls, z t
theorem AllL.rot {z : Str → Prop} {S : LogS} (h : AllL z S) : AllL z (rotS S) := fun ls hl t ht => by
  rcases rotS_mem hl with q | q
  · exact h ls q t ht
  · rw [q] at ht; cases ht
theorem AllL.put {z : Str → Prop} {S : LogS} (h : AllL z S) {t : Str} (ht : z t) : AllL z (putS S t) := by
  have hf : AllL z (fitS S t) := by
    unfold fitS
    split
    · exact h.rot
    · exact h
  intro ls hl x hx
  have hl : ls ∈ addLast t (fitS S t).files := hl
  unfold addLast at hl
  rcases List.mem_append.mp hl with q | q
  · exact hf ls (List.dropLast_subset _ q) x hx
  · rw [List.mem_singleton.mp q] at hx
    rcases List.mem_append.mp hx with q2 | q2
    · cases e : (fitS S t).files.getLast? with
      | none => rw [e] at q2; cases q2
      | some y =>
        rw [e] at q2
        exact hf y (List.mem_of_getLast? e) x q2
    · rw [List.mem_singleton.mp q2]; exact ht
theorem newAll (z : Str → Prop) (size kept : Int) : AllL z (newS size kept) := fun ls hl t ht => by
  rw [List.mem_singleton.mp hl] at ht; cases ht
/-- the files as data -/
def dF (fs : List (List Str)) : PyData := .tuple (fs.map fun ls => .tuple (ls.map .str))
theorem dpStrs {K : PySem.W.Frag} {H : Hp} : ∀ ts : List Str, DpAll K H (ts.map V.str) (ts.map PyData.str)
  | [] => .nil
  | t :: ts => .cons (.str t) (dpStrs ts)
theorem dpFiles {K : PySem.W.Frag} {H : Hp} : ∀ {qs : List Addr} {fs : List (List Str)}, FT H qs fs → DpAll K H (qs.map V.ref) (fs.map fun ls => .tuple (ls.map .str))
  | _, _, .nil => .nil
  | _, _, .cons h r => .cons (.tup (.inl (.inl h)) (dpStrs _)) (dpFiles r)
theorem FilesT.dp {K : PySem.W.Frag} {H : Hp} {p : Addr} {fs : List (List Str)} (h : FilesT H p fs) : Dp K H (.ref p) (dF fs) := let ⟨qs, h1, h2⟩ := h; .tup (.inl (.inl h1)) (dpFiles h2)
theorem canStrs : ∀ ts : List Str, (∀ t ∈ ts, PyData.strOk t = true) → PyData.canLayAll0 (ts.map PyData.str) = true
  | [], _ => rfl
  | t :: ts, h => by
    show (PyData.strOk t && PyData.canLayAll0 (ts.map PyData.str)) = true
    rw [h t List.mem_cons_self, canStrs ts fun x hx => h x (List.mem_cons_of_mem _ hx)]; rfl
theorem canFiles : ∀ fs : List (List Str), (∀ ls ∈ fs, ∀ t ∈ ls, PyData.strOk t = true) → PyData.canLayAll0 (fs.map fun ls => .tuple (ls.map .str)) = true
  | [], _ => rfl
  | ls :: fs, h => by
    show (PyData.canLayAll0 (ls.map PyData.str) && PyData.canLayAll0 (fs.map fun ls => .tuple (ls.map .str))) = true
    rw [canStrs ls (h ls List.mem_cons_self), canFiles fs fun x hx => h x (List.mem_cons_of_mem _ hx)]; rfl
theorem depStrs : ∀ ts : List Str, PyData.depthAll (ts.map PyData.str) = 0
  | [] => rfl
  | t :: ts => by show max 0 (PyData.depthAll (ts.map PyData.str)) = 0; rw [depStrs ts]; rfl
theorem depFiles : ∀ fs : List (List Str), PyData.depthAll (fs.map fun ls => .tuple (ls.map .str)) ≤ 1
  | [] => Nat.zero_le _
  | ls :: fs => by
    show max (PyData.depthAll (ls.map PyData.str) + 1) (PyData.depthAll (fs.map fun ls => .tuple (ls.map .str))) ≤ 1
    rw [depStrs ls]
    exact Nat.max_le.mpr ⟨Nat.le_refl _, depFiles fs⟩
theorem can_dF {fs : List (List Str)} (h : ∀ ls ∈ fs, ∀ t ∈ ls, PyData.strOk t = true) : (dF fs).canLay0 = true := canFiles fs h
theorem shaped_dF {fs : List (List Str)} (h : ∀ ls ∈ fs, ∀ t ∈ ls, PyData.strOk t = true) : SeqAt.shaped (dF fs) = true := by
  unfold SeqAt.shaped
  rw [can_dF h, decide_eq_true]; rfl
  show PyData.depthAll _ + 1 ≤ 64
  have := depFiles fs
  omega
theorem eqv_dF {fs : List (List Str)} (h : ∀ ls ∈ fs, ∀ t ∈ ls, PyData.strOk t = true) : PyData.eqv (dF fs) (dF fs) = true := SeqAt.eqv_refl _ (can_dF h)
/-- two tuples of files, put together -/
theorem FT.app {H : Hp} : ∀ {qs rs : List Addr} {fs gs : List (List Str)}, FT H qs fs → FT H rs gs → FT H (qs ++ rs) (fs ++ gs)
  | _, _, _, _, .nil, h => h
  | _, _, _, _, .cons a r, h => .cons a (FT.app r h)
theorem cat_files {K : PySem.W.Frag} {H : Hp} {a b : Addr} {fs gs : List (List Str)} {Q : VK} (ha : FilesT H a fs) (hb : FilesT H b gs) (ne : gs ≠ []) (z : fs.length + gs.length ≤ 1000) (k : ∀ r H', Same H H' → FilesT H' r (fs ++ gs) → Q (.ref r) H') : rCatA K (.ref a) (.ref b) H Q := by
  obtain ⟨qs, h1, h2⟩ := ha
  obtain ⟨rs, h3, h4⟩ := hb
  have l1 := h2.length
  have l2 := h4.length
  have line : (1000 : Nat) ≤ sizeLine := by decide
  refine ⟨a, b, _, _, rfl, rfl, .inl (.inl h1), .inl (.inl h3), by rw [List.length_map, List.length_map]; omega, fun e => ?_, fun _ e => ?_, fun _ _ p np => ?_⟩
  · have : fs = [] := List.length_eq_zero_iff.mp (by rw [← l1, ← List.length_map (f := V.ref), e]; rfl)
    rw [this] at k
    exact k b H (Same.refl H) ⟨rs, h3, h4⟩
  · exact absurd (List.length_eq_zero_iff.mp (by rw [← l2, ← List.length_map (f := V.ref), e]; rfl)) ne
  · exact k p _ (Same.put np) ⟨qs ++ rs, by rw [upd_same, List.map_append], (h2.app h4).same (Same.tups (Same.put np))⟩
theorem FT.drop {H : Hp} : ∀ {qs : List Addr} {fs : List (List Str)}, FT H qs fs → ∀ n, FT H (qs.take n) (fs.take n)
  | _, _, h, 0 => by rw [List.take_zero, List.take_zero]; exact .nil
  | _, _, .nil, n + 1 => .nil
  | _, _, .cons a r, n + 1 => .cons a (FT.drop r n)
/-- begun[:-1] -/
theorem cut_files {K : PySem.W.Frag} {H : Hp} {a : Addr} {fs : List (List Str)} {x : List Str} {Q : VK} (ha : FilesT H a (fs ++ [x])) (k : ∀ r H', Same H H' → FilesT H' r fs → Q (.ref r) H') : rSlA K (.ref a) none (some (-1)) H Q := by
  obtain ⟨qs, h1, h2⟩ := ha
  have l1 := h2.length
  rw [List.length_append, List.length_singleton] at l1
  have e : HT.sIx (qs.map V.ref).length (qs.map V.ref).length (some (-1 : Int)) = fs.length := by
    show (if (-1 : Int) < 0 then (-1 + ((qs.map V.ref).length : Int)).toNat else min (-1 : Int).toNat (qs.map V.ref).length) = _
    rw [if_pos (by decide), List.length_map]; omega
  refine ⟨a, _, rfl, .inl (.inl h1), fun z => ?_, fun _ p np => ?_⟩
  · rw [e, List.length_map] at z
    omega
  · have c : cutV (qs.map V.ref) none (some (-1)) = (qs.take fs.length).map V.ref := by
      unfold cutV
      rw [e, HT.sIx_none, List.drop_zero, Nat.sub_zero, List.map_take]
    rw [c]
    have := h2.drop fs.length
    rw [List.take_append_of_le_length (Nat.le_refl _), List.take_length] at this
    exact k p _ (Same.put np) ⟨_, upd_same, this.same (Same.tups (Same.put np))⟩
theorem if_word {b : Bool} {σ : L2.St} {H : Hp} {Q : VK} (h : Q (.str (wordOf b)) H) : if b = true then tC (.str "key") σ H Q else tC (.str "nought") σ H Q := by
  cases b with
  | true => exact iteT h
  | false => exact iteF h
end W
namespace W
open PySem L2
abbrev sRight : Stmt := top 26
def qR1 : Str := ("_law_right" : Str) ++ (".<locals>." : Str) ++ ("<lambda>" : Str)
def qR2 : Str := qR1 ++ (".<locals>." : Str) ++ ("<lambda>" : Str)
section
variable {P : Program} {w : World} {K : PySem.W.Frag} {mg : Str → Option Value} {base : Heap} {CL CF CP : Addr}
theorem BoxAt.stp {H H' : Hp} {p : Addr} {n : Nat} {F F' : List Addr} (B : BoxAt H p n) (pF : p ∉ F) (st : Stp F H F' H') : BoxAt H' p n ∧ p ∉ F' := let ⟨o, m, c, h, r⟩ := B; ⟨⟨o, m, c, (st.out pF h).2, r⟩, (st.out pF h).1⟩
theorem BoxAt.stpN {H H' : Hp} {p : Addr} {n : Nat} {F F' : List Addr} (B : BoxAt H p n) (pF : p ∉ F) (st : StpN F H F' H') : BoxAt H' p n ∧ p ∉ F' := let ⟨o, m, c, h, r⟩ := B; ⟨⟨o, m, c, (st.out pF (fun ps z => by cases z) h).2, r⟩, (st.out pF (fun ps z => by cases z) h).1⟩
theorem BoxAt.tr {H : Hp} {p : Addr} {n : Nat} (B : BoxAt H p n) : ∃ xs, H p = some (.lst xs) := let ⟨_, _, _, h, _⟩ := B; ⟨_, h⟩
def spRight (Pa Pr : Addr) : Sp := fun vs H Q _ => ∃ (p : Addr) (n : Nat) (T : Lm.TMap), vs = [.ref p] ∧ BoxAt H p n ∧ n ≤ 9000 ∧ Lm.TabsX T H ∧ T Pa = some [qA1, qA2] ∧ T Pr = some [qR1, qR2] ∧
  ∀ (H' : Hp) (T' : Lm.TMap), Lm.Sub T T' → Lm.TabsX T' H' → (∀ b o, b ≠ p → (∀ ps, o ≠ .tbl ps) → H b = some o → H' b = some o) → BoxAt H' p (n + 20) → Q (.bl true) H'
abbrev nR : List Str := ["box", "size", "many", "due", "begun", "is_key", "log", "other", "texts", "turn", "text", "held"]
theorem scRight : FnScope nR ["box"] (defScope sRight) := ⟨rfl, rfl, rfl, by decide +kernel, rfl, by decide +kernel, by decide +kernel⟩
theorem ok_right {fa c Pr Pa fT fX fB fA fW fP fR fI pI fM pM fWr fF pF : Addr} {mc : Value} {fd fdT fdX fdB fdA fdW fdP fdR fdI fdWr fdF : FuncData} (F : FunC K "_law_right" "_law_right" sRight fa c fd) (TB : LamX.TabB base mg c Pr) (B : Bi mg) (T : KL K CL)
    (GT : FnOk P w K mg base CX0 1 fT fdT ["box", "many"] spTake) (kT : PySem.W.keepIn K (.ref fT) = true) (mT : mg "_law_take" = some (.ref fT)) (bT : Binds K fdT ["box", "many"] [])
    (GX : FnOk P w K mg base CX0 3 fX fdX ["box"] spText) (kX : PySem.W.keepIn K (.ref fX) = true) (mX : mg "_law_text" = some (.ref fX)) (bX : Binds K fdX ["box"] [])
    (GB : FnOk P w K mg base (L2.CX P w) 8 fB fdB ["log", "other", "texts", "is_key"] (spBoth CL CF)) (kB : PySem.W.keepIn K (.ref fB) = true) (mB : mg "_law_both" = some (.ref fB)) (bB : Binds K fdB ["log", "other", "texts", "is_key"] [])
    (GA : FnOk P w K mg base CX0 13 fA fdA ["log", "texts", "is_key"] (spAround CL CF Pa)) (kA : PySem.W.keepIn K (.ref fA) = true) (mA : mg "_law_around" = some (.ref fA)) (bA : Binds K fdA ["log", "texts", "is_key"] [])
    (GW : Lm.CFn P w K mg base 12 11 fW fdW ["ask"] SPword) (kW : PySem.W.keepIn K (.ref fW) = true) (mW : mg "_law_word" = some (.ref fW)) (bW : Binds K fdW ["ask"] [])
    (GP : Lm.CFn P w K mg base 10 9 fP fdP ["self", "look"] (SPw CP CL)) (GP2 : Lm.CFn P w K mg base 15 14 fP fdP ["self", "look"] (SPw CP CL)) (mP : Meth K CL "pinned_while" fP) (bP : Binds K fdP ["self", "look"] [])
    (GR : FnOk P w K mg base CX0 3 fR fdR ["self"] (spRot CL CF)) (mR : Meth K CL "rotate" fR) (bR : Binds K fdR ["self"] []) (PI : PropOf K CL "files" pI fI) (GI : FnOk P w K mg base CX0 1 fI fdI ["self"] (spFiles CL CF)) (bI : Binds K fdI ["self"] [])
    (PF : PropOf K CL "fill" pF fF) (GF : FnOk P w K mg base CX0 1 fF fdF ["self"] (spFill CL)) (bF : Binds K fdF ["self"] [])
    (GWr : FnOk P w K mg base CX0 5 fWr fdWr ["self", "line"] (spWrite CL CF)) (mWr : Meth K CL "write" fWr) (bWr : Binds K fdWr ["self", "line"] [])
    (mL : mg "Log" = some (.ref CL)) (rM : ClX.CRead K CL mc) (cM : ClX.CMet K CL mc "made" pM fM) (GM : FnR P w K mg base CX0 6 fM (spMade CL CF)) : FnOk P w K mg base CX0 16 fa fd ["box"] (spRight Pa Pr) := by
  obtain ⟨oc, od, kV, doc, pm, an, ct, osl, rfl, look, code⟩ := F.ex
  have nd := scRight.nd
  refine fn_of look code scRight (fun vs H Q E h => ?_) (fun A outer s H vs Q E hr h => ?_)
  · obtain ⟨p, n, TT, rfl, _⟩ := h
    rfl
  · have r1 : Room 1 _ := hr.mono (by decide)
    have r2 : Room 2 _ := hr.mono (by decide)
    have r3 : Room 3 _ := hr.mono (by decide)
    have r5 : Room 5 _ := hr.mono (by decide)
    have r6 : Room 6 _ := hr.mono (by decide)
    have r12 : Room 12 _ := hr.mono (by decide)
    refine ⟨_, PSs.nox (
      pss_cons (ps_par (i := 1) (j := 2) (by rfl) nd rfl rfl (by decide) rfl rfl (pa_cons (pe_op op_add pe_int (pe_call GT r1 (by rfl) mT kT bT .nil pass0 (pa_cons (pv 0) (pa_cons pe_int pa_nil)))) (pa_cons (pe_call GT r1 (by rfl) mT kT bT .nil pass0 (pa_cons (pv 0) (pa_cons pe_int pa_nil))) pa_nil)) (by rfl))
      (pss_cons (ps_asg (pe_tup (pa_cons (ClX.pe_cmeth (pe_glob (v := .ref CL) (by rfl) mL rfl) rM cM GM r6 pass0 (pa_cons (pv 1) (pa_cons (pv 2) (pa_cons pe_str (pa_cons pe_str pa_nil))))) (pa_cons (ClX.pe_cmeth (pe_glob (v := .ref CL) (by rfl) mL rfl) rM cM GM r6 pass0 (pa_cons (pv 1) (pa_cons (pv 2) (pa_cons pe_str pa_nil)))) pa_nil)))
          (pg_tup (by rfl) (pgs_cons (pg_name (i := 6) nd rfl (.inr rfl)) (pgs_cons (pg_name (i := 7) nd rfl (.inr rfl)) pgs_nil))))
      (pss_cons (ps_expr (pe_meth0 (pv 6) T.cl mR GR r3 bR .nil pass0))
      (pss_cons (ps_asg (pe_tup (pa_cons (pe_lc (own := [("turn", 9)]) (g := gName 9) (tt := tYes) rfl nd (pi_range1 (by rfl) B.range (pa_cons (pe_op op_add pe_int (pe_call GT r1 (by rfl) mT kT bT .nil pass0 (pa_cons (pv 0) (pa_cons pe_int pa_nil)))) pa_nil)) (blkOk_by (own := [("turn", 9)]) (N := nR) (sc := defScope sRight) (by decide +kernel))
              (fun _ _ _ _ _ => pg_name (i := 9) nd rfl (Or.inl rfl)) (fun _ _ _ _ _ => pts_nil) (fun _ _ _ _ _ => pe_call GX r3 (by rfl) mX kX bX .nil pass0 (pa_cons (pv 0) pa_nil)))
            (pa_cons (pe_cmpR op_eq (pe_call GT r1 (by rfl) mT kT bT .nil pass0 (pa_cons (pv 0) (pa_cons pe_int pa_nil))) pe_int (nomark _)) pa_nil)))
          (pg_tup (by rfl) (pgs_cons (pg_name (i := 8) nd rfl (.inr rfl)) (pgs_cons (pg_name (i := 5) nd rfl (.inr rfl)) pgs_nil))))
      (pss_cons (ps_par (i := 3) (j := 4) (by rfl) nd rfl rfl (by decide) rfl rfl (pa_cons (pe_ifExp (pt_val (pv 5)) pe_str pe_str) (pa_cons (pe_prop (pv 6) T.cl PI GI r2 bI .nil pass0 rfl) pa_nil)) (by rfl))
      (pss_cons (ps_if (pt_cmpR op_ne
            (Lm.pe_lam0c (kc := 10) (base := base) (c0 := c) (q := qR1) GW r12 (by rfl) mW kW bW passF rfl ⟨_, TB.bm⟩ rfl rfl (Lm.lamP_by (by kernel_rfl)) rfl (fun _ _ _ _ => rfl)
              (fun f1 c1 P1 A1 o1 t1 H1 E1 hr1 => Lm.pe_lamMc (kc := 8) (base := base) (c0 := c1) (q := qR2) (j := 11) (y := "held") (pv 6) T.cl mP GP hr1 bP (passes_call (takes_of rfl rfl rfl rfl) (fun _ _ _ _ h => h)) rfl ⟨_, TB.bm⟩ rfl rfl (Lm.lamP_by (by kernel_rfl)) rfl nd rfl (fun _ _ _ _ _ => rfl)
                (fun f2 c2 P2 A2 o2 t2 H2 E2 hr2 => pe_call GB hr2 (by rfl) mB kB bB .nil (passes_call (takes_of rfl rfl rfl rfl) (fun _ _ _ _ h => h)) (pa_cons (pv 11) (pa_cons (pv 7) (pa_cons (pv 8) (pa_cons (pv 5) pa_nil)))))))
            (pv 3) (nomark _)) (pss_one (ps_ret pe_bl)) pss_nil)
      (pss_cons (ps_if (PW.pt (pw_or (pt_cmpR (op_neD hr.units) (pe_prop (pv 6) T.cl PI GI r2 bI .nil pass0 rfl)
            (pe_op op_catA (pe_op op_catA (pe_slice sl_tupA (pv 4) po_none (po_some (pe_un un_neg pe_int)))
                (pe_callTy call_tuple_of (by rfl) B.tuple (by decide +kernel) (pa_cons (pe_lc (own := [("text", 10)]) (g := gName 10) (tt := tYes) rfl nd (pi_list (pv 8)) (blkOk_by (own := [("text", 10)]) (N := nR) (sc := defScope sRight) (by decide +kernel))
                  (fun _ _ _ _ _ => pg_name (i := 10) nd rfl (Or.inl rfl)) (fun _ _ _ _ _ => pts_nil) (fun _ _ _ _ _ => pe_tup (pa_cons (pv 10) pa_nil))) pa_nil)))
              (pe_tup (pa_cons (pe_tup pa_nil) pa_nil))) (nomark _))
          (pw_or1 (pt_cmpR op_ne (pe_callB call_len_seq (by rfl) B.len PySem.boot_len (pa_cons (pe_prop (pv 7) T.cl PI GI r2 bI .nil pass0 rfl) pa_nil)) (pe_op op_add (pv 2) pe_int) (nomark _))))) (pss_one (ps_ret pe_bl)) pss_nil)
      (pss_cons (ps_expr (pe_meth0 (pv 6) T.cl mR GR r3 bR .nil pass0))
      (pss_cons (ps_if (pt_cmpR op_ne (pe_callB call_len_seq (by rfl) B.len PySem.boot_len (pa_cons (pe_prop (pv 6) T.cl PI GI r2 bI .nil pass0 rfl) pa_nil)) (pe_op op_add (pv 2) pe_int) (nomark _)) (pss_one (ps_ret pe_bl)) pss_nil)
      (pss_cons (ps_if (pt_cmpR (op_neD hr.units)
            (Lm.pe_lamMc (kc := 13) (E := fun _ _ _ => False) (base := base) (c0 := c) (q := qR1) (j := 11) (y := "held") (pv 6) T.cl mP GP2 hr bP passF rfl ⟨_, TB.bm⟩ rfl rfl (Lm.lamP_by (by kernel_rfl)) rfl nd rfl (fun _ _ _ _ _ => rfl)
              (fun f2 c2 P2 A2 o2 t2 H2 E2 hr2 => pe_call GA hr2 (by rfl) mA kA bA .nil pass0 (pa_cons (pv 11) (pa_cons (pv 8) (pa_cons (pv 5) pa_nil)))))
            (pe_lst (pa_cons (pv 3) (pa_cons pe_int pa_nil))) (nomark _)) (pss_one (ps_ret pe_bl)) pss_nil)
      (pss_cons (ps_expr (pe_meth (pv 6) T.cl mWr GWr r5 bWr .nil pass0 (pa_cons pe_str pa_nil)))
      (pss_cons (ps_expr (pe_meth0 (pv 6) T.cl mR GR r3 bR .nil pass0))
      (pss_one (ps_ret (pe_and (pe_cmpR op_eq (pe_callB call_len_seq (by rfl) B.len PySem.boot_len (pa_cons (pe_prop (pv 6) T.cl PI GI r2 bI .nil pass0 rfl) pa_nil)) (pe_op op_add (pv 2) pe_int) (nomark _))
          (pe_one (pe_cmpR op_eq (pe_prop (pv 6) T.cl PF GF r2 bF .nil pass0 rfl) pe_int (nomark _)))))))))))))))))), ?_⟩
    obtain ⟨p, n, TT, rfl, BX, hn, tabs, tpA, tpR, k⟩ := h
    -- size, many
    refine ⟨_, rfl, p, 26, n, rfl, by decide, by decide, BX, by omega, fun H1 v1 b1 BX1 v10 v11 => ⟨_, _, rfl, rfl, _, rfl, p, 4, n + 1, rfl, by decide, by decide, BX1, by omega, fun H2 v2 b2 BX2 v20 v21 => ⟨_, _, rfl, ?_⟩⟩⟩
    obtain ⟨kk, rfl⟩ := Int.eq_ofNat_of_zero_le v20
    have kk3 : kk ≤ 3 := by omega
    have s5 : 5 ≤ 5 + v1 := by omega
    -- log, other
    refine ⟨rfl, _, rfl, _, rfl, 5 + v1, kk, ["a", "bb"], rfl, by omega, by omega, by omega, by omega, by decide, fun t ht => ?_, fun g H3 F3 st3 L3 => ⟨rfl, _, rfl, _, rfl, 5 + v1, kk, ["a"], rfl, by omega, by omega, by omega, by omega, by decide, fun t ht => ?_, fun o H4 G4 st4 M4 => ⟨by show 2 ≤ sizeLine; decide, fun t nt => ⟨t, _, rfl, .inl (.inl upd_same), rfl, _, _, rfl, _, _, rfl, rfl, ?_⟩⟩⟩⟩
    · rcases List.mem_cons.mp ht with q | q
      · rw [q]; exact tx_a s5
      · rw [List.mem_singleton.mp q]; exact tx_bb s5
    · rw [List.mem_singleton.mp ht]; exact tx_a s5
    have S0p : ((["a", "bb"] : List Str).foldl putS (newS (5 + v1) kk)).pins = 0 := by
      show (putS (putS (newS (5 + v1) kk) "a") "bb").pins = 0
      rw [putS_pins, putS_pins]; rfl
    have S0k : ((["a", "bb"] : List Str).foldl putS (newS (5 + v1) kk)).kept = kk := by
      show (putS (putS (newS (5 + v1) kk) "a") "bb").kept = kk
      rw [putS_kept, putS_kept]; rfl
    have S0z : ((["a", "bb"] : List Str).foldl putS (newS (5 + v1) kk)).size = 5 + v1 := by
      show (putS (putS (newS (5 + v1) kk) "a") "bb").size = _
      rw [putS_size, putS_size]; rfl
    have S0B : LogB 3 ((["a", "bb"] : List Str).foldl putS (newS (5 + v1) kk)) := ((newB v20).put "a").put "bb"
    have S0A : AllL (fun t => PyData.strOk t = true) ((["a", "bb"] : List Str).foldl putS (newS (5 + v1) kk)) := ((newAll _ _ _).put (by decide +kernel)).put (by decide +kernel)
    have R0F : Free ((["a"] : List Str).foldl putS (newS (5 + v1) kk)) 1 kk := (newFree (5 + v1) kk).put "a"
    have R0z : ((["a"] : List Str).foldl putS (newS (5 + v1) kk)).size = 5 + v1 := by
      show (putS (newS (5 + v1) kk) "a").size = _
      rw [putS_size]; rfl
    have R0B : LogB 3 ((["a"] : List Str).foldl putS (newS (5 + v1) kk)) := ((newB v20).put "a").mono (by decide)
    generalize (["a", "bb"] : List Str).foldl putS (newS (5 + v1) kk) = S0 at L3 S0p S0k S0z S0B S0A
    generalize (["a"] : List Str).foldl putS (newS (5 + v1) kk) = R0 at M4 R0F R0z R0B
    have e34 : Same H3 (upd H4 t (.tup [.ref g, .ref o])) := (show Same H3 H4 from fun b u e => st4.kp b u (by simp) e).trans (Same.put nt)
    have e25 : Same H2 (upd H4 t (.tup [.ref g, .ref o])) := (show Same H2 H3 from fun b u e => st3.kp b u (by simp) e).trans e34
    have L5 := L3.same e34
    have M5 := M4.same (Same.put (o := .tup [.ref g, .ref o]) nt)
    have dis5 : ∀ c ∈ G4, c ∉ F3 := fun c hc hf => by
      rcases st4.fr c hc with q | q
      · cases q
      · exact L3.tracked c hf q
    have frF : ∀ c ∈ F3, H2 c = none := fun c hc => (st3.fr c hc).resolve_left (by simp)
    have frG : ∀ c ∈ G4, H2 c = none := fun c hc => by
      have q := (st4.fr c hc).resolve_left (by simp)
      cases e : H2 c with
      | none => rfl
      | some u => rw [st3.kp c u (by simp) e] at q; cases q
    have BX5 := BX2.same e25
    obtain ⟨xs2, hp2⟩ := BX2.tr
    have pF3 : p ∉ F3 := fun z => by rw [frF p z] at hp2; cases hp2
    have pG4 : p ∉ G4 := fun z => by rw [frG p z] at hp2; cases hp2
    generalize eH5 : upd H4 t (.tup [.ref g, .ref o]) = H5 at L5 M5 BX5 e25
    show tSeq _ _ _ _ H5
    obtain ⟨dx5, pres5, rs5, L5'⟩ := id L5
    -- log.rotate()
    refine ⟨_, rfl, g, dx5, _, rfl, L5'.obj, look_no (by decide +kernel), g, F3, S0, rfl, L5, Nat.le_trans S0B.len (by decide), S0B.kept, fun H6 F6 st6 L6 => ?_⟩
    obtain ⟨M6, d6⟩ := L5.apart M5 dis5 st6
    obtain ⟨BX6, pF6⟩ := BX5.stp pF3 st6
    have S1B := S0B.rot
    have S1A := S0A.rot
    -- texts, is_key
    refine ⟨_, rfl, p, 4, n + 2, rfl, by decide, by decide, BX6, by omega, fun H7 v3 b7 BX7 v30 v31 => ⟨_, _, rfl, rfl, _, rfl, by omega, by omega, fun D nD => ?_⟩⟩
    refine lc_range (lo := 0) (n := (3 + v3).toNat) (fun i Hx => But p H7 Hx ∧ BoxAt Hx p (n + 3 + 2 * i) ∧ ∃ ts : List Str, Hx D = some (.lst (ts.map V.str)) ∧ ts.length = i ∧ ∀ t ∈ ts, TextOk t) ⟨But.of (Same.put nD), BX7.same (Same.put nD), [], upd_same, rfl, by simp⟩ ?_ ?_
    · rintro i Hx hi ⟨bx, BXx, ts, hD, hl, hok⟩
      have Dp : D ≠ p := fun z => by
        obtain ⟨xs7, hp7⟩ := BX7.tr
        rw [z, hp7] at nD; cases nD
      refine ⟨rfl, _, rfl, p, _, rfl, BXx, by omega, fun Hy t by_ BXy tok => ⟨_, by_ _ _ Dp hD, ?_, ?_, ?_, ts ++ [t], ?_, ?_, ?_⟩⟩
      · have : (1000 : Nat) ≤ sizeLine := by decide
        rw [List.length_map]; omega
      · exact fun b u nb e => by rw [upd_ne (ne_of_none e nD)]; exact by_ b u nb (bx b u nb e)
      · obtain ⟨o', m', c', hp', rest⟩ := BXy
        exact ⟨o', m', c', by rw [upd_ne (Ne.symm Dp)]; exact hp', by obtain ⟨q1, q2, q3, q4, q5⟩ := rest; exact ⟨q1, q2, q3, q4, by omega⟩⟩
      · rw [upd_same, List.map_append]; rfl
      · rw [List.length_append, hl]; rfl
      · intro x hx
        rcases List.mem_append.mp hx with q | q
        · exact hok x q
        · rw [List.mem_singleton.mp q]; exact tok
    rintro H8 ⟨b8, BX8, ts, hD8, tl, tok⟩
    -- is_key
    refine ⟨_, rfl, p, 2, _, rfl, by decide, by decide, BX8, by omega, fun H9 v4 b9 BX9 v40 v41 => ⟨rfl, by show 2 ≤ sizeLine; decide, fun t2 nt2 => ⟨t2, _, rfl, .inl (.inl upd_same), rfl, _, _, rfl, _, _, rfl, rfl, ?_⟩⟩⟩
    generalize decide (V.int v4 = V.int 0) = bk
    have t3 : 3 ≤ ts.length := by omega
    have t6 : ts.length ≤ 6 := by omega
    obtain ⟨xs6, hp6⟩ := BX6.tr
    obtain ⟨xs7, hp7⟩ := BX7.tr
    have Dp : D ≠ p := fun z => by rw [z, hp7] at nD; cases nD
    have b610 : But p H6 (upd H9 t2 (.tup [.ref D, .bl bk])) := b7.trans (b8.trans (b9.trans (But.of (Same.put nt2))))
    have L10 := L6.but hp6 pF6 b610
    have M10 := M6.but hp6 pG4 b610
    have DF : D ∉ F6 := fun z => (L6.but hp6 pF6 b7).tracked D z nD
    have DG : D ∉ G4 := fun z => (M6.but hp6 pG4 b7).tracked D z nD
    have hD10 := (Same.put nt2 : Same H9 (upd H9 t2 (.tup [.ref D, .bl bk]))) _ _ (b9 _ _ Dp hD8)
    have BX10 : BoxAt (upd H9 t2 (.tup [.ref D, .bl bk])) p (n + 20) := (BX9.mono (by omega)).same (Same.put nt2)
    have old10 : ∀ c u, c ≠ p → H c = some u → (upd H9 t2 (.tup [.ref D, .bl bk])) c = some u ∧ c ∉ F6 ∧ c ∉ G4 := fun c u nc e => by
      have h2 := b2 c u nc (b1 c u nc e)
      have cF : c ∉ F3 := fun z => by rw [frF c z] at h2; cases h2
      have cG : c ∉ G4 := fun z => by rw [frG c z] at h2; cases h2
      obtain ⟨q1, q2⟩ := st6.out cF (e25 c u h2)
      exact ⟨b610 c u nc q2, q1, cG⟩
    obtain ⟨xs0, hp0⟩ := BX.tr
    have tabs10 := tabs_but (tabs_stp ((tabs_but tabs hp0 (b1.trans b2)).same e25) L5 st6) hp6 b610
    generalize upd H9 t2 (.tup [.ref D, .bl bk]) = H10 at L10 M10 hD10 BX10 old10 tabs10
    show tSeq _ _ _ _ H10
    obtain ⟨dx10, pres10, rs10, L10'⟩ := id L10
    -- due, begun
    refine ⟨_, rfl, bk, rfl, if_word ⟨_, rfl, g, dx10, _, rfl, L10'.obj, g, F6, rotS S0, 4, rfl, L10, S1B, by decide, fun pb H11 e11 ft11 => ⟨_, _, rfl, ?_⟩⟩⟩
    have L11 := L10.same e11
    have M11 := M10.same e11
    have hD11 := e11 _ _ hD10
    have BX11 := BX10.same e11
    have tabs11 := tabs10.same e11
    -- _law_word(..)
    refine ⟨TT, Pr, [qR2], tpR, .inl TB.code, tabs11, fun T1 f1 c1 P1 H12 sub1 ext1 tabs12 tp1 hc1 => word_ask fun Qf Ew hW => ⟨rfl, hc1, ?_⟩⟩
    have L12 := L11.extN ext1
    have M12 := M11.extN ext1
    have hD12 := ext1 _ _ hD11 (fun ps z => by cases z)
    obtain ⟨dx12, pres12, rs12, L12'⟩ := id L12
    refine ⟨_, rfl, g, dx12, _, rfl, L12'.obj, look_no (by decide +kernel), T1, P1, [], tp1, .inr ⟨qR1, hc1⟩, tabs12, fun T2 f2 c2 P2 H13 sub2 ext2 tabs13 tp2 hc2 => ?_⟩
    have L13 := L12.extN ext2
    have M13 := M12.extN ext2
    have hD13 := ext2 _ _ hD12 (fun ps z => by cases z)
    refine pw_log L13 (F6 ++ G4) (fun c hc => by
      rcases List.mem_append.mp hc with q | q
      · exact L13.tracked c q
      · exact M13.tracked c q) (fun H14 Q' E' st14 L14 hQ hE => ⟨.ref g, rfl, ?_, ?_⟩)
    · exact st14.kp _ _ (L13.out_of hc2 (fun xs z => by unfold Lm.CodeN at z; cases z) (fun _ _ _ z => by unfold Lm.CodeN at z; cases z)) hc2
    obtain ⟨M14, d14⟩ := L13.apart M13 d6 st14
    have hD14 := (st14.out DF hD13).2
    refine ⟨_, rfl, _, rfl, _, rfl, _, rfl, g, o, D, F6, G4, pinS (rotS S0) 1, R0, ts, 4, bk, rfl, L14, M14, d14, hD14, DF, DG, S1B.pin 1, R0B.mono (by decide), by omega, fun x hx => (tok x hx).tx (by show 5 ≤ S0.size; omega), fun x hx => (tok x hx).tx (by omega), fun H15 F15 G15 st15 L15 M15 d15 d => hE (errOf bk) d H15 F15 (F15 ++ G15) _ (errRel bk) (StpN.of st15) L15 fun H16 st16 L16 => hW bk d H16 ?_⟩
    obtain ⟨M16, d16⟩ := L15.apart M15 d15 st16
    have tabs16 := tabs_stp (tabs_stp2 (tabs_stp tabs13 L13 st14) L14 M14 st15) L15 st16
    have stA : StpN (F6 ++ G4) H11 (F15 ++ G15) H16 := ((StpN.ext ext1).trans (StpN.ext ext2)).trans ((StpN.of st14.left).trans ((StpN.of st15).trans (StpN.of st16.left)))
    refine ⟨_, rfl, rfl, _, rfl, ?_⟩
    rw [decide_eq_true rfl]
    refine iteF ?_
    obtain ⟨⟨fs0, f1, f2⟩, f3, f3p, f3z, f4z, f6l, f6f⟩ := facts_log S0p S0k (by omega) tok t3 kk3
    have LB16 : LogB (4 + 2 * ts.length) (s2 (rotS S0) ts) := ((S1B.pin 1).fill ts).pin (-1)
    have MB16 := R0B.fill ts
    have fo := facts_other R0F t3 kk3
    replace L16 : LogAt CL CF H16 g F15 (s2 (rotS S0) ts) := L16
    obtain ⟨hD16a, hD16⟩ := stA.out (b := D) (fun z => (List.mem_append.mp z).elim DF DG) (fun ps z => by cases z) hD11
    have ftb := ft11.same (tup_keep L11 M11 stA)
    rw [f1] at ftb
    have okl : ∀ ls ∈ (s2 (rotS S0) ts).files, ∀ t ∈ ls, PyData.strOk t = true := fun ls hl x hx => by
      rw [f2] at hl
      rcases List.mem_append.mp hl with q | q
      · rcases List.mem_append.mp q with q | q
        · exact S1A ls (by rw [f1]; exact List.mem_append_left _ q) x hx
        · obtain ⟨y, hy, rfl⟩ := List.mem_map.mp q
          rw [List.mem_singleton.mp hx]; exact (tok y hy).2.2
      · rw [List.mem_singleton.mp q] at hx; cases hx
    have fl2 : (s2 (rotS S0) ts).files.length ≤ 16 := by have := LB16.len; omega
    have fl0 : fs0.length + ts.length + 1 ≤ 16 := by rw [f2] at fl2; simp at fl2; omega
    obtain ⟨dx16, pres16, rs16, L16'⟩ := id L16
    -- log.files != begun[:-1] + .. or ..
    refine ⟨_, rfl, g, dx16, _, rfl, L16'.obj, g, F15, _, _, rfl, L16, LB16, by omega, fun q17 H17 e17 ft17 => ⟨_, rfl, _, rfl, _, rfl, cut_files (ftb.same (Same.tups e17)) fun r18 H18 e18 ft18 => ⟨_, rfl, D, rfl, ⟨_, SqL.of (e18 _ _ (e17 _ _ hD16))⟩, fun D2 nD2 => ?_⟩⟩⟩
    have hD18 := e18 _ _ (e17 _ _ hD16)
    refine lc_list (K := K) (a := D) (xs := ts.map V.str) (fun i Hx => Same H18 Hx ∧ ∃ qs : List Addr, Hx D2 = some (.lst (qs.map V.ref)) ∧ FT Hx qs ((ts.take i).map fun t => [t])) ⟨Same.put nD2, [], upd_same, .nil⟩ (fun i Hx _ ⟨sx, _⟩ => SqL.of (sx _ _ hD18)) ?_ ?_
    · rintro i y Hx hi ⟨sx, qs, hD2, ft⟩
      obtain ⟨x, hx, rfl⟩ := str_of_map hi
      have il : i < ts.length := (List.getElem?_eq_some_iff.mp hx).1
      refine ⟨rfl, _, rfl, by show 1 ≤ sizeLine; decide, fun u nu => ⟨_, by rw [upd_ne (ne_of_none hD2 nu)]; exact hD2, ?_, Same.wr nD2 (sx.trans (Same.put nu)), qs ++ [u], by rw [upd_same, List.map_append]; rfl, ?_⟩⟩
      · have := ft.length
        have line : (1000 : Nat) ≤ sizeLine := by decide
        rw [List.length_map, List.length_take] at this
        rw [List.length_map]; omega
      · have e : (ts.take (i + 1)).map (fun t => [t]) = (ts.take i).map (fun t => [t]) ++ [[x]] := by rw [List.take_add_one, hx]; simp
        have uD : u ≠ D2 := Ne.symm (ne_of_none hD2 nu)
        rw [e]
        refine Paired.snoc (ft.same fun b xs z => ?_) (by rw [upd_ne uD]; exact upd_same)
        rw [upd_ne (fun q => by rw [q, hD2] at z; cases z), upd_ne (ne_of_none z nu)]; exact z
    rintro H19 ⟨e19, qs19, hD19, ft19⟩
    rw [List.length_map, List.take_length] at ft19
    refine ⟨D2, _, rfl, .inl ⟨SqL.of hD19, fun p20 np20 => cat_files (fs := fs0) (gs := ts.map fun t => [t]) ((ft18.same (Same.tups e19)).same (Same.tups (Same.put np20))) ⟨qs19, upd_same, ft19.same (Same.tups (Same.put np20))⟩ (fun z => by rw [List.map_eq_nil_iff] at z; rw [z] at t3; simp at t3) (by rw [List.length_map]; omega) fun r21 H21 e21 ft21 =>
      ⟨by show 0 ≤ sizeLine; exact Nat.zero_le _, fun u22 nu22 => ⟨by show 1 ≤ sizeLine; decide, fun u23 nu23 => cat_files (ft21.same (Same.tups ((Same.put nu22).trans (Same.put nu23)))) (gs := [[]]) ⟨[u22], upd_same, .cons (by rw [upd_ne (ne_of_none upd_same nu23)]; exact upd_same) .nil⟩ (by simp) (by rw [List.length_append, List.length_map]; simp; omega) fun r24 H24 e24 ft24 => ?_⟩⟩⟩⟩
    have e1924 : Same H16 H24 := e17.trans (e18.trans (e19.trans ((Same.put np20).trans (e21.trans ((Same.put nu22).trans ((Same.put nu23).trans e24))))))
    have e1724 : Same H17 H24 := e18.trans (e19.trans ((Same.put np20).trans (e21.trans ((Same.put nu22).trans ((Same.put nu23).trans e24)))))
    rw [← f2] at ft24
    refine ⟨dF (s2 (rotS S0) ts).files, dF (s2 (rotS S0) ts).files, (ft17.same (Same.tups e1724)).dp, ft24.dp, shaped_dF okl, shaped_dF okl, _, rfl, ?_⟩
    rw [eqv_dF okl]
    refine iteF ?_
    have M24 := M16.same e1924
    obtain ⟨dxo, preso, rso, M24'⟩ := id M24
    refine ⟨_, rfl, o, dxo, _, rfl, M24'.obj, o, G15, _, _, rfl, M24, MB16, by omega, fun q25 H25 e25' ft25 => ?_⟩
    obtain ⟨qs25, h25, l25⟩ := ft25.len
    refine ⟨q25, qs25, rfl, .inr (.inl (.inl h25)), _, rfl, _, _, rfl, rfl, rfl, _, rfl, ?_⟩
    rw [show decide (V.int ((qs25.length : Nat) : Int) = V.int ((kk : Int) + 1)) = true from decide_eq_true (by rw [l25, fo]; rfl)]
    refine iteF ?_
    have e1625 := e1924.trans e25'
    have L25 := L16.same e1625
    have tabs25 := tabs16.same e1625
    have hD25 := e1625 _ _ hD16
    have DF15 : D ∉ F15 := fun z => hD16a (List.mem_append_left _ z)
    obtain ⟨dx25, pres25, rs25, L25'⟩ := id L25
    -- log.rotate()
    refine ⟨_, rfl, g, dx25, _, rfl, L25'.obj, look_no (by decide +kernel), g, F15, _, rfl, L25, Nat.le_trans LB16.len (by omega), LB16.kept, fun H26 F26 st26 L26 => ?_⟩
    have LB26 := LB16.rot
    have tabs26 := tabs_stp tabs25 L25 st26
    obtain ⟨DF26, hD26⟩ := st26.out DF15 hD25
    obtain ⟨dx26, pres26, rs26, L26'⟩ := id L26
    refine ⟨_, rfl, g, dx26, _, rfl, L26'.obj, g, F26, _, _, rfl, L26, LB26, by omega, fun q27 H27 e27 ft27 => ?_⟩
    obtain ⟨qs27, h27, l27⟩ := ft27.len
    refine ⟨q27, qs27, rfl, .inr (.inl (.inl h27)), _, rfl, _, _, rfl, rfl, rfl, _, rfl, ?_⟩
    rw [show decide (V.int ((qs27.length : Nat) : Int) = V.int ((kk : Int) + 1)) = true from decide_eq_true (by rw [l27, f3]; rfl)]
    refine iteF ?_
    generalize rotS (s2 (rotS S0) ts) = S3 at L26 LB26 f3 f3p f3z f4z f6l f6f
    have L27 := L26.same e27
    have tabs27 := tabs26.same e27
    have hD27 := e27 _ _ hD26
    obtain ⟨dx27, pres27, rs27, L27'⟩ := id L27
    -- log.pinned_while(..)
    refine ⟨_, rfl, g, dx27, _, rfl, L27'.obj, look_no (by decide +kernel), T2, Pr, [qR2], sub2 _ _ (sub1 _ _ tpR), .inl TB.code, tabs27, fun T3 f3' c3 P3 H28 sub3 ext3 tabs28 tp3 hc3 => ?_⟩
    have L28 := L27.extN ext3
    have hD28 := ext3 _ _ hD27 (fun ps z => by cases z)
    refine pw_log L28 F26 L28.tracked (fun H29 Q' E' st29 L29 hQ hE => ⟨.ref g, rfl, ?_, ?_⟩)
    · exact st29.kp _ _ (L28.out_of hc3 (fun xs z => by unfold Lm.CodeN at z; cases z) (fun _ _ _ z => by unfold Lm.CodeN at z; cases z)) hc3
    refine ⟨_, rfl, _, rfl, _, rfl, g, D, F26, pinS S3 1, ts, _, bk, T3, rfl, L29, (st29.out DF26 hD28).2, DF26, LB26.pin 1, by omega, fun x hx => (tok x hx).tx (by show 5 ≤ S3.size; omega), by show 1 ≤ S3.pins + 1; omega, tabs_stp tabs28 L28 st29, sub3 _ _ (sub2 _ _ (sub1 _ _ tpA)), fun q H30 F30 T4 sub4 tabs30 st30 L30 hq qF => hQ (.ref q) H30 F30 F30 _ st30 L30 fun H31 st31 L31 => ?_⟩
    replace L31 : LogAt CL CF H31 g F30 (s4 S3 ts) := L31
    have LB31 : LogB (4 + 2 * ts.length + 1 + 2 * ts.length + 1 + 1) (s4 S3 ts) := ((((((LB26.pin 1).pin 1).fill ts).pin (-1)).rot).rot).pin (-1)
    have tabs31 := tabs_stp tabs30 L30 st31
    have hq31 := (st31.out qF hq).2
    refine ⟨_, rfl, by show 2 ≤ sizeLine; decide, fun l nl => ⟨.list [.str (wordOf bk), .int 2], .list [.str (wordOf bk), .int 2], .lst (SqL.of (by rw [upd_ne (ne_of_none hq31 nl)]; exact hq31)) (.cons (.str _) (.cons (.int 2) .nil)), .lst (SqL.of upd_same) (.cons (.str _) (.cons (.int 2) .nil)), ?_, ?_, _, rfl, ?_⟩⟩
    · cases bk <;> decide +kernel
    · cases bk <;> decide +kernel
    rw [show PyData.eqv (.list [.str (wordOf bk), .int 2]) (.list [.str (wordOf bk), .int 2]) = true from SeqAt.eqv_refl _ (by cases bk <;> decide +kernel)]
    refine iteF ?_
    have e32 : Same H31 (upd H31 l (.lst [.str (wordOf bk), .int 2])) := Same.put nl
    generalize upd H31 l (.lst [.str (wordOf bk), .int 2]) = H32 at e32
    show tSeq _ _ _ _ H32
    have L32 := L31.same e32
    have tabs32 := tabs31.same e32
    obtain ⟨dx32, pres32, rs32, L32'⟩ := id L32
    -- log.write("a")
    refine ⟨_, rfl, g, dx32, _, rfl, L32'.obj, look_no (by decide +kernel), g, F30, _, "a", _, rfl, L32, LB31, by omega, tx_a (by omega), fun H33 F33 st33 L33 => ?_⟩
    have LB33 := LB31.put "a"
    have tabs33 := tabs_stp tabs32 L32 st33
    obtain ⟨dx33, pres33, rs33, L33'⟩ := id L33
    refine ⟨_, rfl, g, dx33, _, rfl, L33'.obj, look_no (by decide +kernel), g, F33, _, rfl, L33, Nat.le_trans LB33.len (by omega), LB33.kept, fun H34 F34 st34 L34 => ?_⟩
    have LB34 := LB33.rot
    have tabs34 := tabs_stp tabs33 L33 st34
    obtain ⟨dx34, pres34, rs34, L34'⟩ := id L34
    refine ⟨_, rfl, g, dx34, _, rfl, L34'.obj, g, F34, _, _, rfl, L34, LB34, by omega, fun q35 H35 e35 ft35 => ?_⟩
    obtain ⟨qs35, h35, l35⟩ := ft35.len
    refine ⟨q35, qs35, rfl, .inr (.inl (.inl h35)), _, rfl, _, _, rfl, rfl, rfl, _, rfl, ?_⟩
    rw [show decide (V.int ((qs35.length : Nat) : Int) = V.int ((kk : Int) + 1)) = true from decide_eq_true (by rw [l35, f6l]; rfl)]
    have L35 := L34.same e35
    obtain ⟨dx35, pres35, rs35, L35'⟩ := id L35
    refine iteT ⟨_, rfl, g, dx35, _, rfl, L35'.obj, g, dx35, _, _, _, _, _, _, rfl, L35'.obj, rfl, ?_⟩
    rw [f6f]
    have stB : StpN F15 H25 F34 H35 := (StpN.of (st26.trans (Stp.of_same e27))).trans ((StpN.ext ext3).trans ((StpN.of st29).trans (st30.trans (StpN.of (st31.trans ((Stp.of_same e32).trans (st33.trans (st34.trans (Stp.of_same e35)))))))))
    have pA : p ∉ F6 ++ G4 := fun z => (List.mem_append.mp z).elim pF6 pG4
    obtain ⟨BX16, pA16⟩ := BX11.stpN pA stA
    obtain ⟨BX35, _⟩ := (BX16.same e1625).stpN (fun z => pA16 (List.mem_append_left _ z)) stB
    refine k H35 T4 (sub1.trans (sub2.trans (sub3.trans sub4))) (tabs34.same e35) (fun c u nc nt e => ?_) BX35
    obtain ⟨q1, q2, q3⟩ := old10 c u nc e
    obtain ⟨q4, q5⟩ := stA.out (fun z => (List.mem_append.mp z).elim q2 q3) nt (e11 _ _ q1)
    exact (stB.out (fun z => q4 (List.mem_append_left _ z)) nt (e1625 _ _ q5)).2
end
end W
namespace W
open PySem L2
abbrev sLaw : Stmt := top 27
section
variable {P : Program} {w : World} {K : PySem.W.Frag} {mg : Str → Option Value} {base : Heap} {Pa Pr : Addr}
theorem sq_ext {H H' : Hp} {a : Addr} {xs : List V} (e : LamX.ExtN H H') (h : SqL K H a xs) : SqL K H' a xs := by
  rcases h with (h | ⟨o, h⟩) | h
  · exact .inl (.inl (e _ _ h (fun ps z => by cases z)))
  · exact .inl (.inr ⟨o, e _ _ h (fun ps z => by cases z)⟩)
  · exact .inr h
/-- the tables that the law's lambdas want -/
def TabsL (Pa Pr : Addr) (H : Hp) : Prop := ∃ T : Lm.TMap, Lm.TabsX T H ∧ T Pa = some [qA1, qA2] ∧ T Pr = some [qR1, qR2]
def spLaw (K : PySem.W.Frag) (Pa Pr : Addr) : Sp := fun vs H Q _ => ∃ (a : Addr) (ns : List Int), vs = [.ref a] ∧ SqL K H a (ns.map V.int) ∧ ns.length ≤ 63 ∧ TabsL Pa Pr H ∧ ∀ H', Q (.bl true) H'
theorem scLaw : FnScope ["script", "k", "box", "turn"] ["script"] (defScope sLaw) := ⟨rfl, rfl, rfl, by decide +kernel, rfl, by decide +kernel, by decide +kernel⟩
theorem ok_law {fa fB fR : Addr} {fd fdB fdR : FuncData} (F : Fun K "law" "law" sLaw fa fd) (B : Bi mg)
    (GB : FnOk P w K mg base CX0 1 fB fdB ["script", "k"] (spBox K)) (kB : PySem.W.keepIn K (.ref fB) = true) (mB : mg "_law_box" = some (.ref fB)) (bB : Binds K fdB ["script", "k"] [])
    (GR : FnOk P w K mg base CX0 16 fR fdR ["box"] (spRight Pa Pr)) (kR : PySem.W.keepIn K (.ref fR) = true) (mR : mg "_law_right" = some (.ref fR)) (bR : Binds K fdR ["box"] []) : FnOk P w K mg base CX0 17 fa fd ["script"] (spLaw K Pa Pr) := by
  refine F.ok scLaw (fun vs H Q E h => ?_) (fun cdv A outer s H vs Q E hr h => ?_)
  · obtain ⟨a, ns, rfl, _⟩ := h
    rfl
  · obtain ⟨a, ns, rfl, hS, hl, tabs, k⟩ := h
    have nd := scLaw.nd
    have r1 : Room 1 _ := hr.mono (by decide)
    refine ⟨_, pss_cons (ps_for PassesOwn.never rfl (pi_range1 (by rfl) B.range (pa_cons (pe_callB (call_max2 rfl) (by rfl) B.max PyProof.Rows.boot_max (pa_cons pe_int (pa_cons (pe_callB (call_min2 rfl) (by rfl) B.min PyProof.Rows.boot_min (pa_cons pe_int (pa_cons (pe_callB call_len_seq (by rfl) B.len PySem.boot_len (pa_cons (pv 0) pa_nil)) pa_nil))) pa_nil))) pa_nil)) (pg_name (i := 1) nd rfl (.inl rfl))
        (pss_cons (ps_set (i := 2) nd rfl (.inr rfl) (pe_call GB r1 (by rfl) mB kB bB .nil pass0 (pa_cons (pv 0) (pa_cons (pv 1) pa_nil))))
        (pss_one (ps_if (pt_not (pt_val (pe_callB (cr_all rfl) (by rfl) B.all (by decide +kernel) (pa_cons
            (pe_lc (own := [("turn", 3)]) (g := gName 3) (tt := tYes) rfl nd (pi_range1 (by rfl) B.range (pa_cons pe_int pa_nil)) (blkOk_by (own := [("turn", 3)]) (N := ["script", "k", "box", "turn"]) (sc := defScope sLaw) (by decide +kernel))
              (fun _ _ _ _ _ => pg_name (i := 3) nd rfl (Or.inl rfl)) (fun _ _ _ _ _ => pts_nil) (fun _ _ _ _ _ => pe_call GR hr (by rfl) mR kR bR .nil pass0 (pa_cons (pv 2) pa_nil))) pa_nil)))) (pss_one (ps_ret pe_bl)) pss_nil))))
      (pss_one (ps_ret pe_bl)), ?_⟩
    refine ⟨_, rfl, a, _, rfl, .inl hS, _, _, rfl, _, _, rfl, ?_⟩
    rw [List.length_map]
    have hb : ∃ m : Nat, (if (if ((ns.length : Nat) : Int) < 3 then ((ns.length : Nat) : Int) else 3) > 1 then (if ((ns.length : Nat) : Int) < 3 then ((ns.length : Nat) : Int) else 3) else 1) = m ∧ m ≤ 3 := by
      by_cases c : ((ns.length : Nat) : Int) < 3
      · rw [if_pos c]
        by_cases c2 : ((ns.length : Nat) : Int) > 1
        · rw [if_pos c2]; exact ⟨ns.length, rfl, by omega⟩
        · rw [if_neg c2]; exact ⟨1, rfl, by decide⟩
      · rw [if_neg c]
        exact ⟨3, by decide, by decide⟩
    obtain ⟨m, e, hm⟩ := hb
    refine ⟨_, rfl, ?_⟩
    rw [e]
    refine ⟨by omega, by omega, ?_⟩
    refine for_range (lo := 0) (n := (m : Int).toNat) (fun i σ H1 => ∃ v1 v2 v3 : Option V, σ = [some (.ref a), v1, v2, v3] ∧ LamX.ExtN H H1 ∧ TabsL Pa Pr H1) ⟨none, none, none, rfl, LamX.ExtN.refl H, tabs⟩ ?_ ?_
    · rintro i σ H1 hi ⟨v1, v2, v3, rfl, s1, tabs1⟩
      refine ⟨_, rfl, _, rfl, a, ns, _, rfl, sq_ext s1 hS, by omega, by omega, fun p H2 np s2 BX2 => ?_⟩
      obtain ⟨T2, t1, t2, t3⟩ := tabs1
      refine ⟨_, rfl, by decide, by decide, fun D nD => ?_⟩
      obtain ⟨xs2, hp2⟩ := BX2.tr
      have Dp : D ≠ p := fun z => by rw [z, hp2] at nD; cases nD
      refine lc_range (lo := 0) (n := (4 : Int).toNat) (fun j Hx => (∀ b o, b ≠ p → (∀ ps, o ≠ .tbl ps) → H2 b = some o → Hx b = some o) ∧ BoxAt Hx p (20 * j) ∧ TabsL Pa Pr Hx ∧ Hx D = some (.lst ((List.replicate j true).map V.bl)))
        ⟨fun b o _ _ q => (Same.put nD : Same H2 _) b o q, BX2.same (Same.put nD), ⟨T2, (t1.same s2).same (Same.put nD), t2, t3⟩, upd_same⟩ ?_ ?_
      · rintro j Hx hj ⟨kx, BXx, ⟨Tx, tx1, tx2, tx3⟩, hD⟩
        have hj4 : j < 4 := hj
        refine ⟨rfl, _, rfl, p, 20 * j, Tx, rfl, BXx, by omega, tx1, tx2, tx3, fun Hy Ty suby taby ky BXy => ?_⟩
        have hDy := ky D _ Dp (fun ps z => by cases z) hD
        refine ⟨_, hDy, ?_, fun b o nb nt q => ?_, ?_, ⟨Ty, tabs_but taby hDy (But.own (But.of (Same.refl Hy))), suby _ _ tx2, suby _ _ tx3⟩, ?_⟩
        · have line : (1000 : Nat) ≤ sizeLine := by decide
          rw [List.length_map, List.length_replicate]; omega
        · rw [upd_ne (ne_of_none q nD)]
          exact ky b o nb nt (kx b o nb nt q)
        · obtain ⟨o', m', c', hp', q1, q2, q3, q4, q5⟩ := BXy
          exact ⟨o', m', c', by rw [upd_ne (Ne.symm Dp)]; exact hp', q1, q2, q3, q4, by omega⟩
        · rw [upd_same, List.replicate_succ', List.map_append]; rfl
      · rintro H3 ⟨k3, BX3, tabs3, hD3⟩
        refine ⟨D, _, rfl, SqL.of hD3, true, rfl, ?_⟩
        refine iteF ⟨_, _, _, rfl, s1.trans fun b o q nt => k3 b o (ne_of_none q np) nt (s2 b o q), tabs3⟩
    · rintro σ H1 ⟨v1, v2, v3, rfl, s1, _⟩
      exact k H1
end
end W
/-! ### what the top has written (each a fact that k_is finds), and the head of the law -/
namespace W
open PySem L2
theorem tabs0 {Pa Pr : Addr} {H : Hp} (ne : Pa ≠ Pr) (ha : H Pa = some (.tbl #[])) (hr : H Pr = some (.tbl #[])) : TabsL Pa Pr H := by
  refine ⟨fun b => if b = Pa then some [qA1, qA2] else if b = Pr then some [qR1, qR2] else none, fun P l h => ?_, if_pos rfl, (if_neg (Ne.symm ne)).trans (if_pos rfl)⟩
  have e : H P = some (.tbl #[]) := by
    by_cases h1 : P = Pa
    · rw [h1]; exact ha
    · by_cases h2 : P = Pr
      · rw [h2]; exact hr
      · dsimp only at h
        rw [if_neg h1, if_neg h2] at h; cases h
  refine ⟨#[], e, fun q qs _ => ⟨True.intro, fun pos cv hc => ?_⟩⟩
  have z : codeAmong pos [] = some cv := hc
  simp [codeAmong] at z
theorem all_mk {l : PySem.W.OpenLaw} {w : World} {K : PySem.W.Frag} {h : Heap} {mg : Str → Option Value} {fa CF CP CL pMa pFi pFl cAr cRi PAr PRi fLf fPi fEn fEx fLi fCk fPu fWr fWa fRo fPd fPw fMa fFi fFl fNu fBx fTk fOf fTx fFd fEd fWd fBo fAr fRi fLw : Addr} {ts : List Addr} {restMa restFi restFl : List Value} (X : K.In h) (G : h.Ns mainGlobals mg) (hfa : mg "law" = some (.ref fa)) (tabs : ∀ P ∈ ts, h.get? P = some (PySem.W.tabObj #[]))
    {odLf anLf odPi anPi odEn anEn odEx anEx odLi anLi odCk anCk odPu anPu odWr anWr odWa anWa odRo anRo odPd anPd odPw anPw odMa anMa odFi anFi odFl anFl odNu anNu odBx anBx odTk anTk odOf anOf odTx anTx odFd anFd odEd anEd odWd anWd odBo anBo odAr anAr odRi anRi odLw anLw : Option Addr} {slLf slPi slEn slEx slLi slCk slPu slWr slWa slRo slPd slPw slMa slFi slFl slNu slBx slTk slOf slTx slFd slEd slWd slBo slAr slRi slLw : Array (Option Value)}
    {ocLf dcLf pmLf ctLf kVLf cdLf ocPi dcPi pmPi ctPi kVPi cdPi ocEn dcEn pmEn ctEn kVEn cdEn ocEx dcEx pmEx ctEx kVEx cdEx ocLi dcLi pmLi ctLi kVLi cdLi ocCk dcCk pmCk ctCk kVCk cdCk ocPu dcPu pmPu ctPu kVPu cdPu ocWr dcWr pmWr ctWr kVWr cdWr ocWa dcWa pmWa ctWa kVWa cdWa ocRo dcRo pmRo ctRo kVRo cdRo ocPd dcPd pmPd ctPd kVPd cdPd ocPw dcPw pmPw ctPw kVPw cdPw ocMa dcMa pmMa ctMa kVMa cdMa ocFi dcFi pmFi ctFi kVFi cdFi ocFl dcFl pmFl ctFl kVFl cdFl ocNu dcNu pmNu ctNu kVNu cdNu ocBx dcBx pmBx ctBx kVBx cdBx ocTk dcTk pmTk ctTk kVTk cdTk ocOf dcOf pmOf ctOf kVOf cdOf ocTx dcTx pmTx ctTx kVTx cdTx ocFd dcFd pmFd ctFd kVFd cdFd ocEd dcEd pmEd ctEd kVEd cdEd ocWd dcWd pmWd ctWd kVWd cdWd ocBo dcBo pmBo ctBo kVBo cdBo ocAr dcAr pmAr ctAr kVAr ocRi dcRi pmRi ctRi kVRi ocLw dcLw pmLw ctLw kVLw cdLw : Value} {tkM tkF : Tok}
    {ccAr ccRi : Value} {coAr coRi : Option Addr} {vcAr vcRi : Array Value} {scAr scRi : Array (Option Value)}
    (aCF : PySem.W.nsIn K mainGlobals "LogFile" = some (some (.ref CF)))
    (pgCF : PySem.W.plainGet K CF Str.empty = true)
    (hdCF : PySem.W.hasDictIn K CF = true)
    (poCF : PySem.W.plainOver K CF = true)
    (saCF : PySem.W.findIn K (.ref CF) "__setattr__" = some (some (.builtin "object.__setattr__")))
    (mkCF : PySem.W.makesIn K CF = true)
    (kcCF : PySem.W.keepIn K (.ref CF) = true)
    (nCF_begin : PySem.W.findIn K (.ref CF) "begin" = some none)
    (nCF_lines : PySem.W.findIn K (.ref CF) "lines" = some none)
    (aLf : PySem.W.findIn K (.ref CF) "__init__" = some (some (.ref fLf)))
    (iLf : PySem.W.isFn K (.ref fLf) = true)
    (lLf : K.lookup fLf = some ⟨ocLf, odLf, .func (PySem.W.fnOf "__init__" "LogFile.__init__" (defArgs sLfInit) (defBody sLfInit) (defScope sLfInit) .none kVLf dcLf pmLf anLf cdLf ctLf), slLf⟩)
    (cLf : PySem.W.codeIn K cdLf "LogFile.__init__" = true)
    (kLf : PySem.W.keepIn K (.ref fLf) = true)
    (aCP : PySem.W.nsIn K mainGlobals "Pin" = some (some (.ref CP)))
    (pgCP : PySem.W.plainGet K CP Str.empty = true)
    (hdCP : PySem.W.hasDictIn K CP = true)
    (poCP : PySem.W.plainOver K CP = true)
    (saCP : PySem.W.findIn K (.ref CP) "__setattr__" = some (some (.builtin "object.__setattr__")))
    (mkCP : PySem.W.makesIn K CP = true)
    (kcCP : PySem.W.keepIn K (.ref CP) = true)
    (nCP_pinned_log : PySem.W.findIn K (.ref CP) "pinned_log" = some none)
    (aPi : PySem.W.findIn K (.ref CP) "__init__" = some (some (.ref fPi)))
    (iPi : PySem.W.isFn K (.ref fPi) = true)
    (lPi : K.lookup fPi = some ⟨ocPi, odPi, .func (PySem.W.fnOf "__init__" "Pin.__init__" (defArgs sPinInit) (defBody sPinInit) (defScope sPinInit) .none kVPi dcPi pmPi anPi cdPi ctPi), slPi⟩)
    (cPi : PySem.W.codeIn K cdPi "Pin.__init__" = true)
    (kPi : PySem.W.keepIn K (.ref fPi) = true)
    (aEn : PySem.W.findIn K (.ref CP) "__enter__" = some (some (.ref fEn)))
    (iEn : PySem.W.isFn K (.ref fEn) = true)
    (lEn : K.lookup fEn = some ⟨ocEn, odEn, .func (PySem.W.fnOf "__enter__" "Pin.__enter__" (defArgs sEnter) (defBody sEnter) (defScope sEnter) .none kVEn dcEn pmEn anEn cdEn ctEn), slEn⟩)
    (cEn : PySem.W.codeIn K cdEn "Pin.__enter__" = true)
    (kEn : PySem.W.keepIn K (.ref fEn) = true)
    (aEx : PySem.W.findIn K (.ref CP) "__exit__" = some (some (.ref fEx)))
    (iEx : PySem.W.isFn K (.ref fEx) = true)
    (lEx : K.lookup fEx = some ⟨ocEx, odEx, .func (PySem.W.fnOf "__exit__" "Pin.__exit__" (defArgs sExit) (defBody sExit) (defScope sExit) .none kVEx dcEx pmEx anEx cdEx ctEx), slEx⟩)
    (cEx : PySem.W.codeIn K cdEx "Pin.__exit__" = true)
    (kEx : PySem.W.keepIn K (.ref fEx) = true)
    (aCL : PySem.W.nsIn K mainGlobals "Log" = some (some (.ref CL)))
    (pgCL : PySem.W.plainGet K CL Str.empty = true)
    (hdCL : PySem.W.hasDictIn K CL = true)
    (poCL : PySem.W.plainOver K CL = true)
    (saCL : PySem.W.findIn K (.ref CL) "__setattr__" = some (some (.builtin "object.__setattr__")))
    (mkCL : PySem.W.makesIn K CL = true)
    (kcCL : PySem.W.keepIn K (.ref CL) = true)
    (nCL_own_size : PySem.W.findIn K (.ref CL) "own_size" = some none)
    (nCL_own_kept : PySem.W.findIn K (.ref CL) "own_kept" = some none)
    (nCL_present : PySem.W.findIn K (.ref CL) "present" = some none)
    (nCL_present_fill : PySem.W.findIn K (.ref CL) "present_fill" = some none)
    (nCL_count : PySem.W.findIn K (.ref CL) "count" = some none)
    (nCL_pins : PySem.W.findIn K (.ref CL) "pins" = some none)
    (aLi : PySem.W.findIn K (.ref CL) "__init__" = some (some (.ref fLi)))
    (iLi : PySem.W.isFn K (.ref fLi) = true)
    (lLi : K.lookup fLi = some ⟨ocLi, odLi, .func (PySem.W.fnOf "__init__" "Log.__init__" (defArgs sLogInit) (defBody sLogInit) (defScope sLogInit) .none kVLi dcLi pmLi anLi cdLi ctLi), slLi⟩)
    (cLi : PySem.W.codeIn K cdLi "Log.__init__" = true)
    (kLi : PySem.W.keepIn K (.ref fLi) = true)
    (aCk : PySem.W.findIn K (.ref CL) "check" = some (some (.ref fCk)))
    (iCk : PySem.W.isFn K (.ref fCk) = true)
    (lCk : K.lookup fCk = some ⟨ocCk, odCk, .func (PySem.W.fnOf "check" "Log.check" (defArgs sCheck) (defBody sCheck) (defScope sCheck) .none kVCk dcCk pmCk anCk cdCk ctCk), slCk⟩)
    (cCk : PySem.W.codeIn K cdCk "Log.check" = true)
    (kCk : PySem.W.keepIn K (.ref fCk) = true)
    (aPu : PySem.W.findIn K (.ref CL) "put" = some (some (.ref fPu)))
    (iPu : PySem.W.isFn K (.ref fPu) = true)
    (lPu : K.lookup fPu = some ⟨ocPu, odPu, .func (PySem.W.fnOf "put" "Log.put" (defArgs sPut) (defBody sPut) (defScope sPut) .none kVPu dcPu pmPu anPu cdPu ctPu), slPu⟩)
    (cPu : PySem.W.codeIn K cdPu "Log.put" = true)
    (kPu : PySem.W.keepIn K (.ref fPu) = true)
    (aWr : PySem.W.findIn K (.ref CL) "write" = some (some (.ref fWr)))
    (iWr : PySem.W.isFn K (.ref fWr) = true)
    (lWr : K.lookup fWr = some ⟨ocWr, odWr, .func (PySem.W.fnOf "write" "Log.write" (defArgs sWrite) (defBody sWrite) (defScope sWrite) .none kVWr dcWr pmWr anWr cdWr ctWr), slWr⟩)
    (cWr : PySem.W.codeIn K cdWr "Log.write" = true)
    (kWr : PySem.W.keepIn K (.ref fWr) = true)
    (aWa : PySem.W.findIn K (.ref CL) "write_all" = some (some (.ref fWa)))
    (iWa : PySem.W.isFn K (.ref fWa) = true)
    (lWa : K.lookup fWa = some ⟨ocWa, odWa, .func (PySem.W.fnOf "write_all" "Log.write_all" (defArgs sWall) (defBody sWall) (defScope sWall) .none kVWa dcWa pmWa anWa cdWa ctWa), slWa⟩)
    (cWa : PySem.W.codeIn K cdWa "Log.write_all" = true)
    (kWa : PySem.W.keepIn K (.ref fWa) = true)
    (aRo : PySem.W.findIn K (.ref CL) "rotate" = some (some (.ref fRo)))
    (iRo : PySem.W.isFn K (.ref fRo) = true)
    (lRo : K.lookup fRo = some ⟨ocRo, odRo, .func (PySem.W.fnOf "rotate" "Log.rotate" (defArgs sRot) (defBody sRot) (defScope sRot) .none kVRo dcRo pmRo anRo cdRo ctRo), slRo⟩)
    (cRo : PySem.W.codeIn K cdRo "Log.rotate" = true)
    (kRo : PySem.W.keepIn K (.ref fRo) = true)
    (aPd : PySem.W.findIn K (.ref CL) "pinned" = some (some (.ref fPd)))
    (iPd : PySem.W.isFn K (.ref fPd) = true)
    (lPd : K.lookup fPd = some ⟨ocPd, odPd, .func (PySem.W.fnOf "pinned" "Log.pinned" (defArgs sPinned) (defBody sPinned) (defScope sPinned) .none kVPd dcPd pmPd anPd cdPd ctPd), slPd⟩)
    (cPd : PySem.W.codeIn K cdPd "Log.pinned" = true)
    (kPd : PySem.W.keepIn K (.ref fPd) = true)
    (aPw : PySem.W.findIn K (.ref CL) "pinned_while" = some (some (.ref fPw)))
    (iPw : PySem.W.isFn K (.ref fPw) = true)
    (lPw : K.lookup fPw = some ⟨ocPw, odPw, .func (PySem.W.fnOf "pinned_while" "Log.pinned_while" (defArgs sPwhile) (defBody sPwhile) (defScope sPwhile) .none kVPw dcPw pmPw anPw cdPw ctPw), slPw⟩)
    (cPw : PySem.W.codeIn K cdPw "Log.pinned_while" = true)
    (kPw : PySem.W.keepIn K (.ref fPw) = true)
    (b1 : PySem.W.specialIn K (.ref fWa) "__get__" = some (some (.builtin "function.__get__")))
    (b2 : PySem.W.takesIn K (.ref fWa) = some false)
    (b3 : PySem.W.fnIn K fWa = true)
    (m1 : PySem.W.readsIn K CL (.type "type") = true)
    (m2 : PySem.W.specialIn K (.ref CL) "__getattribute__" = some (some (.builtin "type.__getattribute__")))
    (m3 : PySem.W.findCls K (.ref CL) (.type "type") "made" = some (.get (.builtin "classmethod.__get__") (.ref pMa) .none (.ref CL)))
    (m4 : PySem.W.recIn K pMa "classmethod" = some (.ref fMa :: restMa))
    (m5 : PySem.W.fnIn K fMa = true)
    (lMa : K.lookup fMa = some ⟨ocMa, odMa, .func (PySem.W.fnOf "made" "Log.made" (defArgs sMade) (defBody sMade) (defScope sMade) .none kVMa dcMa pmMa anMa cdMa ctMa), slMa⟩)
    (cMa : PySem.W.codeIn K cdMa "Log.made" = true)
    (kMa : PySem.W.keepIn K (.ref fMa) = true)
    (p1Fi : PySem.W.findIn K (.ref CL) "files" = some (some (.ref pFi)))
    (p2Fi : PySem.W.specialIn K (.ref pFi) "__get__" = some (some (.builtin "property.__get__")))
    (p3Fi : PySem.W.takesIn K (.ref pFi) = some true)
    (p4Fi : PySem.W.recIn K pFi "property" = some (.ref fFi :: restFi))
    (lFi : K.lookup fFi = some ⟨ocFi, odFi, .func (PySem.W.fnOf "files" "Log.files" (defArgs sFiles) (defBody sFiles) (defScope sFiles) .none kVFi dcFi pmFi anFi cdFi ctFi), slFi⟩)
    (cFi : PySem.W.codeIn K cdFi "Log.files" = true)
    (kFi : PySem.W.keepIn K (.ref fFi) = true)
    (p1Fl : PySem.W.findIn K (.ref CL) "fill" = some (some (.ref pFl)))
    (p2Fl : PySem.W.specialIn K (.ref pFl) "__get__" = some (some (.builtin "property.__get__")))
    (p3Fl : PySem.W.takesIn K (.ref pFl) = some true)
    (p4Fl : PySem.W.recIn K pFl "property" = some (.ref fFl :: restFl))
    (lFl : K.lookup fFl = some ⟨ocFl, odFl, .func (PySem.W.fnOf "fill" "Log.fill" (defArgs sFill) (defBody sFill) (defScope sFill) .none kVFl dcFl pmFl anFl cdFl ctFl), slFl⟩)
    (cFl : PySem.W.codeIn K cdFl "Log.fill" = true)
    (kFl : PySem.W.keepIn K (.ref fFl) = true)
    (aNu : PySem.W.nsIn K mainGlobals "is_number" = some (some (.ref fNu)))
    (lNu : K.lookup fNu = some ⟨ocNu, odNu, .func (PySem.W.fnOf "is_number" "is_number" (defArgs sIsNum) (defBody sIsNum) (defScope sIsNum) .none kVNu dcNu pmNu anNu cdNu ctNu), slNu⟩)
    (cNu : PySem.W.codeIn K cdNu "is_number" = true)
    (kNu : PySem.W.keepIn K (.ref fNu) = true)
    (aBx : PySem.W.nsIn K mainGlobals "_law_box" = some (some (.ref fBx)))
    (lBx : K.lookup fBx = some ⟨ocBx, odBx, .func (PySem.W.fnOf "_law_box" "_law_box" (defArgs sBox) (defBody sBox) (defScope sBox) .none kVBx dcBx pmBx anBx cdBx ctBx), slBx⟩)
    (cBx : PySem.W.codeIn K cdBx "_law_box" = true)
    (kBx : PySem.W.keepIn K (.ref fBx) = true)
    (aTk : PySem.W.nsIn K mainGlobals "_law_take" = some (some (.ref fTk)))
    (lTk : K.lookup fTk = some ⟨ocTk, odTk, .func (PySem.W.fnOf "_law_take" "_law_take" (defArgs sTake) (defBody sTake) (defScope sTake) .none kVTk dcTk pmTk anTk cdTk ctTk), slTk⟩)
    (cTk : PySem.W.codeIn K cdTk "_law_take" = true)
    (kTk : PySem.W.keepIn K (.ref fTk) = true)
    (aOf : PySem.W.nsIn K mainGlobals "_law_of" = some (some (.ref fOf)))
    (lOf : K.lookup fOf = some ⟨ocOf, odOf, .func (PySem.W.fnOf "_law_of" "_law_of" (defArgs sOf) (defBody sOf) (defScope sOf) .none kVOf dcOf pmOf anOf cdOf ctOf), slOf⟩)
    (cOf : PySem.W.codeIn K cdOf "_law_of" = true)
    (kOf : PySem.W.keepIn K (.ref fOf) = true)
    (aTx : PySem.W.nsIn K mainGlobals "_law_text" = some (some (.ref fTx)))
    (lTx : K.lookup fTx = some ⟨ocTx, odTx, .func (PySem.W.fnOf "_law_text" "_law_text" (defArgs sText) (defBody sText) (defScope sText) .none kVTx dcTx pmTx anTx cdTx ctTx), slTx⟩)
    (cTx : PySem.W.codeIn K cdTx "_law_text" = true)
    (kTx : PySem.W.keepIn K (.ref fTx) = true)
    (aFd : PySem.W.nsIn K mainGlobals "_law_filled" = some (some (.ref fFd)))
    (lFd : K.lookup fFd = some ⟨ocFd, odFd, .func (PySem.W.fnOf "_law_filled" "_law_filled" (defArgs sFilled) (defBody sFilled) (defScope sFilled) .none kVFd dcFd pmFd anFd cdFd ctFd), slFd⟩)
    (cFd : PySem.W.codeIn K cdFd "_law_filled" = true)
    (kFd : PySem.W.keepIn K (.ref fFd) = true)
    (aEd : PySem.W.nsIn K mainGlobals "_law_ends" = some (some (.ref fEd)))
    (lEd : K.lookup fEd = some ⟨ocEd, odEd, .func (PySem.W.fnOf "_law_ends" "_law_ends" (defArgs sEnds) (defBody sEnds) (defScope sEnds) .none kVEd dcEd pmEd anEd cdEd ctEd), slEd⟩)
    (cEd : PySem.W.codeIn K cdEd "_law_ends" = true)
    (kEd : PySem.W.keepIn K (.ref fEd) = true)
    (aWd : PySem.W.nsIn K mainGlobals "_law_word" = some (some (.ref fWd)))
    (lWd : K.lookup fWd = some ⟨ocWd, odWd, .func (PySem.W.fnOf "_law_word" "_law_word" (defArgs sWord) (defBody sWord) (defScope sWord) .none kVWd dcWd pmWd anWd cdWd ctWd), slWd⟩)
    (cWd : PySem.W.codeIn K cdWd "_law_word" = true)
    (kWd : PySem.W.keepIn K (.ref fWd) = true)
    (aBo : PySem.W.nsIn K mainGlobals "_law_both" = some (some (.ref fBo)))
    (lBo : K.lookup fBo = some ⟨ocBo, odBo, .func (PySem.W.fnOf "_law_both" "_law_both" (defArgs sBoth) (defBody sBoth) (defScope sBoth) .none kVBo dcBo pmBo anBo cdBo ctBo), slBo⟩)
    (cBo : PySem.W.codeIn K cdBo "_law_both" = true)
    (kBo : PySem.W.keepIn K (.ref fBo) = true)
    (aAr : PySem.W.nsIn K mainGlobals "_law_around" = some (some (.ref fAr)))
    (lAr : K.lookup fAr = some ⟨ocAr, odAr, .func (PySem.W.fnOf "_law_around" "_law_around" (defArgs sAround) (defBody sAround) (defScope sAround) .none kVAr dcAr pmAr anAr (.ref cAr) ctAr), slAr⟩)
    (cAr_ : PySem.W.codeIn K (.ref cAr) "_law_around" = true)
    (kAr : PySem.W.keepIn K (.ref fAr) = true)
    (lcAr : K.lookup cAr = some ⟨ccAr, coAr, .fields vcAr, scAr⟩)
    (leAr : (vcAr[11]? : Option Value) = some (.ref PAr))
    (lhAr : PySem.W.codeHdIn K cAr PAr = true)
    (lnAr : K.lookup PAr = none)
    (lmAr : PAr ∈ ts)
    (aRi : PySem.W.nsIn K mainGlobals "_law_right" = some (some (.ref fRi)))
    (lRi : K.lookup fRi = some ⟨ocRi, odRi, .func (PySem.W.fnOf "_law_right" "_law_right" (defArgs sRight) (defBody sRight) (defScope sRight) .none kVRi dcRi pmRi anRi (.ref cRi) ctRi), slRi⟩)
    (cRi_ : PySem.W.codeIn K (.ref cRi) "_law_right" = true)
    (kRi : PySem.W.keepIn K (.ref fRi) = true)
    (lcRi : K.lookup cRi = some ⟨ccRi, coRi, .fields vcRi, scRi⟩)
    (leRi : (vcRi[11]? : Option Value) = some (.ref PRi))
    (lhRi : PySem.W.codeHdIn K cRi PRi = true)
    (lnRi : K.lookup PRi = none)
    (lmRi : PRi ∈ ts)
    (aLw : PySem.W.nsIn K mainGlobals "law" = some (some (.ref fLw)))
    (lLw : K.lookup fLw = some ⟨ocLw, odLw, .func (PySem.W.fnOf "law" "law" (defArgs sLaw) (defBody sLaw) (defScope sLaw) .none kVLw dcLw pmLw anLw cdLw ctLw), slLw⟩)
    (cLw : PySem.W.codeIn K cdLw "law" = true)
    (kLw : PySem.W.keepIn K (.ref fLw) = true)
    (neT : PAr ≠ PRi)
    (aMO : PySem.W.nsIn K mainGlobals "MOST" = some (some (.int 1000000 tkM)))
    (aFE : PySem.W.nsIn K mainGlobals "FEED" = some (some (.str "\n" tkF)))
    (z_range : PySem.W.nsIn K mainGlobals "range" = some none)
    (z_len : PySem.W.nsIn K mainGlobals "len" = some none)
    (z_tuple : PySem.W.nsIn K mainGlobals "tuple" = some none)
    (z_min : PySem.W.nsIn K mainGlobals "min" = some none)
    (z_max : PySem.W.nsIn K mainGlobals "max" = some none)
    (z_abs : PySem.W.nsIn K mainGlobals "abs" = some none)
    (z_int : PySem.W.nsIn K mainGlobals "int" = some none)
    (z_str : PySem.W.nsIn K mainGlobals "str" = some none)
    (z_bool : PySem.W.nsIn K mainGlobals "bool" = some none)
    (z_all : PySem.W.nsIn K mainGlobals "all" = some none)
    (z_isinstance : PySem.W.nsIn K mainGlobals "isinstance" = some none)
    (z_KeyError : PySem.W.nsIn K mainGlobals "KeyError" = some none)
    (z_ZeroDivisionError : PySem.W.nsIn K mainGlobals "ZeroDivisionError" = some none) :
    LamX.LawAtS l w K CX0 17 63 "script" mg fa h := by
  have e := hfa.symm.trans (PySem.W.mg_of X G aLw)
  cases e
  have B : Bi mg := ⟨PySem.W.mg_none_of X G z_range, PySem.W.mg_none_of X G z_len, PySem.W.mg_none_of X G z_tuple, PySem.W.mg_none_of X G z_min, PySem.W.mg_none_of X G z_max, PySem.W.mg_none_of X G z_abs, PySem.W.mg_none_of X G z_int, PySem.W.mg_none_of X G z_str, PySem.W.mg_none_of X G z_bool, PySem.W.mg_none_of X G z_all, PySem.W.mg_none_of X G z_isinstance⟩
  have TF : KF K CF := ⟨⟨pgCF, hdCF, poCF, saCF⟩, nCF_begin, nCF_lines⟩
  have mCF := PySem.W.mg_of X G aCF
  have TP : KP K CP := ⟨⟨pgCP, hdCP, poCP, saCP⟩, nCP_pinned_log⟩
  have mCP := PySem.W.mg_of X G aCP
  have TL : KL K CL := ⟨⟨pgCL, hdCL, poCL, saCL⟩, nCL_own_size, nCL_own_kept, nCL_present, nCL_present_fill, nCL_count, nCL_pins⟩
  have mCL := PySem.W.mg_of X G aCL
  have FLf := fun_mk (st := sLfInit) lLf cLf kLf
  have bLf := FLf.binds (ps := ["self", "begin"]) fun _ _ _ _ _ _ us hl => match us, hl with | [_, _], _ => rfl
  have FPi := fun_mk (st := sPinInit) lPi cPi kPi
  have bPi := FPi.binds (ps := ["self", "log"]) fun _ _ _ _ _ _ us hl => match us, hl with | [_, _], _ => rfl
  have FEn := fun_mk (st := sEnter) lEn cEn kEn
  have bEn := FEn.binds (ps := ["self"]) fun _ _ _ _ _ _ us hl => match us, hl with | [_], _ => rfl
  have FEx := fun_mk (st := sExit) lEx cEx kEx
  have bEx := FEx.binds (ps := ["self", "kind", "value", "trace"]) fun _ _ _ _ _ _ us hl => match us, hl with | [_, _, _, _], _ => rfl
  have FLi := fun_mk (st := sLogInit) lLi cLi kLi
  have bLi := FLi.binds (ps := ["self", "size", "kept"]) fun _ _ _ _ _ _ us hl => match us, hl with | [_, _, _], _ => rfl
  have FCk := fun_mk (st := sCheck) lCk cCk kCk
  have bCk := FCk.binds (ps := ["self", "line"]) fun _ _ _ _ _ _ us hl => match us, hl with | [_, _], _ => rfl
  have FPu := fun_mk (st := sPut) lPu cPu kPu
  have bPu := FPu.binds (ps := ["self", "line"]) fun _ _ _ _ _ _ us hl => match us, hl with | [_, _], _ => rfl
  have FWr := fun_mk (st := sWrite) lWr cWr kWr
  have bWr := FWr.binds (ps := ["self", "line"]) fun _ _ _ _ _ _ us hl => match us, hl with | [_, _], _ => rfl
  have FWa := fun_mk (st := sWall) lWa cWa kWa
  have FRo := fun_mk (st := sRot) lRo cRo kRo
  have bRo := FRo.binds (ps := ["self"]) fun _ _ _ _ _ _ us hl => match us, hl with | [_], _ => rfl
  have FPd := fun_mk (st := sPinned) lPd cPd kPd
  have bPd := FPd.binds (ps := ["self"]) fun _ _ _ _ _ _ us hl => match us, hl with | [_], _ => rfl
  have FPw := fun_mk (st := sPwhile) lPw cPw kPw
  have bPw := FPw.binds (ps := ["self", "look"]) fun _ _ _ _ _ _ us hl => match us, hl with | [_, _], _ => rfl
  have FMa := fun_mk (st := sMade) lMa cMa kMa
  have FFi := fun_mk (st := sFiles) lFi cFi kFi
  have bFi := FFi.binds (ps := ["self"]) fun _ _ _ _ _ _ us hl => match us, hl with | [_], _ => rfl
  have FFl := fun_mk (st := sFill) lFl cFl kFl
  have bFl := FFl.binds (ps := ["self"]) fun _ _ _ _ _ _ us hl => match us, hl with | [_], _ => rfl
  have FNu := fun_mk (st := sIsNum) lNu cNu kNu
  have bNu := FNu.binds (ps := ["value", "least", "most"]) fun _ _ _ _ _ _ us hl => match us, hl with | [_, _, _], _ => rfl
  have mNu := PySem.W.mg_of X G aNu
  have FBx := fun_mk (st := sBox) lBx cBx kBx
  have bBx := FBx.binds (ps := ["script", "k"]) fun _ _ _ _ _ _ us hl => match us, hl with | [_, _], _ => rfl
  have mBx := PySem.W.mg_of X G aBx
  have FTk := fun_mk (st := sTake) lTk cTk kTk
  have bTk := FTk.binds (ps := ["box", "many"]) fun _ _ _ _ _ _ us hl => match us, hl with | [_, _], _ => rfl
  have mTk := PySem.W.mg_of X G aTk
  have FOf := fun_mk (st := sOf) lOf cOf kOf
  have bOf := FOf.binds (ps := ["box", "some"]) fun _ _ _ _ _ _ us hl => match us, hl with | [_, _], _ => rfl
  have mOf := PySem.W.mg_of X G aOf
  have FTx := fun_mk (st := sText) lTx cTx kTx
  have bTx := FTx.binds (ps := ["box"]) fun _ _ _ _ _ _ us hl => match us, hl with | [_], _ => rfl
  have mTx := PySem.W.mg_of X G aTx
  have FFd := fun_mk (st := sFilled) lFd cFd kFd
  have bFd := FFd.binds (ps := ["log", "texts"]) fun _ _ _ _ _ _ us hl => match us, hl with | [_, _], _ => rfl
  have mFd := PySem.W.mg_of X G aFd
  have FEd := fun_mk (st := sEnds) lEd cEd kEd
  have bEd := FEd.binds (ps := ["log", "texts", "is_key"]) fun _ _ _ _ _ _ us hl => match us, hl with | [_, _, _], _ => rfl
  have mEd := PySem.W.mg_of X G aEd
  have FWd := fun_mk (st := sWord) lWd cWd kWd
  have bWd := FWd.binds (ps := ["ask"]) fun _ _ _ _ _ _ us hl => match us, hl with | [_], _ => rfl
  have mWd := PySem.W.mg_of X G aWd
  have FBo := fun_mk (st := sBoth) lBo cBo kBo
  have bBo := FBo.binds (ps := ["log", "other", "texts", "is_key"]) fun _ _ _ _ _ _ us hl => match us, hl with | [_, _, _, _], _ => rfl
  have mBo := PySem.W.mg_of X G aBo
  have FAr := fun_mk (st := sAround) lAr cAr_ kAr
  have bAr := FAr.binds (ps := ["log", "texts", "is_key"]) fun _ _ _ _ _ _ us hl => match us, hl with | [_, _, _], _ => rfl
  have mAr := PySem.W.mg_of X G aAr
  have FRi := fun_mk (st := sRight) lRi cRi_ kRi
  have bRi := FRi.binds (ps := ["box"]) fun _ _ _ _ _ _ us hl => match us, hl with | [_], _ => rfl
  have mRi := PySem.W.mg_of X G aRi
  have FLw := fun_mk (st := sLaw) lLw cLw kLw
  have bLw := FLw.binds (ps := ["script"]) fun _ _ _ _ _ _ us hl => match us, hl with | [_], _ => rfl
  have mLw := PySem.W.mg_of X G aLw
  have tLf : Meth K CF _ fLf := ⟨aLf, iLf, kLf⟩
  have tPi : Meth K CP _ fPi := ⟨aPi, iPi, kPi⟩
  have tEn : Meth K CP _ fEn := ⟨aEn, iEn, kEn⟩
  have tEx : Meth K CP _ fEx := ⟨aEx, iEx, kEx⟩
  have tLi : Meth K CL _ fLi := ⟨aLi, iLi, kLi⟩
  have tCk : Meth K CL _ fCk := ⟨aCk, iCk, kCk⟩
  have tPu : Meth K CL _ fPu := ⟨aPu, iPu, kPu⟩
  have tWr : Meth K CL _ fWr := ⟨aWr, iWr, kWr⟩
  have tWa : Meth K CL _ fWa := ⟨aWa, iWa, kWa⟩
  have tRo : Meth K CL _ fRo := ⟨aRo, iRo, kRo⟩
  have tPd : Meth K CL _ fPd := ⟨aPd, iPd, kPd⟩
  have tPw : Meth K CL _ fPw := ⟨aPw, iPw, kPw⟩
  have mMO := PySem.W.mg_of X G aMO
  have mFE := PySem.W.mg_of X G aFE
  have MF : Mk K CF fLf := ⟨mkCF, aLf, iLf, kcCF⟩
  have MP : Mk K CP fPi := ⟨mkCP, aPi, iPi, kcCP⟩
  have ML : Mk K CL fLi := ⟨mkCL, aLi, iLi, kcCL⟩
  have PI : PropOf K CL "files" pFi fFi := ⟨p1Fi, p2Fi, p3Fi, _, p4Fi⟩
  have PL : PropOf K CL "fill" pFl fFl := ⟨p1Fl, p2Fl, p3Fl, _, p4Fl⟩
  have BW : BMeth K CL "write_all" fWa := ⟨tWa, b1, b2, by decide +kernel, b3⟩
  have rM : ClX.CRead K CL (.type "type") := ⟨m1, m2⟩
  have cM : ClX.CMet K CL (.type "type") "made" pMa fMa := ⟨m3, ⟨_, m4⟩, m5⟩
  have CAr := PySem.W.codeHd_of_K X lhAr
  have CRi := PySem.W.codeHd_of_K X lhRi
  refine ⟨PySem.W.fnOf "law" "law" (defArgs sLaw) (defBody sLaw) (defScope sLaw) .none kVLw dcLw pmLw anLw cdLw ctLw, [(cAr, PAr), (cRi, PRi)], spLaw K PAr PRi, fun p hp => ?_, fun p hp => ?_, fun p hp => ?_, fun s v => .of_eq rfl, fun H a ns hl _ hT hS => ⟨a, ns, rfl, hS, hl, tabs0 neT (hT (cAr, PAr) (.head _)) (hT (cRi, PRi) (.tail _ (.head _))), fun _ => rfl⟩, fun base _ _ TB => ?_⟩
  · rcases List.mem_cons.mp hp with rfl | hp
    · exact tabs _ lmAr
    · rw [List.mem_singleton.mp hp]; exact tabs _ lmRi
  · rcases List.mem_cons.mp hp with rfl | hp
    · exact lnAr
    · rw [List.mem_singleton.mp hp]; exact lnRi
  · rcases List.mem_cons.mp hp with rfl | hp
    · exact CAr
    · rw [List.mem_singleton.mp hp]; exact CRi
  have TBa := TB (cAr, PAr) (.head _)
  have TBr := TB (cRi, PRi) (.tail _ (.head _))
  have gLf := ok_lfinit (P := l.prog) (w := w) (base := base) (mg := mg) FLf TF
  have gPi := ok_pinit (P := l.prog) (w := w) (base := base) (mg := mg) FPi TP
  have gEn := ok_enter (P := l.prog) (w := w) (base := base) (mg := mg) FEn TP TL
  have gEx := ok_exit (P := l.prog) (w := w) (base := base) (mg := mg) FEx TP TL
  have hEx := ok_exitH (P := l.prog) (w := w) (base := base) (mg := mg) FEx TP TL
  have gPd := ok_pinned (P := l.prog) (w := w) (base := base) (mg := mg) FPd MP gPi bPi mCP
  have gPw := ok_pwhile (P := l.prog) (w := w) (base := base) (mg := mg) (m := 9) (kc := 9) (by decide) (by decide) FPw TL TP gPd tPd bPd gEn tEn bEn gEx hEx tEx bEx
  have gPw2 := ok_pwhile (P := l.prog) (w := w) (base := base) (mg := mg) (m := 14) (kc := 14) (by decide) (by decide) FPw TL TP gPd tPd bPd gEn tEn bEn gEx hEx tEx bEx
  have gWd := ok_word (P := l.prog) (w := w) (base := base) (mg := mg) (m := 11) (kc := 11) (by decide) FWd (PySem.W.mg_none_of X G z_KeyError) (PySem.W.mg_none_of X G z_ZeroDivisionError)
  have gNu := ok_isnum (P := l.prog) (w := w) (base := base) (mg := mg) FNu B
  have gRo := ok_rot (P := l.prog) (w := w) (base := base) (mg := mg) FRo TL MF gLf bLf mCF
  have gCk := ok_check (P := l.prog) (w := w) (base := base) (mg := mg) FCk B TL mFE
  have gPu := ok_put (P := l.prog) (w := w) (base := base) (mg := mg) FPu B TL TF gRo tRo bRo
  have gWr := ok_write (P := l.prog) (w := w) (base := base) (mg := mg) FWr TL gCk tCk bCk gPu tPu bPu
  have gWa := ok_wall (P := l.prog) (w := w) (base := base) (mg := mg) FWa TL gCk tCk bCk gPu tPu bPu
  have gLi := ok_loginit (P := l.prog) (w := w) (base := base) (mg := mg) FLi TL gNu kNu mNu bNu mMO MF gLf bLf mCF
  have gMa := ok_made (P := l.prog) (w := w) (base := base) (mg := mg) FMa TL ML gLi bLi gWa BW
  have gFi := ok_files (P := l.prog) (w := w) (base := base) (mg := mg) FFi B TL TF
  have gFl := ok_fill (P := l.prog) (w := w) (base := base) (mg := mg) FFl TL
  have gTk := ok_take (P := l.prog) (w := w) (base := base) (mg := mg) FTk
  have gOf := ok_of FOf B gTk kTk mTk bTk
  have gBx := ok_box (P := l.prog) (w := w) (base := base) (mg := mg) FBx B
  have gTx := ok_text FTx gTk kTk mTk bTk gOf kOf mOf bOf
  have gFd := ok_filled FFd B TL gWr tWr bWr gRo tRo bRo PI gFi bFi
  have gEd := ok_ends FEd B (PySem.W.mg_none_of X G z_KeyError) TL gFd kFd mFd bFd PI gFi bFi
  have gBo := ok_both FBo gFd kFd mFd bFd gEd kEd mEd bEd
  have gAr := ok_around (CP := CP) ⟨_, _, _, _, _, _, _, _, rfl, lAr, cAr_⟩ TBa B TL gEd kEd mEd bEd gWd kWd mWd bWd gPw tPw bPw gRo tRo bRo PI gFi bFi
  have gRi := ok_right (CP := CP) ⟨_, _, _, _, _, _, _, _, rfl, lRi, cRi_⟩ TBr B TL gTk kTk mTk bTk gTx kTx mTx bTx gBo kBo mBo bBo gAr kAr mAr bAr gWd kWd mWd bWd gPw gPw2 tPw bPw gRo tRo bRo PI gFi bFi PL gFl bFl gWr tWr bWr mCL rM cM gMa
  exact ok_law FLw B gBx kBx mBx bBx gRi kRi mRi bRi
end W
open PySem PySem.W PyProof.Rows
set_option maxRecDepth 100000 in
set_option maxHeartbeats 0 in
theorem PySem.Challenge.cw_rotatedlogs_k00_pins_that_end_by_other_e_holds : PySem.Challenge.rw_rotatedlogs_k00_pins_that_end_by_other_e.Holds := by
  w_on; o_law; k_head; (case hw => w_witness2)
  k_fill
  refine LamX.walk_ofTs (l := PySem.Challenge.rw_rotatedlogs_k00_pins_that_end_by_other_e) (n := 63) (k := 17) (x := "script") (CX := fun _ => L2.CX0) rfl (by decide) rfl ⟨rfl, by decide, by decide⟩ (fun w h Y => PySem.W.km_in_of Y) ?F fun _ _ _ _ _ z => z
  case F =>
    intro w mg fa h Y KX G hmg
    refine' W.all_mk KX G hmg (PySem.W.km_tabs_of Y) ?aCF ?pgCF ?hdCF ?poCF ?saCF ?mkCF ?kcCF ?nCF_begin ?nCF_lines ?aLf ?iLf ?lLf ?cLf ?kLf ?aCP ?pgCP ?hdCP ?poCP ?saCP ?mkCP ?kcCP ?nCP_pinned_log ?aPi ?iPi ?lPi ?cPi ?kPi ?aEn ?iEn ?lEn ?cEn ?kEn ?aEx ?iEx ?lEx ?cEx ?kEx ?aCL ?pgCL ?hdCL ?poCL ?saCL ?mkCL ?kcCL ?nCL_own_size ?nCL_own_kept ?nCL_present ?nCL_present_fill ?nCL_count ?nCL_pins ?aLi ?iLi ?lLi ?cLi ?kLi ?aCk ?iCk ?lCk ?cCk ?kCk ?aPu ?iPu ?lPu ?cPu ?kPu ?aWr ?iWr ?lWr ?cWr ?kWr ?aWa ?iWa ?lWa ?cWa ?kWa ?aRo ?iRo ?lRo ?cRo ?kRo ?aPd ?iPd ?lPd ?cPd ?kPd ?aPw ?iPw ?lPw ?cPw ?kPw ?b1 ?b2 ?b3 ?m1 ?m2 ?m3 ?m4 ?m5 ?lMa ?cMa ?kMa ?p1Fi ?p2Fi ?p3Fi ?p4Fi ?lFi ?cFi ?kFi ?p1Fl ?p2Fl ?p3Fl ?p4Fl ?lFl ?cFl ?kFl ?aNu ?lNu ?cNu ?kNu ?aBx ?lBx ?cBx ?kBx ?aTk ?lTk ?cTk ?kTk ?aOf ?lOf ?cOf ?kOf ?aTx ?lTx ?cTx ?kTx ?aFd ?lFd ?cFd ?kFd ?aEd ?lEd ?cEd ?kEd ?aWd ?lWd ?cWd ?kWd ?aBo ?lBo ?cBo ?kBo ?aAr ?lAr ?cAr_ ?kAr ?lcAr ?leAr ?lhAr ?lnAr ?lmAr ?aRi ?lRi ?cRi_ ?kRi ?lcRi ?leRi ?lhRi ?lnRi ?lmRi ?aLw ?lLw ?cLw ?kLw ?neT ?aMO ?aFE ?z_range ?z_len ?z_tuple ?z_min ?z_max ?z_abs ?z_int ?z_str ?z_bool ?z_all ?z_isinstance ?z_KeyError ?z_ZeroDivisionError
    (case aCF => k_is)
    (case pgCF => k_is)
    (case hdCF => k_is)
    (case poCF => k_is)
    (case saCF => k_is)
    (case mkCF => k_is)
    (case kcCF => k_is)
    (case nCF_begin => k_is)
    (case nCF_lines => k_is)
    (case aLf => k_is)
    (case iLf => k_is)
    (case lLf => k_is)
    (case cLf => k_is)
    (case kLf => k_is)
    (case aCP => k_is)
    (case pgCP => k_is)
    (case hdCP => k_is)
    (case poCP => k_is)
    (case saCP => k_is)
    (case mkCP => k_is)
    (case kcCP => k_is)
    (case nCP_pinned_log => k_is)
    (case aPi => k_is)
    (case iPi => k_is)
    (case lPi => k_is)
    (case cPi => k_is)
    (case kPi => k_is)
    (case aEn => k_is)
    (case iEn => k_is)
    (case lEn => k_is)
    (case cEn => k_is)
    (case kEn => k_is)
    (case aEx => k_is)
    (case iEx => k_is)
    (case lEx => k_is)
    (case cEx => k_is)
    (case kEx => k_is)
    (case aCL => k_is)
    (case pgCL => k_is)
    (case hdCL => k_is)
    (case poCL => k_is)
    (case saCL => k_is)
    (case mkCL => k_is)
    (case kcCL => k_is)
    (case nCL_own_size => k_is)
    (case nCL_own_kept => k_is)
    (case nCL_present => k_is)
    (case nCL_present_fill => k_is)
    (case nCL_count => k_is)
    (case nCL_pins => k_is)
    (case aLi => k_is)
    (case iLi => k_is)
    (case lLi => k_is)
    (case cLi => k_is)
    (case kLi => k_is)
    (case aCk => k_is)
    (case iCk => k_is)
    (case lCk => k_is)
    (case cCk => k_is)
    (case kCk => k_is)
    (case aPu => k_is)
    (case iPu => k_is)
    (case lPu => k_is)
    (case cPu => k_is)
    (case kPu => k_is)
    (case aWr => k_is)
    (case iWr => k_is)
    (case lWr => k_is)
    (case cWr => k_is)
    (case kWr => k_is)
    (case aWa => k_is)
    (case iWa => k_is)
    (case lWa => k_is)
    (case cWa => k_is)
    (case kWa => k_is)
    (case aRo => k_is)
    (case iRo => k_is)
    (case lRo => k_is)
    (case cRo => k_is)
    (case kRo => k_is)
    (case aPd => k_is)
    (case iPd => k_is)
    (case lPd => k_is)
    (case cPd => k_is)
    (case kPd => k_is)
    (case aPw => k_is)
    (case iPw => k_is)
    (case lPw => k_is)
    (case cPw => k_is)
    (case kPw => k_is)
    (case b1 => k_is)
    (case b2 => k_is)
    (case b3 => k_is)
    (case m1 => k_is)
    (case m2 => k_is)
    (case m3 => k_is)
    (case m4 => k_is)
    (case m5 => k_is)
    (case lMa => k_is)
    (case cMa => k_is)
    (case kMa => k_is)
    (case p1Fi => k_is)
    (case p2Fi => k_is)
    (case p3Fi => k_is)
    (case p4Fi => k_is)
    (case lFi => k_is)
    (case cFi => k_is)
    (case kFi => k_is)
    (case p1Fl => k_is)
    (case p2Fl => k_is)
    (case p3Fl => k_is)
    (case p4Fl => k_is)
    (case lFl => k_is)
    (case cFl => k_is)
    (case kFl => k_is)
    (case aNu => k_is)
    (case lNu => k_is)
    (case cNu => k_is)
    (case kNu => k_is)
    (case aBx => k_is)
    (case lBx => k_is)
    (case cBx => k_is)
    (case kBx => k_is)
    (case aTk => k_is)
    (case lTk => k_is)
    (case cTk => k_is)
    (case kTk => k_is)
    (case aOf => k_is)
    (case lOf => k_is)
    (case cOf => k_is)
    (case kOf => k_is)
    (case aTx => k_is)
    (case lTx => k_is)
    (case cTx => k_is)
    (case kTx => k_is)
    (case aFd => k_is)
    (case lFd => k_is)
    (case cFd => k_is)
    (case kFd => k_is)
    (case aEd => k_is)
    (case lEd => k_is)
    (case cEd => k_is)
    (case kEd => k_is)
    (case aWd => k_is)
    (case lWd => k_is)
    (case cWd => k_is)
    (case kWd => k_is)
    (case aBo => k_is)
    (case lBo => k_is)
    (case cBo => k_is)
    (case kBo => k_is)
    (case aAr => k_is)
    (case lAr => k_is)
    (case cAr_ => k_is)
    (case kAr => k_is)
    (case lcAr => k_is)
    (case leAr => exact rfl)
    (case lhAr => kernel_rfl)
    (case lnAr => kernel_rfl)
    (case lmAr => k_mem)
    (case aRi => k_is)
    (case lRi => k_is)
    (case cRi_ => k_is)
    (case kRi => k_is)
    (case lcRi => k_is)
    (case leRi => exact rfl)
    (case lhRi => kernel_rfl)
    (case lnRi => kernel_rfl)
    (case lmRi => k_mem)
    (case aLw => k_is)
    (case lLw => k_is)
    (case cLw => k_is)
    (case kLw => k_is)
    (case neT => decide)
    (case aMO => k_is)
    (case aFE => k_is)
    (case z_range => k_is)
    (case z_len => k_is)
    (case z_tuple => k_is)
    (case z_min => k_is)
    (case z_max => k_is)
    (case z_abs => k_is)
    (case z_int => k_is)
    (case z_str => k_is)
    (case z_bool => k_is)
    (case z_all => k_is)
    (case z_isinstance => k_is)
    (case z_KeyError => k_is)
    (case z_ZeroDivisionError => k_is)
