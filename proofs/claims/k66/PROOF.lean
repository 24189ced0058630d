import PyProof.Rows.All
import Wide.All
import OpenK.AllK
import Wide.FinOn
import HandS.ForMost
import HandS.Nested
import HandS.EndTab
import HandS.Walk
import HandS.Evl
import HandS.More
import HandS.SortInts
import HandS.IsInst
import KE.GoesMore
import KE.GoesEnum
import PySem.PyData
import HandS.Conv
import HandS.Style
import HandS.SetKeys
import HandS.Zip
import HandS.Defaults
import PySem.Challenge.RW_termwarrant_k66_matched
set_option Elab.async false
set_option maxRecDepth 100000
set_option maxHeartbeats 4000000
set_option linter.all false
/-! Frozen cells, lambdas with parameters as values, enumerate of a tuple. -/
namespace KL
open PySem PySem.Spec PyProof.Rows L2 LamX NdefX

/-! ### frozen cells -/
def fzc (o : Obj) : HO := .frz o (.ext fun _ => True)
abbrev Cs := List (Addr × Obj)
def fz (cs : Cs) (H : Hp) : Hp := fun b => match cs.lookup b with
  | some o => some (fzc o)
  | none => H b
def er (cs : Cs) (H : Hp) : Hp := fun b => match cs.lookup b with
  | some _ => none
  | none => H b
section
variable {P : Program} {w : World} {cs : Cs} {H H' : Hp} {h h' : Heap} {b : Addr} {o : Obj} {u : HO} {fs : List Addr}
theorem fz_in (e : cs.lookup b = some o) : fz cs H b = some (fzc o) := by unfold fz; rw [e]
theorem fz_out (e : cs.lookup b = none) : fz cs H b = H b := by unfold fz; rw [e]
theorem er_in (e : cs.lookup b = some o) : er cs H b = none := by unfold er; rw [e]
theorem er_out (e : cs.lookup b = none) : er cs H b = H b := by unfold er; rw [e]
theorem er_some (e : er cs H b = some u) : cs.lookup b = none ∧ H b = some u := by
  cases q : cs.lookup b with
  | none => rw [er_out q] at e; exact ⟨rfl, e⟩
  | some o => rw [er_in q] at e; cases e
theorem objOk_fzc (e : h.get? b = some o) : ObjOk P w H h b (fzc o) := by
  refine ⟨e, trivial, ⟨o, e⟩, fun _ _ _ _ => trivial⟩
/-- the cells of cs are not tracked -/
def Bare (cs : Cs) (H : Hp) (h : Heap) : Prop := ∀ c o, cs.lookup c = some o → H c = none ∧ h.get? c = some o
/-- the cells of cs are frozen -/
def Cold (cs : Cs) (H : Hp) : Prop := ∀ c o, cs.lookup c = some o → H c = some (fzc o)
theorem Bare.out (B : Bare cs H h) (e : H b = some u) : cs.lookup b = none := by
  cases q : cs.lookup b with
  | none => rfl
  | some o => rw [(B b o q).1] at e; cases e
theorem cold_fz : Cold cs (fz cs H) := fun _ _ e => fz_in e
theorem Cold.out (B : Cold cs H) (e : H b = some u) (n : ∀ o, u ≠ fzc o) : cs.lookup b = none := by
  cases q : cs.lookup b with
  | none => rfl
  | some o => rw [B b o q] at e; cases e; exact (n o rfl).elim
theorem hok_fz (x : HOk P w H h) (B : Bare cs H h) : HOk P w (fz cs H) h := fun b u e => by
  cases q : cs.lookup b with
  | some o => rw [fz_in q] at e; cases e; exact objOk_fzc (B b o q).2
  | none =>
    rw [fz_out q] at e
    exact (x b u e).stay (fun _ _ _ z => z) (fun c z => by rw [fz_out (B.out z)]; exact z) fun c xs z => by rw [fz_out (B.out z)]; exact z
theorem hok_er (x : HOk P w H h) (B : Cold cs H) : HOk P w (er cs H) h := fun b u e => by
  obtain ⟨q, e⟩ := er_some e
  exact (x b u e).stay (fun _ _ _ z => z) (fun c z => by rw [er_out (B.out z (fun o => by unfold fzc; intro k; cases k))]; exact z)
    fun c xs z => by rw [er_out (B.out z (fun o => by unfold fzc; intro k; cases k))]; exact z
/-- behind a run over the frozen heap -/
theorem un_fz (B : Bare cs H h) (U : Un fs [] (fz cs H) H' h h') (x : HOk P w H' h') : Un fs [] H (er cs H') h h' := by
  have out : ∀ {b u}, H b = some u → cs.lookup b = none := fun e => B.out e
  refine ⟨fun b o e n hb hx => ?_, fun b o e n hb hx => ?_, fun b o e n hx => ?_, fun b o e hx => U.there b o e hx, fun b xs e => ?_, fun b o u e => ?_, fun b ps e => ?_⟩
  · cases q : cs.lookup b with
    | none => exact U.keep b o e (by rw [fz_out q]; exact n) hb hx
    | some ob =>
      have z := U.frzs b ob _ (fz_in q)
      obtain ⟨z1, _⟩ := x b _ z
      rw [(B b ob q).2] at e
      cases e
      exact z1
  · cases q : cs.lookup b with
    | none => exact U.slot b o e (by rw [fz_out q]; exact n) hb hx
    | some ob =>
      have z := U.frzs b ob _ (fz_in q)
      obtain ⟨z1, _⟩ := x b _ z
      rw [(B b ob q).2] at e
      cases e
      exact ⟨o.slots, z1⟩
  · cases q : cs.lookup b with
    | none => rw [er_out q]; exact U.free b o e (by rw [fz_out q]; exact n) hx
    | some ob => exact er_in q
  · rw [er_out (out e)]; exact U.tups b xs (by rw [fz_out (out e)]; exact e)
  · rw [er_out (out e)]; exact U.frzs b o u (by rw [fz_out (out e)]; exact e)
  · rw [er_out (out e)]; exact U.tbls b ps (by rw [fz_out (out e)]; exact e)
/-- behind a run over the heap without the cells -/
theorem un_er (B : Cold cs H) (U : Un fs [] (er cs H) H' h h') : Un fs [] H (fz cs H') h h' := by
  have out : ∀ {b u}, H b = some u → (∀ o, u ≠ fzc o) → cs.lookup b = none := fun e n => B.out e n
  have on : ∀ {b}, H b = none → cs.lookup b = none := fun {b} e => by
    cases q : cs.lookup b with
    | none => rfl
    | some o => rw [B b o q] at e; cases e
  refine ⟨fun b o e n hb hx => U.keep b o e (by rw [er_out (on n)]; exact n) hb hx, fun b o e n hb hx => U.slot b o e (by rw [er_out (on n)]; exact n) hb hx, fun b o e n hx => ?_, fun b o e hx => U.there b o e hx, fun b xs e => ?_, fun b o u e => ?_, fun b ps e => ?_⟩
  · rw [fz_out (on n)]; exact U.free b o e (by rw [er_out (on n)]; exact n) hx
  · have q := out e (fun o => by unfold fzc; intro k; cases k)
    rw [fz_out q]; exact U.tups b xs (by rw [er_out q]; exact e)
  · cases q : cs.lookup b with
    | none => rw [fz_out q]; exact U.frzs b o u (by rw [er_out q]; exact e)
    | some ob =>
      rw [B b ob q] at e
      rw [fz_in q]
      exact e
  · have q := out e (fun o => by unfold fzc; intro k; cases k)
    rw [fz_out q]; exact U.tbls b ps (by rw [er_out q]; exact e)
theorem hok_un_er (B : Cold cs H) (x0 : HOk P w H h) (nf : ∀ c o, cs.lookup c = some o → c ∉ fs) (U : Un fs [] (er cs H) H' h h') (x : HOk P w H' h') : HOk P w (fz cs H') h' := by
  refine hok_fz x fun c o q => ?_
  have e : h.get? c = some o := (x0 c _ (B c o q)).1
  exact ⟨U.free c o e (er_in q) (by simp), U.keep c o e (er_in q) (nf c o q) (by simp)⟩
end

/-! ### lambdas with parameters, as objects -/
abbrev lamD (F : NF) (body : Expr) (pm ctv : Value) : FuncData := PySem.W.kla_fn "<lambda>" F.qual F.params body F.scope F.cl pm (.ref F.c) ctv
def LamO (f : Addr) (F : NF) (body : Expr) : HO := .ext fun h => ∃ (od : Option Addr) (sl : Array (Option Value)) (pm ctv : Value), h.get? f = some (⟨.type "function", od, .func (lamD F body pm ctv), sl⟩ : Obj)
theorem lamO_tbl {f : Addr} {F : NF} {body : Expr} (ps : Array Value) : LamO f F body ≠ .tbl ps := fun z => by unfold LamO at z; cases z
theorem lamO_fzc {f : Addr} {F : NF} {body : Expr} (o : Obj) : LamO f F body ≠ fzc o := fun z => by unfold LamO fzc at z; cases z
theorem codeO_fzc {c : Addr} {q : Str} (o : Obj) : CodeO c q ≠ fzc o := fun z => by unfold CodeO fzc at z; cases z
theorem fzc_tbl {o : Obj} (ps : Array Value) : fzc o ≠ .tbl ps := fun z => by unfold fzc at z; cases z
theorem lamO_at {P : Program} {w : World} {H : Hp} {h : Heap} {f : Addr} {F : NF} {body : Expr} (hok : HOk P w H h) (e : H f = some (LamO f F body)) :
    ∃ (od : Option Addr) (sl : Array (Option Value)) (pm ctv : Value), h.get? f = some (⟨.type "function", od, .func (lamD F body pm ctv), sl⟩ : Obj) := by
  obtain ⟨z, _, _⟩ := hok f _ e
  exact z
theorem lam_fnAt {P : Program} {w : World} {H : Hp} {h : Heap} {f : Addr} {F : NF} {body : Expr} (hok : HOk P w H h) (e : H f = some (LamO f F body)) : PySem.W.FnAt f h := by
  obtain ⟨od, sl, pm, ctv, z⟩ := lamO_at hok e
  exact ⟨_, _, _, _, z⟩
section
variable {X : Cx} {pins : List (Addr × Obj)} {σ : L2.St} {H : Hp} {s : Shared}
theorem inv_lam {F : NF} {body : Expr} {o : Obj} {t' : Nat} {pm ctv : Value} (I : Inv X pins σ H s) (ho : o = { cls := .type "function", data := .func (lamD F body pm ctv) }) :
    Inv X pins σ (upd H s.heap.objs.size (LamO s.heap.objs.size F body)) { s with heap := s.heap.push o, toks := t' } := by
  subst ho
  have e : (s.heap.push ({ cls := .type "function", data := .func (lamD F body pm ctv) } : Obj)).get? s.heap.objs.size = some ({ cls := .type "function", data := .func (lamD F body pm ctv) } : Obj) := Heap.get?_push_size _ rfl
  exact I.laid (a := s.heap.objs.size) (fun b u q => Heap.get?_push_of_some _ q) (Nat.le_refl _) ⟨⟨_, _, pm, ctv, e⟩, ⟨_, e⟩, fun h1 h2 ⟨od, sl, p, t, z⟩ st => ⟨od, sl, p, t, st _ z⟩⟩
/-- the lambda's words -/
abbrev mkF (X : Cx) (params : Arguments) (scope : Scope) (c' : Addr) : NF := ⟨"<lambda>", X.env.qual ++ "<lambda>", params, [], scope, cloFrom X.env.cells scope.names [], c'⟩
/-- a lambda is made -/
theorem lam_make3 {T : List (Addr × Str)} {c P : Addr} {params : Arguments} {body : Expr} {scope : Scope} {pos : Pos} {E : Value → Shared → Prop} {Q : Value → Shared → Prop} (I : Inv X pins σ H s) (TB : TabB X.base X.mg c P) (hcode : X.env.code = .ref c)
    (hm : (P, X.env.qual ++ "<lambda>") ∈ T) (hu : ∀ p ∈ T, p.1 = P → p.2 = X.env.qual ++ "<lambda>") (hT : Tabs T H) (hdef : defaultsOf params X.env = ([], [])) (hfree : ∀ y ∈ scope.names, y.2 = .free → ∃ c, X.env.cells.lookup y.1 = some c)
    (h : ∀ (f c' : Addr) (H1 : Hp) (s' : Shared), Inv X pins σ H1 s' → ExtN H H1 → (∀ b, H1 b = none → H b = none) → Tabs T H1 → H f = none → H1 f = some (LamO f (mkF X params scope c') body) → H1 c' = some (CodeO c' (X.env.qual ++ "<lambda>")) → Q (.ref f) s') :
    wpAny (model X.prog X.w) X.A (eval (.Lambda params body scope pos) X.env) Q E s := by
  obtain ⟨ps, hP, ht, ha⟩ := hT _ hm
  refine PySem.W.kla_eval hdef ?_
  have bP := TB.bm.keeps I.bk
  have hP' : s.heap.get? P = some { cls := .none, data := .fields ps } := I.hok P _ hP
  cases hc : codeAmong pos ps.toList with
  | none =>
    refine PySem.W.kla_makeFunction (mg := X.mg) (c := c) (P := P) (ps := ps) (closure_ok hfree) I.ok.glob (I.mod.glob.keeps I.bk) hcode (TB.code.keeps I.bk) hP' ht hc TB.gP bP fun c' ctv h' tk hx hge hlt hrec htb => ?_
    obtain ⟨c2, oc, vs, t, e2, hoc, hd, hv⟩ := hrec
    obtain rfl : c' = c2 := Value.ref.inj e2
    have nC : H c' = none := I.hok.fresh hge
    have I1 := inv_table (t' := tk) (more := #[rawInt pos.line, rawInt pos.col, .ref c']) (h' := h') I hP (fun b o hb e => hx b o hb e) htb hge ⟨oc, vs, t, hoc, hd, hv⟩
    generalize hH1 : upd (upd H P (.tbl (ps ++ #[rawInt pos.line, rawInt pos.col, .ref c']))) c' (CodeO c' (X.env.qual ++ "<lambda>")) = H1 at I1
    have cC : H1 c' = some (CodeO c' (X.env.qual ++ "<lambda>")) := by rw [← hH1]; exact upd_same
    have hE : ExtN H H1 := fun b o e n => by
      rw [← hH1, upd_ne (ne_of_none e nC), upd_ne (fun z => n ps (Option.some.inj (e.symm.trans (by rw [z]; exact hP))))]
      exact e
    have hN : ∀ b, H1 b = none → H b = none := fun b e => by rw [← hH1] at e; exact upd_none (upd_none e)
    have eL : (ps ++ #[rawInt pos.line, rawInt pos.col, .ref c']).toList = ps.toList ++ [rawInt pos.line, rawInt pos.col, .ref c'] := by simp
    have T1 : Tabs T H1 := fun p hp => by
      by_cases hb : p.1 = P
      · have e1 := hu p hp hb
        obtain ⟨p1, p2⟩ := p
        obtain rfl : p1 = P := hb
        obtain rfl : p2 = _ := e1
        refine ⟨_, (by rw [← hH1, upd_ne (ne_of_none hP nC), upd_same]), by rw [eL]; exact PySem.TriplesOk_snoc _ _ _ _ ht, fun p' cv hcv => ?_⟩
        rw [eL] at hcv
        rcases among_app _ ht hcv with z | z
        · obtain ⟨c0, e1, e2⟩ := ha p' cv z
          exact ⟨c0, e1, hE _ _ e2 codeO_ne⟩
        · exact ⟨c', z, cC⟩
      · obtain ⟨ps', a1, a2, a3⟩ := hT p hp
        refine ⟨ps', (by rw [← hH1, upd_ne (ne_of_none a1 nC), upd_ne hb]; exact a1), a2, fun p' cv hcv => ?_⟩
        obtain ⟨c0, e1, e2⟩ := a3 p' cv hcv
        exact ⟨c0, e1, hE _ _ e2 codeO_ne⟩
    have nF := I1.hok.fresh (Nat.le_refl _)
    have I2 := inv_lam (F := mkF X params scope c') (body := body) (t' := tk) (pm := (X.mg "__name__").getD .none) (ctv := ctv) I1 rfl
    refine h h'.objs.size c' _ _ I2 (fun b o e n => ?_) (fun b e => hN b (upd_none e)) (T1.ext fun b o e => ?_) (I.hok.fresh (Nat.le_trans hge (Nat.le_of_lt hlt))) upd_same ?_
    · exact (upd_ne (ne_of_none (hE b o e n) nF)).trans (hE b o e n)
    · exact (upd_ne (ne_of_none e nF)).trans e
    · exact (upd_ne (Nat.ne_of_lt hlt)).trans cC
  | some cv =>
    obtain ⟨c', e, hco⟩ := ha pos cv hc
    subst e
    refine PySem.W.kla_makeFunctionHit (mg := X.mg) (c := c) (P := P) (ps := ps) (closure_ok hfree) I.ok.glob (I.mod.glob.keeps I.bk) hcode (TB.code.keeps I.bk) hP' ht hc bP fun ctv h' tk hx hsz => ?_
    have I1 : Inv X pins σ H { s with heap := h', toks := tk } := I.kept hx
    have nF : H h'.objs.size = none := I1.hok.fresh (Nat.le_refl _)
    have I2 := inv_lam (F := mkF X params scope c') (body := body) (t' := tk) (pm := (X.mg "__name__").getD .none) (ctv := ctv) I1 rfl
    refine h h'.objs.size c' _ _ I2 (fun b o e n => ?_) (fun b e => upd_none e) (hT.ext fun b o e => ?_) nF upd_same ?_
    · exact (upd_ne (ne_of_none e nF)).trans e
    · exact (upd_ne (ne_of_none e nF)).trans e
    · exact (upd_ne (ne_of_none hco nF)).trans hco
end
/-- what the making of a lambda asks and gives -/
def tLamV (T : List (Addr × Str)) (mk : Addr → NF) (body : Expr) : TE := fun _ H Q => Tabs T H ∧ ∀ (f c' : Addr) (H1 : Hp), ExtN H H1 → (∀ b, H1 b = none → H b = none) → Tabs T H1 → H f = none →
  H1 f = some (LamO f (mk c') body) → H1 c' = some (CodeO c' (mk c').qual) → Q (.ref f) H1
theorem pe_lamV {X : Cx} {T : List (Addr × Str)} {c P : Addr} {params : Arguments} {body : Expr} {scope : Scope} {pos : Pos} (TB : TabB X.base X.mg c P) (hcode : X.env.code = .ref c)
    (hm : (P, X.env.qual ++ "<lambda>") ∈ T) (hu : ∀ p ∈ T, p.1 = P → p.2 = X.env.qual ++ "<lambda>") (hdef : defaultsOf params X.env = ([], []))
    (hfree : ∀ y ∈ scope.names, y.2 = .free → X.env.scope.names.lookup y.1 = some .cell ∨ X.env.scope.names.lookup y.1 = some .free) : PE X (.Lambda params body scope pos) (tLamV T (mkF X params scope) body) := by
  refine ⟨fun pins s σ H Q I h => ?_⟩
  obtain ⟨hT, h⟩ := h
  refine lam_make3 I TB hcode hm hu hT hdef (fun y hy e => (hfree y hy e).elim (fun z => I.ok.has _ (.inl z)) fun z => I.ok.has _ (.inr z)) fun f c' H1 s' I1 e1 e2 e3 e4 e5 e6 => ?_
  exact ⟨.ref f, H1, I1, rfl, h f c' H1 e1 e2 e3 e4 e5 e6⟩

/-! ### a lambda called -/
/-- what the frozen cells hold -/
structure CellsF (cl : List (Str × Addr)) (fr : List Str) (ws : List (Option V)) (cs : Cs) : Prop where
  len : ws.length = fr.length
  all : ∀ y c, cl.lookup y = some c → ∃ o v, cs.lookup c = some o ∧ o.data = .cell v
  inj : ∀ x y c, cl.lookup x = some c → cl.lookup y = some c → x = y
  has : ∀ (i : Nat) (y : Str), fr[i]? = some y → ∃ c o, cl.lookup y = some c ∧ cs.lookup c = some o ∧ ∀ v, ws[i]? = some (some v) → ∃ u, L2.RelV v u ∧ o.data = .cell (some u)
abbrev SpL := List (Option V) → List V → Hp → VK → Prop
/-- the lambda F at f, its cells frozen, keeps the promise -/
structure LOk (P : Program) (w : World) (K : PySem.W.Frag) (mg : Str → Option Value) (base : Heap) (k : Nat) (f : Addr) (F : NF) (body : Expr) (ps fr : List Str) (sp : SpL) : Prop where
  run : ∀ (A : Around) (outer : List Env) (s : Shared) (H : Hp) (us : List Value) (vs : List V) (ws : List (Option V)) (cs : Cs) (Q : VK), Room k A → Env0 P w K mg base A outer s H → H f = some (LamO f F body) → H F.c = some (CodeO F.c F.qual) → Cold cs H →
    CellsF F.cl fr ws cs → Vals vs us → vs.length = ps.length → sp ws vs (er cs H) (fun v H' => (∀ c o, cs.lookup c = some o → H' c = none) → Q v (fz cs H')) → codeAny (model P w) A (.call (.ref f) ⟨us, []⟩) (CR CX0 outer P w H s Q E0) s
section
variable {P : Program} {w : World} {K : PySem.W.Frag} {mg : Str → Option Value} {base : Heap} {N ps fr : List Str} {F : NF} {body : Expr} {f : Addr} {k j : Nat} {sp : SpL}
theorem env0_er {A : Around} {outer : List Env} {s : Shared} {H : Hp} {cs : Cs} (e0 : Env0 P w K mg base A outer s H) (C : Cold cs H) : Env0 P w K mg base A outer s (er cs H) := by
  have no : ∀ b, H b = none → er cs H b = none := fun b e => by
    cases q : cs.lookup b with
    | none => rw [er_out q]; exact e
    | some o => exact er_in q
  exact ⟨e0.frames, e0.mod, fun b o e => ⟨(e0.bs b o e).1, no b (e0.bs b o e).2⟩, e0.bsz, e0.funs, fun b hb => no b (e0.frf b hb), hok_er e0.hok C, e0.bare⟩
theorem lok_of (S : NScope N ps fr F.scope) (hb : ∀ (pm ctv : Value) (us : List Value), us.length = ps.length → bindArgs (lamD F body pm ctv) ⟨us, []⟩ = pure (ps.zip us))
    (hbody : ∀ (A : Around) (outer : List Env) (s : Shared) (H : Hp) (vs : List V) (ws : List (Option V)) (Q : VK), Room k (A.deeper (envF F f s.heap.objs.size)) → ws.length = fr.length → vs.length = ps.length → sp ws vs H Q →
      ∃ t, PE (ncx CX0 P w K mg base N F f A outer s H E0).nox body t ∧ t (startF N vs ws) H Q) : LOk P w K mg base (k + 1) f F body ps fr sp := by
  refine ⟨fun A outer s H us vs ws cs Q hr e0 hf hc C Ce r hl hsp => ?_⟩
  have e1 := env0_er e0 C
  have lim := e0.mod.nolimit.keeps fun b o e => (e0.bs b o e).1
  obtain ⟨od, sl, pm, ctv, ho⟩ := lamO_at e0.hok hf
  have CA : CellsAt F.cl fr ws s.heap (er cs H) := by
    refine ⟨Ce.len, fun y c e => ?_, Ce.inj, fun i y e => ?_⟩
    · obtain ⟨o, v, q, d⟩ := Ce.all y c e
      exact ⟨er_in q, v, o, (e0.hok c _ (C c o q)).1, d⟩
    · obtain ⟨c, o, h1, h2, h3⟩ := Ce.has i y e
      refine ⟨c, h1, fun v ev => ?_⟩
      obtain ⟨u, ru, d⟩ := h3 v ev
      exact ⟨u, ru, o, (e0.hok c _ (C c o h2)).1, d⟩
  refine PySem.W.kla_callFunE hr.depth ho rfl S.co S.gen rfl (codeO_at e0.hok hc) ?_
  rw [hb pm ctv us (by rw [← r.length]; exact hl)]
  refine wpAny_pure (wpAny_newFunctionEnv S.nocell (fun ⟨n, _⟩ hy => S.par n (List.of_mem_zip hy).1) (fun h₁ hns hsb => ⟨lim.fresh _ hsb, ?_⟩) S.kind)
  show codeAny _ _ (.expr body (envF F f s.heap.objs.size)) _ _
  have kp : ∀ b o, s.heap.get? b = some o → h₁.get? b = some o := fun b o e => hsb.extBut b o (Nat.ne_of_lt (Heap.lt_size e)) (Heap.get?_push_of_some _ e)
  obtain ⟨t, ht, hq⟩ := hbody A outer s (er cs H) vs ws _ (hr.deeper _) Ce.len hl hsp
  have I : Inv (ncx CX0 P w K mg base N F f A outer s (er cs H) E0) [] (startF N vs ws) (er cs H) { s with heap := h₁, toks := s.toks + (ps.zip us).length } := inv_startN S hr.hd e1 hl r CA hns kp
  refine PySem.W.kla_codeExpr (wpAny_mono ((PE.nox ht).run [] _ _ _ _ I hq) (fun u s' hs => ?_) fun e s' hs => hs)
  obtain ⟨v, H', J, rv, q⟩ := hs
  have J' : Un (frs outer) [] (er cs H) H' s.heap s'.heap := J.base
  have nf : ∀ c o, cs.lookup c = some o → c ∉ frs outer := fun c o q hm => by
    have z := e0.frf c hm
    rw [C c o q] at z
    cases z
  refine ⟨v, fz cs H', J.os, J.bare, un_er C J', hok_un_er C e0.hok nf J' J.hok, rv, q fun c o e => ?_⟩
  exact J'.free c o (e0.hok c _ (C c o e)).1 (er_in e) (by simp)
end
/-- a function value: whoever calls it at a heap that goes on from H has the promise sp -/
structure FVal (P : Program) (w : World) (K : PySem.W.Frag) (mg : Str → Option Value) (base : Heap) (k : Nat) (f : Addr) (H : Hp) (sp : List V → Hp → VK → Prop) : Prop where
  obj : ∃ F body, H f = some (LamO f F body)
  run : ∀ (A : Around) (outer : List Env) (s : Shared) (H1 : Hp) (us : List Value) (vs : List V) (Q : VK), Room k A → Env0 P w K mg base A outer s H1 → ExtN H H1 → Vals vs us → sp vs H1 Q →
    codeAny (model P w) A (.call (.ref f) ⟨us, []⟩) (CR CX0 outer P w H1 s Q E0) s
theorem Cold.ext {cs : Cs} {H H' : Hp} (C : Cold cs H) (e : ExtN H H') : Cold cs H' := fun c o q => e _ _ (C c o q) fzc_tbl
theorem fval_of {P : Program} {w : World} {K : PySem.W.Frag} {mg : Str → Option Value} {base : Heap} {k : Nat} {f : Addr} {H : Hp} {F : NF} {body : Expr} {ps fr : List Str} {sp : SpL} {sp' : List V → Hp → VK → Prop} {ws : List (Option V)} {cs : Cs}
    (L : LOk P w K mg base k f F body ps fr sp) (hf : H f = some (LamO f F body)) (hc : H F.c = some (CodeO F.c F.qual)) (C : Cold cs H) (Ce : CellsF F.cl fr ws cs)
    (hsp : ∀ vs H1 Q, ExtN H H1 → sp' vs H1 Q → vs.length = ps.length ∧ sp ws vs (er cs H1) (fun v H' => (∀ c o, cs.lookup c = some o → H' c = none) → Q v (fz cs H'))) : FVal P w K mg base k f H sp' :=
  ⟨⟨F, body, hf⟩, fun A outer s H1 us vs Q hr e0 e r q => by
    obtain ⟨hl, q'⟩ := hsp vs H1 Q e q
    exact L.run A outer s H1 us vs ws cs Q hr e0 (e _ _ hf lamO_tbl) (e _ _ hc codeO_ne) (C.ext e) Ce r hl q'⟩
theorem FVal.ext {P : Program} {w : World} {K : PySem.W.Frag} {mg : Str → Option Value} {base : Heap} {k : Nat} {f : Addr} {H H' : Hp} {sp : List V → Hp → VK → Prop} (V : FVal P w K mg base k f H sp) (e : ExtN H H') : FVal P w K mg base k f H' sp := by
  obtain ⟨⟨F, body, hf⟩, run⟩ := V
  exact ⟨⟨F, body, e _ _ hf lamO_tbl⟩, fun A outer s H1 us vs Q hr e0 e1 => run A outer s H1 us vs Q hr e0 (e.trans e1)⟩
/-- f(e, ..), the i-th slot holds a function value -/
def tCallV (P : Program) (w : World) (K : PySem.W.Frag) (mg : Str → Option Value) (base : Heap) (k i : Nat) (t : TA) : TE := fun σ H Q => ∃ f sp, σ[i]? = some (some (.ref f)) ∧ FVal P w K mg base k f H sp ∧ t σ H fun vs H1 => ExtN H H1 ∧ sp vs H1 Q
theorem pe_callV {X : Cx} {i j k : Nat} {x : Str} {t : TA} {e : Expr} {es : List Expr} {p pos : Pos} (hr : Room j X.A) (hk : k ≤ j) (ha : PA X (e :: es) t) (hN : X.N[i]? = some x := by rfl) (hv : Vis X.env.scope x := by first | exact Or.inl rfl | exact Or.inr (Or.inl rfl) | exact Or.inr (Or.inr rfl))
    (hd : (x == ("__debug__" : Str)) = false := by decide) (hcd : (x == ("__classdict__" : Str)) = false := by decide)
    (he : starEach (e :: es) X.env = (false, eval e X.env) :: starEach es X.env := by rfl) (hpl : (backTo pos (starEach es X.env)).any (·.1) = false := by rfl) :
    PE X (.Call (.Name x p) (e :: es) [] pos) (tCallV X.prog X.w X.K X.mg X.base k i t) := by
  refine ⟨fun pins s σ H Q I h => ?_⟩
  obtain ⟨f, sp, hs, V, ht⟩ := h
  refine wpAny_Call_Name_kw (thn ((pe_var (pos := p) hN hv hd hcd).run pins s σ H (fun v H1 => v = .ref f ∧ H1 = H) I ⟨.ref f, hs, rfl, rfl⟩) fun u s1 ⟨v, H1, I1, r1, ev, eH⟩ => ?_)
  subst ev
  rw [eH] at I1
  obtain rfl : u = Value.ref f := r1
  obtain ⟨F, body, hf⟩ := V.obj
  refine PySem.W.callWith_F (first := []) (lam_fnAt I1.hok hf) (thn (ha.run pos pins s1 σ H _ I1 ht) fun us s2 ⟨vs, H2, I2, r, e2, q⟩ => ⟨lam_fnAt I2.hok (e2 _ _ hf lamO_tbl), ?_⟩) he hpl
  show wpAny _ _ (call (.ref f) us) _ _ _
  refine wpAny_call (codeAny_mono (V.run X.A X.stack s2 H2 us vs Q (hr.mono hk) I2.env0 e2 r q) fun r s' hq => ?_)
  cases r with
  | error e => exact False.elim hq
  | ok fl =>
    cases fl with
    | ret u => exact I2.after hq
    | next => exact False.elim hq
    | brk => exact False.elim hq
    | cont => exact False.elim hq
/-! ### a def called with the running frame's captured cells frozen -/
def cellsOf (cl : List (Str × Addr)) (h : Heap) : Cs := cl.map fun p => (p.2, (h.get? p.2).getD { cls := .none, data := .plain })
theorem look_cellsOf {h : Heap} : ∀ {cl : List (Str × Addr)} {c : Addr} {o : Obj}, (cellsOf cl h).lookup c = some o → ∃ y, (y, c) ∈ cl ∧ o = (h.get? c).getD { cls := .none, data := .plain }
  | [], _, _, e => by simp [cellsOf] at e
  | (y, d) :: r, c, o, e => by
    unfold cellsOf at e
    rw [List.map_cons, List.lookup_cons] at e
    by_cases q : c = d
    · subst q
      simp at e
      exact ⟨y, List.mem_cons_self, e.symm⟩
    · rw [show (c == d) = false from by simpa using q] at e
      obtain ⟨z, h1, h2⟩ := look_cellsOf (cl := r) e
      exact ⟨z, List.mem_cons_of_mem _ h1, h2⟩
theorem cellsOf_look {h : Heap} : ∀ {cl : List (Str × Addr)} {y : Str} {c : Addr}, (y, c) ∈ cl → (cellsOf cl h).lookup c = some ((h.get? c).getD { cls := .none, data := .plain })
  | (z, d) :: r, y, c, e => by
    unfold cellsOf
    rw [List.map_cons, List.lookup_cons]
    by_cases q : c = d
    · subst q; simp
    · rw [show (c == d) = false from by simpa using q]
      rcases List.mem_cons.mp e with e | e
      · cases e; exact (q rfl).elim
      · exact cellsOf_look (cl := r) e
/-- x(e, ..), the cells cl of the running frame frozen meanwhile; js: where the captured names stand -/
def tCallZ (cl : List (Str × Addr)) (fr : List Str) (js : List Nat) (sp : Sp) (t : TA) : TE := fun σ H Q => t σ H fun vs H1 => ∀ cs : Cs, CellsF cl fr (js.map (slotAt σ)) cs → (∀ c o, cs.lookup c = some o → H1 c = none) →
  sp vs (fz cs H1) (fun v H' => Cold cs H' → Q v (er cs H')) E0
theorem pe_callZ {X : Cx} {k : Nat} {f : Addr} {fd : FuncData} {ps fr : List Str} {js : List Nat} {sp : Sp} {x : Str} {p pos : Pos} {e : Expr} {es : List Expr} {t : TA} {scope : Scope} (F : FnOk X.prog X.w X.K X.mg X.base CX0 k f fd ps sp) (hr : Room k X.A) (hg : Gl X x) (hm : X.mg x = some (.ref f)) (hk : PySem.W.keepIn X.K (.ref f) = true) (hb : L2.Binds X.K fd ps [])
    (hfree : ∀ y ∈ scope.names, y.2 = .free → X.env.scope.names.lookup y.1 = some .cell ∨ X.env.scope.names.lookup y.1 = some .free) (hfr : ∀ y ∈ fr, (y, NameKind.free) ∈ scope.names) (hjs : js.map (fun j => X.N[j]?) = fr.map some) (hfn : ∀ y, X.fn y = true)
    (ha : PA X (e :: es) t) (hdb : (x == ("__debug__" : Str)) = false := by decide) (he : starEach (e :: es) X.env = (false, eval e X.env) :: starEach es X.env := by rfl) (hpl : (backTo pos (starEach es X.env)).any (·.1) = false := by rfl) :
    PE X (.Call (.Name x p) (e :: es) [] pos) (tCallZ (cloFrom X.env.cells scope.names []) fr js sp t) := by
  refine ⟨fun pins s σ H Q I h => ?_⟩
  refine wpAny_Call_Name_kw (ld_glob I hg hm ?_ hdb)
  refine PySem.W.callWith_K (h₀ := X.base) I.ok.mod.kin hk (thn (ha.run pos pins s σ H _ I h) fun us s1 ⟨vs, H1, I1, r, q⟩ => ⟨I1.kIn, ?_⟩) he hpl
  have hf : ∀ y ∈ scope.names, y.2 = .free → ∃ c, X.env.cells.lookup y.1 = some c := fun y hy e => (hfree y hy e).elim (fun z => I1.ok.has _ (.inl z)) fun z => I1.ok.has _ (.inr z)
  have mem : ∀ {y c}, (y, c) ∈ cloFrom X.env.cells scope.names [] → X.env.cells.lookup y = some c := fun {y c} hm => by
    rcases cloFrom_mem hm with z | ⟨h1, h2⟩
    · cases z
    · obtain ⟨c1, hc⟩ := hf _ h1 rfl
      have hc : X.env.cells.lookup y = some c1 := hc
      rw [h2, hc] <;> rfl
  have cells : CellsAt (cloFrom X.env.cells scope.names []) fr (js.map (slotAt σ)) s1.heap H1 := cells_of I1 (Caps.made I1.ok hfree hfr hjs)
  have there : ∀ {y c}, (y, c) ∈ cloFrom X.env.cells scope.names [] → ∃ o v, s1.heap.get? c = some o ∧ o.data = .cell v := fun hm => by
    obtain ⟨v, o, ho, hd⟩ := I1.cell _ _ (mem hm)
    exact ⟨o, v, ho, hd⟩
  have B : Bare (cellsOf (cloFrom X.env.cells scope.names []) s1.heap) H1 s1.heap := fun c o e => by
    obtain ⟨y, h1, h2⟩ := look_cellsOf e
    obtain ⟨o', v, h3, _⟩ := there h1
    rw [h3] at h2
    have h2 : o = o' := h2
    subst h2
    exact ⟨I1.freeC _ _ (mem h1), h3⟩
  have CF : CellsF (cloFrom X.env.cells scope.names []) fr (js.map (slotAt σ)) (cellsOf (cloFrom X.env.cells scope.names []) s1.heap) := by
    refine ⟨cells.len, fun y c e => ?_, cells.inj, fun i y e => ?_⟩
    · have hm := PySem.mem_of_lookup e
      obtain ⟨o, v, h3, h4⟩ := there hm
      refine ⟨o, v, ?_, h4⟩
      rw [cellsOf_look hm, h3] <;> rfl
    · obtain ⟨c, h1, h2⟩ := cells.has i y e
      have hm := PySem.mem_of_lookup h1
      obtain ⟨o, v, h3, h4⟩ := there hm
      refine ⟨c, o, h1, (by rw [cellsOf_look hm, h3] <;> rfl), fun v hv => ?_⟩
      obtain ⟨u, ru, o', ho', hd'⟩ := h2 v hv
      rw [h3] at ho'
      cases ho'
      exact ⟨u, ru, hd'⟩
  have far : ∀ c o, (cellsOf (cloFrom X.env.cells scope.names []) s1.heap).lookup c = some o → X.s_0.heap.objs.size ≤ c ∧ c ≠ X.env.locals := fun c o e => by
    obtain ⟨y, h1, _⟩ := look_cellsOf e
    exact ⟨I1.ok.cab y c (hfn y) (mem h1), I1.cne y c (mem h1)⟩
  generalize cellsOf (cloFrom X.env.cells scope.names []) s1.heap = cs at B CF far
  have hsp := q cs CF fun c o e => (B c o e).1
  have hl : us.length = ps.length := by rw [← r.length]; exact F.len _ _ _ _ hsp
  have e0 := I1.env0
  have nfr : ∀ b, H1 b = none → cs.lookup b = none → fz cs H1 b = none := fun b e1 e2 => (fz_out e2).trans e1
  have e1 : Env0 X.prog X.w X.K X.mg X.base X.A X.stack s1 (fz cs H1) := by
    refine ⟨e0.frames, e0.mod, fun b o e => ⟨(e0.bs b o e).1, nfr b (e0.bs b o e).2 ?_⟩, e0.bsz, e0.funs, fun b hb => nfr b (e0.frf b hb) ?_, hok_fz e0.hok B, e0.bare⟩
    · cases z : cs.lookup b with
      | none => rfl
      | some ob => exact absurd (Nat.lt_of_lt_of_le (Heap.lt_size e) (Nat.le_trans I1.ok.bsz (far b ob z).1)) (Nat.lt_irrefl _)
    · cases z : cs.lookup b with
      | none => rfl
      | some ob =>
        rcases List.mem_cons.mp (I1.stkSub b hb) with e | e
        · exact ((far b ob z).2 e).elim
        · obtain ⟨_, o, ho, _⟩ := I1.ok.funs.mem e
          exact absurd (Nat.lt_of_lt_of_le (Heap.lt_size ho) (far b ob z).1) (Nat.lt_irrefl _)
  refine wpAny_call (codeAny_mono (F.run X.A X.stack s1 (fz cs H1) ⟨us, []⟩ us vs _ E0 hr e1 (by have z := hb s1 us I1.kIn (by rw [List.append_nil]; exact hl); rw [List.append_nil] at z; exact z) r hsp) fun r s' hq => ?_)
  cases r with
  | error e => exact False.elim hq
  | ok fl =>
    cases fl with
    | next => exact False.elim hq
    | brk => exact False.elim hq
    | cont => exact False.elim hq
    | ret u =>
      obtain ⟨v, H', os, bare, un, hok, rv, q'⟩ := hq
      have C : Cold cs H' := fun c o e => un.frzs c o _ (fz_in e)
      exact I1.after ⟨v, er cs H', os, bare, un_fz B un hok, hok_er hok C, rv, q' C⟩
end KL

/-! enumerate of a tuple. -/
namespace KL
open PySem PySem.Spec PyProof.Rows L2
theorem newEnumB {v : Value} {o : Obj} {H : Heap → Prop} (B : Begins v o H) :
    Meets (Builtin.«enumerate.__new__» ⟨[.type "enumerate", v], []⟩) (fun _ R s => H s.heap ∧
      R (.ok (.ret (.ref (s.heap.push o).objs.size))) { s with heap := (s.heap.push o).push { cls := .type "enumerate", data := .fields #[.none, .bool false, .ref s.heap.objs.size, rawInt 0, .none, .none] } }) :=
  .of_wp fun prog w A R s h => by
    obtain ⟨hp, g, d, tk, os⟩ := s
    obtain ⟨h1, h⟩ := h
    have hsub := sub_enumerate
    have q1 : ∀ {A' : Around} {E : Value → Shared → Prop} {Q : Value → Shared → Prop}, Q (.ref hp.objs.size) ⟨hp.push o, g, d, tk, os⟩ → wpAny (model prog w) A' (pyIter v) Q E ⟨hp, g, d, tk, os⟩ :=
      fun q => B.iter prog w _ _ _ _ h1 q
    wp_walk using q1
    refine wpAny_stack_any fun st => wpAny_pure ?_
    split
    · rename_i c _ _ _ _ _
      cases (c == Value.type "enumerate") <;> (wp_walk using q1; exact ⟨_, rfl, h⟩)
    · wp_walk using q1
      exact ⟨_, rfl, h⟩
theorem enumB {prog : Program} {w : World} {A : Around} {E : Value → Shared → Prop} {s : Shared} {v : Value} {o : Obj} {H : Heap → Prop} {Q : Value → Shared → Prop} (B : Begins v o H) (h1 : H s.heap)
    (h : ∀ h', IsEnum h' (s.heap.objs.size + 1) s.heap.objs.size 0 .none → h'.get? s.heap.objs.size = some o → h'.objs.size = s.heap.objs.size + 2 → (∀ b o, s.heap.get? b = some o → h'.get? b = some o) → Q (.ref (s.heap.objs.size + 1)) { s with heap := h' }) :
    wpAny (model prog w) A (call (.type "enumerate") [v]) Q E s := by
  refine callType_new F.called_enumerate (by decide) (F.typeCall_enumerate_1 _) (F.newCall_enumerate_1 _) (fun obj => F.args_object_init_2 obj _) F.entry_enumerate_new (newEnumB B) ⟨h1, ?_⟩
  have hz : (s.heap.push o).objs.size = s.heap.objs.size + 1 := Heap.size_push ..
  show _ ∧ _
  have he := Heap.get?_push_size (s.heap.push o) (o := { cls := .type "enumerate", data := .fields #[.none, .bool false, .ref s.heap.objs.size, rawInt 0, .none, .none] }) rfl
  rw [hz] at he ⊢
  exact ⟨⟨_, he, rfl⟩, h _ he (Heap.get?_push_of_some _ (Heap.get?_push_size _ B.free)) (by rw [Heap.size_push, hz]) fun b o x => Heap.get?_push_of_some _ (Heap.get?_push_of_some _ x)⟩

/-- the tuple at a, each item in a new pair with its number -/
def IteT (K : PySem.W.Frag) (a : Addr) : It :=
  ⟨fun i H => ∃ (xs : List V) (x : V), SqT K H a xs ∧ xs[i]? = some x, fun i H v H' => ∃ T x, v = .ref T ∧ H T = none ∧ H' = upd H T (.tup [.int (i : Nat), x]) ∧ ∀ xs, SqT K H a xs → xs[i]? = some x, fun i H => ∃ xs : List V, SqT K H a xs ∧ xs.length = i⟩
theorem turn_enumT {P : Program} {w : World} {K : PySem.W.Frag} {elts : List Expr} {kk : Nat} {tpos : Pos} (a e it : Addr) (hta : a ≠ it) (hea : a ≠ e) :
    Turn P w K (.Tuple elts kk tpos) (IteT K a) [e, it] e (fun i h => (∃ old, IsEnum h e it ((i : Nat) : Int) old) ∧ h.IsTupleIter it a i ∧ e ≠ it) where
  mem := by simp
  obj := fun i h st b hb => by
    obtain ⟨⟨old, he⟩, ⟨o, ho, hc, hd⟩, _⟩ := st
    rcases (show b = e ∨ b = it by simpa using hb) with z | z
    · rw [z]; exact ⟨_, he, fun v q => nomatch q⟩
    · rw [z]; exact ⟨o, ho, fun v q => by rw [hd] at q; cases q⟩
  keep := fun i h h' st k => by
    obtain ⟨⟨old, he⟩, hi, hne⟩ := st
    exact ⟨⟨old, k e (by simp) _ he⟩, hi.at fun o q => k it (by simp) o q, hne⟩
  item := by
    intro X hP hw hK hc i pins s σ H E I hf st hg
    subst hP hw hK
    obtain ⟨⟨old, he⟩, hit, hne⟩ := st
    obtain ⟨xs, x, hq, hx⟩ := hg
    obtain ⟨its, rv, p, hz⟩ := I.tuple hq
    obtain ⟨u, hu, ru⟩ := rv.get hx
    have hel : e < s.heap.objs.size := Heap.lt_size he
    have hil : it < s.heap.objs.size := by obtain ⟨_, q, _⟩ := hit; exact Heap.lt_size q
    have D := Draws.tuple (prog := X.prog) (w := X.w) (A := X.A.in1) (I.ok.hd hc) it a hta its.toArray
    have hlt : i < its.toArray.size := by
      have q := (List.getElem?_eq_some_iff.mp hu).1
      simpa using q
    refine wpAny_pyNext_enum_itemD D he ⟨hit, p⟩ hlt hne (by simp [hne, hea.symm]) fun x' h' tk hP ho hst hT hsz hk => ?_
    have ex : x' = u := by
      have hP : its.toArray[i]? = some x' := hP
      have q : its.toArray[i]? = some u := by simpa using hu
      rw [q] at hP
      exact (Option.some.inj hP).symm
    subst ex
    refine ⟨_, rfl, wpAny_letOwnedTupleGo_enum (s := { s with heap := h', toks := tk + 1 }) ho fun h'' he' sb => ?_⟩
    have hT2 : h''.get? s.heap.objs.size = some { cls := .type "tuple", data := .seq #[.int i tk, x'] } := (sb.2 _ (Nat.ne_of_gt hel)).trans hT
    have new : ObjOk X.prog X.w (upd H s.heap.objs.size (.tup [.int (i : Nat), x])) h'' s.heap.objs.size (.tup [.int (i : Nat), x]) :=
      ⟨by show 2 ≤ sizeLine; decide, [.int i tk, x'], .cons ⟨_, rfl⟩ (.cons ru .nil), ⟨_, hT2, rfl, _, rfl⟩⟩
    have I1 : Inv X pins σ (upd H s.heap.objs.size (.tup [.int (i : Nat), x])) { s with heap := h'', toks := tk + 1 } :=
      I.turnedNew (ch := [e, it]) (fun b ob hb q => (sb.2 b (fun z => hb (by simp [z]))).trans (hk b ob (fun z => hb (by simp [z])) (fun z => hb (by simp [z])) q)) hf (Nat.le_refl _) new
    refine ⟨.ref s.heap.objs.size, _, I1, rfl, ⟨_, x, rfl, I.hok.fresh (Nat.le_refl _), rfl, fun ys hy => by rw [I.tuple_inj hy hq]; exact hx⟩, ⟨⟨x', ?_⟩, hst.1.at fun o q => (sb.2 it (Ne.symm hne)).trans q, hne⟩, fun b hb => ?_⟩
    · have e1 : ((i + 1 : Nat) : Int) = (i : Int) + 1 := by omega
      rw [e1]; exact he'
    · have hb' : b < s.heap.objs.size := by
        rcases (show b = e ∨ b = it by simpa using hb) with z | z
        · rw [z]; exact hel
        · rw [z]; exact hil
      rw [upd_ne (Nat.ne_of_lt hb')]
      exact (hf b hb).1
  done := by
    intro X hP hw hK hc i pins s σ H E I hf st hg
    subst hP hw hK
    obtain ⟨⟨old, he⟩, hit, hne⟩ := st
    obtain ⟨xs, hq, hx⟩ := hg
    obtain ⟨its, rv, p, hz⟩ := I.tuple hq
    obtain ⟨f0, f1, f2, f3, f4, f5⟩ := hf it (by simp)
    have hl := rv.length
    have hi : i = its.toArray.size := by simp; omega
    subst hi
    have D := Draws.tuple (prog := X.prog) (w := X.w) (A := X.A.in1) (I.ok.hd hc) it a hta its.toArray
    exact wpAny_pyNext_enum_endD D he ⟨hit, p⟩ fun h' eb => ⟨rfl, I.turned (t' := s.toks) (fun b o hb q => eb b o hb q) f0 f1 f3 f4 f5⟩
  self := fun A i s Q E st h => by
    obtain ⟨⟨_, he⟩, _⟩ := st
    exact wpAny_pyIter_enum he h
def iEnumT (K : PySem.W.Frag) (ta : TA) : TI := fun σ H R => ta σ H fun vs H1 => ∃ a xs, vs = [.ref a] ∧ SqT K H1 a xs ∧ R (IteT K a) H1
theorem pi_enumT {X : Cx} {e : Expr} {ta : TA} {p pos tpos : Pos} {elts : List Expr} {kk : Nat} (hg : Gl X "enumerate") (hm : X.mg "enumerate" = none) (ha : PA X [e] ta) (hs : starEach [e] X.env = [(false, eval e X.env)] := by rfl) :
    PI X (.Tuple elts kk tpos) (.Call (.Name "enumerate" p) [e] [] pos) (iEnumT X.K ta) := by
  refine ⟨fun pins s σ H R I h => ?_⟩
  refine Call_ (ld_blt I hg hm boot_enumerate (PyProof.Rows.callWith_type1 (thn (ha.run pos pins s σ H _ I h) fun us s1 ⟨vs, H1, I1, r1, a, xs, ex, hq, q⟩ => ?_) hs rfl))
  subst ex
  obtain ⟨u, eu, r⟩ := vals1 r1
  subst eu
  obtain rfl : u = Value.ref a := r
  obtain ⟨its, rv, p', hz⟩ := I1.tuple hq
  have hal : a < s1.heap.objs.size := by obtain ⟨_, q, _⟩ := p'; exact Heap.lt_size q
  refine enumB (begins_tuple a its.toArray) p' fun h' he hit hsz hk => wpAny_pyIter_enum he ?_
  have I2 : Inv X pins σ H1 { s1 with heap := h' } := I1.kept (t' := s1.toks) hk
  refine ⟨s1.heap.objs.size + 1, [s1.heap.objs.size + 1, s1.heap.objs.size], _, _, H1, rfl, I2, turn_enumT a (s1.heap.objs.size + 1) s1.heap.objs.size (Nat.ne_of_lt hal) (Nat.ne_of_lt (Nat.lt_succ_of_lt hal)), ⟨⟨.none, he⟩, ⟨_, hit, rfl, rfl⟩, Nat.succ_ne_self _⟩, fun b hb => ?_, q⟩
  have hle : s1.heap.objs.size ≤ b := by
    rcases (show b = s1.heap.objs.size + 1 ∨ b = s1.heap.objs.size by simpa using hb) with z | z
    · rw [z]; exact Nat.le_add_right _ _
    · rw [z]; exact Nat.le_refl _
  exact I1.fpOk hle (I1.hok.fresh hle)
theorem walk_enumT {K : PySem.W.Frag} {a : Addr} {xs : List V} : Walk (IteT K a) xs.length (fun H => SqT K H a xs) (YPair (fun i => some (.int (i : Nat))) (fun i => xs[i]?)) := by
  refine ⟨fun i _ hi q => ⟨xs, xs[i], q, by simp [hi]⟩, fun _ q => ⟨xs, q, rfl⟩, fun i H v H' _ q y => ?_⟩
  obtain ⟨T, x, h1, h2, h3, h4⟩ := y
  exact ⟨T, .int (i : Nat), x, h1, h2, h3, rfl, h4 xs q⟩
open AutoSeq1 in
theorem extendT (l : Addr) (items : Array Value) (n : Nat) (b : Addr) (items2 : Array Value) (n2 : Nat) (dct : Option Addr) (sl : Array (Option Value)) (hs0 : ¬(!items.isEmpty && Builtin.List.listTooLong (items.size + items2.size)) = true) (hs1 : items.size ≤ sizeLine) (hs2 : items.size + items2.size ≤ sizeLine + 1) :
    Meets (Builtin.«list.extend» ⟨[.ref l, .ref b], []⟩) (fun _ R s => s.heap.get? l = some { cls := .type "list", data := .seq items n } ∧ s.heap.get? b = some { cls := .type "tuple", dict := dct, data := .seq items2 n2, slots := sl } ∧
      R (.ok (.ret Value.none)) { s with heap := s.heap.update l (Obj.mapSeq fun x => x ++ items2), toks := s.toks }) :=
  .of_wp fun prog w A R s h => by
    obtain ⟨hp, g, d, tk, os⟩ := s
    obtain ⟨hl, hb, h⟩ := h
    have f1 := AutoSeq1.idx_int
    have f2 := AutoSeq1.sub_tuple_tuple
    have f3 := AutoSeq1.sub_list_list
    have f4 := AutoSeq1.sub_tuple_list
    have f5 := AutoSeq1.sub_list_tuple
    have hz' : (items ++ items2).size ≤ sizeLine + 1 := by rw [Array.size_append]; exact hs2
    wp_walk using (wpAny_updateSeq hl rfl (hz := hs1) (_hz' := hz')), wpAny_loadPart' hl, wpAny_loadPart' hb
    exact ⟨_, rfl, h⟩
/-- l.extend(t), t a tuple -/
def rExtendT (K : PySem.W.Frag) : V → List V → Hp → VK → Prop := fun x vs H Q => ∃ l b xs zs, x = .ref l ∧ vs = [.ref b] ∧ H l = some (.lst xs) ∧ SqT K H b zs ∧ xs.length + zs.length ≤ sizeLine ∧ Q .non (upd H l (.lst (xs ++ zs)))
theorem mt_extendT {X : Cx} : MtM X "list.extend" (rExtendT X.K) := by
  intro pins s σ H x vs v us Q I rx rv h
  obtain ⟨l, b, xs, zs, rfl, rfl, hH, hB, hz, q⟩ := h
  cases rx
  obtain ⟨u, rfl, ru⟩ := rv.one
  cases ru
  obtain ⟨z, its, n, r, hl, e⟩ := I.lstM hH
  obtain ⟨its2, r2, ⟨⟨c2, d2, dt2, sl2⟩, e2, hc2, n2, hd2⟩, hl2⟩ := I.tuple hB
  have hc2 : c2 = .type "tuple" := hc2
  have hd2 : dt2 = .seq its2.toArray n2 := hd2
  subst hc2 hd2
  have hlz : zs.length = its2.length := r2.length
  have hsz : its.toArray.size + its2.toArray.size ≤ sizeLine := by rw [List.size_toArray, List.size_toArray]; omega
  have hlong : ¬ (!its.toArray.isEmpty && Builtin.List.listTooLong (its.toArray.size + its2.toArray.size)) = true := by
    rw [notLongL hsz, Bool.and_false]
    exact Bool.false_ne_true
  refine call_meets F.slot_list_extend ⟨_, e, rfl⟩ F.entry_list_extend (F.args_list_extend_2 _ _) (extendT l its.toArray n b its2.toArray n2 d2 sl2 hlong (by rw [List.size_toArray]; omega) (by omega)) ⟨e, e2, ?_⟩
  refine ⟨.non, _, I.lset (its' := its ++ its2) hH e (by simp) (r.append r2) ?_, rfl, q⟩
  rw [List.length_append]
  exact hz
end KL

/-! Open terms, plainly: what fill and the law's show compute, and that they agree. -/
namespace KM

inductive Kd where
  | app | pi | fn | lt | hole (n : Int)
  deriving DecidableEq
def bnd : Kd → Nat → Nat
  | .pi, 1 => 1
  | .fn, 1 => 1
  | .lt, 2 => 1
  | _, _ => 0
theorem bnd_hole (n : Int) (j : Nat) : bnd (.hole n) j = 0 := rfl
theorem bnd_le (k : Kd) (j : Nat) : bnd k j ≤ 1 := by
  unfold bnd; split <;> omega
inductive Tm where
  | var (i : Nat)
  | atom (u : Bool) (xs : List PySem.PyData)
  | node (k : Kd) (ps : List Tm)

theorem Tm.ind {P : Tm → Prop} (hv : ∀ i, P (.var i)) (ha : ∀ u xs, P (.atom u xs)) (hn : ∀ k ps, (∀ p ∈ ps, P p) → P (.node k ps)) : ∀ t, P t := by
  intro t
  refine Tm.rec (motive_1 := P) (motive_2 := fun l => ∀ p ∈ l, P p) hv ha hn ?_ ?_ t
  · intro p hp; cases hp
  · intro p l h1 h2 q hq
    rcases List.mem_cons.mp hq with e | e
    · rw [e]; exact h1
    · exact h2 q e

/-- a list mapped with its numbers from j on -/
def mapI (f : Nat → Tm → Tm) : Nat → List Tm → List Tm
  | _, [] => []
  | j, p :: ps => f j p :: mapI f (j + 1) ps
theorem mapI_len (f : Nat → Tm → Tm) : ∀ (ps : List Tm) (j : Nat), (mapI f j ps).length = ps.length
  | [], _ => rfl
  | _ :: ps, j => congrArg (· + 1) (mapI_len f ps (j + 1))
theorem mapI_get (f : Nat → Tm → Tm) : ∀ (ps : List Tm) (j i : Nat), (mapI f j ps)[i]? = ps[i]?.map (f (j + i))
  | [], _, _ => by simp [mapI]
  | p :: ps, j, 0 => by simp [mapI]
  | p :: ps, j, i + 1 => by
    have q := mapI_get f ps (j + 1) i
    have e : j + 1 + i = j + (i + 1) := by omega
    rw [e] at q
    simpa [mapI] using q
theorem mapI_congr {f g : Nat → Tm → Tm} : ∀ (ps : List Tm) (j : Nat), (∀ i p, ps[i]? = some p → f (j + i) p = g (j + i) p) → mapI f j ps = mapI g j ps
  | [], _, _ => rfl
  | p :: ps, j, h => by
    have h0 : f j p = g j p := h 0 p rfl
    have h1 : mapI f (j + 1) ps = mapI g (j + 1) ps := mapI_congr ps (j + 1) fun i q hq => by
      have z := h (i + 1) q (by simpa using hq)
      have e : j + 1 + i = j + (i + 1) := by omega
      rw [e]; exact z
    show f j p :: mapI f (j + 1) ps = g j p :: mapI g (j + 1) ps
    rw [h0, h1]
theorem mapI_mapI (f g : Nat → Tm → Tm) : ∀ (ps : List Tm) (j : Nat), mapI f j (mapI g j ps) = mapI (fun j p => f j (g j p)) j ps
  | [], _ => rfl
  | p :: ps, j => congrArg (f j (g j p) :: ·) (mapI_mapI f g ps (j + 1))
theorem mapI_map (f : Tm → Tm) : ∀ (ps : List Tm) (j : Nat), mapI (fun _ p => f p) j ps = ps.map f
  | [], _ => rfl
  | p :: ps, j => congrArg (f p :: ·) (mapI_map f ps (j + 1))
theorem mapI_id : ∀ (ps : List Tm) (j : Nat), mapI (fun _ p => p) j ps = ps
  | [], _ => rfl
  | p :: ps, j => congrArg (p :: ·) (mapI_id ps (j + 1))

mutual
/-- each variable i that stands under d binders, counted from a start, becomes g d i -/
def trav (g : Nat → Nat → Tm) : Nat → Tm → Tm
  | d, .var i => g d i
  | _, .atom u xs => .atom u xs
  | d, .node k ps => .node k (travL g k d 0 ps)
def travL (g : Nat → Nat → Tm) (k : Kd) (d : Nat) : Nat → List Tm → List Tm
  | _, [] => []
  | j, p :: ps => trav g (d + bnd k j) p :: travL g k d (j + 1) ps
end
theorem travL_eq (g : Nat → Nat → Tm) (k : Kd) (d : Nat) : ∀ (ps : List Tm) (j : Nat), travL g k d j ps = mapI (fun j p => trav g (d + bnd k j) p) j ps
  | [], _ => by simp [travL, mapI]
  | p :: ps, j => by simp [travL, mapI, travL_eq g k d ps (j + 1)]
theorem trav_node (g : Nat → Nat → Tm) (d : Nat) (k : Kd) (ps : List Tm) : trav g d (.node k ps) = .node k (mapI (fun j p => trav g (d + bnd k j) p) 0 ps) := by
  simp [trav, travL_eq]
theorem trav_var (g : Nat → Nat → Tm) (d i : Nat) : trav g d (.var i) = g d i := by simp [trav]
theorem trav_atom (g : Nat → Nat → Tm) (d : Nat) (u : Bool) (xs : List PySem.PyData) : trav g d (.atom u xs) = .atom u xs := by simp [trav]

mutual
/-- all free variables are below w -/
def sc : Nat → Tm → Prop
  | w, .var i => i < w
  | _, .atom _ _ => True
  | w, .node k ps => scL k w 0 ps
def scL (k : Kd) (w : Nat) : Nat → List Tm → Prop
  | _, [] => True
  | j, p :: ps => sc (w + bnd k j) p ∧ scL k w (j + 1) ps
end
theorem scL_iff (k : Kd) (w : Nat) : ∀ (ps : List Tm) (j : Nat), scL k w j ps ↔ ∀ i p, ps[i]? = some p → sc (w + bnd k (j + i)) p
  | [], j => by simp [scL]
  | q :: ps, j => by
    rw [scL, scL_iff k w ps (j + 1)]
    constructor
    · rintro ⟨h1, h2⟩ i p hp
      cases i with
      | zero => simp at hp; subst hp; exact h1
      | succ i =>
        have z := h2 i p (by simpa using hp)
        rw [show j + 1 + i = j + (i + 1) by omega] at z
        exact z
    · intro h
      refine ⟨h 0 q rfl, fun i p hp => ?_⟩
      have z := h (i + 1) p (by simpa using hp)
      rw [show j + 1 + i = j + (i + 1) by omega]
      exact z
theorem sc_var {w i : Nat} : sc w (.var i) ↔ i < w := by simp [sc]
theorem sc_atom {w : Nat} {u : Bool} {xs : List PySem.PyData} : sc w (.atom u xs) := by simp [sc]
theorem sc_node {w : Nat} {k : Kd} {ps : List Tm} : sc w (.node k ps) ↔ ∀ j p, ps[j]? = some p → sc (w + bnd k j) p := by
  rw [sc, scL_iff]
  simp
theorem trav_rel {g g' : Nat → Nat → Tm} (t : Tm) : ∀ (w d d' : Nat), sc w t → (∀ e i, i < w + e → g (d + e) i = g' (d' + e) i) → trav g d t = trav g' d' t := by
  refine Tm.ind (P := fun t => ∀ (w d d' : Nat), sc w t → (∀ e i, i < w + e → g (d + e) i = g' (d' + e) i) → trav g d t = trav g' d' t) ?_ ?_ ?_ t
  · intro i w d d' s h
    rw [trav_var, trav_var]
    exact h 0 i (by simpa using sc_var.mp s)
  · intro u xs w d d' s h; rw [trav_atom, trav_atom]
  · intro k ps ih w d d' s h
    rw [trav_node, trav_node]
    refine congrArg (Tm.node k) (mapI_congr ps 0 fun j p hp => ?_)
    have s' := sc_node.mp s j p hp
    rw [Nat.zero_add]
    refine ih p (List.mem_of_getElem? hp) _ _ _ s' fun e i hi => ?_
    have q := h (bnd k j + e) i (by omega)
    rw [← Nat.add_assoc, ← Nat.add_assoc] at q
    exact q
theorem trav_rel0 {g g' : Nat → Nat → Tm} (t : Tm) : ∀ (d d' : Nat), (∀ e i, g (d + e) i = g' (d' + e) i) → trav g d t = trav g' d' t := by
  refine Tm.ind (P := fun t => ∀ (d d' : Nat), (∀ e i, g (d + e) i = g' (d' + e) i) → trav g d t = trav g' d' t) ?_ ?_ ?_ t
  · intro i d d' h
    rw [trav_var, trav_var]
    exact h 0 i
  · intro u xs d d' h; rw [trav_atom, trav_atom]
  · intro k ps ih d d' h
    rw [trav_node, trav_node]
    refine congrArg (Tm.node k) (mapI_congr ps 0 fun j p hp => ?_)
    refine ih p (List.mem_of_getElem? hp) _ _ fun e i => ?_
    have q := h (bnd k (0 + j) + e) i
    rw [← Nat.add_assoc, ← Nat.add_assoc] at q
    exact q
theorem trav_comp (g h : Nat → Nat → Tm) : ∀ (t : Tm) (d : Nat), trav g d (trav h d t) = trav (fun d i => trav g d (h d i)) d t := by
  intro t
  refine Tm.ind (P := fun t => ∀ d, trav g d (trav h d t) = trav (fun d i => trav g d (h d i)) d t) ?_ ?_ ?_ t
  · intro i d; rw [trav_var, trav_var]
  · intro u xs d; rw [trav_atom, trav_atom, trav_atom]
  · intro k ps ih d
    rw [trav_node, trav_node, trav_node, mapI_mapI]
    exact congrArg (Tm.node k) (mapI_congr ps 0 fun j p hp => ih p (List.mem_of_getElem? hp) _)
/-- with nothing changed -/
theorem trav_id {g : Nat → Nat → Tm} (t : Tm) : ∀ (w d : Nat), sc w t → (∀ e i, i < w + e → g (d + e) i = .var i) → trav g d t = t := by
  refine Tm.ind (P := fun t => ∀ (w d : Nat), sc w t → (∀ e i, i < w + e → g (d + e) i = .var i) → trav g d t = t) ?_ ?_ ?_ t
  · intro i w d s h
    rw [trav_var]
    exact h 0 i (by simpa using sc_var.mp s)
  · intro u xs w d s h; rw [trav_atom]
  · intro k ps ih w d s h
    rw [trav_node]
    refine congrArg (Tm.node k) ((mapI_congr (g := fun _ p => p) ps 0 fun j p hp => ?_).trans (mapI_id ps 0))
    have s' := sc_node.mp s j p hp
    rw [Nat.zero_add]
    refine ih p (List.mem_of_getElem? hp) _ _ s' fun e i hi => ?_
    have q := h (bnd k j + e) i (by omega)
    rw [← Nat.add_assoc] at q
    exact q
theorem trav_id0 {g : Nat → Nat → Tm} (t : Tm) : ∀ (d : Nat), (∀ e i, g (d + e) i = .var i) → trav g d t = t := by
  refine Tm.ind (P := fun t => ∀ (d : Nat), (∀ e i, g (d + e) i = .var i) → trav g d t = t) ?_ ?_ ?_ t
  · intro i d h
    rw [trav_var]
    exact h 0 i
  · intro u xs d h; rw [trav_atom]
  · intro k ps ih d h
    rw [trav_node]
    refine congrArg (Tm.node k) ((mapI_congr (g := fun _ p => p) ps 0 fun j p hp => ?_).trans (mapI_id ps 0))
    refine ih p (List.mem_of_getElem? hp) _ fun e i => ?_
    have q := h (bnd k (0 + j) + e) i
    rw [← Nat.add_assoc] at q
    exact q
/-- a scope goes through -/
theorem sc_trav {g : Nat → Nat → Tm} (t : Tm) : ∀ (w w' d : Nat), sc w t → (∀ e i, i < w + e → sc (w' + e) (g (d + e) i)) → sc w' (trav g d t) := by
  refine Tm.ind (P := fun t => ∀ (w w' d : Nat), sc w t → (∀ e i, i < w + e → sc (w' + e) (g (d + e) i)) → sc w' (trav g d t)) ?_ ?_ ?_ t
  · intro i w w' d s h
    rw [trav_var]
    exact h 0 i (by simpa using sc_var.mp s)
  · intro u xs w w' d s h; rw [trav_atom]; exact sc_atom
  · intro k ps ih w w' d s h
    rw [trav_node, sc_node]
    intro j q hq
    rw [mapI_get] at hq
    cases hp : ps[j]? with
    | none => rw [hp] at hq; cases hq
    | some p =>
      rw [hp] at hq
      simp only [Option.map_some, Option.some.injEq, Nat.zero_add] at hq
      subst hq
      refine ih p (List.mem_of_getElem? hp) _ _ _ (sc_node.mp s j p hp) fun e i hi => ?_
      have z := h (bnd k j + e) i (by omega)
      rw [← Nat.add_assoc, ← Nat.add_assoc] at z
      exact z
theorem sc_mono {t : Tm} {w w' : Nat} (s : sc w t) (h : w ≤ w') : sc w' t := by
  have e : trav (fun _ i => Tm.var i) 0 t = t := trav_id0 t 0 fun _ _ => rfl
  rw [← e]
  exact sc_trav t w w' 0 s fun e i hi => sc_var.mpr (by omega)

/-! ### lifted, filled -/
def liftG (by_ : Nat) : Nat → Nat → Tm := fun d i => if i < d then .var i else .var (i + by_)
def lift (by_ at_ : Nat) (t : Tm) : Tm := trav (liftG by_) at_ t
def putG (qs : List Tm) : Nat → Nat → Tm := fun d i => if i < d then .var i else if i - d < qs.length then lift d 0 (qs.getD (qs.length - 1 - (i - d)) (.var 0)) else .var (i - qs.length)
def putU (qs : List Tm) (under : Nat) (t : Tm) : Tm := trav (putG qs) under t
theorem putG_lo {qs : List Tm} {d i : Nat} (h : i < d) : putG qs d i = .var i := by unfold putG; rw [if_pos h]
theorem putG_in {qs : List Tm} {d i : Nat} (h : ¬ i < d) (hl : i - d < qs.length) : putG qs d i = lift d 0 (qs.getD (qs.length - 1 - (i - d)) (.var 0)) := by
  unfold putG; rw [if_neg h, if_pos hl]
theorem putG_out {qs : List Tm} {d i : Nat} (h : ¬ i < d) (hl : ¬ i - d < qs.length) : putG qs d i = .var (i - qs.length) := by
  unfold putG; rw [if_neg h, if_neg hl]
theorem liftG_lo {b d i : Nat} (h : i < d) : liftG b d i = .var i := by unfold liftG; rw [if_pos h]
theorem liftG_hi {b d i : Nat} (h : ¬ i < d) : liftG b d i = .var (i + b) := by unfold liftG; rw [if_neg h]
theorem lift_var_hi {b d i : Nat} (h : d ≤ i) : lift b d (.var i) = .var (i + b) := by unfold lift; rw [trav_var, liftG_hi (by omega)]
theorem lift_var_lo {b d i : Nat} (h : i < d) : lift b d (.var i) = .var i := by unfold lift; rw [trav_var, liftG_lo h]
theorem lift_zero (d : Nat) (t : Tm) : lift 0 d t = t := trav_id0 t d fun e i => by
  by_cases h : i < d + e
  · exact liftG_lo h
  · exact liftG_hi h
/-- lifting a lifted term from where it was lifted on -/
theorem lift_at (a b : Nat) (t : Tm) : lift a b (lift b 0 t) = lift (b + a) 0 t := by
  unfold lift
  have e1 : trav (liftG a) b (trav (liftG b) 0 t) = trav (fun e => liftG a (b + e)) 0 (trav (liftG b) 0 t) := trav_rel0 _ _ _ fun e i => by simp
  rw [e1, trav_comp]
  refine trav_rel0 _ _ _ fun e i => ?_
  rw [Nat.zero_add]
  by_cases h : i < e
  · rw [liftG_lo h, liftG_lo h, trav_var, liftG_lo (by omega)]
  · rw [liftG_hi h, liftG_hi h, trav_var, liftG_hi (by omega)]
    congr 1
    omega
theorem lift_lift (a b : Nat) (t : Tm) : lift a 0 (lift b 0 t) = lift (b + a) 0 t := by
  unfold lift
  rw [trav_comp]
  refine trav_rel0 _ _ _ fun e i => ?_
  rw [Nat.zero_add]
  by_cases h : i < e
  · rw [liftG_lo h, liftG_lo h, trav_var, liftG_lo h]
  · rw [liftG_hi h, liftG_hi h, trav_var, liftG_hi (by omega)]
    congr 1
    omega
theorem getD_map {qs : List Tm} {f : Tm → Tm} {j : Nat} (h : j < qs.length) : (qs.map f).getD j (.var 0) = f (qs.getD j (.var 0)) := by
  simp [List.getD, h]
/-- put behind a lift -/
theorem put_lift (qs : List Tm) (d : Nat) (t : Tm) : putU qs d (lift d 0 t) = lift d 0 (putU qs 0 t) := by
  unfold putU
  have e1 : trav (putG qs) d (lift d 0 t) = trav (fun e => putG qs (d + e)) 0 (lift d 0 t) := trav_rel0 _ _ _ fun e i => by simp
  rw [e1]
  unfold lift
  rw [trav_comp, trav_comp]
  refine trav_rel0 _ _ _ fun e i => ?_
  rw [Nat.zero_add]
  by_cases h : i < e
  · rw [liftG_lo h, putG_lo h, trav_var, trav_var, putG_lo (by omega), liftG_lo h]
  · rw [liftG_hi h, trav_var]
    by_cases hl : i - e < qs.length
    · rw [putG_in h hl, putG_in (by omega) (by omega)]
      have e2 : i + d - (d + e) = i - e := by omega
      rw [e2]
      have z := lift_at d e (qs.getD (qs.length - 1 - (i - e)) (.var 0))
      rw [Nat.add_comm e d] at z
      exact z.symm
    · rw [putG_out h hl, putG_out (by omega) (by omega), trav_var, liftG_hi (by omega)]
      congr 1
      omega
theorem put_put {b : Tm} {ps qs : List Tm} (s : sc ps.length b) : putU qs 0 (putU ps 0 b) = putU (ps.map (putU qs 0)) 0 b := by
  unfold putU
  rw [trav_comp]
  refine trav_rel b ps.length 0 0 s fun e i hi => ?_
  rw [Nat.zero_add]
  by_cases h : i < e
  · rw [putG_lo h, putG_lo h, trav_var, putG_lo h]
  · rw [putG_in h (by omega), putG_in h (by simp; omega), List.length_map, getD_map (by omega)]
    exact put_lift qs e _
theorem lift_put {b : Tm} {qs : List Tm} (k : Nat) (s : sc qs.length b) : lift k 0 (putU qs 0 b) = putU (qs.map (lift k 0)) 0 b := by
  unfold putU
  rw [lift, trav_comp]
  refine trav_rel b qs.length 0 0 s fun e i hi => ?_
  rw [Nat.zero_add]
  by_cases h : i < e
  · rw [putG_lo h, putG_lo h, trav_var, liftG_lo h]
  · rw [putG_in h (by omega), putG_in h (by simp; omega), List.length_map, getD_map (by omega)]
    have z := lift_at k e (qs.getD (qs.length - 1 - (i - e)) (.var 0))
    have z2 := lift_lift e k (qs.getD (qs.length - 1 - (i - e)) (.var 0))
    rw [z2, Nat.add_comm k e]
    exact z
/-- under one more binder -/
theorem put_under {b : Tm} {qs : List Tm} (s : sc (qs.length + 1) b) : putU (qs.map (lift 1 0) ++ [.var 0]) 0 b = putU qs 1 b := by
  unfold putU
  refine trav_rel b (qs.length + 1) 0 1 s fun e i hi => ?_
  rw [Nat.zero_add]
  have hl : (qs.map (lift 1 0) ++ [Tm.var 0]).length = qs.length + 1 := by simp
  by_cases h : i < e
  · rw [putG_lo h, putG_lo (by omega)]
  · rw [putG_in h (by omega), hl]
    by_cases h2 : i = e
    · subst h2
      rw [putG_lo (by omega)]
      have e1 : qs.length + 1 - 1 - (i - i) = qs.length := by omega
      rw [e1]
      have e2 : (qs.map (lift 1 0) ++ [Tm.var 0]).getD qs.length (.var 0) = .var 0 := by simp [List.getD]
      rw [e2, lift_var_hi (Nat.zero_le _), Nat.zero_add]
    · rw [putG_in (d := 1 + e) (by omega) (by omega)]
      have e1 : qs.length + 1 - 1 - (i - e) = qs.length - 1 - (i - (1 + e)) := by omega
      rw [e1]
      have hlt : qs.length - 1 - (i - (1 + e)) < qs.length := by omega
      have e2 : (qs.map (lift 1 0) ++ [Tm.var 0]).getD (qs.length - 1 - (i - (1 + e))) (.var 0) = lift 1 0 (qs.getD (qs.length - 1 - (i - (1 + e))) (.var 0)) := by
        rw [← getD_map (f := lift 1 0) hlt, List.getD, List.getD, List.getElem?_append_left (by rw [List.length_map]; exact hlt)]
      rw [e2, lift_lift, Nat.add_comm]
/-- the variables themselves, the greatest first -/
def idv (w : Nat) : List Tm := (List.range w).map fun j => .var (w - 1 - j)
theorem idv_len (w : Nat) : (idv w).length = w := by simp [idv]
theorem put_id {t : Tm} {w : Nat} (s : sc w t) : putU (idv w) 0 t = t := by
  unfold putU
  refine trav_id t w 0 s fun e i hi => ?_
  rw [Nat.zero_add]
  by_cases h : i < e
  · exact putG_lo h
  · rw [putG_in h (by rw [idv_len]; omega), idv_len]
    have e1 : (idv w).getD (w - 1 - (i - e)) (.var 0) = .var (i - e) := by
      have hlt : w - 1 - (i - e) < w := by omega
      simp only [idv, List.getD, List.getElem?_map, List.getElem?_range hlt, Option.map_some, Option.getD_some]
      congr 1
      omega
    rw [e1, lift_var_hi (Nat.zero_le _)]
    congr 1
    omega
theorem sc_lift {t : Tm} {w : Nat} (k : Nat) (s : sc w t) : sc (w + k) (lift k 0 t) := by
  unfold lift
  refine sc_trav t w (w + k) 0 s fun e i hi => ?_
  rw [Nat.zero_add]
  by_cases h : i < e
  · rw [liftG_lo h]; exact sc_var.mpr (by omega)
  · rw [liftG_hi h]; exact sc_var.mpr (by omega)
theorem sc_put {b : Tm} {qs : List Tm} {w d : Nat} (s : sc (qs.length + d) b) (hq : ∀ q ∈ qs, sc w q) : sc (w + d) (putU qs d b) := by
  unfold putU
  refine sc_trav b (qs.length + d) (w + d) d s fun e i hi => ?_
  by_cases h : i < d + e
  · rw [putG_lo h]; exact sc_var.mpr (by omega)
  · rw [putG_in h (by omega)]
    have hlt : qs.length - 1 - (i - (d + e)) < qs.length := by omega
    have hm : qs.getD (qs.length - 1 - (i - (d + e))) (.var 0) ∈ qs := by
      rw [List.getD, List.getElem?_eq_getElem hlt]
      exact List.getElem_mem hlt
    have z := sc_lift (d + e) (hq _ hm)
    rw [← Nat.add_assoc] at z
    exact z

/-! ### depth -/
/-- the parts that a node of this kind has -/
def arOk : Kd → Nat → Prop
  | .app, m => m = 2
  | .pi, m => m = 2
  | .fn, m => m = 2
  | .lt, m => m = 3
  | .hole _, m => m ≤ 24
theorem arOk.le {k : Kd} {m : Nat} (h : arOk k m) : m ≤ 24 := by
  cases k with
  | hole n => exact h
  | _ => have h : m = _ := h; omega
/-- rightly formed, at most n nodes with parts one in another -/
def dle : Nat → Tm → Prop
  | _, .var _ => True
  | _, .atom _ _ => True
  | 0, .node _ _ => False
  | n + 1, .node k ps => arOk k ps.length ∧ ∀ p ∈ ps, dle n p
theorem dle_var (n i : Nat) : dle n (.var i) := by cases n <;> trivial
theorem dle_atom (n : Nat) (u : Bool) (xs : List PySem.PyData) : dle n (.atom u xs) := by cases n <;> trivial
theorem dle_mono : ∀ {n m : Nat} {t : Tm}, dle n t → n ≤ m → dle m t
  | _, m, .var i, _, _ => dle_var m i
  | _, m, .atom u xs, _, _ => dle_atom m u xs
  | 0, _, .node _ _, h, _ => h.elim
  | n + 1, 0, .node _ _, _, h => by omega
  | n + 1, m + 1, .node k ps, h, hm => ⟨h.1, fun p hp => dle_mono (h.2 p hp) (by omega)⟩
theorem dle_trav {g : Nat → Nat → Tm} {m : Nat} (hg : ∀ d i, dle m (g d i)) : ∀ {n : Nat} {t : Tm} {d : Nat}, dle n t → dle (n + m) (trav g d t)
  | n, .var i, d, _ => by rw [trav_var]; exact dle_mono (hg d i) (Nat.le_add_left _ _)
  | n, .atom u xs, d, _ => by rw [trav_atom]; exact dle_atom _ _ _
  | 0, .node _ _, _, h => h.elim
  | n + 1, .node k ps, d, h => by
    rw [trav_node, Nat.succ_add]
    refine ⟨by rw [mapI_len]; exact h.1, fun q hq => ?_⟩
    obtain ⟨j, hj⟩ := List.mem_iff_getElem?.mp hq
    rw [mapI_get] at hj
    cases hp : ps[j]? with
    | none => rw [hp] at hj; cases hj
    | some p =>
      rw [hp] at hj
      simp only [Option.map_some, Option.some.injEq] at hj
      subst hj
      exact dle_trav hg (h.2 p (List.mem_of_getElem? hp))
theorem dle_lift {n b d : Nat} {t : Tm} (h : dle n t) : dle n (lift b d t) := by
  refine dle_trav (m := 0) (fun d i => ?_) h
  by_cases q : i < d
  · rw [liftG_lo q]; trivial
  · rw [liftG_hi q]; trivial
theorem dle_put {n m d : Nat} {t : Tm} {qs : List Tm} (h : dle n t) (hq : ∀ q ∈ qs, dle m q) : dle (n + m) (putU qs d t) := by
  refine dle_trav (fun d i => ?_) h
  by_cases q : i < d
  · rw [putG_lo q]; exact dle_var _ _
  · by_cases hl : i - d < qs.length
    · rw [putG_in q hl]
      have hlt : qs.length - 1 - (i - d) < qs.length := by omega
      refine dle_lift (hq _ ?_)
      rw [List.getD, List.getElem?_eq_getElem hlt]
      exact List.getElem_mem hlt
    · rw [putG_out q hl]; exact dle_var _ _

/-! ### fill -/
/-- a filling: holes to arity and body -/
abbrev Fl := Int → Option (Nat × Tm)
/-- the body of a filled hole -/
def hit (φ : Fl) : Kd → Option (Nat × Tm)
  | .hole h => φ h
  | _ => none
def fillN (φ : Fl) : Nat → Tm → Tm
  | _, .var i => .var i
  | _, .atom u xs => .atom u xs
  | 0, .node k ps => .node k ps
  | n + 1, .node k ps => match hit φ k with
    | some (_, b) => putU (ps.map (fillN φ n)) 0 (fillN φ n b)
    | none => .node k (ps.map (fillN φ n))
theorem fillN_var (φ : Fl) (n i : Nat) : fillN φ n (.var i) = .var i := by cases n <;> rfl
theorem fillN_atom (φ : Fl) (n : Nat) (u : Bool) (xs : List PySem.PyData) : fillN φ n (.atom u xs) = .atom u xs := by cases n <;> rfl
theorem fillN_hit {φ : Fl} {n : Nat} {k : Kd} {ps : List Tm} {ar : Nat} {b : Tm} (h : hit φ k = some (ar, b)) : fillN φ (n + 1) (.node k ps) = putU (ps.map (fillN φ n)) 0 (fillN φ n b) := by
  show (match hit φ k with | some (_, b) => _ | none => _) = _
  rw [h]
theorem fillN_miss {φ : Fl} {n : Nat} {k : Kd} {ps : List Tm} (h : hit φ k = none) : fillN φ (n + 1) (.node k ps) = .node k (ps.map (fillN φ n)) := by
  show (match hit φ k with | some (_, b) => _ | none => _) = _
  rw [h]
/-- t stands under w variables, its filled holes have as many arguments as their arity; n calls of fill, one in another, come to an end -/
def wf (φ : Fl) : Nat → Nat → Tm → Prop
  | _, w, .var i => i < w
  | _, _, .atom _ _ => True
  | 0, _, .node _ _ => False
  | n + 1, w, .node k ps => match hit φ k with
    | some (ar, b) => ps.length = ar ∧ (∀ p ∈ ps, wf φ n w p) ∧ wf φ n ar b
    | none => ∀ j p, ps[j]? = some p → wf φ n (w + bnd k j) p
theorem wf_var {φ : Fl} {n w i : Nat} : wf φ n w (.var i) ↔ i < w := by cases n <;> rfl
theorem wf_atom {φ : Fl} {n w : Nat} {u : Bool} {xs : List PySem.PyData} : wf φ n w (.atom u xs) := by cases n <;> trivial
theorem wf_hit {φ : Fl} {n w : Nat} {k : Kd} {ps : List Tm} {ar : Nat} {b : Tm} (h : hit φ k = some (ar, b)) : wf φ (n + 1) w (.node k ps) ↔ ps.length = ar ∧ (∀ p ∈ ps, wf φ n w p) ∧ wf φ n ar b := by
  show (match hit φ k with | some (ar, b) => _ | none => _) ↔ _
  rw [h]
theorem wf_miss {φ : Fl} {n w : Nat} {k : Kd} {ps : List Tm} (h : hit φ k = none) : wf φ (n + 1) w (.node k ps) ↔ ∀ j p, ps[j]? = some p → wf φ n (w + bnd k j) p := by
  show (match hit φ k with | some (ar, b) => _ | none => _) ↔ _
  rw [h]
theorem wf_mono {φ : Fl} : ∀ {n m w : Nat} {t : Tm}, wf φ n w t → n ≤ m → wf φ m w t
  | _, _, _, .var i, h, _ => wf_var.mpr (wf_var.mp h)
  | _, _, _, .atom u xs, _, _ => wf_atom
  | 0, _, _, .node _ _, h, _ => h.elim
  | n + 1, 0, _, .node _ _, _, h => by omega
  | n + 1, m + 1, w, .node k ps, h, hm => by
    have hm' : n ≤ m := by omega
    cases e : hit φ k with
    | some ab =>
      obtain ⟨ar, b⟩ := ab
      obtain ⟨h1, h2, h3⟩ := (wf_hit e).mp h
      exact (wf_hit e).mpr ⟨h1, fun p hp => wf_mono (h2 p hp) hm', wf_mono h3 hm'⟩
    | none => exact (wf_miss e).mpr fun j p hp => wf_mono ((wf_miss e).mp h j p hp) hm'
theorem fillN_mono {φ : Fl} : ∀ {n m w : Nat} {t : Tm}, wf φ n w t → n ≤ m → fillN φ m t = fillN φ n t
  | _, _, _, .var i, h, _ => by rw [fillN_var, fillN_var]
  | _, _, _, .atom u xs, _, _ => by rw [fillN_atom, fillN_atom]
  | 0, _, _, .node _ _, h, _ => h.elim
  | n + 1, 0, _, .node _ _, _, h => by omega
  | n + 1, m + 1, w, .node k ps, h, hm => by
    have hm' : n ≤ m := by omega
    cases e : hit φ k with
    | some ab =>
      obtain ⟨ar, b⟩ := ab
      obtain ⟨h1, h2, h3⟩ := (wf_hit e).mp h
      rw [fillN_hit e, fillN_hit e, fillN_mono h3 hm']
      congr 1
      exact List.map_congr_left fun p hp => fillN_mono (h2 p hp) hm'
    | none =>
      rw [fillN_miss e, fillN_miss e]
      congr 1
      refine List.map_congr_left fun p hp => ?_
      obtain ⟨j, hj⟩ := List.mem_iff_getElem?.mp hp
      exact fillN_mono ((wf_miss e).mp h j p hj) hm'
theorem sc_fill {φ : Fl} : ∀ {n w : Nat} {t : Tm}, wf φ n w t → sc w (fillN φ n t)
  | _, _, .var i, h => by rw [fillN_var]; exact sc_var.mpr (wf_var.mp h)
  | _, _, .atom u xs, _ => by rw [fillN_atom]; exact sc_atom
  | 0, _, .node _ _, h => h.elim
  | n + 1, w, .node k ps, h => by
    cases e : hit φ k with
    | some ab =>
      obtain ⟨ar, b⟩ := ab
      obtain ⟨h1, h2, h3⟩ := (wf_hit e).mp h
      rw [fillN_hit e]
      refine sc_put (d := 0) ?_ fun q hq => ?_
      · rw [List.length_map, h1]; exact sc_fill h3
      · obtain ⟨p, hp, rfl⟩ := List.mem_map.mp hq
        exact sc_fill (h2 p hp)
    | none =>
      rw [fillN_miss e, sc_node]
      intro j q hq
      rw [List.getElem?_map] at hq
      cases hp : ps[j]? with
      | none => rw [hp] at hq; cases hq
      | some p =>
        rw [hp] at hq
        simp only [Option.map_some, Option.some.injEq] at hq
        subst hq
        exact sc_fill ((wf_miss e).mp h j p hp)

/-! ### the law's show: environments of binders and of closures -/
inductive Ent where
  | lvl (l : Nat)
  | clo (t : Tm) (env : List Ent)
/-- show(t, env, deep) is u, with at most n calls one in another -/
inductive Sh (φ : Fl) : Nat → Tm → List Ent → Nat → Tm → Prop
  | lvl {n i deep l : Nat} {env : List Ent} : i < env.length → env[env.length - 1 - i]? = some (.lvl l) → l < deep → Sh φ (n + 1) (.var i) env deep (.var (deep - 1 - l))
  | clo {n i deep : Nat} {env env' : List Ent} {t u : Tm} : i < env.length → env[env.length - 1 - i]? = some (.clo t env') → Sh φ n t env' deep u → Sh φ (n + 1) (.var i) env deep u
  | atom {n deep : Nat} {env : List Ent} {a : Bool} {xs : List PySem.PyData} : Sh φ (n + 1) (.atom a xs) env deep (.atom a xs)
  | hit {n deep ar : Nat} {env : List Ent} {k : Kd} {ps : List Tm} {b u : Tm} : hit φ k = some (ar, b) → Sh φ n b (ps.map fun p => .clo p env) deep u → Sh φ (n + 1) (.node k ps) env deep u
  | miss {n deep : Nat} {env : List Ent} {k : Kd} {ps us : List Tm} : hit φ k = none → us.length = ps.length →
      (∀ j p u, ps[j]? = some p → us[j]? = some u → Sh φ n p (if bnd k j = 1 then env ++ [.lvl deep] else env) (deep + bnd k j) u) → Sh φ (n + 1) (.node k ps) env deep (.node k us)
theorem Sh.mono {φ : Fl} {n : Nat} {t : Tm} {env : List Ent} {deep : Nat} {u : Tm} (h : Sh φ n t env deep u) : ∀ {m : Nat}, n ≤ m → Sh φ m t env deep u := by
  induction h with
  | lvl h1 h2 h3 => intro m hm; obtain ⟨m, rfl⟩ : ∃ m', m = m' + 1 := ⟨m - 1, by omega⟩; exact .lvl h1 h2 h3
  | clo h1 h2 _ ih => intro m hm; obtain ⟨m, rfl⟩ : ∃ m', m = m' + 1 := ⟨m - 1, by omega⟩; exact .clo h1 h2 (ih (by omega))
  | atom => intro m hm; obtain ⟨m, rfl⟩ : ∃ m', m = m' + 1 := ⟨m - 1, by omega⟩; exact .atom
  | hit h1 _ ih => intro m hm; obtain ⟨m, rfl⟩ : ∃ m', m = m' + 1 := ⟨m - 1, by omega⟩; exact .hit h1 (ih (by omega))
  | miss h1 h2 _ ih => intro m hm; obtain ⟨m, rfl⟩ : ∃ m', m = m' + 1 := ⟨m - 1, by omega⟩; exact .miss h1 h2 fun j p u e1 e2 => ih j p u e1 e2 (by omega)
/-- the calls that show makes one in another, those of the variables aside -/
def cst (φ : Fl) : Nat → Tm → Nat → Prop
  | _, .var _, c => 1 ≤ c
  | _, .atom _ _, c => 1 ≤ c
  | 0, .node _ _, _ => False
  | n + 1, .node k ps, c => match hit φ k with
    | some (_, b) => ∃ c1 c2, cst φ n b c1 ∧ (∀ p ∈ ps, cst φ n p c2) ∧ 1 + c1 + c2 ≤ c
    | none => ∃ c1, (∀ p ∈ ps, cst φ n p c1) ∧ 1 + c1 ≤ c
theorem cst_var {φ : Fl} {n i c : Nat} : cst φ n (.var i) c ↔ 1 ≤ c := by cases n <;> rfl
theorem cst_atom {φ : Fl} {n c : Nat} {u : Bool} {xs : List PySem.PyData} : cst φ n (.atom u xs) c ↔ 1 ≤ c := by cases n <;> rfl
theorem cst_hit {φ : Fl} {n c : Nat} {k : Kd} {ps : List Tm} {ar : Nat} {b : Tm} (h : hit φ k = some (ar, b)) : cst φ (n + 1) (.node k ps) c ↔ ∃ c1 c2, cst φ n b c1 ∧ (∀ p ∈ ps, cst φ n p c2) ∧ 1 + c1 + c2 ≤ c := by
  show (match hit φ k with | some (_, b) => _ | none => _) ↔ _
  rw [h]
theorem cst_miss {φ : Fl} {n c : Nat} {k : Kd} {ps : List Tm} (h : hit φ k = none) : cst φ (n + 1) (.node k ps) c ↔ ∃ c1, (∀ p ∈ ps, cst φ n p c1) ∧ 1 + c1 ≤ c := by
  show (match hit φ k with | some (_, b) => _ | none => _) ↔ _
  rw [h]
/-- what an entry stands for at this depth and at all deeper ones -/
def EntOk (φ : Fl) (E deep : Nat) : Ent → Tm → Prop
  | .lvl l, p => l < deep ∧ p = .var (deep - 1 - l)
  | .clo t env, p => ∀ k, Sh φ E t env (deep + k) (lift k 0 p)
def EnvOk (φ : Fl) (E deep : Nat) (env : List Ent) (ps : List Tm) : Prop := env.length = ps.length ∧ ∀ (j : Nat) (e : Ent) (p : Tm), env[j]? = some e → ps[j]? = some p → EntOk φ E deep e p
theorem EntOk.deeper {φ : Fl} {E deep : Nat} {e : Ent} {p : Tm} (k : Nat) (h : EntOk φ E deep e p) : EntOk φ E (deep + k) e (lift k 0 p) := by
  cases e with
  | lvl l =>
    obtain ⟨h1, h2⟩ := h
    refine ⟨by omega, ?_⟩
    rw [h2, lift_var_hi (Nat.zero_le _)]
    congr 1
    omega
  | clo t env =>
    intro j
    have z := h (k + j)
    rw [lift_lift, Nat.add_assoc]
    exact z
theorem EnvOk.deeper {φ : Fl} {E deep : Nat} {env : List Ent} {ps : List Tm} (k : Nat) (h : EnvOk φ E deep env ps) : EnvOk φ E (deep + k) env (ps.map (lift k 0)) := by
  refine ⟨by rw [List.length_map]; exact h.1, fun j e p he hp => ?_⟩
  rw [List.getElem?_map] at hp
  cases hq : ps[j]? with
  | none => rw [hq] at hp; cases hp
  | some q =>
    rw [hq] at hp
    simp only [Option.map_some, Option.some.injEq] at hp
    subst hp
    exact (h.2 j e q he hq).deeper k
theorem EnvOk.snoc {φ : Fl} {E deep : Nat} {env : List Ent} {ps : List Tm} (h : EnvOk φ E deep env ps) : EnvOk φ E (deep + 1) (env ++ [.lvl deep]) (ps.map (lift 1 0) ++ [.var 0]) := by
  have hd := h.deeper 1
  refine ⟨by simp [h.1], fun j e p he hp => ?_⟩
  by_cases hj : j < env.length
  · rw [List.getElem?_append_left hj] at he
    rw [List.getElem?_append_left (by rw [List.length_map, ← h.1]; exact hj)] at hp
    exact hd.2 j e p he hp
  · have hj2 : j = env.length := by
      by_cases z : j < (env ++ [Ent.lvl deep]).length
      · simp at z; omega
      · rw [List.getElem?_eq_none (by omega)] at he; cases he
    subst hj2
    have e1 : e = .lvl deep := by simpa using he.symm
    rw [List.getElem?_append_right (by rw [List.length_map, ← h.1]; omega), List.length_map, h.1, Nat.sub_self] at hp
    have e2 : p = .var 0 := by simpa using hp.symm
    subst e1 e2
    exact ⟨Nat.lt_succ_self _, by congr 1; omega⟩
/-- THE LAW OF SHOW: it gives the filled term with what the environment stands for put in -/
theorem show_ok {φ : Fl} : ∀ {n w c E deep : Nat} {t : Tm} {env : List Ent} {ps : List Tm}, wf φ n w t → cst φ n t c → EnvOk φ E deep env ps → ps.length = w → Sh φ (c + E) t env deep (putU ps 0 (fillN φ n t))
  | n, w, c, E, deep, .var i, env, ps, hw, hc, he, hl => by
    have hi := wf_var.mp hw
    have hc := cst_var.mp hc
    obtain ⟨c, rfl⟩ : ∃ c', c = c' + 1 := ⟨c - 1, by omega⟩
    rw [fillN_var]
    have hlt : env.length - 1 - i < env.length := by have := he.1; omega
    have hlt2 : ps.length - 1 - i < ps.length := by omega
    have e2 : putU ps 0 (.var i) = ps[ps.length - 1 - i] := by
      unfold putU
      rw [trav_var, putG_in (Nat.not_lt_zero _) (by omega), lift_zero]
      simp [List.getD, List.getElem?_eq_getElem hlt2]
    rw [e2]
    have hp : ps[env.length - 1 - i]? = some ps[ps.length - 1 - i] := by rw [he.1]; exact List.getElem?_eq_getElem hlt2
    have ok := he.2 _ _ _ (List.getElem?_eq_getElem hlt) hp
    have hlen : i < env.length := by have := he.1; omega
    rw [show c + 1 + E = (c + E) + 1 by omega]
    cases q : env[env.length - 1 - i] with
    | lvl l =>
      rw [q] at ok
      obtain ⟨o1, o2⟩ := ok
      rw [o2]
      exact .lvl hlen (by rw [List.getElem?_eq_getElem hlt, q]) o1
    | clo t' env' =>
      rw [q] at ok
      have z := ok 0
      rw [lift_zero] at z
      exact .clo hlen (by rw [List.getElem?_eq_getElem hlt, q]) (z.mono (Nat.le_add_left _ _))
  | n, w, c, E, deep, .atom u xs, env, ps, hw, hc, he, hl => by
    have hc := cst_atom.mp hc
    obtain ⟨c, rfl⟩ : ∃ c', c = c' + 1 := ⟨c - 1, by omega⟩
    rw [fillN_atom]
    unfold putU
    rw [trav_atom, show c + 1 + E = (c + E) + 1 by omega]
    exact .atom
  | 0, w, c, E, deep, .node k qs, env, ps, hw, hc, he, hl => hw.elim
  | n + 1, w, c, E, deep, .node k qs, env, ps, hw, hc, he, hl => by
    cases e : hit φ k with
    | some ab =>
      obtain ⟨ar, b⟩ := ab
      obtain ⟨h1, h2, h3⟩ := (wf_hit e).mp hw
      obtain ⟨c1, c2, k1, k2, k3⟩ := (cst_hit e).mp hc
      rw [fillN_hit e, put_put (by rw [List.length_map, h1]; exact sc_fill h3), List.map_map]
      have z : Sh φ (c1 + (c2 + E)) b (qs.map fun p => .clo p env) deep (putU (qs.map (putU ps 0 ∘ fillN φ n)) 0 (fillN φ n b)) := by
        refine show_ok h3 k1 ⟨by simp, fun j e p hj hp => ?_⟩ (by simp [h1])
        rw [List.getElem?_map] at hj hp
        cases hq : qs[j]? with
        | none => rw [hq] at hj; cases hj
        | some q =>
          rw [hq] at hj hp
          simp only [Option.map_some, Option.some.injEq] at hj hp
          subst hj hp
          have hm := List.mem_of_getElem? hq
          intro i
          have z := show_ok (h2 q hm) (k2 q hm) (he.deeper i) (by rw [List.length_map]; exact hl)
          rw [← lift_put i (by rw [hl]; exact sc_fill (h2 q hm))] at z
          exact z
      refine Sh.mono (.hit e z) ?_
      omega
    | none =>
      have h1 := (wf_miss e).mp hw
      obtain ⟨c1, k1, k2⟩ := (cst_miss e).mp hc
      rw [fillN_miss e]
      have e3 : putU ps 0 (.node k (qs.map (fillN φ n))) = .node k (mapI (fun j q => putU ps (bnd k j) (fillN φ n q)) 0 qs) := by
        show trav (putG ps) 0 _ = _
        rw [trav_node, ← mapI_map (fillN φ n) qs 0, mapI_mapI]
        congr 1
        exact mapI_congr qs 0 fun j q _ => by rw [Nat.zero_add, Nat.zero_add] <;> rfl
      rw [e3]
      refine Sh.mono (n := (c1 + E) + 1) (.miss e (mapI_len _ _ _) fun j p u hp hu => ?_) (by omega)
      rw [mapI_get, hp] at hu
      simp only [Option.map_some, Option.some.injEq, Nat.zero_add] at hu
      subst hu
      have hm := List.mem_of_getElem? hp
      have hb := bnd_le k j
      have hwf := h1 j p hp
      by_cases hj : bnd k j = 1
      · rw [if_pos hj, hj]
        rw [hj] at hwf
        rw [← put_under (by rw [hl]; exact sc_fill hwf)]
        exact show_ok hwf (k1 p hm) he.snoc (by simp [hl])
      · have hj0 : bnd k j = 0 := by omega
        rw [if_neg hj, hj0]
        rw [hj0] at hwf
        exact show_ok hwf (k1 p hm) he hl
/-- from the outside -/
theorem show_top {φ : Fl} {n w c : Nat} {t : Tm} (hw : wf φ n w t) (hc : cst φ n t c) : Sh φ c t ((List.range w).map .lvl) w (fillN φ n t) := by
  have z := show_ok (E := 0) (deep := w) (env := (List.range w).map .lvl) (ps := idv w) hw hc ⟨by simp [idv], fun j e p he hp => ?_⟩ (idv_len w)
  · rw [put_id (sc_fill hw)] at z
    exact z
  · have hj : j < w := by
      by_cases h : j < w
      · exact h
      · rw [List.getElem?_eq_none (by simp; omega)] at he; cases he
    simp only [List.getElem?_map, List.getElem?_range hj, Option.map_some, Option.some.injEq, idv] at he hp
    subst he hp
    exact ⟨hj, rfl⟩

/-! ### the numbers of the holes, the size -/
def hd : Kd → List Int
  | .hole h => [h]
  | _ => []
mutual
def nums : Tm → List Int
  | .var _ => []
  | .atom _ _ => []
  | .node k ps => hd k ++ numsL ps
def numsL : List Tm → List Int
  | [] => []
  | p :: ps => nums p ++ numsL ps
end
theorem numsL_eq : ∀ ps : List Tm, numsL ps = (ps.map nums).flatten
  | [] => by simp [numsL]
  | p :: ps => by simp [numsL, numsL_eq ps]
theorem nums_var (i : Nat) : nums (.var i) = [] := by simp [nums]
theorem nums_atom (u : Bool) (xs : List PySem.PyData) : nums (.atom u xs) = [] := by simp [nums]
theorem nums_node (k : Kd) (ps : List Tm) : nums (.node k ps) = hd k ++ (ps.map nums).flatten := by simp [nums, numsL_eq]
theorem mem_nums_node {k : Kd} {ps : List Tm} {h : Int} : h ∈ nums (.node k ps) ↔ h ∈ hd k ∨ ∃ p ∈ ps, h ∈ nums p := by
  rw [nums_node, List.mem_append, List.mem_flatten]
  constructor
  · rintro (z | ⟨l, hl, z⟩)
    · exact .inl z
    · obtain ⟨p, hp, rfl⟩ := List.mem_map.mp hl
      exact .inr ⟨p, hp, z⟩
  · rintro (z | ⟨p, hp, z⟩)
    · exact .inl z
    · exact .inr ⟨_, List.mem_map_of_mem hp, z⟩
mutual
def sz : Tm → Nat
  | .var _ => 1
  | .atom _ _ => 1
  | .node _ ps => 1 + szL ps
def szL : List Tm → Nat
  | [] => 0
  | p :: ps => sz p + szL ps
end
theorem szL_eq : ∀ ps : List Tm, szL ps = (ps.map sz).sum
  | [] => by simp [szL]
  | p :: ps => by simp [szL, szL_eq ps]
theorem sz_var (i : Nat) : sz (.var i) = 1 := by simp [sz]
theorem sz_atom (u : Bool) (xs : List PySem.PyData) : sz (.atom u xs) = 1 := by simp [sz]
theorem sz_node (k : Kd) (ps : List Tm) : sz (.node k ps) = 1 + szL ps := by simp [sz]
theorem szL_append (a b : List Tm) : szL (a ++ b) = szL a + szL b := by rw [szL_eq, szL_eq, szL_eq]; simp
theorem sz_pos (t : Tm) : 1 ≤ sz t := by
  cases t with
  | node k ps => rw [sz_node]; omega
  | var i => rw [sz_var]; exact Nat.le_refl _
  | atom u xs => rw [sz_atom]; exact Nat.le_refl _
theorem szL_len : ∀ ps : List Tm, ps.length ≤ szL ps
  | [] => Nat.le_refl _
  | p :: ps => by
    have := szL_len ps
    have := sz_pos p
    simp only [szL, List.length_cons]
    omega
theorem szL_le {b : Nat} : ∀ ps : List Tm, (∀ p ∈ ps, sz p ≤ b) → szL ps ≤ ps.length * b
  | [], _ => by simp [szL]
  | p :: ps, h => by
    have h1 := h p List.mem_cons_self
    have h2 := szL_le ps fun q hq => h q (List.mem_cons_of_mem _ hq)
    simp only [szL, List.length_cons, Nat.succ_mul]
    omega
theorem sz_le : ∀ {n : Nat} {t : Tm}, dle n t → sz t ≤ 25 ^ n
  | n, .var i, _ => by rw [sz_var]; exact Nat.one_le_pow _ _ (by decide)
  | n, .atom u xs, _ => by rw [sz_atom]; exact Nat.one_le_pow _ _ (by decide)
  | 0, .node _ _, h => h.elim
  | n + 1, .node k ps, h => by
    rw [sz_node]
    have h1 : szL ps ≤ ps.length * 25 ^ n := szL_le ps fun p hp => sz_le (h.2 p hp)
    have h2 : ps.length * 25 ^ n ≤ 24 * 25 ^ n := Nat.mul_le_mul_right _ h.1.le
    have h3 : 1 ≤ 25 ^ n := Nat.one_le_pow _ _ (by decide)
    rw [Nat.pow_succ]
    omega
/-- two rising lists of the same members are one -/
theorem rising_ext : ∀ {xs ys : List Int}, xs.Pairwise (· < ·) → ys.Pairwise (· < ·) → (∀ h, h ∈ xs ↔ h ∈ ys) → xs = ys
  | [], [], _, _, _ => rfl
  | [], y :: ys, _, _, h => absurd ((h y).mpr List.mem_cons_self) (by simp)
  | x :: xs, [], _, _, h => absurd ((h x).mp List.mem_cons_self) (by simp)
  | x :: xs, y :: ys, h1, h2, h => by
    obtain ⟨a1, b1⟩ := List.pairwise_cons.mp h1
    obtain ⟨a2, b2⟩ := List.pairwise_cons.mp h2
    have e : x = y := by
      rcases List.mem_cons.mp ((h x).mp List.mem_cons_self) with e | e
      · exact e
      · rcases List.mem_cons.mp ((h y).mpr List.mem_cons_self) with e' | e'
        · exact e'.symm
        · have := a2 x e
          have := a1 y e'
          omega
    subst e
    congr 1
    refine rising_ext b1 b2 fun z => ⟨fun hz => ?_, fun hz => ?_⟩
    · rcases List.mem_cons.mp ((h z).mp (List.mem_cons_of_mem _ hz)) with e | e
      · have := a1 z hz; omega
      · exact e
    · rcases List.mem_cons.mp ((h z).mpr (List.mem_cons_of_mem _ hz)) with e | e
      · have := a2 z hz; omega
      · exact e
theorem rising_of {xs : List Int} (h1 : xs.Pairwise (· ≤ ·)) (h2 : xs.Nodup) : xs.Pairwise (· < ·) := by
  have h2 : xs.Pairwise (· ≠ ·) := h2
  exact (h1.and h2).imp fun h => by omega
end KM

/-! Terms as data of the heap. -/
namespace KD
open PySem PyProof.Rows L2 LamX NdefX KL KM

/-! ### more rules -/
section
variable {X : Cx}
theorem op_powW : OpR X (binaryOp .Pow) (rI (fun i j => 0 ≤ j ∧ (Builtin.Int.intBits i : Int) * j ≤ 2 ^ 27) fun i j => .int (i ^ j.toNat)) := opI fun _ _ _ _ _ _ _ hc q => pow_int hc.1 hc.2 q
/-- a tuple and the empty one -/
def rEqE (K : PySem.W.Frag) : R2 := fun x y H Q => ∃ p q xs, x = .ref p ∧ y = .ref q ∧ SqT K H p xs ∧ SqT K H q [] ∧ Q (.bl xs.isEmpty) H
theorem op_eqE (hu : X.A.units < cLine) : OpR X (compareOp .Eq) (rEqE X.K) := by
  intro pins s σ H x y v u Q I rx ry h
  obtain ⟨a, b, xs, rfl, rfl, ha, hb, q⟩ := h
  obtain rfl : v = Value.ref a := rx
  obtain rfl : u = Value.ref b := ry
  obtain ⟨its, r1, p1, _⟩ := I.tuple ha
  obtain ⟨its2, r2, p2, _⟩ := I.tuple hb
  cases r2
  refine SeqAt.eq_tupleAt (e := fun _ => true) p1 p2 hu (fun j h1 h2 => absurd h2 (by simp)) (fin_bl I q ?_)
  cases r1 <;> simp
/-- two dicts whose values are equal data -/
def rNeDD (K : PySem.W.Frag) : R2 := fun x y H Q => ∃ a b ks ls, x = .ref a ∧ y = .ref b ∧ H a = some (.dK ks) ∧ H b = some (.dK ls) ∧ ks.length = ls.length ∧
  (∀ p ∈ ks, ∃ u d, valV ls p.1 = some u ∧ Dp K H p.2 d ∧ Dp K H u d ∧ SeqAt.shaped d = true) ∧ Q (.bl false) H
theorem hitsD {pins : List (Addr × Obj)} {σ : L2.St} {H : Hp} {s : Shared} {A : Around} (I : Inv X pins σ H s) (hu : A.units + 64 < cLine) {ls : List (Key × V)} {vb : List (Key × Value)} (rb : KV ls vb) {ks : List (Key × V)} {va : List (Key × Value)} (ra : KV ks va) :
    (∀ p ∈ ks, ∃ u d, valV ls p.1 = some u ∧ Dp X.K H p.2 d ∧ Dp X.K H u d ∧ SeqAt.shaped d = true) → PySem.W.KeqHits A s vb va true := by
  unfold KV at ra
  induction ra with
  | nil => intro _; exact .nil
  | @cons p q ps qs h t ih =>
    intro hp
    obtain ⟨h1, h2⟩ := h
    obtain ⟨u, d, e1, e2, e3, e4⟩ := hp p List.mem_cons_self
    have rr : RelO (some u) (valueAt vb p.1) := by rw [← e1]; exact rb.val p.1
    obtain ⟨y, hy, ry⟩ := rr.some_of
    obtain ⟨key, v⟩ := q
    obtain rfl : p.1 = key := h1
    obtain ⟨as, r1⟩ := Dp.reads I d _ v e2 h2
    obtain ⟨bs, r2⟩ := Dp.reads I d _ y e3 ry
    have q0 := SeqAt.eqAt_reads d d A s v y as bs r1 r2 (SeqAt.canLay_of_shaped e4) (SeqAt.canLay_of_shaped e4) (SeqAt.room_of_shaped e4 hu)
    rw [SeqAt.eqv_refl d (SeqAt.canLay_of_shaped e4)] at q0
    exact .hit (e := true) (b := true) hy q0 (ih fun p' hm => hp p' (List.mem_cons_of_mem _ hm))
theorem op_neDD (hu : X.A.units + 65 < cLine) : OpR X (compareOp .NotEq) (rNeDD X.K) := by
  intro pins s σ H x y v u Q I rx ry h
  obtain ⟨a, b, ks, ls, rfl, rfl, ea, eb, hlen, hp, q⟩ := h
  obtain rfl : v = Value.ref a := rx
  obtain rfl : u = Value.ref b := ry
  obtain ⟨_, ya, va, ra, da⟩ := (show ObjOk X.prog X.w H s.heap a (.dK ks) from I.hok a _ ea)
  obtain ⟨_, yb, vb, rb, db⟩ := (show ObjOk X.prog X.w H s.heap b (.dK ls) from I.hok b _ eb)
  have hl : va.length = vb.length := by rw [← ra.length, ← rb.length]; exact hlen
  exact PySem.W.keq_ne (knd := mixKind X.prog X.w) (r := true) ya yb da db (by omega) (fun _ => hitsD I (by show X.A.units + 1 + 64 < cLine; omega) rb ra hp) (fin_bl I q (by simp [hl]))
end

/-! ### what goes on -/
section
variable {K : PySem.W.Frag} {H H' : Hp} {T : List (Addr × Str)}
theorem rd_ext {a : Addr} {u : HO} (e : ExtN H H') (h : Rd H a u) (n : ∀ ps, u ≠ .tbl ps) : Rd H' a u := by
  rcases h with h | ⟨o, h⟩
  · exact .inl (e _ _ h n)
  · exact .inr ⟨o, e _ _ h fun ps z => by cases z⟩
theorem sqT_ext {a : Addr} {xs : List V} (e : ExtN H H') (h : SqT K H a xs) : SqT K H' a xs := by
  rcases h with h | h
  · exact .inl (rd_ext e h fun ps z => by cases z)
  · exact .inr h
theorem sqL_ext {a : Addr} {xs : List V} (e : ExtN H H') (h : SqL K H a xs) : SqL K H' a xs := by
  rcases h with h | h
  · exact .inl (rd_ext e h fun ps z => by cases z)
  · exact .inr h
/-! data of tuples alone -/
mutual
inductive Tp (K : PySem.W.Frag) (H : Hp) : V → PyData → Prop
  | non : Tp K H .non .none
  | bl (b : Bool) : Tp K H (.bl b) (.bool b)
  | int (i : Int) : Tp K H (.int i) (.int i)
  | str (x : Str) : Tp K H (.str x) (.str x)
  | tup {a : Addr} {xs : List V} {ds : List PyData} : SqT K H a xs → TpAll K H xs ds → Tp K H (.ref a) (.tuple ds)
inductive TpAll (K : PySem.W.Frag) (H : Hp) : List V → List PyData → Prop
  | nil : TpAll K H [] []
  | cons {v : V} {vs : List V} {d : PyData} {ds : List PyData} : Tp K H v d → TpAll K H vs ds → TpAll K H (v :: vs) (d :: ds)
end
mutual
theorem Tp.dp : ∀ (d : PyData) (v : V), Tp K H v d → Dp K H v d
  | .none, _, h => by cases h; exact .non
  | .bool b, _, h => by cases h; exact .bl b
  | .int i, _, h => by cases h; exact .int i
  | .str x, _, h => by cases h; exact .str x
  | .list ds, _, h => by cases h
  | .tuple ds, _, h => by
    cases h with
    | tup hs ha => exact .tup hs (Tp.dpA ds _ ha)
  | .dict _, _, h => by cases h
theorem Tp.dpA : ∀ (ds : List PyData) (vs : List V), TpAll K H vs ds → DpAll K H vs ds
  | [], _, h => by cases h; exact .nil
  | d :: ds, _, h => by
    cases h with
    | cons h1 h2 => exact .cons (Tp.dp d _ h1) (Tp.dpA ds _ h2)
end
/-- the tuples stay -/
def Te (H H' : Hp) : Prop := ∀ a xs, Rd H a (.tup xs) → Rd H' a (.tup xs)
theorem Te.of (e : ExtN H H') : Te H H' := fun _ _ h => rd_ext e h fun ps z => by cases z
theorem Te.trans {H1 : Hp} (a : Te H H1) (b : Te H1 H') : Te H H' := fun x xs h => b x xs (a x xs h)
theorem Te.refl : Te H H := fun _ _ h => h
/-- an object that is no tuple is written -/
theorem Te.upd {p : Addr} {o : HO} (n : ∀ xs, ¬ Rd H p (.tup xs)) : Te H (upd H p o) := fun a xs h => by
  have ne : a ≠ p := fun e => by subst e; exact n xs h
  rcases h with h | ⟨ob, h⟩
  · exact .inl (by rw [upd_ne ne]; exact h)
  · exact .inr ⟨ob, by rw [upd_ne ne]; exact h⟩
theorem no_tup {p : Addr} {u : HO} (h : H p = some u) (n1 : ∀ xs, u ≠ .tup xs) (n2 : ∀ ob xs, u ≠ .frz ob (.tup xs)) : ∀ xs, ¬ Rd H p (.tup xs) := fun xs r => by
  rcases r with r | ⟨ob, r⟩
  · rw [h] at r; exact n1 xs (Option.some.inj r)
  · rw [h] at r; exact n2 ob xs (Option.some.inj r)
theorem Te.lst {p : Addr} {xs : List V} {o : HO} (h : H p = some (.lst xs)) : Te H (L2.upd H p o) := Te.upd (no_tup h (fun _ z => by cases z) fun _ _ z => by cases z)
theorem Te.dK {p : Addr} {xs : List (Key × V)} {o : HO} (h : H p = some (.dK xs)) : Te H (L2.upd H p o) := Te.upd (no_tup h (fun _ z => by cases z) fun _ _ z => by cases z)
theorem Te.seq {a : Addr} {xs : List V} (e : Te H H') (h : SqT K H a xs) : SqT K H' a xs := by
  rcases h with h | h
  · exact .inl (e _ _ h)
  · exact .inr h
mutual
theorem tp_ext (e : Te H H') : ∀ (d : PyData) (v : V), Tp K H v d → Tp K H' v d
  | .none, _, h => by cases h; exact .non
  | .bool b, _, h => by cases h; exact .bl b
  | .int i, _, h => by cases h; exact .int i
  | .str x, _, h => by cases h; exact .str x
  | .list ds, _, h => by cases h
  | .tuple ds, _, h => by
    cases h with
    | tup hs ha => exact .tup (e.seq hs) (tpA_ext e ds _ ha)
  | .dict _, _, h => by cases h
theorem tpA_ext (e : Te H H') : ∀ (ds : List PyData) (vs : List V), TpAll K H vs ds → TpAll K H' vs ds
  | [], _, h => by cases h; exact .nil
  | d :: ds, _, h => by
    cases h with
    | cons h1 h2 => exact .cons (tp_ext e d _ h1) (tpA_ext e ds _ h2)
end
theorem tpA_len : ∀ {vs : List V} {ds : List PyData}, TpAll K H vs ds → vs.length = ds.length
  | _, [], h => by cases h; rfl
  | _, _ :: _, h => by
    cases h with
    | cons _ h2 => simp [tpA_len h2]
theorem tpA_get : ∀ {vs : List V} {ds : List PyData} {i : Nat} {d : PyData}, TpAll K H vs ds → ds[i]? = some d → ∃ v, vs[i]? = some v ∧ Tp K H v d
  | _, [], _, _, _, e => by simp at e
  | _, _ :: _, 0, d, h, e => by
    cases h with
    | cons h1 _ => simp at e; subst e; exact ⟨_, rfl, h1⟩
  | _, _ :: _, i + 1, d, h, e => by
    cases h with
    | cons _ h2 =>
      obtain ⟨v, h3, h4⟩ := tpA_get (i := i) (d := d) h2 (by simpa using e)
      exact ⟨v, by simpa using h3, h4⟩
theorem tpA_snoc : ∀ {vs : List V} {ds : List PyData} {v : V} {d : PyData}, TpAll K H vs ds → Tp K H v d → TpAll K H (vs ++ [v]) (ds ++ [d])
  | _, [], _, _, h, k => by cases h; exact .cons k .nil
  | _, _ :: _, _, _, h, k => by
    cases h with
    | cons h1 h2 => exact .cons h1 (tpA_snoc h2 k)
/-- all but the tables stays, and the tables tell no more than they should -/
structure Gr (T : List (Addr × Str)) (H H' : Hp) : Prop where
  ext : ExtN H H'
  tab : Tabs T H → Tabs T H'
theorem Gr.te (g : Gr T H H') : Te H H' := Te.of g.ext
theorem Te.of' (e : ∀ b o, H b = some o → H' b = some o) : Te H H' := Te.of (ExtN.of e)
theorem Gr.refl : Gr T H H := ⟨ExtN.refl H, id⟩
theorem Gr.trans {H1 : Hp} (a : Gr T H H1) (b : Gr T H1 H') : Gr T H H' := ⟨a.ext.trans b.ext, fun t => b.tab (a.tab t)⟩
theorem Gr.of (e : ∀ b o, H b = some o → H' b = some o) : Gr T H H' := ⟨ExtN.of e, fun t => t.ext e⟩
theorem Gr.new {p : Addr} {o : HO} (h : H p = none) : Gr T H (upd H p o) := .of fun b u e => by rw [upd_ne (ne_of_none e h)]; exact e
/-- a list that was not there at H changes -/
theorem Gr.mut {H1 : Hp} {p : Addr} {o : HO} (a : Gr T H H1) (h : H p = none) (hp : ∃ u, H1 p = some u ∧ (∀ ps, u ≠ .tbl ps) ∧ ∀ c q, u ≠ CodeO c q) : Gr T H (upd H1 p o) := by
  obtain ⟨u, hu, hn, hn2⟩ := hp
  refine ⟨fun b ob e n => ?_, fun t => ?_⟩
  · rw [upd_ne (ne_of_none e h)]
    exact a.ext b ob e n
  · intro q hq
    obtain ⟨ps, a1, a2, a3⟩ := a.tab t q hq
    have ne : q.1 ≠ p := by
      rintro e
      rw [e, hu] at a1
      exact hn ps (Option.some.inj a1)
    refine ⟨ps, by rw [upd_ne ne]; exact a1, a2, fun pos cv hcv => ?_⟩
    obtain ⟨c, e1, e2⟩ := a3 pos cv hcv
    refine ⟨c, e1, ?_⟩
    by_cases z : c = p
    · rw [z, hu] at e2
      exact (hn2 _ _ (Option.some.inj e2)).elim
    · rw [upd_ne z]; exact e2
end

section
variable {K : PySem.W.Frag} {H H' : Hp} {T : List (Addr × Str)}
theorem lst_code {xs : List V} (c : Addr) (q : Str) : HO.lst xs ≠ CodeO c q := fun z => by unfold CodeO at z; cases z
theorem dK_code {xs : List (Key × V)} (c : Addr) (q : Str) : HO.dK xs ≠ CodeO c q := fun z => by unfold CodeO at z; cases z
/-! ### terms -/
def Kd.tag : Kd → Str
  | .app => "app"
  | .pi => "pi"
  | .fn => "fun"
  | .lt => "let"
  | .hole _ => "hole"
mutual
def enc : Tm → PyData
  | .var i => .tuple [.str "var", .int i]
  | .atom u xs => .tuple (.str (if u then "univ" else "const") :: xs)
  | .node (.hole n) ps => .tuple [.str "hole", .int n, .tuple (encL ps)]
  | .node .app ps => .tuple (.str "app" :: encL ps)
  | .node .pi ps => .tuple (.str "pi" :: encL ps)
  | .node .fn ps => .tuple (.str "fun" :: encL ps)
  | .node .lt ps => .tuple (.str "let" :: encL ps)
def encL : List Tm → List PyData
  | [] => []
  | p :: ps => enc p :: encL ps
end
theorem encL_eq : ∀ ps : List Tm, encL ps = ps.map enc
  | [] => by simp [encL]
  | p :: ps => by simp [encL, encL_eq ps]
theorem enc_var (i : Nat) : enc (.var i) = .tuple [.str "var", .int i] := by simp [enc]
theorem enc_atom (u : Bool) (xs : List PyData) : enc (.atom u xs) = .tuple (.str (if u then "univ" else "const") :: xs) := by simp [enc]
theorem enc_hole (n : Int) (ps : List Tm) : enc (.node (.hole n) ps) = .tuple [.str "hole", .int n, .tuple (ps.map enc)] := by simp [enc, encL_eq]
theorem enc_node {k : Kd} (h : ∀ n, k ≠ .hole n) (ps : List Tm) : enc (.node k ps) = .tuple (.str (Kd.tag k) :: ps.map enc) := by
  cases k with
  | hole n => exact (h n rfl).elim
  | _ => simp [enc, encL_eq, Kd.tag]
abbrev Tr (K : PySem.W.Frag) (H : Hp) (v : V) (t : Tm) : Prop := Tp K H v (enc t)
abbrev Ts (K : PySem.W.Frag) (H : Hp) (vs : List V) (ts : List Tm) : Prop := TpAll K H vs (ts.map enc)
theorem Ts.len {vs : List V} {ts : List Tm} (h : Ts K H vs ts) : vs.length = ts.length := by rw [tpA_len h, List.length_map]
theorem Ts.get {vs : List V} {ts : List Tm} {i : Nat} {t : Tm} (h : Ts K H vs ts) (e : ts[i]? = some t) : ∃ v, vs[i]? = some v ∧ Tr K H v t := tpA_get h (by rw [List.getElem?_map, e]; rfl)
theorem Ts.ext {vs : List V} {ts : List Tm} (e : Te H H') (h : Ts K H vs ts) : Ts K H' vs ts := tpA_ext e _ _ h
theorem Tr.ext {v : V} {t : Tm} (e : Te H H') (h : Tr K H v t) : Tr K H' v t := tp_ext e _ _ h
theorem Ts.snoc {vs : List V} {ts : List Tm} {v : V} {t : Tm} (h : Ts K H vs ts) (k : Tr K H v t) : Ts K H (vs ++ [v]) (ts ++ [t]) := by
  show TpAll K H _ ((ts ++ [t]).map enc)
  rw [List.map_append]
  exact tpA_snoc h k
theorem tr_var {v : V} {i : Nat} (h : Tr K H v (.var i)) : ∃ a, v = .ref a ∧ SqT K H a [.str "var", .int i] := by
  unfold Tr at h
  rw [enc_var] at h
  cases h with
  | tup hs ha =>
    cases ha with
    | cons h1 h2 =>
      cases h1
      cases h2 with
      | cons h3 h4 => cases h3; cases h4; exact ⟨_, rfl, hs⟩
theorem tr_atom {v : V} {u : Bool} {xs : List PyData} (h : Tr K H v (.atom u xs)) : ∃ a ys, v = .ref a ∧ SqT K H a (.str (if u then "univ" else "const") :: ys) := by
  unfold Tr at h
  rw [enc_atom] at h
  cases h with
  | tup hs ha =>
    cases ha with
    | cons h1 h2 => cases h1; exact ⟨_, _, rfl, hs⟩
theorem tr_node {v : V} {k : Kd} {ps : List Tm} (hk : ∀ n, k ≠ .hole n) (h : Tr K H v (.node k ps)) : ∃ a vs, v = .ref a ∧ SqT K H a (.str (Kd.tag k) :: vs) ∧ Ts K H vs ps := by
  unfold Tr at h
  rw [enc_node hk] at h
  cases h with
  | tup hs ha =>
    cases ha with
    | cons h1 h2 => cases h1; exact ⟨_, _, rfl, hs, h2⟩
theorem tr_hole {v : V} {n : Int} {ps : List Tm} (h : Tr K H v (.node (.hole n) ps)) : ∃ a b vs, v = .ref a ∧ SqT K H a [.str "hole", .int n, .ref b] ∧ SqT K H b vs ∧ Ts K H vs ps := by
  unfold Tr at h
  rw [enc_hole] at h
  cases h with
  | tup hs ha =>
    cases ha with
    | cons h1 h2 =>
      cases h1
      cases h2 with
      | cons h3 h4 =>
        cases h3
        cases h4 with
        | cons h5 h6 =>
          cases h6
          cases h5 with
          | tup hs2 ha2 => exact ⟨_, _, _, rfl, hs, hs2, ha2⟩
theorem tr_mk_var {a : Addr} {i : Nat} (h : SqT K H a [.str "var", .int i]) : Tr K H (.ref a) (.var i) := by
  show Tp K H _ (enc _)
  rw [enc_var]
  exact .tup h (.cons (.str _) (.cons (.int _) .nil))
theorem tr_mk_node {a : Addr} {k : Kd} {vs : List V} {ps : List Tm} (hk : ∀ n, k ≠ .hole n) (h : SqT K H a (.str (Kd.tag k) :: vs)) (hp : Ts K H vs ps) : Tr K H (.ref a) (.node k ps) := by
  show Tp K H _ (enc _)
  rw [enc_node hk]
  exact .tup h (.cons (.str _) hp)
theorem tr_mk_hole {a b : Addr} {n : Int} {vs : List V} {ps : List Tm} (h : SqT K H a [.str "hole", .int n, .ref b]) (hb : SqT K H b vs) (hp : Ts K H vs ps) : Tr K H (.ref a) (.node (.hole n) ps) := by
  show Tp K H _ (enc _)
  rw [enc_hole]
  exact .tup h (.cons (.str _) (.cons (.int _) (.cons (.tup hb hp) .nil)))
/-- the tag, and that the term is an object -/
def tagOf : Tm → Str
  | .var _ => "var"
  | .atom u _ => if u then "univ" else "const"
  | .node k _ => Kd.tag k
theorem tr_tag {v : V} {t : Tm} (h : Tr K H v t) : ∃ a ys, v = .ref a ∧ SqT K H a (.str (tagOf t) :: ys) := by
  cases t with
  | var i => obtain ⟨a, e, h⟩ := tr_var h; exact ⟨a, _, e, h⟩
  | atom u xs => obtain ⟨a, ys, e, h⟩ := tr_atom h; exact ⟨a, _, e, h⟩
  | node k ps =>
    cases k with
    | hole n => obtain ⟨a, b, vs, e, h, _⟩ := tr_hole h; exact ⟨a, _, e, h⟩
    | _ => obtain ⟨a, vs, e, h, _⟩ := tr_node (by intro n; simp) h; exact ⟨a, _, e, h⟩
end
end KD

/-! The program's defs: what each promises, by its body. -/
namespace KP
open PySem PyProof.Rows L2 LamX NdefX KL KM KD
def top (i : Nat) : Stmt := PySem.Challenge.pw_termwarrant_k66_matched.main.body.getD i (.Pass ⟨0, 0, 0, 0⟩)
abbrev sParts : Stmt := top 1
abbrev sWith : Stmt := top 2
abbrev sBinds : Stmt := top 3
abbrev sMapped : Stmt := top 5
abbrev sLifted : Stmt := top 7
abbrev sUnder : Stmt := top 8
abbrev sFilled : Stmt := top 9
abbrev sFill : Stmt := top 11
theorem iteEqT {a b : Str} {A B : Prop} (e : a = b) (h : A) : if decide (V.str a = V.str b) = true then A else B := by
  rw [if_pos (decide_eq_true (congrArg V.str e))]; exact h
theorem iteEqF {a b : Str} {A B : Prop} (e : ¬ a = b) (h : B) : if decide (V.str a = V.str b) = true then A else B := by
  rw [if_neg (by rw [decide_eq_false (fun z => e (V.str.inj z))]; decide)]; exact h
theorem iteIntT {a b : Int} {A B : Prop} (e : a = b) (h : A) : if decide (V.int a = V.int b) = true then A else B := by
  rw [if_pos (decide_eq_true (congrArg V.int e))]; exact h
theorem iteIntF {a b : Int} {A B : Prop} (e : ¬ a = b) (h : B) : if decide (V.int a = V.int b) = true then A else B := by
  rw [if_neg (by rw [decide_eq_false (fun z => e (V.int.inj z))]; decide)]; exact h
theorem le_line {n : Nat} (h : n ≤ 100000) : n ≤ sizeLine := Nat.le_trans h (by decide)
theorem at0 {x : V} {xs : List V} : atI (x :: xs) 0 = some x := atI_nat (j := 0) rfl
theorem at1 {x y : V} {xs : List V} : atI (x :: y :: xs) 1 = some y := atI_nat (j := 1) rfl
theorem at2 {x y z : V} {xs : List V} : atI (x :: y :: z :: xs) 2 = some z := atI_nat (j := 2) rfl
theorem cut1 (x : V) (ys : List V) : cutV (x :: ys) (some 1) none = ys := by
  have e : HT.sIx (x :: ys).length 0 (some 1) = 1 := by
    have z := HT.sIx_nat (x :: ys).length 0 1
    rw [List.length_cons] at z ⊢
    rw [show (some ((1 : Nat) : Int)) = some 1 from rfl] at z
    rw [z]; omega
  unfold cutV
  rw [e, HT.sIx_none]
  simp
theorem cut1_not (x : V) (ys : List V) : ¬ (HT.sIx (x :: ys).length 0 (some 1) = 0 ∧ HT.sIx (x :: ys).length (x :: ys).length none = (x :: ys).length) := by
  have z := HT.sIx_nat (x :: ys).length 0 1
  rw [show (some ((1 : Nat) : Int)) = some 1 from rfl] at z
  rw [z, List.length_cons]
  intro q
  omega
/-- the parts of a term -/
def partsT : Tm → List Tm
  | .node _ ps => ps
  | _ => []
/-- from a term to the tuple of its parts -/
def spParts (K : PySem.W.Frag) : Sp := fun vs H Q _ => ∃ v t, vs = [v] ∧ Tr K H v t ∧ (partsT t).length ≤ 1000 ∧
  ∀ p H' ws, Same H H' → SqT K H' p ws → Ts K H' ws (partsT t) → Q (.ref p) H'
section
variable {P : Program} {w : World} {K : PySem.W.Frag} {mg : Str → Option Value} {base : Heap} {T : List (Addr × Str)}
theorem same_new {H : Hp} {p : Addr} (h : H p = none) (o : HO) : Same H (upd H p o) := fun b u q => by rw [upd_ne (ne_of_none q h)]; exact q
theorem sqT_same {H H' : Hp} {a : Addr} {xs : List V} (e : Same H H') (h : SqT K H a xs) : SqT K H' a xs := sqT_ext (ExtN.of e) h
theorem scParts : FnScope ["node", "tag"] ["node"] (defScope sParts) := ⟨rfl, rfl, rfl, by decide +kernel, rfl, by decide +kernel, by decide +kernel⟩
theorem ok_parts {f : Addr} {fd : FuncData} (F : Fun K "parts_of" "parts_of" sParts f fd) : FnOk P w K mg base CX0 1 f fd ["node"] (spParts K) := by
  refine F.ok scParts (fun vs H Q E h => ?_) (fun cdv A outer s H vs Q E hr h => ?_)
  · obtain ⟨v, t, rfl, _⟩ := h; rfl
  obtain ⟨v, t, rfl, ht, hl, q⟩ := h
  refine ⟨_, pss_cons (ps_set (i := 1) scParts.nd rfl (.inl rfl) (pe_ix ix_tup (pv 0) pe_int (fun _ _ => rfl)))
    (pss_cons (ps_if (PW.pt (pw_or (pt_cmpR op_eq (pv 1) pe_str (nomark _)) (pw_or (pt_cmpR op_eq (pv 1) pe_str (nomark _)) (pw_or (pt_cmpR op_eq (pv 1) pe_str (nomark _)) (pw_or1 (pt_cmpR op_eq (pv 1) pe_str (nomark _)))))))
      (pss_one (ps_ret (pe_slice sl_tup (pv 0) (po_some pe_int) po_none))) pss_nil)
    (pss_cons (ps_if (pt_cmpR op_eq (pv 1) pe_str (nomark _)) (pss_one (ps_ret (pe_ix ix_tup (pv 0) pe_int (fun _ _ => rfl)))) pss_nil)
    (pss_one (ps_ret (pe_tup pa_nil))))), ?_⟩
  have fin : partsT t = [] → ∀ p, H p = none → Q (.ref p) (upd H p (.tup [])) := fun e p hp => by
    refine q p _ [] (same_new hp _) (SqT.of upd_same) ?_
    rw [e]
    exact TpAll.nil
  have whole : ∀ (tag : Str) (vs : List V) (ps : List Tm), partsT t = ps → Ts K H vs ps → ∀ p, H p = none → Q (.ref p) (upd H p (.tup (cutV (.str tag :: vs) (some 1) none))) := fun tag vs ps e h2 p hp => by
    subst e
    refine q p _ vs (same_new hp _) (SqT.of ?_) (h2.ext (Te.of' (same_new hp _)))
    rw [upd_same, cut1]
  cases t with
  | var i =>
    obtain ⟨a, rfl, hs⟩ := tr_var ht
    refine ⟨_, rfl, a, _, 0, _, rfl, rfl, hs, at0, ?_⟩
    iterate 5 (refine ⟨_, rfl, rfl, _, rfl, ?_⟩; refine iteEqF (by decide +kernel) ?_)
    exact ⟨le_line (by decide), fin rfl⟩
  | atom u xs =>
    obtain ⟨a, ys, rfl, hs⟩ := tr_atom ht
    cases u
    · refine ⟨_, rfl, a, _, 0, _, rfl, rfl, hs, at0, ?_⟩
      iterate 5 (refine ⟨_, rfl, rfl, _, rfl, ?_⟩; refine iteEqF (by decide +kernel) ?_)
      exact ⟨le_line (by decide), fin rfl⟩
    · refine ⟨_, rfl, a, _, 0, _, rfl, rfl, hs, at0, ?_⟩
      iterate 5 (refine ⟨_, rfl, rfl, _, rfl, ?_⟩; refine iteEqF (by decide +kernel) ?_)
      exact ⟨le_line (by decide), fin rfl⟩
  | node k ps =>
    cases k with
    | hole n =>
      obtain ⟨a, b, vs, rfl, h1, h2, h3⟩ := tr_hole ht
      refine ⟨_, rfl, a, _, 0, _, rfl, rfl, h1, at0, ?_⟩
      iterate 4 (refine ⟨_, rfl, rfl, _, rfl, ?_⟩; refine iteEqF (by decide +kernel) ?_)
      refine ⟨_, rfl, rfl, _, rfl, iteEqT (by decide +kernel) ⟨_, rfl, a, _, 2, _, rfl, rfl, h1, at2, ?_⟩⟩
      exact q b H vs (Same.refl H) h2 h3
    | app =>
      obtain ⟨a, vs, rfl, h1, h2⟩ := tr_node (by intro n; simp) ht
      refine ⟨_, rfl, a, _, 0, _, rfl, rfl, h1, at0, ?_⟩
      refine ⟨_, rfl, rfl, _, rfl, iteEqT (by decide +kernel) ?_⟩
      exact iteT ⟨_, rfl, 1, rfl, a, _, rfl, h1, cut1_not _ _, whole _ vs ps rfl h2⟩
    | pi =>
      obtain ⟨a, vs, rfl, h1, h2⟩ := tr_node (by intro n; simp) ht
      refine ⟨_, rfl, a, _, 0, _, rfl, rfl, h1, at0, ?_⟩
      iterate 1 (refine ⟨_, rfl, rfl, _, rfl, ?_⟩; refine iteEqF (by decide +kernel) ?_)
      refine ⟨_, rfl, rfl, _, rfl, iteEqT (by decide +kernel) ?_⟩
      exact iteT ⟨_, rfl, 1, rfl, a, _, rfl, h1, cut1_not _ _, whole _ vs ps rfl h2⟩
    | fn =>
      obtain ⟨a, vs, rfl, h1, h2⟩ := tr_node (by intro n; simp) ht
      refine ⟨_, rfl, a, _, 0, _, rfl, rfl, h1, at0, ?_⟩
      iterate 2 (refine ⟨_, rfl, rfl, _, rfl, ?_⟩; refine iteEqF (by decide +kernel) ?_)
      refine ⟨_, rfl, rfl, _, rfl, iteEqT (by decide +kernel) ?_⟩
      exact iteT ⟨_, rfl, 1, rfl, a, _, rfl, h1, cut1_not _ _, whole _ vs ps rfl h2⟩
    | lt =>
      obtain ⟨a, vs, rfl, h1, h2⟩ := tr_node (by intro n; simp) ht
      refine ⟨_, rfl, a, _, 0, _, rfl, rfl, h1, at0, ?_⟩
      iterate 3 (refine ⟨_, rfl, rfl, _, rfl, ?_⟩; refine iteEqF (by decide +kernel) ?_)
      refine ⟨_, rfl, rfl, _, rfl, iteEqT (by decide +kernel) ?_⟩
      exact ⟨_, rfl, 1, rfl, a, _, rfl, h1, cut1_not _ _, whole _ vs ps rfl h2⟩
/-! ### with_parts, binds -/
def spWith (K : PySem.W.Frag) : Sp := fun vs H Q _ => ∃ v l ws k ps us, vs = [v, .ref l] ∧ Tr K H v (.node k ps) ∧ SqL K H l ws ∧ Ts K H ws us ∧ ws.length ≤ 1000 ∧ us ≠ [] ∧
  ∀ v' H', Same H H' → Tr K H' v' (.node k us) → Q v' H'
theorem scWith : FnScope ["node", "parts", "tag"] ["node", "parts"] (defScope sWith) := ⟨rfl, rfl, rfl, by decide +kernel, rfl, by decide +kernel, by decide +kernel⟩
theorem ok_with {f : Addr} {fd : FuncData} (F : Fun K "with_parts" "with_parts" sWith f fd) (mt : mg "tuple" = none) : FnOk P w K mg base CX0 1 f fd ["node", "parts"] (spWith K) := by
  refine F.ok scWith (fun vs H Q E h => ?_) (fun cdv A outer s H vs Q E hr h => ?_)
  · obtain ⟨v, l, ws, k, ps, us, rfl, _⟩ := h; rfl
  obtain ⟨v, l, ws, k, ps, us, rfl, ht, hL, hw, hl, hne, q⟩ := h
  refine ⟨_, pss_cons (ps_set (i := 2) scWith.nd rfl (.inl rfl) (pe_ix ix_tup (pv 0) pe_int (fun _ _ => rfl)))
    (pss_cons (ps_if (PW.pt (pw_or (pt_cmpR op_eq (pv 2) pe_str (nomark _)) (pw_or (pt_cmpR op_eq (pv 2) pe_str (nomark _)) (pw_or (pt_cmpR op_eq (pv 2) pe_str (nomark _)) (pw_or1 (pt_cmpR op_eq (pv 2) pe_str (nomark _)))))))
      (pss_one (ps_ret (pe_op op_catT (pe_tup (pa_cons (pv 2) pa_nil)) (pe_callTy call_tuple_of rfl mt (by decide +kernel) (pa_cons (pv 1) pa_nil))))) pss_nil)
    (pss_cons (ps_if (pt_cmpR op_eq (pv 2) pe_str (nomark _)) (pss_one (ps_ret (pe_tup (pa_cons (pv 2) (pa_cons (pe_ix ix_tup (pv 0) pe_int (fun _ _ => rfl)) (pa_cons (pe_callTy call_tuple_of rfl mt (by decide +kernel) (pa_cons (pv 1) pa_nil)) pa_nil)))))) pss_nil)
    (pss_one (ps_ret (pv 0))))), ?_⟩
  have hlu : ws.length = us.length := hw.len
  have whole : (∀ n, k ≠ .hole n) → tTup (tCons (tVar 2) tNil) [some v, some (.ref l), some (.str (Kd.tag k))] H fun x H1 => tCB (fun xs H Q => ∃ p ys, xs = [V.ref p] ∧ ((SqL K H p ys ∧ ∀ l, H l = none → Q (.ref l) (upd H l (.tup ys))) ∨ (SqT K H p ys ∧ Q (.ref p) H))) (tCons (tVar 1) tNil) [some v, some (.ref l), some (.str (Kd.tag k))] H1 fun y H2 => rCatT K x y H2 Q := fun hk => by
    refine ⟨_, rfl, le_line (by simp), fun p hp => ?_⟩
    have g1 := same_new hp (HO.tup [.str (Kd.tag k)])
    refine ⟨_, rfl, l, ws, rfl, .inl ⟨sqL_ext (ExtN.of g1) hL, fun p2 hp2 => ?_⟩⟩
    have g2 := g1.trans (same_new hp2 (HO.tup ws))
    have ne : p ≠ p2 := fun e => by subst e; rw [upd_same] at hp2; cases hp2
    refine ⟨p, p2, _, _, rfl, rfl, SqT.of (by rw [upd_ne ne]; exact upd_same), SqT.of upd_same, (by simp), le_line (by simp; omega), fun e => ?_, fun _ p3 hp3 => ?_⟩
    · subst e
      exact (hne (List.eq_nil_of_length_eq_zero (by rw [← hlu]; rfl))).elim
    · have g3 := g2.trans (same_new hp3 (HO.tup ([V.str (Kd.tag k)] ++ ws)))
      exact q _ _ g3 (tr_mk_node hk (SqT.of upd_same) (hw.ext (Te.of' g3)))
  cases k with
  | hole n =>
    obtain ⟨a, b, vs, rfl, h1, h2, h3⟩ := tr_hole ht
    refine ⟨_, rfl, a, _, 0, _, rfl, rfl, h1, at0, ?_⟩
    iterate 4 (refine ⟨_, rfl, rfl, _, rfl, ?_⟩; refine iteEqF (by decide +kernel) ?_)
    refine ⟨_, rfl, rfl, _, rfl, iteEqT (by decide +kernel) ⟨_, rfl, _, rfl, a, _, 1, _, rfl, rfl, h1, at1, _, rfl, l, ws, rfl, .inl ⟨hL, fun p2 hp2 => ?_⟩⟩⟩
    have g2 := same_new hp2 (HO.tup ws)
    refine ⟨le_line (by simp), fun p3 hp3 => ?_⟩
    have g3 := g2.trans (same_new hp3 (HO.tup [V.str "hole", V.int n, V.ref p2]))
    have ne : p2 ≠ p3 := fun e => by subst e; rw [upd_same] at hp3; cases hp3
    exact q _ _ g3 (tr_mk_hole (SqT.of upd_same) (SqT.of (by rw [upd_ne ne]; exact upd_same)) (hw.ext (Te.of' g3)))
  | app =>
    obtain ⟨a, vs, rfl, h1, h2⟩ := tr_node (by intro n; simp) ht
    refine ⟨_, rfl, a, _, 0, _, rfl, rfl, h1, at0, ?_⟩
    refine ⟨_, rfl, rfl, _, rfl, iteEqT (by decide +kernel) ?_⟩
    exact iteT (whole (by intro n; simp))
  | pi =>
    obtain ⟨a, vs, rfl, h1, h2⟩ := tr_node (by intro n; simp) ht
    refine ⟨_, rfl, a, _, 0, _, rfl, rfl, h1, at0, ?_⟩
    iterate 1 (refine ⟨_, rfl, rfl, _, rfl, ?_⟩; refine iteEqF (by decide +kernel) ?_)
    refine ⟨_, rfl, rfl, _, rfl, iteEqT (by decide +kernel) ?_⟩
    exact iteT (whole (by intro n; simp))
  | fn =>
    obtain ⟨a, vs, rfl, h1, h2⟩ := tr_node (by intro n; simp) ht
    refine ⟨_, rfl, a, _, 0, _, rfl, rfl, h1, at0, ?_⟩
    iterate 2 (refine ⟨_, rfl, rfl, _, rfl, ?_⟩; refine iteEqF (by decide +kernel) ?_)
    refine ⟨_, rfl, rfl, _, rfl, iteEqT (by decide +kernel) ?_⟩
    exact iteT (whole (by intro n; simp))
  | lt =>
    obtain ⟨a, vs, rfl, h1, h2⟩ := tr_node (by intro n; simp) ht
    refine ⟨_, rfl, a, _, 0, _, rfl, rfl, h1, at0, ?_⟩
    iterate 3 (refine ⟨_, rfl, rfl, _, rfl, ?_⟩; refine iteEqF (by decide +kernel) ?_)
    refine ⟨_, rfl, rfl, _, rfl, iteEqT (by decide +kernel) ?_⟩
    exact whole (by intro n; simp)
def spBinds (K : PySem.W.Frag) : Sp := fun vs H Q _ => ∃ v k ps j, vs = [v, .int (j : Nat)] ∧ Tr K H v (.node k ps) ∧ Q (.int (bnd k j : Nat)) H
theorem scBinds : FnScope ["node", "k", "tag"] ["node", "k"] (defScope sBinds) := ⟨rfl, rfl, rfl, by decide +kernel, rfl, by decide +kernel, by decide +kernel⟩
theorem ok_binds {f : Addr} {fd : FuncData} (F : Fun K "binds" "binds" sBinds f fd) : FnOk P w K mg base CX0 1 f fd ["node", "k"] (spBinds K) := by
  refine F.ok scBinds (fun vs H Q E h => ?_) (fun cdv A outer s H vs Q E hr h => ?_)
  · obtain ⟨v, k, ps, j, rfl, _⟩ := h; rfl
  obtain ⟨v, k, ps, j, rfl, ht, q⟩ := h
  refine ⟨_, pss_cons (ps_set (i := 2) scBinds.nd rfl (.inl rfl) (pe_ix ix_tup (pv 0) pe_int (fun _ _ => rfl)))
    (pss_cons (ps_if (PW.pt (pw_or (PW.pt (pw_and (pt_cmpR op_eq (pv 1) pe_int (nomark _)) (pw_and1 (PW.pt (pw_or (pt_cmpR op_eq (pv 2) pe_str (nomark _)) (pw_or1 (pt_cmpR op_eq (pv 2) pe_str (nomark _)))))))) (pw_or1 (PW.pt (pw_and (pt_cmpR op_eq (pv 1) pe_int (nomark _)) (pw_and1 (pt_cmpR op_eq (pv 2) pe_str (nomark _))))))))
      (pss_one (ps_ret pe_int)) pss_nil)
    (pss_one (ps_ret pe_int))), ?_⟩
  obtain ⟨a, ys, rfl, h1⟩ := tr_tag ht
  have go : ∀ tag : Str, tag = Kd.tag k → SqT K H a (.str tag :: ys) := fun tag e => by subst e; exact h1
  by_cases j1 : j = 1
  · subst j1
    cases k with
    | app =>
      refine ⟨_, rfl, a, _, 0, _, rfl, rfl, go "app" rfl, at0, ?_⟩
      refine ⟨_, rfl, rfl, _, rfl, iteIntT rfl ⟨_, rfl, rfl, _, rfl, iteEqF (by decide +kernel) ⟨_, rfl, rfl, _, rfl, iteEqF (by decide +kernel) ?_⟩⟩⟩
      refine ⟨_, rfl, rfl, _, rfl, iteIntF (by decide) ?_⟩
      exact iteF q
    | pi =>
      refine ⟨_, rfl, a, _, 0, _, rfl, rfl, go "pi" rfl, at0, ?_⟩
      exact ⟨_, rfl, rfl, _, rfl, iteIntT rfl ⟨_, rfl, rfl, _, rfl, iteEqT (by decide +kernel) (iteT (iteT q))⟩⟩
    | fn =>
      refine ⟨_, rfl, a, _, 0, _, rfl, rfl, go "fun" rfl, at0, ?_⟩
      exact ⟨_, rfl, rfl, _, rfl, iteIntT rfl ⟨_, rfl, rfl, _, rfl, iteEqF (by decide +kernel) ⟨_, rfl, rfl, _, rfl, iteEqT (by decide +kernel) (iteT q)⟩⟩⟩
    | lt =>
      refine ⟨_, rfl, a, _, 0, _, rfl, rfl, go "let" rfl, at0, ?_⟩
      refine ⟨_, rfl, rfl, _, rfl, iteIntT rfl ⟨_, rfl, rfl, _, rfl, iteEqF (by decide +kernel) ⟨_, rfl, rfl, _, rfl, iteEqF (by decide +kernel) ?_⟩⟩⟩
      refine ⟨_, rfl, rfl, _, rfl, iteIntF (by decide) ?_⟩
      exact iteF q
    | hole n =>
      refine ⟨_, rfl, a, _, 0, _, rfl, rfl, go "hole" rfl, at0, ?_⟩
      refine ⟨_, rfl, rfl, _, rfl, iteIntT rfl ⟨_, rfl, rfl, _, rfl, iteEqF (by decide +kernel) ⟨_, rfl, rfl, _, rfl, iteEqF (by decide +kernel) ?_⟩⟩⟩
      refine ⟨_, rfl, rfl, _, rfl, iteIntF (by decide) ?_⟩
      exact iteF q
  · have n1 : ¬ ((j : Nat) : Int) = 1 := by omega
    by_cases j2 : j = 2
    · subst j2
      cases k with
      | app =>
        refine ⟨_, rfl, a, _, 0, _, rfl, rfl, go "app" rfl, at0, ?_⟩
        refine ⟨_, rfl, rfl, _, rfl, iteIntF n1 ?_⟩
        refine iteF ⟨_, rfl, rfl, _, rfl, iteIntT rfl ⟨_, rfl, rfl, _, rfl, iteEqF (by decide +kernel) ?_⟩⟩
        exact q
      | pi =>
        refine ⟨_, rfl, a, _, 0, _, rfl, rfl, go "pi" rfl, at0, ?_⟩
        refine ⟨_, rfl, rfl, _, rfl, iteIntF n1 ?_⟩
        refine iteF ⟨_, rfl, rfl, _, rfl, iteIntT rfl ⟨_, rfl, rfl, _, rfl, iteEqF (by decide +kernel) ?_⟩⟩
        exact q
      | fn =>
        refine ⟨_, rfl, a, _, 0, _, rfl, rfl, go "fun" rfl, at0, ?_⟩
        refine ⟨_, rfl, rfl, _, rfl, iteIntF n1 ?_⟩
        refine iteF ⟨_, rfl, rfl, _, rfl, iteIntT rfl ⟨_, rfl, rfl, _, rfl, iteEqF (by decide +kernel) ?_⟩⟩
        exact q
      | lt =>
        refine ⟨_, rfl, a, _, 0, _, rfl, rfl, go "let" rfl, at0, ?_⟩
        refine ⟨_, rfl, rfl, _, rfl, iteIntF n1 ?_⟩
        refine iteF ⟨_, rfl, rfl, _, rfl, iteIntT rfl ⟨_, rfl, rfl, _, rfl, iteEqT (by decide +kernel) ?_⟩⟩
        exact q
      | hole n =>
        refine ⟨_, rfl, a, _, 0, _, rfl, rfl, go "hole" rfl, at0, ?_⟩
        refine ⟨_, rfl, rfl, _, rfl, iteIntF n1 ?_⟩
        refine iteF ⟨_, rfl, rfl, _, rfl, iteIntT rfl ⟨_, rfl, rfl, _, rfl, iteEqF (by decide +kernel) ?_⟩⟩
        exact q
    · have n2 : ¬ ((j : Nat) : Int) = 2 := by omega
      have e0 : bnd k j = 0 := by
        unfold bnd
        split <;> first | rfl | omega
      rw [e0] at q
      refine ⟨_, rfl, a, _, 0, _, rfl, rfl, h1, at0, ?_⟩
      refine ⟨_, rfl, rfl, _, rfl, iteIntF n1 ?_⟩
      refine iteF ⟨_, rfl, rfl, _, rfl, iteIntF n2 ?_⟩
      exact iteF q
end
/-! ### a callee, bundled -/
structure Cl (P : Program) (w : World) (K : PySem.W.Frag) (mg : Str → Option Value) (base : Heap) (k : Nat) (x : Str) (f : Addr) (fd : FuncData) (ps : List Str) (sp : Sp) : Prop where
  ok : FnOk P w K mg base CX0 k f fd ps sp
  mg : mg x = some (.ref f)
  kp : PySem.W.keepIn K (.ref f) = true
  b : L2.Binds K fd ps []
theorem Cl.mono {P : Program} {w : World} {K : PySem.W.Frag} {mg : Str → Option Value} {base : Heap} {j k : Nat} {x : Str} {f : Addr} {fd : FuncData} {ps : List Str} {sp : Sp} (C : Cl P w K mg base j x f fd ps sp) (h : j ≤ k) : Cl P w K mg base k x f fd ps sp := ⟨C.ok.mono h, C.mg, C.kp, C.b⟩
theorem pe_cl {X : Cx} {k : Nat} {x : Str} {f : Addr} {fd : FuncData} {ps : List Str} {sp : Sp} {p pos : Pos} {e : Expr} {es : List Expr} {t : TA} (C : Cl X.prog X.w X.K X.mg X.base k x f fd ps sp) (hr : Room k X.A) (ha : PA X (e :: es) t) (hg : Gl X x := by rfl)
    (hdb : (x == ("__debug__" : Str)) = false := by decide) (he : starEach (e :: es) X.env = (false, eval e X.env) :: starEach es X.env := by rfl) (hpl : (backTo pos (starEach es X.env)).any (·.1) = false := by rfl) :
    PE X (.Call (.Name x p) (e :: es) [] pos) (tCall sp [] E0 t) := pe_call C.ok hr hg C.mg C.kp C.b .nil pass0 ha hdb he hpl
/-- a function value called, the context's own words told -/
theorem pe_callW {X : Cx} {P : Program} {w : World} {K : PySem.W.Frag} {mg : Str → Option Value} {base : Heap} {i j k : Nat} {x : Str} {t : TA} {e : Expr} {es : List Expr} {p pos : Pos} (hX : X.prog = P ∧ X.w = w ∧ X.K = K ∧ X.mg = mg ∧ X.base = base) (hr : Room j X.A) (hk : k ≤ j) (ha : PA X (e :: es) t)
    (hN : X.N[i]? = some x := by rfl) (hv : Vis X.env.scope x := by first | exact Or.inl rfl | exact Or.inr (Or.inl rfl) | exact Or.inr (Or.inr rfl)) (hd : (x == ("__debug__" : Str)) = false := by decide) (hcd : (x == ("__classdict__" : Str)) = false := by decide)
    (he : starEach (e :: es) X.env = (false, eval e X.env) :: starEach es X.env := by rfl) (hpl : (backTo pos (starEach es X.env)).any (·.1) = false := by rfl) :
    PE X (.Call (.Name x p) (e :: es) [] pos) (tCallV P w K mg base k i t) := by
  obtain ⟨rfl, rfl, rfl, rfl, rfl⟩ := hX
  exact pe_callV hr hk ha hN hv hd hcd he hpl
/-! ### mapped -/
def mapTm (g : Nat → Tm → Tm) : Tm → Tm
  | .node k ps => .node k (mapI g 0 ps)
  | t => t
def bndT : Tm → Nat → Nat
  | .node k _, j => bnd k j
  | _, _ => 0
section
variable {P : Program} {w : World} {K : PySem.W.Frag} {mg : Str → Option Value} {base : Heap} {T : List (Addr × Str)}
/-- what mapped asks of what it is handed -/
def spChange (K : PySem.W.Frag) (T : List (Addr × Str)) (t : Tm) (d : Nat) (g : Nat → Tm → Tm) : List V → Hp → VK → Prop := fun vs H Q => ∃ v j p, vs = [v, .int ((d + bndT t j : Nat) : Int)] ∧ (partsT t)[j]? = some p ∧ Tr K H v p ∧ Tabs T H ∧
  ∀ u H', Gr T H H' → Tr K H' u (g j p) → Q u H'
def spMapped (P : Program) (w : World) (K : PySem.W.Frag) (mg : Str → Option Value) (base : Heap) (T : List (Addr × Str)) (kc : Nat) : Sp := fun vs H Q _ => ∃ v f t d g, vs = [v, .ref f, .int ((d : Nat) : Int)] ∧ Tr K H v t ∧ (partsT t).length ≤ 1000 ∧ Tabs T H ∧
  FVal P w K mg base kc f H (spChange K T t d g) ∧ ∀ v' H', Gr T H H' → Tr K H' v' (mapTm g t) → Q v' H'
theorem scMapped : FnScope ["node", "change", "depth", "parts", "k", "part"] ["node", "change", "depth"] (defScope sMapped) := ⟨rfl, rfl, rfl, by decide +kernel, rfl, by decide +kernel, by decide +kernel⟩
theorem gr_same {H H' : Hp} (e : Same H H') : Gr T H H' := Gr.of e
theorem ok_mapped {kc : Nat} {f fp fw fb : Addr} {fd fdp fdw fdb : FuncData} (F : Fun K "mapped" "mapped" sMapped f fd) (me : mg "enumerate" = none) (CP : Cl P w K mg base 1 "parts_of" fp fdp ["node"] (spParts K)) (CW : Cl P w K mg base 1 "with_parts" fw fdw ["node", "parts"] (spWith K))
    (CB : Cl P w K mg base 1 "binds" fb fdb ["node", "k"] (spBinds K)) (hk : 1 ≤ kc) : FnOk P w K mg base CX0 (kc + 1) f fd ["node", "change", "depth"] (spMapped P w K mg base T kc) := by
  refine F.ok scMapped (fun vs H Q E h => ?_) (fun cdv A outer s H vs Q E hr h => ?_)
  · obtain ⟨v, f, t, d, g, rfl, _⟩ := h; rfl
  obtain ⟨v, c, t, d, g, rfl, ht, hl, hT, hV, q⟩ := h
  have hr1 := hr.mono hk
  refine ⟨_, pss_cons (ps_set (i := 3) scMapped.nd rfl (.inl rfl) (pe_cl CP hr1 (pa_cons (pv 0) pa_nil)))
    (pss_cons (ps_if (pt_cmpR (op_eqE hr.units0) (pv 3) (pe_tup pa_nil) (nomark _)) (pss_one (ps_ret (pv 0))) pss_nil)
    (pss_one (ps_ret (pe_cl CW hr1 (pa_cons (pv 0) (pa_cons (pe_lc (own := [("k", 4), ("part", 5)]) (g := gTup K 2 (gCons (gName 4) (gCons (gName 5) gNil))) (tt := tYes) rfl scMapped.nd (pi_enumT rfl me (pa_cons (pv 3) pa_nil))
      (blkOk_by (N := ["node", "change", "depth", "parts", "k", "part"]) (sc := defScope sMapped) (by decide +kernel))
      (fun _ _ _ _ _ => pg_tup rfl (pgs_cons (pg_name (i := 4) scMapped.nd rfl (.inl rfl)) (pgs_cons (pg_name (i := 5) scMapped.nd rfl (.inl rfl)) pgs_nil))) (fun _ _ _ _ _ => pts_nil)
      (fun _ _ _ _ _ => pe_callW (P := P) (w := w) (K := K) (mg := mg) (base := base) (i := 1) ⟨rfl, rfl, rfl, rfl, rfl⟩ hr (Nat.le_refl kc) (pa_cons (pv 5) (pa_cons (pe_op op_add (pv 2) (pe_cl CB hr1 (pa_cons (pv 0) (pa_cons (pv 4) pa_nil)))) pa_nil)))) pa_nil)))))), ?_⟩
  refine ⟨_, rfl, v, t, rfl, ht, hl, fun p H1 ws g1 h1 h2 => ?_⟩
  have hTr1 := ht.ext (Te.of' g1)
  refine ⟨_, rfl, le_line (by simp), fun p0 hp0 => ⟨p, p0, ws, rfl, rfl, ?_, SqT.of upd_same, _, rfl, ?_⟩⟩
  · exact sqT_same (same_new hp0 _) h1
  have g2 := g1.trans (same_new hp0 (HO.tup []))
  refine ite2 (fun e => ?_) (fun e => ?_)
  · refine ⟨_, rfl, ?_⟩
    refine q v _ (gr_same g2) ?_
    have e' : ws = [] := by simpa using e
    have e2 : mapTm g t = t := by
      have z := h2.len
      rw [e'] at z
      cases t with
      | node k ps =>
        have hps : ps = [] := List.eq_nil_of_length_eq_zero z.symm
        subst hps
        rfl
      | _ => rfl
    rw [e2]
    exact ht.ext (Te.of' g2)
  · cases t with
    | var i => exact (e (by have z := h2.len; rw [List.eq_nil_of_length_eq_zero z]; rfl)).elim
    | atom u xs => exact (e (by have z := h2.len; rw [List.eq_nil_of_length_eq_zero z]; rfl)).elim
    | node k ps =>
      have hps : ps ≠ [] := fun z => by
        subst z
        exact e (by have z := h2.len; rw [List.eq_nil_of_length_eq_zero z]; rfl)
      have hn : ws.length = ps.length := h2.len
      generalize hH2 : upd H1 p0 (HO.tup []) = H2 at g2
      have s2 : Same H1 H2 := by rw [← hH2]; exact same_new hp0 _
      have hT2 : Tabs T H2 := hT.ext g2
      refine ⟨_, rfl, _, rfl, p, ws, rfl, sqT_same s2 h1, fun D hD => ?_⟩
      have hDH : H D = none := g2.free hD
      refine lc_it (walk_enumT (xs := ws)) (fun i H' => ∃ acc, H' D = some (.lst acc) ∧ Ts K H' acc ((mapI g 0 ps).take i) ∧ Gr T H2 H') ?_ ?_ ?_ ?_
      · exact ⟨[], upd_same, TpAll.nil, Gr.new hD⟩
      · rintro i H' _ ⟨acc, _, _, gr⟩
        exact sqT_ext gr.ext (sqT_same s2 h1)
      · rintro i x H3 H4 hi ⟨acc, hacc, hts, gr⟩ ⟨A1, x', y, rfl, hA1, rfl, ex, hy⟩
        cases ex
        have hpi : i < ps.length := by rw [← hn]; exact hi
        obtain ⟨y', hy', hty⟩ := h2.get (i := i) (t := ps[i]) (List.getElem?_eq_getElem hpi)
        have hy : ws[i]? = some y := hy
        rw [hy] at hy'
        cases hy'
        have gr1 : Gr T H2 (upd H3 A1 (.tup [.int (i : Nat), y])) := gr.trans (Gr.new hA1)
        have gH := (gr_same (T := T) g2).trans gr1
        refine ⟨A1, _, rfl, SqT.of upd_same, rfl, _, _, rfl, _, _, rfl, rfl, rfl, ?_⟩
        refine ⟨c, _, rfl, hV.ext gH.ext, _, rfl, _, rfl, _, rfl, _, rfl, v, k, ps, i, rfl, ht.ext gH.te, _, _, rfl, rfl, ExtN.refl _, y, i, ps[i], ?_, List.getElem?_eq_getElem hpi, hty.ext ((gr_same (T := T) s2).trans gr1).te, gH.tab hT, fun u H5 gr5 hu => ?_⟩
        · show [y, V.int ((d : Int) + ((bnd k i : Nat) : Int))] = [y, V.int ((d + bnd k i : Nat) : Int)]
          rw [Int.natCast_add]
        · have hD5 : H5 D = some (.lst acc) := gr5.ext _ _ (by rw [upd_ne (ne_of_none hacc hA1)]; exact hacc) (fun ps z => by cases z)
          have hl2 : acc.length ≤ 1000 := by
            rw [hts.len, List.length_take, mapI_len]
            have : ps.length ≤ 1000 := hl
            omega
          have gr6 : Gr T H2 (upd H5 D (.lst (acc ++ [u]))) := (gr1.trans gr5).mut hD ⟨_, hD5, (fun ps z => by cases z), lst_code⟩
          refine ⟨acc, hD5, small1000 hl2, acc ++ [u], upd_same, ?_, gr6⟩
          have e1 : (mapI g 0 ps).take (i + 1) = (mapI g 0 ps).take i ++ [g i ps[i]] := by
            rw [List.take_add_one, mapI_get, List.getElem?_eq_getElem hpi, Nat.zero_add]; rfl
          rw [e1]
          have t6 := Te.lst (o := HO.lst (acc ++ [u])) hD5
          exact (hts.ext (((Gr.new (T := T) hA1).trans gr5).te.trans t6)).snoc (hu.ext t6)
      · rintro H3 ⟨acc, hacc, hts, gr⟩
        have e1 : (mapI g 0 ps).take ws.length = mapI g 0 ps := List.take_of_length_le (by rw [mapI_len, hn]; exact Nat.le_refl _)
        rw [e1] at hts
        have gH := (gr_same (T := T) g2).trans gr
        refine ⟨v, D, acc, k, ps, mapI g 0 ps, rfl, ht.ext gH.te, SqL.of hacc, hts, ?_, ?_, fun v' H4 s4 h4 => ?_⟩
        · rw [hts.len, mapI_len]; exact hl
        · intro z
          have z2 := congrArg List.length z
          rw [mapI_len] at z2
          exact hps (List.eq_nil_of_length_eq_zero z2)
        · exact q v' H4 (gH.trans (gr_same s4)) h4
/-! ### the cells frozen and back -/
section
variable {cs : Cs} {H H' : Hp}
theorem te_er (C : Cold cs H) : Te H (er cs H) := fun a xs h => by
  have out : cs.lookup a = none := by
    cases q : cs.lookup a with
    | none => rfl
    | some o =>
      exfalso
      have z := C a o q
      rcases h with h | ⟨ob, h⟩
      · rw [z] at h; exact absurd (Option.some.inj h) (by unfold fzc; intro k; cases k)
      · rw [z] at h; exact absurd (Option.some.inj h) (by unfold fzc; intro k; cases k)
  rcases h with h | ⟨ob, h⟩
  · exact .inl (by rw [er_out out]; exact h)
  · exact .inr ⟨ob, by rw [er_out out]; exact h⟩
theorem fz_keep (n : ∀ c o, cs.lookup c = some o → H' c = none) {b : Addr} {u : HO} (e : H' b = some u) : fz cs H' b = some u := by
  cases q : cs.lookup b with
  | none => rw [fz_out q]; exact e
  | some o => rw [n b o q] at e; cases e
theorem er_keep (C : Cold cs H) {b : Addr} {u : HO} (e : H b = some u) (n : ∀ o, u ≠ fzc o) : er cs H b = some u := by
  rw [er_out (C.out e n)]; exact e
theorem te_fz (n : ∀ c o, cs.lookup c = some o → H' c = none) : Te H' (fz cs H') := fun a xs h => by
  rcases h with h | ⟨ob, h⟩
  · exact .inl (fz_keep n h)
  · exact .inr ⟨ob, fz_keep n h⟩
theorem tabs_er (C : Cold cs H) (t : Tabs T H) : Tabs T (er cs H) := fun p hp => by
  obtain ⟨ps, h1, h2, h3⟩ := t p hp
  refine ⟨ps, er_keep C h1 (fun o z => fzc_tbl ps z.symm), h2, fun pos cv hc => ?_⟩
  obtain ⟨c, e1, e2⟩ := h3 pos cv hc
  exact ⟨c, e1, er_keep C e2 codeO_fzc⟩
theorem tabs_fz (n : ∀ c o, cs.lookup c = some o → H' c = none) (t : Tabs T H') : Tabs T (fz cs H') := t.ext fun _ _ e => fz_keep n e
theorem gr_er_fz (C : Cold cs H) (g : Gr T (er cs H) H') (n : ∀ c o, cs.lookup c = some o → H' c = none) : Gr T H (fz cs H') := by
  refine ⟨fun b o e nt => ?_, fun t => tabs_fz n (g.tab (tabs_er C t))⟩
  cases q : cs.lookup b with
  | none => exact fz_keep n (g.ext b o (by rw [er_out q]; exact e) nt)
  | some ob =>
    rw [C b ob q] at e
    rw [fz_in q]
    exact e
theorem gr_fz_er (n : ∀ c o, cs.lookup c = some o → H c = none) (g : Gr T (fz cs H) H') (C : Cold cs H') : Gr T H (er cs H') := by
  refine ⟨fun b o e nt => ?_, fun t => tabs_er C (g.tab (tabs_fz n t))⟩
  have q : cs.lookup b = none := by
    cases q : cs.lookup b with
    | none => rfl
    | some ob => rw [n b ob q] at e; cases e
  rw [er_out q]
  exact g.ext b o (fz_keep n e) nt
theorem ext_fz (n : ∀ c o, cs.lookup c = some o → H c = none) : ExtN H (fz cs H) := fun _ _ e _ => fz_keep n e
end
/-! ### a def whose code object is known -/
structure FunT (K : PySem.W.Frag) (x qual : Str) (st : Stmt) (dvs : List V) (f c : Addr) (fd : FuncData) : Prop where
  ex : ∃ (oc : Value) (od : Option Addr) (dV kV doc pm : Value) (an : Option Addr) (ct : Value) (osl : Array (Option Value)),
    fd = PySem.W.fnOf x qual (defArgs st) (defBody st) (defScope st) dV kV doc pm an (.ref c) ct ∧ K.lookup f = some ⟨oc, od, .func fd, osl⟩ ∧ PySem.W.codeIn K (.ref c) qual = true
  kp : PySem.W.keepIn K (.ref f) = true
theorem FunT.ok {x qual : Str} {st : Stmt} {dvs : List V} {f c : Addr} {fd : FuncData} {N ps : List Str} {k : Nat} {sp : Sp} (F : FunT K x qual st dvs f c fd) (S : FnScope N ps (defScope st)) (len : ∀ vs H Q E, sp vs H Q E → vs.length = ps.length)
    (hbody : ∀ (A : Around) (outer : List Env) (s : Shared) (H : Hp) (vs : List V) (Q : VK) (E : XK), Room k (A.deeper (envOfC qual (defScope st) s.heap.objs.size f (.ref c))) → sp vs H Q E →
      ∃ t, PSs (cxOf CX0 P w K mg base N qual (defScope st) f (.ref c) A outer s H E).nox (defBody st) t ∧ t { nx := fun _ H' => Q .non H', rt := Q } (start N vs) H) : FnOk P w K mg base CX0 (k + 1) f fd ps sp := by
  obtain ⟨oc, od, dV, kV, doc, pm, an, ct, osl, rfl, lk, hcd⟩ := F.ex
  refine fn_of lk hcd S len fun A outer s H vs Q E hr hsp => ?_
  obtain ⟨t, h, q⟩ := hbody A outer s H vs Q E hr hsp
  exact ⟨t, h.nox, q⟩
/-- the table of the code object c tells lambdas called q -/
structure TabX (base : Heap) (mg : Str → Option Value) (T : List (Addr × Str)) (c Pt : Addr) (q : Str) : Prop where
  tb : TabB base mg c Pt
  mem : (Pt, q) ∈ T
  uni : ∀ p ∈ T, p.1 = Pt → p.2 = q
/-! ### lifted -/
def lamE : Stmt → Expr
  | .Return (some (.Call _ (_ :: l :: _) _ _)) _ => l
  | _ => .Tuple [] 0 ⟨0, 0, 0, 0⟩
def lamA : Expr → Arguments
  | .Lambda a _ _ _ => a
  | _ => { posonlyargs := [], args := [], vararg := none, kwonlyargs := [], kw_defaults := [], kwarg := none, defaults := [] }
def lamB : Expr → Expr
  | .Lambda _ b _ _ => b
  | e => e
def lamS : Expr → Scope
  | .Lambda _ _ s _ => s
  | _ => { kind := .function, names := [], isGenerator := false, isCoroutine := false }
abbrev lLift : Expr := lamE ((defBody sLifted).getD 4 (.Pass ⟨0, 0, 0, 0⟩))
def spLift (K : PySem.W.Frag) (T : List (Addr × Str)) (n : Nat) : Sp := fun vs H Q _ => ∃ v t b d, vs = [v, .int ((b : Nat) : Int), .int ((d : Nat) : Int)] ∧ Tr K H v t ∧ dle n t ∧ Tabs T H ∧
  ∀ v' H', Gr T H H' → Tr K H' v' (lift b d t) → Q v' H'
theorem scLifted : FnScope ["term", "by", "at", "tag"] ["term", "by", "at"] (defScope sLifted) := ⟨rfl, rfl, rfl, by decide +kernel, rfl, by decide +kernel, by decide +kernel⟩
theorem nsLift : NScope ["part", "under", "by"] ["part", "under"] ["by"] (lamS lLift) := nscope_by (by decide +kernel)
/-- the lambda's promise -/
def spLiftL (K : PySem.W.Frag) (T : List (Addr × Str)) (n b : Nat) : SpL := fun ws vs H Q => ∃ v p d, vs = [v, .int ((d : Nat) : Int)] ∧ ws = [some (.int ((b : Nat) : Int))] ∧ Tr K H v p ∧ dle n p ∧ Tabs T H ∧
  ∀ u H', Gr T H H' → Tr K H' u (lift b d p) → Q u H'
theorem lok_lift {n k b : Nat} {f g : Addr} {fd : FuncData} {F : NF} (CL : Cl P w K mg base k "lifted" f fd ["term", "by", "at"] (spLift K T n)) (hs : F.scope = lamS lLift) (hp : F.params = lamA lLift) : LOk P w K mg base (k + 1) g F (lamB lLift) ["part", "under"] ["by"] (spLiftL K T n b) := by
  obtain ⟨nm, q, pr, bd, sc, cl, c⟩ := F
  have hs : sc = lamS lLift := hs
  have hp : pr = lamA lLift := hp
  subst hs hp
  refine lok_of (N := ["part", "under", "by"]) nsLift (fun pm ctv us hl => match us, hl with | [_, _], _ => rfl) fun A outer s H vs ws Q hr _ _ h => ?_
  obtain ⟨v, p, d, rfl, rfl, ht, hd, hT, q⟩ := h
  refine ⟨_, pe_cl CL hr (pa_cons (pv 0) (pa_cons (pv 2) (pa_cons (pv 1) pa_nil))), ?_⟩
  exact ⟨_, rfl, _, rfl, _, rfl, v, p, b, d, rfl, ht, hd, hT, q⟩
theorem lift_leaf {n : Nat} {f c : Addr} {fd : FuncData} {k : Nat} (F : FunT K "lifted" "lifted" sLifted [.int 0] f c fd)
    (hb : ∀ (A : Around) (outer : List Env) (s : Shared) (H : Hp) (v : V) (kd : Kd) (ps : List Tm) (b d : Nat) (Q : VK) (E : XK), Room k (A.deeper (envOfC "lifted" (defScope sLifted) s.heap.objs.size f (.ref c))) → Tr K H v (.node kd ps) → dle n (.node kd ps) → Tabs T H → (∀ v' H', Gr T H H' → Tr K H' v' (lift b d (.node kd ps)) → Q v' H') →
      ∃ t, PSs (cxOf CX0 P w K mg base ["term", "by", "at", "tag"] "lifted" (defScope sLifted) f (.ref c) A outer s H E).nox (defBody sLifted) t ∧ t { nx := fun _ H' => Q .non H', rt := Q } (start ["term", "by", "at", "tag"] [v, .int (b : Nat), .int (d : Nat)]) H) :
    FnOk P w K mg base CX0 (k + 1) f fd ["term", "by", "at"] (spLift K T n) := by
  refine F.ok scLifted (fun vs H Q E h => ?_) (fun A outer s H vs Q E hr h => ?_)
  · obtain ⟨v, t, b, d, rfl, _⟩ := h; rfl
  obtain ⟨v, t, b, d, rfl, ht, hd, hT, q⟩ := h
  cases t with
  | node kd ps => exact hb A outer s H v kd ps b d Q E hr ht hd hT q
  | var i =>
    refine ⟨_, pss_cons (ps_set (i := 3) scLifted.nd rfl (.inl rfl) (pe_ix ix_tup (pv 0) pe_int (fun _ _ => rfl)))
      (pss_cons (ps_if (pt_cmpR op_eq (pv 3) pe_str (nomark _)) (pss_cons (ps_if (pt_cmpR op_lt (pe_ix ix_tup (pv 0) pe_int (fun _ _ => rfl)) (pv 2) (nomark _)) (pss_one (ps_ret (pv 0))) pss_nil)
        (pss_one (ps_ret (pe_tup (pa_cons pe_str (pa_cons (pe_op op_add (pe_ix ix_tup (pv 0) pe_int (fun _ _ => rfl)) (pv 1)) pa_nil)))))) pss_nil)
      pss_never), ?_⟩
    obtain ⟨a, rfl, hs⟩ := tr_var ht
    refine ⟨_, rfl, a, _, 0, _, rfl, rfl, hs, at0, ?_⟩
    refine ⟨_, rfl, rfl, _, rfl, iteEqT (by decide +kernel) ?_⟩
    refine ⟨_, rfl, a, _, 1, _, rfl, rfl, hs, at1, _, rfl, _, _, rfl, rfl, _, rfl, ?_⟩
    refine ite2 (fun e => ?_) (fun e => ?_)
    · have e := of_decide_eq_true e
      refine ⟨_, rfl, q _ _ Gr.refl ?_⟩
      rw [lift_var_lo (by omega)]
      exact ht
    · have e : ¬ ((i : Nat) : Int) < (d : Nat) := of_decide_eq_false (Bool.eq_false_iff.mpr e)
      refine ⟨_, rfl, a, _, 1, _, rfl, rfl, hs, at1, _, rfl, _, _, rfl, rfl, le_line (by simp), fun p hp => ?_⟩
      refine q _ _ (Gr.new hp) ?_
      rw [lift_var_hi (by omega)]
      have e1 : ((i : Nat) : Int) + (b : Nat) = ((i + b : Nat) : Int) := (Int.natCast_add i b).symm
      show Tr K (upd H p (HO.tup [V.str "var", V.int (((i : Nat) : Int) + (b : Nat))])) _ _
      rw [e1]
      exact tr_mk_var (SqT.of upd_same)
  | atom u xs =>
    refine ⟨_, pss_cons (ps_set (i := 3) scLifted.nd rfl (.inl rfl) (pe_ix ix_tup (pv 0) pe_int (fun _ _ => rfl)))
      (pss_cons (ps_if (pt_cmpR op_eq (pv 3) pe_str (nomark _)) pss_never pss_nil)
      (pss_cons (ps_if (PW.pt (pw_or (pt_cmpR op_eq (pv 1) pe_int (nomark _)) (pw_or (pt_cmpR op_eq (pv 3) pe_str (nomark _)) (pw_or1 (pt_cmpR op_eq (pv 3) pe_str (nomark _)))))) (pss_one (ps_ret (pv 0))) pss_nil)
      pss_never)), ?_⟩
    obtain ⟨a, ys, rfl, hs⟩ := tr_atom ht
    have fin : Q (.ref a) H := q _ _ Gr.refl (by unfold lift; rw [trav_atom]; exact ht)
    refine ⟨_, rfl, a, _, 0, _, rfl, rfl, hs, at0, ?_⟩
    cases u
    · refine ⟨_, rfl, rfl, _, rfl, iteEqF (by decide +kernel) ?_⟩
      refine ⟨_, rfl, rfl, _, rfl, ?_⟩
      refine ite2 (fun _ => ⟨_, rfl, fin⟩) (fun _ => ?_)
      refine ⟨_, rfl, rfl, _, rfl, iteEqF (by decide +kernel) ?_⟩
      exact ⟨_, rfl, rfl, _, rfl, iteEqT (by decide +kernel) ⟨_, rfl, fin⟩⟩
    · refine ⟨_, rfl, rfl, _, rfl, iteEqF (by decide +kernel) ?_⟩
      refine ⟨_, rfl, rfl, _, rfl, ?_⟩
      refine ite2 (fun _ => ⟨_, rfl, fin⟩) (fun _ => ?_)
      exact ⟨_, rfl, rfl, _, rfl, iteEqT (by decide +kernel) ⟨_, rfl, fin⟩⟩
theorem ok_lift {c Pt fm f : Addr} {fdm fd : FuncData} (F : FunT K "lifted" "lifted" sLifted [.int 0] f c fd) (mf : mg "lifted" = some (.ref f)) (bf : L2.Binds K fd ["term", "by", "at"] []) (TX : TabX base mg T c Pt ((envOfC "lifted" (defScope sLifted) 0 f (.ref c)).qual ++ "<lambda>"))
    (CM : ∀ kc, 1 ≤ kc → Cl P w K mg base (kc + 1) "mapped" fm fdm ["node", "change", "depth"] (spMapped P w K mg base T kc)) : ∀ n, Cl P w K mg base (3 * n + 1) "lifted" f fd ["term", "by", "at"] (spLift K T n)
  | 0 => ⟨lift_leaf F fun A outer s H v kd ps b d Q E hr ht hd hT q => hd.elim, mf, F.kp, bf⟩
  | n + 1 => by
    have ih := ok_lift F mf bf TX CM n
    refine ⟨?_, mf, F.kp, bf⟩
    refine lift_leaf (k := 3 * n + 3) F fun A outer s H v kd ps b d Q E hr ht hd hT q => ?_
    have hr1 := hr.mono (show 3 * n + 1 ≤ 3 * n + 3 by omega)
    by_cases ka : kd = .app
    · subst ka
      refine ⟨_, pss_cons (ps_set (i := 3) scLifted.nd rfl (.inl rfl) (pe_ix ix_tup (pv 0) pe_int (fun _ _ => rfl)))
        (pss_cons (ps_if (pt_cmpR op_eq (pv 3) pe_str (nomark _)) pss_never pss_nil)
        (pss_cons (ps_if (PW.pt (pw_or (pt_cmpR op_eq (pv 1) pe_int (nomark _)) (pw_or (pt_cmpR op_eq (pv 3) pe_str (nomark _)) (pw_or1 (pt_cmpR op_eq (pv 3) pe_str (nomark _)))))) (pss_one (ps_ret (pv 0))) pss_nil)
        (pss_cons (ps_if (pt_cmpR op_eq (pv 3) pe_str (nomark _)) (pss_one (ps_ret (pe_tup (pa_cons pe_str
          (pa_cons (pe_cl ih hr1 (pa_cons (pe_ix ix_tup (pv 0) pe_int (fun _ _ => rfl)) (pa_cons (pv 1) (pa_cons (pv 2) pa_nil))))
          (pa_cons (pe_cl ih hr1 (pa_cons (pe_ix ix_tup (pv 0) pe_int (fun _ _ => rfl)) (pa_cons (pv 1) (pa_cons (pv 2) pa_nil)))) pa_nil)))))) pss_nil)
        pss_never))), ?_⟩
      obtain ⟨a, vs, rfl, h1, h2⟩ := tr_node (by intro n; simp) ht
      obtain ⟨har, hdp⟩ := hd
      obtain ⟨p1, p2, rfl⟩ : ∃ p1 p2, ps = [p1, p2] := match ps, har with | [p1, p2], _ => ⟨p1, p2, rfl⟩
      obtain ⟨v1, v2, rfl, t1, t2⟩ : ∃ v1 v2, vs = [v1, v2] ∧ Tr K H v1 p1 ∧ Tr K H v2 p2 := by
        cases h2 with
        | cons x1 x2 =>
          cases x2 with
          | cons y1 y2 => cases y2; exact ⟨_, _, rfl, x1, y1⟩
      refine ⟨_, rfl, a, _, 0, _, rfl, rfl, h1, at0, ?_⟩
      refine ⟨_, rfl, rfl, _, rfl, iteEqF (by decide +kernel) ?_⟩
      refine ⟨_, rfl, rfl, _, rfl, ?_⟩
      refine ite2 (fun e => ?_) (fun e => ?_)
      · have e := V.int.inj (of_decide_eq_true e)
        have e0 : b = 0 := by omega
        subst e0
        refine ⟨_, rfl, q _ _ Gr.refl ?_⟩
        rw [lift_zero]
        exact ht
      · refine ⟨_, rfl, rfl, _, rfl, iteEqF (by decide +kernel) ?_⟩
        refine ⟨_, rfl, rfl, _, rfl, iteEqF (by decide +kernel) ?_⟩
        refine ⟨_, rfl, rfl, _, rfl, iteEqT (by decide +kernel) ?_⟩
        refine ⟨_, rfl, a, _, 1, _, rfl, rfl, h1, at1, _, rfl, _, rfl, v1, p1, b, d, rfl, t1, hdp p1 (by simp), hT, fun u1 H1 g1 r1 => ?_⟩
        refine ⟨_, rfl, a, _, 2, _, rfl, rfl, g1.te.seq h1, at2, _, rfl, _, rfl, v2, p2, b, d, rfl, t2.ext g1.te, hdp p2 (by simp), g1.tab hT, fun u2 H2 g2 r2 => ?_⟩
        refine ⟨le_line (by simp), fun p hp => ?_⟩
        refine q _ _ ((g1.trans g2).trans (Gr.new hp)) ?_
        have e1 : lift b d (.node .app [p1, p2]) = .node .app [lift b d p1, lift b d p2] := by
          unfold lift; rw [trav_node]; rfl
        rw [e1]
        have gn := (Gr.new (T := T) (o := HO.tup [V.str "app", u1, u2]) hp).te
        exact tr_mk_node (by intro n; simp) (SqT.of upd_same) (.cons (r1.ext (g2.te.trans gn)) (.cons (r2.ext gn) .nil))
    · have hdp := hd.2
      have hl : (partsT (.node kd ps)).length ≤ 1000 := Nat.le_trans hd.1.le (by decide)
      have CMx := CM (3 * n + 2) (by omega)
      refine ⟨_, pss_cons (ps_set (i := 3) scLifted.nd rfl (.inl rfl) (pe_ix ix_tup (pv 0) pe_int (fun _ _ => rfl)))
        (pss_cons (ps_if (pt_cmpR op_eq (pv 3) pe_str (nomark _)) pss_never pss_nil)
        (pss_cons (ps_if (PW.pt (pw_or (pt_cmpR op_eq (pv 1) pe_int (nomark _)) (pw_or (pt_cmpR op_eq (pv 3) pe_str (nomark _)) (pw_or1 (pt_cmpR op_eq (pv 3) pe_str (nomark _)))))) (pss_one (ps_ret (pv 0))) pss_nil)
        (pss_cons (ps_if (pt_cmpR op_eq (pv 3) pe_str (nomark _)) pss_never pss_nil)
        (pss_one (ps_ret (pe_callZ (js := [1]) (fr := ["by"]) (scope := lamS lLift) CMx.ok hr rfl CMx.mg CMx.kp CMx.b (ndef_free (sc := defScope sLifted) (fr := ["by"]) (by decide +kernel)) (ndef_fr (sc := defScope sLifted) (by decide +kernel)) rfl (fun _ => rfl)
          (pa_cons (pv 0) (pa_cons (pe_lamV (params := lamA lLift) (body := lamB lLift) (scope := lamS lLift) TX.tb rfl TX.mem TX.uni rfl (ndef_free (sc := defScope sLifted) (fr := ["by"]) (by decide +kernel))) (pa_cons (pv 2) pa_nil))))))))), ?_⟩
      obtain ⟨a, ys, rfl, h1⟩ := tr_tag ht
      have go : ∀ tag : Str, Kd.tag kd = tag → SqT K H a (.str tag :: ys) := fun tag e => by subst e; exact h1
      have last : ∀ σ : L2.St, σ[0]? = some (some (.ref a)) → σ[1]? = some (some (.int (b : Nat))) → σ[2]? = some (some (.int (d : Nat))) →
          ∀ cl : Addr → NF, (∀ c', (cl c').scope = lamS lLift) → (∀ c', (cl c').params = lamA lLift) → (∀ c' , (cl c').cl = (cl 0).cl) → (∀ c', (cl c').c = c') →
          tCallZ (cl 0).cl ["by"] [1] (spMapped P w K mg base T (3 * n + 2)) (tCons (tVar 0) (tCons (tLamV T cl (lamB lLift)) (tCons (tVar 2) tNil))) σ H Q := by
        intro σ s0 s1 s2 cl e1 e2 e3 e4
        refine ⟨_, s0, hT, fun f' c' H1 x1 n1 T1 f0 hf hc => ⟨_, s2, fun cs CF hn => ?_⟩⟩
        have g1 : Gr T H H1 := ⟨x1, fun _ => T1⟩
        have gz : ExtN H1 (fz cs H1) := ext_fz hn
        have trz : Tr K (fz cs H1) (.ref a) (.node kd ps) := ht.ext (g1.te.trans (Te.of gz))
        refine ⟨_, f', .node kd ps, d, fun j p => lift b (d + bnd kd j) p, rfl, trz, hl, tabs_fz hn T1, ?_, fun v' H' gr hv C => ?_⟩
        · refine fval_of (lok_lift (b := b) (F := cl c') ih (e1 c') (e2 c')) (fz_keep hn hf) (by rw [e4]; exact fz_keep hn hc) cold_fz (by rw [e3]; exact CF) fun vs H2 Q2 x2 hq => ?_
          obtain ⟨v, j, p, rfl, hp, hv, hT2, q2⟩ := hq
          have C2 : Cold cs H2 := Cold.ext cold_fz x2
          refine ⟨rfl, v, p, d + bnd kd j, rfl, ?_, hv.ext (te_er C2), hdp p (List.mem_of_getElem? hp), tabs_er C2 hT2, fun u H3 g3 r3 n3 => ?_⟩
          · show [slotAt σ 1] = _
            rw [slotAt_of s1]
          · exact q2 u _ (gr_er_fz C2 g3 n3) (r3.ext (te_fz n3))
        · have e5 : mapTm (fun j p => lift b (d + bnd kd j) p) (.node kd ps) = lift b d (.node kd ps) := by
            unfold lift
            rw [trav_node]
            rfl
          rw [e5] at hv
          exact q v' _ (g1.trans (gr_fz_er hn gr C)) (hv.ext (te_er C))
      cases kd with
      | app => exact (ka rfl).elim
      | pi =>
        refine ⟨_, rfl, a, _, 0, _, rfl, rfl, go "pi" rfl, at0, ?_⟩
        refine ⟨_, rfl, rfl, _, rfl, iteEqF (by decide +kernel) ?_⟩
        refine ⟨_, rfl, rfl, _, rfl, ?_⟩
        refine ite2 (fun e => ?_) (fun e => ?_)
        · have e := V.int.inj (of_decide_eq_true e)
          have e0 : b = 0 := by omega
          subst e0
          refine ⟨_, rfl, q _ _ Gr.refl ?_⟩
          rw [lift_zero]
          exact ht
        · iterate 3 (refine ⟨_, rfl, rfl, _, rfl, iteEqF (by decide +kernel) ?_⟩)
          exact last _ rfl rfl rfl _ (fun _ => rfl) (fun _ => rfl) (fun _ => rfl) (fun _ => rfl)
      | fn =>
        refine ⟨_, rfl, a, _, 0, _, rfl, rfl, go "fun" rfl, at0, ?_⟩
        refine ⟨_, rfl, rfl, _, rfl, iteEqF (by decide +kernel) ?_⟩
        refine ⟨_, rfl, rfl, _, rfl, ?_⟩
        refine ite2 (fun e => ?_) (fun e => ?_)
        · have e := V.int.inj (of_decide_eq_true e)
          have e0 : b = 0 := by omega
          subst e0
          refine ⟨_, rfl, q _ _ Gr.refl ?_⟩
          rw [lift_zero]
          exact ht
        · iterate 3 (refine ⟨_, rfl, rfl, _, rfl, iteEqF (by decide +kernel) ?_⟩)
          exact last _ rfl rfl rfl _ (fun _ => rfl) (fun _ => rfl) (fun _ => rfl) (fun _ => rfl)
      | lt =>
        refine ⟨_, rfl, a, _, 0, _, rfl, rfl, go "let" rfl, at0, ?_⟩
        refine ⟨_, rfl, rfl, _, rfl, iteEqF (by decide +kernel) ?_⟩
        refine ⟨_, rfl, rfl, _, rfl, ?_⟩
        refine ite2 (fun e => ?_) (fun e => ?_)
        · have e := V.int.inj (of_decide_eq_true e)
          have e0 : b = 0 := by omega
          subst e0
          refine ⟨_, rfl, q _ _ Gr.refl ?_⟩
          rw [lift_zero]
          exact ht
        · iterate 3 (refine ⟨_, rfl, rfl, _, rfl, iteEqF (by decide +kernel) ?_⟩)
          exact last _ rfl rfl rfl _ (fun _ => rfl) (fun _ => rfl) (fun _ => rfl) (fun _ => rfl)
      | hole m =>
        refine ⟨_, rfl, a, _, 0, _, rfl, rfl, go "hole" rfl, at0, ?_⟩
        refine ⟨_, rfl, rfl, _, rfl, iteEqF (by decide +kernel) ?_⟩
        refine ⟨_, rfl, rfl, _, rfl, ?_⟩
        refine ite2 (fun e => ?_) (fun e => ?_)
        · have e := V.int.inj (of_decide_eq_true e)
          have e0 : b = 0 := by omega
          subst e0
          refine ⟨_, rfl, q _ _ Gr.refl ?_⟩
          rw [lift_zero]
          exact ht
        · iterate 3 (refine ⟨_, rfl, rfl, _, rfl, iteEqF (by decide +kernel) ?_⟩)
          exact last _ rfl rfl rfl _ (fun _ => rfl) (fun _ => rfl) (fun _ => rfl) (fun _ => rfl)
/-! ### what may be read stays -/
def plainO : HO → Bool
  | .lst _ => true
  | .tup _ => true
  | .dK _ => true
  | _ => false
def Re (H H' : Hp) : Prop := ∀ a u, plainO u = true → Rd H a u → Rd H' a u
section
variable {H H' : Hp} {cs : Cs}
theorem Re.of (e : ExtN H H') : Re H H' := fun a u p h => rd_ext e h fun ps z => by subst z; cases p
theorem Re.trans {H1 : Hp} (a : Re H H1) (b : Re H1 H') : Re H H' := fun x u p h => b x u p (a x u p h)
theorem Re.te (e : Re H H') : Te H H' := fun a xs h => e a _ rfl h
theorem rd_out (C : Cold cs H) {a : Addr} {u : HO} (p : plainO u = true) (h : Rd H a u) : cs.lookup a = none := by
  cases q : cs.lookup a with
  | none => rfl
  | some o =>
    exfalso
    have z := C a o q
    rcases h with h | ⟨ob, h⟩
    · rw [z] at h
      have e := Option.some.inj h
      subst e
      cases p
    · rw [z] at h
      have e := Option.some.inj h
      unfold fzc at e
      injection e with _ e
      subst e
      cases p
theorem re_er (C : Cold cs H) : Re H (er cs H) := fun a u p h => by
  have q := rd_out C p h
  rcases h with h | ⟨ob, h⟩
  · exact .inl (by rw [er_out q]; exact h)
  · exact .inr ⟨ob, by rw [er_out q]; exact h⟩
theorem re_fz (n : ∀ c o, cs.lookup c = some o → H' c = none) : Re H' (fz cs H') := fun a u p h => by
  rcases h with h | ⟨ob, h⟩
  · exact .inl (fz_keep n h)
  · exact .inr ⟨ob, fz_keep n h⟩
/-- a list or a tuple that is read -/
def Sq (K : PySem.W.Frag) (H : Hp) (a : Addr) (xs : List V) : Prop := SqL K H a xs ∨ SqT K H a xs
theorem Re.sq (e : Re H H') {a : Addr} {xs : List V} (h : Sq K H a xs) : Sq K H' a xs := by
  rcases h with (h | h) | (h | h)
  · exact .inl (.inl (e _ _ rfl h))
  · exact .inl (.inr h)
  · exact .inr (.inl (e _ _ rfl h))
  · exact .inr (.inr h)
theorem Gr.re (g : Gr T H H') : Re H H' := Re.of g.ext
end
/-! ### filled_under, filled -/
abbrev lUnder : Expr := lamE ((defBody sUnder).getD 4 (.Pass ⟨0, 0, 0, 0⟩))
/-- the parts to be put in -/
structure Pq (K : PySem.W.Frag) (H : Hp) (l : Addr) (ws : List V) (qs : List Tm) (m : Nat) : Prop where
  sq : Sq K H l ws
  ts : Ts K H ws qs
  dl : ∀ q ∈ qs, dle m q
  le : ws.length ≤ 1000
theorem Pq.re {H H' : Hp} {l : Addr} {ws : List V} {qs : List Tm} {m : Nat} (p : Pq K H l ws qs m) (e : Re H H') : Pq K H' l ws qs m := ⟨e.sq p.sq, p.ts.ext e.te, p.dl, p.le⟩
def spUnder (K : PySem.W.Frag) (T : List (Addr × Str)) (n m : Nat) : Sp := fun vs H Q _ => ∃ v l t ws qs d, vs = [v, .ref l, .int ((d : Nat) : Int)] ∧ Tr K H v t ∧ dle n t ∧ Pq K H l ws qs m ∧ Tabs T H ∧
  ∀ v' H', Gr T H H' → Tr K H' v' (putU qs d t) → Q v' H'
theorem scUnder : FnScope ["term", "parts", "under", "tag", "spot"] ["term", "parts", "under"] (defScope sUnder) := ⟨rfl, rfl, rfl, by decide +kernel, rfl, by decide +kernel, by decide +kernel⟩
theorem nsUnder : NScope ["part", "inner", "parts"] ["part", "inner"] ["parts"] (lamS lUnder) := nscope_by (by decide +kernel)
def spUnderL (K : PySem.W.Frag) (T : List (Addr × Str)) (n m : Nat) : SpL := fun ws vs H Q => ∃ v p d l xs qs, vs = [v, .int ((d : Nat) : Int)] ∧ ws = [some (.ref l)] ∧ Tr K H v p ∧ dle n p ∧ Pq K H l xs qs m ∧ Tabs T H ∧
  ∀ u H', Gr T H H' → Tr K H' u (putU qs d p) → Q u H'
theorem lok_under {n m k : Nat} {f g : Addr} {fd : FuncData} {F : NF} (CL : Cl P w K mg base k "filled_under" f fd ["term", "parts", "under"] (spUnder K T n m)) (hs : F.scope = lamS lUnder) (hp : F.params = lamA lUnder) : LOk P w K mg base (k + 1) g F (lamB lUnder) ["part", "inner"] ["parts"] (spUnderL K T n m) := by
  obtain ⟨nm, q, pr, bd, sc, cl, c⟩ := F
  have hs : sc = lamS lUnder := hs
  have hp : pr = lamA lUnder := hp
  subst hs hp
  refine lok_of (N := ["part", "inner", "parts"]) nsUnder (fun pm ctv us hl => match us, hl with | [_, _], _ => rfl) fun A outer s H vs ws Q hr _ _ h => ?_
  obtain ⟨v, p, d, l, xs, qs, rfl, rfl, ht, hd, hP, hT, q⟩ := h
  refine ⟨_, pe_cl CL hr (pa_cons (pv 0) (pa_cons (pv 2) (pa_cons (pv 1) pa_nil))), ?_⟩
  exact ⟨_, rfl, _, rfl, _, rfl, v, l, p, xs, qs, d, rfl, ht, hd, hP, hT, q⟩
theorem under_leaf {n m : Nat} {f c fl : Addr} {fd fdl : FuncData} {k : Nat} (ml : mg "len" = none) (CL : Cl P w K mg base (3 * m + 1) "lifted" fl fdl ["term", "by", "at"] (spLift K T m)) (bL : ∃ ds, Vals [.int 0] ds ∧ L2.Binds K fdl ["term", "by", "at"] ds) (hk : 3 * m + 1 ≤ k)
    (F : FunT K "filled_under" "filled_under" sUnder [] f c fd)
    (hb : ∀ (A : Around) (outer : List Env) (s : Shared) (H : Hp) (v : V) (kd : Kd) (ps : List Tm) (l : Addr) (ws : List V) (qs : List Tm) (d : Nat) (Q : VK) (E : XK), Room k (A.deeper (envOfC "filled_under" (defScope sUnder) s.heap.objs.size f (.ref c))) → Tr K H v (.node kd ps) → dle n (.node kd ps) → Pq K H l ws qs m → Tabs T H → (∀ v' H', Gr T H H' → Tr K H' v' (putU qs d (.node kd ps)) → Q v' H') →
      ∃ t, PSs (cxOf CX0 P w K mg base ["term", "parts", "under", "tag", "spot"] "filled_under" (defScope sUnder) f (.ref c) A outer s H E).nox (defBody sUnder) t ∧ t { nx := fun _ H' => Q .non H', rt := Q } (start ["term", "parts", "under", "tag", "spot"] [v, .ref l, .int (d : Nat)]) H) :
    FnOk P w K mg base CX0 (k + 1) f fd ["term", "parts", "under"] (spUnder K T n m) := by
  refine F.ok scUnder (fun vs H Q E h => ?_) (fun A outer s H vs Q E hr h => ?_)
  · obtain ⟨v, l, t, ws, qs, d, rfl, _⟩ := h; rfl
  obtain ⟨v, l, t, ws, qs, d, rfl, ht, hd, hP, hT, q⟩ := h
  obtain ⟨ds, vd, bd⟩ := bL
  have hlen : ws.length = qs.length := hP.ts.len
  cases t with
  | node kd ps => exact hb A outer s H v kd ps l ws qs d Q E hr ht hd hP hT q
  | var i =>
    refine ⟨_, pss_cons (ps_set (i := 3) scUnder.nd rfl (.inl rfl) (pe_ix ix_tup (pv 0) pe_int (fun _ _ => rfl)))
      (pss_cons (ps_if (pt_cmpR op_eq (pv 3) pe_str (nomark _)) (pss_cons (ps_if (pt_cmpR op_lt (pe_ix ix_tup (pv 0) pe_int (fun _ _ => rfl)) (pv 2) (nomark _)) (pss_one (ps_ret (pv 0))) pss_nil)
        (pss_cons (ps_set (i := 4) scUnder.nd rfl (.inl rfl) (pe_op op_sub (pe_op op_sub (pe_callB call_len_seq rfl ml PySem.boot_len (pa_cons (pv 1) pa_nil)) pe_int) (pe_op op_sub (pe_ix ix_tup (pv 0) pe_int (fun _ _ => rfl)) (pv 2))))
        (pss_cons (ps_if (pt_cmpR op_lt (pv 4) pe_int (nomark _)) (pss_one (ps_ret (pe_tup (pa_cons pe_str (pa_cons (pe_op op_sub (pe_ix ix_tup (pv 0) pe_int (fun _ _ => rfl)) (pe_callB call_len_seq rfl ml PySem.boot_len (pa_cons (pv 1) pa_nil))) pa_nil))))) pss_nil)
        (pss_one (ps_ret (pe_call CL.ok (hr.mono hk) rfl CL.mg CL.kp bd vd pass0 (pa_cons (pe_ix ix_seq (pv 1) (pv 4) (fun _ _ => rfl)) (pa_cons (pv 2) pa_nil)))))))) pss_nil)
      pss_never), ?_⟩
    obtain ⟨a, rfl, hs⟩ := tr_var ht
    refine ⟨_, rfl, a, _, 0, _, rfl, rfl, hs, at0, ?_⟩
    refine ⟨_, rfl, rfl, _, rfl, iteEqT (by decide +kernel) ?_⟩
    refine ⟨_, rfl, a, _, 1, _, rfl, rfl, hs, at1, _, rfl, _, _, rfl, rfl, _, rfl, ?_⟩
    refine ite2 (fun e => ?_) (fun e => ?_)
    · have e := of_decide_eq_true e
      refine ⟨_, rfl, q _ _ Gr.refl ?_⟩
      unfold putU
      rw [trav_var, putG_lo (by omega)]
      exact ht
    · have e : ¬ ((i : Nat) : Int) < (d : Nat) := of_decide_eq_false (Bool.eq_false_iff.mpr e)
      refine ⟨_, rfl, l, ws, rfl, hP.sq, _, _, rfl, rfl, _, rfl, a, _, 1, _, rfl, rfl, hs, at1, _, rfl, _, _, rfl, rfl, _, _, rfl, rfl, ?_⟩
      refine ⟨_, rfl, _, _, rfl, rfl, _, rfl, ?_⟩
      refine ite2 (fun e2 => ?_) (fun e2 => ?_)
      · have e2 := of_decide_eq_true e2
        refine ⟨_, rfl, a, _, 1, _, rfl, rfl, hs, at1, _, rfl, l, ws, rfl, hP.sq, _, _, rfl, rfl, le_line (by simp), fun p hp => ?_⟩
        refine q _ _ (Gr.new hp) ?_
        unfold putU
        rw [trav_var, putG_out (by omega) (by omega), ← hlen]
        have e1 : ((i : Nat) : Int) - ((ws.length : Nat) : Int) = ((i - ws.length : Nat) : Int) := by omega
        show Tr K (upd H p (HO.tup [V.str "var", V.int (((i : Nat) : Int) - ((ws.length : Nat) : Int))])) _ _
        rw [e1]
        exact tr_mk_var (SqT.of upd_same)
      · have e2 : ¬ _ := of_decide_eq_false (Bool.eq_false_iff.mpr e2)
        have hlt : qs.length - 1 - (i - d) < qs.length := by omega
        have e3 : ((ws.length : Nat) : Int) - 1 - (((i : Nat) : Int) - ((d : Nat) : Int)) = ((qs.length - 1 - (i - d) : Nat) : Int) := by omega
        obtain ⟨x, hx, htx⟩ := hP.ts.get (i := qs.length - 1 - (i - d)) (List.getElem?_eq_getElem hlt)
        have hat : atI ws (((ws.length : Nat) : Int) - 1 - (((i : Nat) : Int) - ((d : Nat) : Int))) = some x := by rw [e3]; exact atI_nat hx
        have fin : spLift K T m ([x, .int ((d : Nat) : Int)] ++ [V.int 0]) H Q E0 := by
          refine ⟨x, qs[qs.length - 1 - (i - d)], d, 0, rfl, htx, hP.dl _ (List.getElem_mem hlt), hT, fun v' H' g r => q v' H' g ?_⟩
          unfold putU
          rw [trav_var, putG_in (by omega) (by omega), List.getD, List.getElem?_eq_getElem hlt]
          exact r
        rcases hP.sq with hq | hq
        · exact ⟨_, rfl, _, rfl, .inl ⟨l, ws, _, x, rfl, rfl, hq, hat, _, rfl, fin⟩⟩
        · exact ⟨_, rfl, _, rfl, .inr (.inl ⟨l, ws, _, x, rfl, rfl, hq, hat, _, rfl, fin⟩)⟩
  | atom u xs =>
    refine ⟨_, pss_cons (ps_set (i := 3) scUnder.nd rfl (.inl rfl) (pe_ix ix_tup (pv 0) pe_int (fun _ _ => rfl)))
      (pss_cons (ps_if (pt_cmpR op_eq (pv 3) pe_str (nomark _)) pss_never pss_nil)
      (pss_cons (ps_if (PW.pt (pw_or (pt_cmpR op_eq (pv 3) pe_str (nomark _)) (pw_or1 (pt_cmpR op_eq (pv 3) pe_str (nomark _))))) (pss_one (ps_ret (pv 0))) pss_nil)
      pss_never)), ?_⟩
    obtain ⟨a, ys, rfl, hs⟩ := tr_atom ht
    have fin : Q (.ref a) H := q _ _ Gr.refl (by unfold putU; rw [trav_atom]; exact ht)
    refine ⟨_, rfl, a, _, 0, _, rfl, rfl, hs, at0, ?_⟩
    cases u
    · refine ⟨_, rfl, rfl, _, rfl, iteEqF (by decide +kernel) ?_⟩
      refine ⟨_, rfl, rfl, _, rfl, iteEqF (by decide +kernel) ?_⟩
      exact ⟨_, rfl, rfl, _, rfl, iteEqT (by decide +kernel) ⟨_, rfl, fin⟩⟩
    · refine ⟨_, rfl, rfl, _, rfl, iteEqF (by decide +kernel) ?_⟩
      exact ⟨_, rfl, rfl, _, rfl, iteEqT (by decide +kernel) ⟨_, rfl, fin⟩⟩
theorem ok_under {m : Nat} {c Pt fm fl f : Addr} {fdm fdl fd : FuncData} (F : FunT K "filled_under" "filled_under" sUnder [] f c fd) (mf : mg "filled_under" = some (.ref f)) (bf : L2.Binds K fd ["term", "parts", "under"] []) (ml : mg "len" = none)
    (CL : Cl P w K mg base (3 * m + 1) "lifted" fl fdl ["term", "by", "at"] (spLift K T m)) (bL : ∃ ds, Vals [.int 0] ds ∧ L2.Binds K fdl ["term", "by", "at"] ds) (TX : TabX base mg T c Pt ((envOfC "filled_under" (defScope sUnder) 0 f (.ref c)).qual ++ "<lambda>"))
    (CM : ∀ kc, 1 ≤ kc → Cl P w K mg base (kc + 1) "mapped" fm fdm ["node", "change", "depth"] (spMapped P w K mg base T kc)) : ∀ n, Cl P w K mg base (3 * m + 3 * n + 2) "filled_under" f fd ["term", "parts", "under"] (spUnder K T n m)
  | 0 => ⟨under_leaf ml CL bL (Nat.le_refl _) F fun A outer s H v kd ps l ws qs d Q E hr ht hd hP hT q => hd.elim, mf, F.kp, bf⟩
  | n + 1 => by
    have ih := ok_under F mf bf ml CL bL TX CM n
    refine ⟨?_, mf, F.kp, bf⟩
    refine under_leaf (k := 3 * m + 3 * n + 4) ml CL bL (by omega) F fun A outer s H v kd ps l ws qs d Q E hr ht hd hP hT q => ?_
    have hr1 := hr.mono (show 3 * m + 3 * n + 2 ≤ 3 * m + 3 * n + 4 by omega)
    by_cases ka : kd = .app
    · subst ka
      refine ⟨_, pss_cons (ps_set (i := 3) scUnder.nd rfl (.inl rfl) (pe_ix ix_tup (pv 0) pe_int (fun _ _ => rfl)))
        (pss_cons (ps_if (pt_cmpR op_eq (pv 3) pe_str (nomark _)) pss_never pss_nil)
        (pss_cons (ps_if (PW.pt (pw_or (pt_cmpR op_eq (pv 3) pe_str (nomark _)) (pw_or1 (pt_cmpR op_eq (pv 3) pe_str (nomark _))))) (pss_one (ps_ret (pv 0))) pss_nil)
        (pss_cons (ps_if (pt_cmpR op_eq (pv 3) pe_str (nomark _)) (pss_one (ps_ret (pe_tup (pa_cons pe_str
          (pa_cons (pe_cl ih hr1 (pa_cons (pe_ix ix_tup (pv 0) pe_int (fun _ _ => rfl)) (pa_cons (pv 1) (pa_cons (pv 2) pa_nil))))
          (pa_cons (pe_cl ih hr1 (pa_cons (pe_ix ix_tup (pv 0) pe_int (fun _ _ => rfl)) (pa_cons (pv 1) (pa_cons (pv 2) pa_nil)))) pa_nil)))))) pss_nil)
        pss_never))), ?_⟩
      obtain ⟨a, vs, rfl, h1, h2⟩ := tr_node (by intro n; simp) ht
      obtain ⟨har, hdp⟩ := hd
      obtain ⟨p1, p2, rfl⟩ : ∃ p1 p2, ps = [p1, p2] := match ps, har with | [p1, p2], _ => ⟨p1, p2, rfl⟩
      obtain ⟨v1, v2, rfl, t1, t2⟩ : ∃ v1 v2, vs = [v1, v2] ∧ Tr K H v1 p1 ∧ Tr K H v2 p2 := by
        cases h2 with
        | cons x1 x2 =>
          cases x2 with
          | cons y1 y2 => cases y2; exact ⟨_, _, rfl, x1, y1⟩
      refine ⟨_, rfl, a, _, 0, _, rfl, rfl, h1, at0, ?_⟩
      iterate 3 (refine ⟨_, rfl, rfl, _, rfl, iteEqF (by decide +kernel) ?_⟩)
      refine ⟨_, rfl, rfl, _, rfl, iteEqT (by decide +kernel) ?_⟩
      refine ⟨_, rfl, a, _, 1, _, rfl, rfl, h1, at1, _, rfl, _, rfl, v1, l, p1, ws, qs, d, rfl, t1, hdp p1 (by simp), hP, hT, fun u1 H1 g1 r1 => ?_⟩
      refine ⟨_, rfl, a, _, 2, _, rfl, rfl, g1.te.seq h1, at2, _, rfl, _, rfl, v2, l, p2, ws, qs, d, rfl, t2.ext g1.te, hdp p2 (by simp), hP.re (Re.of g1.ext), g1.tab hT, fun u2 H2 g2 r2 => ?_⟩
      refine ⟨le_line (by simp), fun p hp => ?_⟩
      refine q _ _ ((g1.trans g2).trans (Gr.new hp)) ?_
      have e1 : putU qs d (.node .app [p1, p2]) = .node .app [putU qs d p1, putU qs d p2] := by
        unfold putU; rw [trav_node]; rfl
      rw [e1]
      have gn := (Gr.new (T := T) (o := HO.tup [V.str "app", u1, u2]) hp).te
      exact tr_mk_node (by intro n; simp) (SqT.of upd_same) (.cons (r1.ext (g2.te.trans gn)) (.cons (r2.ext gn) .nil))
    · have hdp := hd.2
      have hl : (partsT (.node kd ps)).length ≤ 1000 := Nat.le_trans hd.1.le (by decide)
      have CMx := CM (3 * m + 3 * n + 3) (by omega)
      refine ⟨_, pss_cons (ps_set (i := 3) scUnder.nd rfl (.inl rfl) (pe_ix ix_tup (pv 0) pe_int (fun _ _ => rfl)))
        (pss_cons (ps_if (pt_cmpR op_eq (pv 3) pe_str (nomark _)) pss_never pss_nil)
        (pss_cons (ps_if (PW.pt (pw_or (pt_cmpR op_eq (pv 3) pe_str (nomark _)) (pw_or1 (pt_cmpR op_eq (pv 3) pe_str (nomark _))))) (pss_one (ps_ret (pv 0))) pss_nil)
        (pss_cons (ps_if (pt_cmpR op_eq (pv 3) pe_str (nomark _)) pss_never pss_nil)
        (pss_one (ps_ret (pe_callZ (js := [1]) (fr := ["parts"]) (scope := lamS lUnder) CMx.ok hr rfl CMx.mg CMx.kp CMx.b (ndef_free (sc := defScope sUnder) (fr := ["parts"]) (by decide +kernel)) (ndef_fr (sc := defScope sUnder) (by decide +kernel)) rfl (fun _ => rfl)
          (pa_cons (pv 0) (pa_cons (pe_lamV (params := lamA lUnder) (body := lamB lUnder) (scope := lamS lUnder) TX.tb rfl TX.mem TX.uni rfl (ndef_free (sc := defScope sUnder) (fr := ["parts"]) (by decide +kernel))) (pa_cons (pv 2) pa_nil))))))))), ?_⟩
      obtain ⟨a, ys, rfl, h1⟩ := tr_tag ht
      have go : ∀ tag : Str, Kd.tag kd = tag → SqT K H a (.str tag :: ys) := fun tag e => by subst e; exact h1
      have last : ∀ σ : L2.St, σ[0]? = some (some (.ref a)) → σ[1]? = some (some (.ref l)) → σ[2]? = some (some (.int (d : Nat))) →
          ∀ cl : Addr → NF, (∀ c', (cl c').scope = lamS lUnder) → (∀ c', (cl c').params = lamA lUnder) → (∀ c' , (cl c').cl = (cl 0).cl) → (∀ c', (cl c').c = c') →
          tCallZ (cl 0).cl ["parts"] [1] (spMapped P w K mg base T (3 * m + 3 * n + 3)) (tCons (tVar 0) (tCons (tLamV T cl (lamB lUnder)) (tCons (tVar 2) tNil))) σ H Q := by
        intro σ s0 s1 s2 cl e1 e2 e3 e4
        refine ⟨_, s0, hT, fun f' c' H1 x1 n1 T1 f0 hf hc => ⟨_, s2, fun cs CF hn => ?_⟩⟩
        have g1 : Gr T H H1 := ⟨x1, fun _ => T1⟩
        have gz : ExtN H1 (fz cs H1) := ext_fz hn
        have trz : Tr K (fz cs H1) (.ref a) (.node kd ps) := ht.ext (g1.te.trans (Te.of gz))
        refine ⟨_, f', .node kd ps, d, fun j p => putU qs (d + bnd kd j) p, rfl, trz, hl, tabs_fz hn T1, ?_, fun v' H' gr hv C => ?_⟩
        · refine fval_of (lok_under (m := m) (F := cl c') ih (e1 c') (e2 c')) (fz_keep hn hf) (by rw [e4]; exact fz_keep hn hc) cold_fz (by rw [e3]; exact CF) fun vs H2 Q2 x2 hq => ?_
          obtain ⟨v, j, p, rfl, hp, hv, hT2, q2⟩ := hq
          have C2 : Cold cs H2 := Cold.ext cold_fz x2
          refine ⟨rfl, v, p, d + bnd kd j, l, ws, qs, rfl, ?_, hv.ext (te_er C2), hdp p (List.mem_of_getElem? hp), hP.re (((Re.of x1).trans (Re.of gz)).trans ((Re.of x2).trans (re_er C2))), tabs_er C2 hT2, fun u H3 g3 r3 n3 => ?_⟩
          · show [slotAt σ 1] = _
            rw [slotAt_of s1]
          · exact q2 u _ (gr_er_fz C2 g3 n3) (r3.ext (te_fz n3))
        · have e5 : mapTm (fun j p => putU qs (d + bnd kd j) p) (.node kd ps) = putU qs d (.node kd ps) := by
            unfold putU
            rw [trav_node]
            rfl
          rw [e5] at hv
          exact q v' _ (g1.trans (gr_fz_er hn gr C)) (hv.ext (te_er C))
      cases kd with
      | app => exact (ka rfl).elim
      | pi =>
        refine ⟨_, rfl, a, _, 0, _, rfl, rfl, go "pi" rfl, at0, ?_⟩
        iterate 4 (refine ⟨_, rfl, rfl, _, rfl, iteEqF (by decide +kernel) ?_⟩)
        exact last _ rfl rfl rfl _ (fun _ => rfl) (fun _ => rfl) (fun _ => rfl) (fun _ => rfl)
      | fn =>
        refine ⟨_, rfl, a, _, 0, _, rfl, rfl, go "fun" rfl, at0, ?_⟩
        iterate 4 (refine ⟨_, rfl, rfl, _, rfl, iteEqF (by decide +kernel) ?_⟩)
        exact last _ rfl rfl rfl _ (fun _ => rfl) (fun _ => rfl) (fun _ => rfl) (fun _ => rfl)
      | lt =>
        refine ⟨_, rfl, a, _, 0, _, rfl, rfl, go "let" rfl, at0, ?_⟩
        iterate 4 (refine ⟨_, rfl, rfl, _, rfl, iteEqF (by decide +kernel) ?_⟩)
        exact last _ rfl rfl rfl _ (fun _ => rfl) (fun _ => rfl) (fun _ => rfl) (fun _ => rfl)
      | hole h =>
        refine ⟨_, rfl, a, _, 0, _, rfl, rfl, go "hole" rfl, at0, ?_⟩
        iterate 4 (refine ⟨_, rfl, rfl, _, rfl, iteEqF (by decide +kernel) ?_⟩)
        exact last _ rfl rfl rfl _ (fun _ => rfl) (fun _ => rfl) (fun _ => rfl) (fun _ => rfl)
theorem put_nil (d : Nat) (t : Tm) : putU [] d t = t := trav_id0 t d fun e i => by
  by_cases h : i < d + e
  · exact putG_lo h
  · rw [putG_out h (by simp)]; rfl
def spFilled (K : PySem.W.Frag) (T : List (Addr × Str)) (n m : Nat) : Sp := fun vs H Q _ => ∃ v l t ws qs, vs = [v, .ref l] ∧ Tr K H v t ∧ dle n t ∧ Pq K H l ws qs m ∧ Tabs T H ∧
  ∀ v' H', Gr T H H' → Tr K H' v' (putU qs 0 t) → Q v' H'
theorem scFilled : FnScope ["term", "parts"] ["term", "parts"] (defScope sFilled) := ⟨rfl, rfl, rfl, by decide +kernel, rfl, by decide +kernel, by decide +kernel⟩
theorem ok_filled {n m k : Nat} {f fu : Addr} {fd fdu : FuncData} (F : Fun K "filled" "filled" sFilled f fd) (ml : mg "len" = none) (CU : Cl P w K mg base k "filled_under" fu fdu ["term", "parts", "under"] (spUnder K T n m)) : FnOk P w K mg base CX0 (k + 1) f fd ["term", "parts"] (spFilled K T n m) := by
  refine F.ok scFilled (fun vs H Q E h => ?_) (fun cdv A outer s H vs Q E hr h => ?_)
  · obtain ⟨v, l, t, ws, qs, rfl, _⟩ := h; rfl
  obtain ⟨v, l, t, ws, qs, rfl, ht, hd, hP, hT, q⟩ := h
  refine ⟨_, pss_cons (ps_if (pt_cmpR op_eq (pe_callB call_len_seq rfl ml PySem.boot_len (pa_cons (pv 1) pa_nil)) pe_int (nomark _)) (pss_one (ps_ret (pv 0))) pss_nil)
    (pss_one (ps_ret (pe_cl CU hr (pa_cons (pv 0) (pa_cons (pv 1) (pa_cons pe_int pa_nil)))))), ?_⟩
  refine ⟨_, rfl, l, ws, rfl, hP.sq, rfl, _, rfl, ?_⟩
  refine ite2 (fun e => ?_) (fun e => ?_)
  · have e := V.int.inj (of_decide_eq_true e)
    have e0 : qs = [] := List.eq_nil_of_length_eq_zero (by have := hP.ts.len; omega)
    subst e0
    refine ⟨_, rfl, q _ _ Gr.refl ?_⟩
    rw [put_nil]
    exact ht
  · exact ⟨_, rfl, _, rfl, v, l, t, ws, qs, 0, rfl, ht, hd, hP, hT, q⟩
end
end KP

/-! fill, settled, holes_of. -/
namespace KP
open PySem PyProof.Rows L2 LamX NdefX KL KM KD
section
variable {P : Program} {w : World} {K : PySem.W.Frag} {mg : Str → Option Value} {base : Heap} {T : List (Addr × Str)}
/-! ### fillings as dicts -/
/-- the dict's pairs tell the filling φ -/
structure FlK (K : PySem.W.Frag) (H : Hp) (kvs : List (Key × V)) (φ : Fl) : Prop where
  no : ∀ h, φ h = none → valV kvs (.inl h) = none
  yes : ∀ h ar b, φ h = some (ar, b) → ∃ a vb, valV kvs (.inl h) = some (.ref a) ∧ SqT K H a [.int ((ar : Nat) : Int), vb] ∧ Tr K H vb b
def FlAt (K : PySem.W.Frag) (H : Hp) (D : Addr) (φ : Fl) : Prop := ∃ kvs, Rd H D (.dK kvs) ∧ FlK K H kvs φ
theorem FlK.te {H H' : Hp} {kvs : List (Key × V)} {φ : Fl} (f : FlK K H kvs φ) (e : Te H H') : FlK K H' kvs φ :=
  ⟨f.no, fun h ar b q => let ⟨a, vb, h1, h2, h3⟩ := f.yes h ar b q; ⟨a, vb, h1, e.seq h2, h3.ext e⟩⟩
theorem FlAt.re {H H' : Hp} {D : Addr} {φ : Fl} (f : FlAt K H D φ) (e : Re H H') : FlAt K H' D φ :=
  let ⟨kvs, h1, h2⟩ := f; ⟨kvs, e _ _ rfl h1, h2.te e.te⟩
theorem FlAt.get {H : Hp} {D : Addr} {φ : Fl} (f : FlAt K H D φ) (h : Int) : ∃ o, DGet H D (.int h) o ∧ (φ h = none → o = none) ∧ (∀ ar b, φ h = some (ar, b) → ∃ a vb, o = some (.ref a) ∧ SqT K H a [.int ((ar : Nat) : Int), vb] ∧ Tr K H vb b) := by
  obtain ⟨kvs, h1, h2⟩ := f
  exact ⟨valV kvs (.inl h), .inl ⟨kvs, .inl h, h1, rfl, rfl⟩, h2.no h, h2.yes h⟩
/-! ### fill -/
/-- all that fill meets is not too deep -/
def fdl (φ : Fl) (N M : Nat) : Nat → Tm → Prop
  | _, .var _ => True
  | _, .atom _ _ => True
  | 0, .node _ _ => False
  | n + 1, .node k ps => ps.length ≤ 100 ∧ (∀ p ∈ ps, fdl φ N M n p) ∧ match hit φ k with
    | some (_, b) => (∀ p ∈ ps, dle M (fillN φ n p)) ∧ fdl φ N M n b ∧ dle N (fillN φ n b)
    | none => True
theorem fdl_hit {φ : Fl} {N M n : Nat} {k : Kd} {ps : List Tm} {ar : Nat} {b : Tm} (e : hit φ k = some (ar, b)) (h : fdl φ N M (n + 1) (.node k ps)) : (∀ p ∈ ps, dle M (fillN φ n p)) ∧ fdl φ N M n b ∧ dle N (fillN φ n b) := by
  have z := h.2.2
  rw [e] at z
  exact z
def spFill (K : PySem.W.Frag) (T : List (Addr × Str)) (N M n : Nat) : Sp := fun vs H Q _ => ∃ v D t φ, vs = [v, .ref D] ∧ Tr K H v t ∧ fdl φ N M n t ∧ FlAt K H D φ ∧ Tabs T H ∧
  ∀ v' H', Gr T H H' → Tr K H' v' (fillN φ n t) → Q v' H'
theorem scFill : FnScope ["term", "filling", "arguments", "part"] ["term", "filling"] (defScope sFill) := ⟨rfl, rfl, rfl, by decide +kernel, rfl, by decide +kernel, by decide +kernel⟩
abbrev lFill : Expr := lamE ((defBody sFill).getD 1 (.Pass ⟨0, 0, 0, 0⟩))
theorem nsFill : NScope ["part", "under", "filling"] ["part", "under"] ["filling"] (lamS lFill) := nscope_by (by decide +kernel)
def spFillL (K : PySem.W.Frag) (T : List (Addr × Str)) (N M n : Nat) : SpL := fun ws vs H Q => ∃ v p d D φ, vs = [v, d] ∧ ws = [some (.ref D)] ∧ Tr K H v p ∧ fdl φ N M n p ∧ FlAt K H D φ ∧ Tabs T H ∧
  ∀ u H', Gr T H H' → Tr K H' u (fillN φ n p) → Q u H'
theorem lok_fill {N M n k : Nat} {f g : Addr} {fd : FuncData} {F : NF} (CL : Cl P w K mg base k "fill" f fd ["term", "filling"] (spFill K T N M n)) (hs : F.scope = lamS lFill) (hp : F.params = lamA lFill) : LOk P w K mg base (k + 1) g F (lamB lFill) ["part", "under"] ["filling"] (spFillL K T N M n) := by
  obtain ⟨nm, q, pr, bd, sc, cl, c⟩ := F
  have hs : sc = lamS lFill := hs
  have hp : pr = lamA lFill := hp
  subst hs hp
  refine lok_of (N := ["part", "under", "filling"]) nsFill (fun pm ctv us hl => match us, hl with | [_, _], _ => rfl) fun A outer s H vs ws Q hr _ _ h => ?_
  obtain ⟨v, p, d, D, φ, rfl, rfl, ht, hd, hP, hT, q⟩ := h
  refine ⟨_, pe_cl CL hr (pa_cons (pv 0) (pa_cons (pv 2) pa_nil)), ?_⟩
  exact ⟨_, rfl, _, rfl, v, D, p, φ, rfl, ht, hd, hP, hT, q⟩
/-- the way through mapped -/
theorem fill_rest {N M n kc : Nat} {c Pt fm f : Addr} {fdm fd : FuncData} {A : Around} {outer : List Env} {s : Shared} {H : Hp} {v : V} {D : Addr} {t : Tm} {φ : Fl} {Q : VK}
    (ht : Tr K H v t) (hl : (partsT t).length ≤ 1000) (hT : Tabs T H) (hF : FlAt K H D φ) (g : Tm → Tm) (mapG : mapTm (fun _ p => g p) t = fillN φ n t) (q : ∀ v' H', Gr T H H' → Tr K H' v' (fillN φ n t) → Q v' H')
    (σ : L2.St) (s0 : σ[0]? = some (some v)) (s1 : σ[1]? = some (some (.ref D))) (cl : Addr → NF) (e3 : ∀ c' , (cl c').cl = (cl 0).cl)
    (fv : ∀ f' c' H1 cs, ExtN H H1 → H1 f' = some (LamO f' (cl c') (lamB lFill)) → H1 c' = some (CodeO c' (cl c').qual) → CellsF (cl 0).cl ["filling"] ([1].map (slotAt σ)) cs → (∀ c o, cs.lookup c = some o → H1 c = none) →
      FVal P w K mg base kc f' (fz cs H1) (spChange K T t 0 (fun _ p => g p))) :
    tCallZ (cl 0).cl ["filling"] [1] (spMapped P w K mg base T kc) (tCons (tVar 0) (tCons (tLamV T cl (lamB lFill)) (tCons (tC (.int 0)) tNil))) σ H Q := by
  refine ⟨_, s0, hT, fun f' c' H1 x1 n1 T1 f0 hf hc => fun cs CF hn => ?_⟩
  have g1 : Gr T H H1 := ⟨x1, fun _ => T1⟩
  have gz : ExtN H1 (fz cs H1) := ext_fz hn
  refine ⟨_, f', t, 0, fun _ p => g p, rfl, ht.ext (g1.te.trans (Te.of gz)), hl, tabs_fz hn T1, fv f' c' H1 cs x1 hf hc CF hn, fun v' H' gr hv C => ?_⟩
  rw [mapG] at hv
  exact q v' _ (g1.trans (gr_fz_er hn gr C)) (hv.ext (te_er C))
theorem fill_leaf {N M L n : Nat} {c Pt fm ff f : Addr} {fdm fdf fd : FuncData} (F : FunT K "fill" "fill" sFill [] f c fd) (mf : mg "fill" = some (.ref f)) (bf : L2.Binds K fd ["term", "filling"] []) (hL : 1 ≤ L)
    (CD : Cl P w K mg base L "filled" ff fdf ["term", "parts"] (spFilled K T N M)) (TX : TabX base mg T c Pt ((envOfC "fill" (defScope sFill) 0 f (.ref c)).qual ++ "<lambda>"))
    (CM : ∀ kc, 1 ≤ kc → Cl P w K mg base (kc + 1) "mapped" fm fdm ["node", "change", "depth"] (spMapped P w K mg base T kc))
    (hb : ∀ (A : Around) (outer : List Env) (s : Shared) (H : Hp) (v : V) (D : Addr) (k : Kd) (ps : List Tm) (φ : Fl) (Q : VK) (E : XK), Room (L + 3 * n + 2) (A.deeper (envOfC "fill" (defScope sFill) s.heap.objs.size f (.ref c))) → Tr K H v (.node k ps) → fdl φ N M n (.node k ps) → FlAt K H D φ → Tabs T H → (∀ v' H', Gr T H H' → Tr K H' v' (fillN φ n (.node k ps)) → Q v' H') →
      ∃ t, PSs (cxOf CX0 P w K mg base ["term", "filling", "arguments", "part"] "fill" (defScope sFill) f (.ref c) A outer s H E).nox (defBody sFill) t ∧ t { nx := fun _ H' => Q .non H', rt := Q } (start ["term", "filling", "arguments", "part"] [v, .ref D]) H) : Cl P w K mg base (L + 3 * n + 3) "fill" f fd ["term", "filling"] (spFill K T N M n) := by
    refine ⟨?_, mf, F.kp, bf⟩
    refine F.ok (k := L + 3 * n + 2) scFill (fun vs H Q E h => ?_) (fun A outer s H vs Q E hr h => ?_)
    · obtain ⟨v, D, t, φ, rfl, _⟩ := h; rfl
    obtain ⟨v, D, t, φ, rfl, ht, hd, hF, hT, q⟩ := h
    have hu := hu_of hr
    by_cases leaf : ∃ (hleaf : partsT t = []) (_ : ∀ k ps, t ≠ .node k ps), fillN φ n t = t
    · obtain ⟨hleaf, hnn, e0⟩ := leaf
      have CMx := CM 1 (Nat.le_refl _)
      refine ⟨_, pss_cons (ps_if (PW.pt (pw_and (pt_cmpR op_eq (pe_ix ix_tup (pv 0) pe_int (fun _ _ => rfl)) pe_str (nomark _)) (pw_and1 (pt_cmp (pc_din hu (pe_ix ix_tup (pv 0) pe_int (fun _ _ => rfl)) (pv 1)))))) pss_never pss_nil)
        (pss_one (ps_ret (pe_callZ (js := [1]) (fr := ["filling"]) (scope := lamS lFill) CMx.ok (hr.mono (by omega)) rfl CMx.mg CMx.kp CMx.b (ndef_free (sc := defScope sFill) (fr := ["filling"]) (by decide +kernel)) (ndef_fr (sc := defScope sFill) (by decide +kernel)) rfl (fun _ => rfl)
          (pa_cons (pv 0) (pa_cons (pe_lamV (params := lamA lFill) (body := lamB lFill) (scope := lamS lFill) TX.tb rfl TX.mem TX.uni rfl (ndef_free (sc := defScope sFill) (fr := ["filling"]) (by decide +kernel))) (pa_cons pe_int pa_nil)))))), ?_⟩
      have fin : ∀ (cl : Addr → NF), (∀ c' , (cl c').cl = (cl 0).cl) → tCallZ (cl 0).cl ["filling"] [1] (spMapped P w K mg base T 1) (tCons (tVar 0) (tCons (tLamV T cl (lamB lFill)) (tCons (tC (.int 0)) tNil))) (start ["term", "filling", "arguments", "part"] [v, .ref D]) H Q := fun cl e3 => by
        refine fill_rest (f := f) (fd := fd) (A := A) (outer := outer) (s := s) (c := c) (Pt := Pt) (fm := fm) (fdm := fdm) (N := N) (M := M) ht (by rw [hleaf]; decide) hT hF id ?_ q _ rfl rfl cl e3 fun f' c' H1 cs x1 hf hc CF hn => ?_
        · rw [e0]
          cases t with
          | node k ps => exact (hnn k ps rfl).elim
          | _ => rfl
        · refine ⟨⟨_, _, fz_keep hn hf⟩, fun A outer s H2 us vs Q2 hr2 e2 x2 r2 hq => ?_⟩
          obtain ⟨v, j, p, rfl, hp, _⟩ := hq
          rw [hleaf] at hp
          simp at hp
      cases t with
      | node k ps => exact (hnn k ps rfl).elim
      | var i =>
        obtain ⟨a, rfl, hs⟩ := tr_var ht
        refine ⟨_, rfl, a, _, 0, _, rfl, rfl, hs, at0, rfl, _, rfl, iteEqF (by decide +kernel) ?_⟩
        exact fin _ (fun _ => rfl)
      | atom u xs =>
        obtain ⟨a, ys, rfl, hs⟩ := tr_atom ht
        cases u
        · refine ⟨_, rfl, a, _, 0, _, rfl, rfl, hs, at0, rfl, _, rfl, iteEqF (by decide +kernel) ?_⟩
          exact fin _ (fun _ => rfl)
        · refine ⟨_, rfl, a, _, 0, _, rfl, rfl, hs, at0, rfl, _, rfl, iteEqF (by decide +kernel) ?_⟩
          exact fin _ (fun _ => rfl)
    · cases t with
      | node k ps => exact hb A outer s H v D k ps φ Q E hr ht hd hF hT q
      | var i => exact (leaf ⟨rfl, (fun _ _ z => by cases z), fillN_var φ n i⟩).elim
      | atom u xs => exact (leaf ⟨rfl, (fun _ _ z => by cases z), fillN_atom φ n u xs⟩).elim
theorem ok_fill {N M L : Nat} {c Pt fm ff f : Addr} {fdm fdf fd : FuncData} (F : FunT K "fill" "fill" sFill [] f c fd) (mf : mg "fill" = some (.ref f)) (bf : L2.Binds K fd ["term", "filling"] []) (hL : 1 ≤ L)
    (CD : Cl P w K mg base L "filled" ff fdf ["term", "parts"] (spFilled K T N M)) (TX : TabX base mg T c Pt ((envOfC "fill" (defScope sFill) 0 f (.ref c)).qual ++ "<lambda>"))
    (CM : ∀ kc, 1 ≤ kc → Cl P w K mg base (kc + 1) "mapped" fm fdm ["node", "change", "depth"] (spMapped P w K mg base T kc)) : ∀ n, Cl P w K mg base (L + 3 * n + 3) "fill" f fd ["term", "filling"] (spFill K T N M n)
  | 0 => fill_leaf (n := 0) F mf bf hL CD TX CM fun A outer s H v D k ps φ Q E hr ht hd hF hT q => (show False from hd).elim
  | n + 1 => by
    have ih := ok_fill F mf bf hL CD TX CM n
    refine fill_leaf F mf bf hL CD TX CM fun A outer s H v D k ps φ Q E hr ht hd hF hT q => ?_
    have hu := hu_of hr
    have hl : (partsT (.node k ps)).length ≤ 1000 := Nat.le_trans hd.1 (by decide)
    have CMx := CM (L + 3 * n + 4) (by omega)
    have hri := hr.mono (show L + 3 * n + 3 ≤ L + 3 * (n + 1) + 2 by omega)
    refine ⟨_, pss_cons (ps_if (PW.pt (pw_and (pt_cmpR op_eq (pe_ix ix_tup (pv 0) pe_int (fun _ _ => rfl)) pe_str (nomark _)) (pw_and1 (pt_cmp (pc_din hu (pe_ix ix_tup (pv 0) pe_int (fun _ _ => rfl)) (pv 1))))))
        (pss_cons (ps_setLc (own := [("part", 3)]) (i := 2) (g := gName 3) (tt := tYes) rfl scFill.nd rfl rfl (sw_true rfl rfl rfl (by decide +kernel)) (pi_tup (pe_ix ix_tup (pv 0) pe_int (fun _ _ => rfl))) (blkOk_by (N := ["term", "filling", "arguments", "part"]) (sc := defScope sFill) (by decide +kernel))
          (fun _ _ _ _ _ => pg_name (i := 3) scFill.nd rfl (.inl rfl)) (fun _ _ _ _ _ => pts_nil) (fun _ _ _ _ _ => pe_cl ih hri (pa_cons (pv 3) (pa_cons (pv 1) pa_nil))))
        (pss_one (ps_ret (pe_cl CD (hr.mono (by omega)) (pa_cons (pe_cl ih hri (pa_cons (pe_ix ix_tup (pe_dget hu (pv 1) (pe_ix ix_tup (pv 0) pe_int (fun _ _ => rfl)) (fun _ _ => rfl)) pe_int (fun _ _ => rfl)) (pa_cons (pv 1) pa_nil))) (pa_cons (pv 2) pa_nil)))))) pss_nil)
      (pss_one (ps_ret (pe_callZ (js := [1]) (fr := ["filling"]) (scope := lamS lFill) CMx.ok hr rfl CMx.mg CMx.kp CMx.b (ndef_free (sc := defScope sFill) (fr := ["filling"]) (by decide +kernel)) (ndef_fr (sc := defScope sFill) (by decide +kernel)) rfl (fun _ => rfl)
        (pa_cons (pv 0) (pa_cons (pe_lamV (params := lamA lFill) (body := lamB lFill) (scope := lamS lFill) TX.tb rfl TX.mem TX.uni rfl (ndef_free (sc := defScope sFill) (fr := ["filling"]) (by decide +kernel))) (pa_cons pe_int pa_nil)))))), ?_⟩
    have miss : hit φ k = none → ∀ cl : Addr → NF, (∀ c', (cl c').scope = lamS lFill) → (∀ c', (cl c').params = lamA lFill) → (∀ c' , (cl c').cl = (cl 0).cl) → (∀ c', (cl c').c = c') →
        tCallZ (cl 0).cl ["filling"] [1] (spMapped P w K mg base T (L + 3 * n + 4)) (tCons (tVar 0) (tCons (tLamV T cl (lamB lFill)) (tCons (tC (.int 0)) tNil))) (start ["term", "filling", "arguments", "part"] [v, .ref D]) H Q := fun hm cl e1 e2 e3 e4 => by
      refine fill_rest (f := f) (fd := fd) (A := A) (outer := outer) (s := s) (c := c) (Pt := Pt) (fm := fm) (fdm := fdm) (N := N) (M := M) ht hl hT hF (fillN φ n) ?_ q _ rfl rfl cl e3 fun f' c' H1 cs x1 hf hc CF hn => ?_
      · rw [fillN_miss hm, ← mapI_map (fillN φ n) ps 0]; rfl
      · have gz : ExtN H1 (fz cs H1) := ext_fz hn
        refine fval_of (lok_fill (N := N) (M := M) (n := n) (F := cl c') ih (e1 c') (e2 c')) (fz_keep hn hf) (by rw [e4]; exact fz_keep hn hc) cold_fz (by rw [e3]; exact CF) fun vs H2 Q2 x2 hq => ?_
        obtain ⟨v2, j, p, rfl, hp, hv, hT2, q2⟩ := hq
        have C2 : Cold cs H2 := Cold.ext cold_fz x2
        refine ⟨rfl, v2, p, _, D, φ, rfl, rfl, hv.ext (te_er C2), hd.2.1 p (List.mem_of_getElem? hp), hF.re (((Re.of x1).trans (Re.of gz)).trans ((Re.of x2).trans (re_er C2))), tabs_er C2 hT2, fun u H3 g3 r3 n3 => ?_⟩
        exact q2 u _ (gr_er_fz C2 g3 n3) (r3.ext (te_fz n3))
    obtain ⟨a, ys, rfl, h1⟩ := tr_tag ht
    have go : ∀ tag : Str, Kd.tag k = tag → SqT K H a (.str tag :: ys) := fun tag e => by subst e; exact h1
    cases k with
    | hole h =>
      obtain ⟨a', b', vs, e, k1, k2, k3⟩ := tr_hole ht
      cases e
      obtain ⟨o, ho, hno, hyes⟩ := hF.get h
      cases e : φ h with
      | none =>
        obtain rfl := hno e
        refine ⟨_, rfl, a, _, 0, _, rfl, rfl, k1, at0, rfl, _, rfl, iteEqT (by decide +kernel) ?_⟩
        refine ⟨_, rfl, a, _, 1, _, rfl, rfl, k1, at1, _, rfl, D, _, rfl, ho, _, rfl, ?_⟩
        exact miss e _ (fun _ => rfl) (fun _ => rfl) (fun _ => rfl) (fun _ => rfl)
      | some ab =>
        obtain ⟨ar, b⟩ := ab
        obtain ⟨va, vb, rfl, j1, j2⟩ := hyes ar b e
        obtain ⟨z1, z2, z3⟩ := fdl_hit (k := .hole h) e hd
        refine ⟨_, rfl, a, _, 0, _, rfl, rfl, k1, at0, rfl, _, rfl, iteEqT (by decide +kernel) ?_⟩
        refine ⟨_, rfl, a, _, 1, _, rfl, rfl, k1, at1, _, rfl, D, _, rfl, ho, _, rfl, ?_⟩
        refine ⟨_, rfl, a, _, 2, _, rfl, rfl, k1, at2, b', rfl, ⟨vs, k2⟩, fun Dl hDl => ?_⟩
        refine lc_tup (xs := vs) (fun i H' => ∃ acc, H' Dl = some (.lst acc) ∧ Ts K H' acc ((ps.map (fillN φ n)).take i) ∧ Gr T H H') ?_ ?_ ?_ ?_
        · exact ⟨[], upd_same, TpAll.nil, Gr.new hDl⟩
        · rintro i H' _ ⟨acc, _, _, gr⟩
          exact gr.te.seq k2
        · rintro i x H3 hx ⟨acc, hacc, hts, gr⟩
          have hpi : i < ps.length := by rw [← k3.len]; exact (List.getElem?_eq_some_iff.mp hx).1
          obtain ⟨y', hy', hty⟩ := k3.get (i := i) (t := ps[i]) (List.getElem?_eq_getElem hpi)
          rw [hx] at hy'
          cases hy'
          refine ⟨rfl, _, rfl, _, rfl, x, D, ps[i], φ, rfl, hty.ext gr.te, hd.2.1 _ (List.getElem_mem hpi), hF.re (Re.of gr.ext), gr.tab hT, fun u H5 gr5 hu5 => ?_⟩
          have hD5 : H5 Dl = some (.lst acc) := gr5.ext _ _ hacc (fun ps z => by cases z)
          have hl2 : acc.length ≤ 1000 := by
            rw [hts.len, List.length_take, List.length_map]
            have : ps.length ≤ 100 := hd.1
            omega
          have gr6 : Gr T H (upd H5 Dl (.lst (acc ++ [u]))) := (gr.trans gr5).mut hDl ⟨_, hD5, (fun ps z => by cases z), lst_code⟩
          refine ⟨acc, hD5, small1000 hl2, acc ++ [u], upd_same, ?_, gr6⟩
          have e1 : (ps.map (fillN φ n)).take (i + 1) = (ps.map (fillN φ n)).take i ++ [fillN φ n ps[i]] := by
            rw [List.take_add_one, List.getElem?_map, List.getElem?_eq_getElem hpi]; rfl
          rw [e1]
          have t6 := Te.lst (o := HO.lst (acc ++ [u])) hD5
          exact (hts.ext (gr5.te.trans t6)).snoc (hu5.ext t6)
        · rintro H3 ⟨acc, hacc, hts, gr⟩
          have e1 : (ps.map (fillN φ n)).take vs.length = ps.map (fillN φ n) := List.take_of_length_le (by rw [List.length_map, k3.len]; exact Nat.le_refl _)
          rw [e1] at hts
          have hF3 := hF.re (Re.of gr.ext)
          obtain ⟨o3, ho3, hno3, hyes3⟩ := hF3.get h
          obtain ⟨va3, vb3, rfl, j13, j23⟩ := hyes3 ar b e
          refine ⟨_, rfl, _, rfl, a, _, 1, _, rfl, rfl, gr.te.seq k1, at1, D, _, rfl, ho3, va3, _, 1, _, rfl, rfl, j13, at1, _, rfl, vb3, D, b, φ, rfl, j23, z2, hF3, gr.tab hT, fun u H4 gr4 hu4 => ?_⟩
          refine ⟨_, rfl, u, Dl, fillN φ n b, acc, ps.map (fillN φ n), rfl, hu4, z3, ?_, (gr.trans gr4).tab hT, fun v' H5 gr5 h5 => ?_⟩
          · refine ⟨.inl (SqL.of (gr4.ext _ _ hacc fun ps z => by cases z)), hts.ext gr4.te, fun q hq => ?_, ?_⟩
            · obtain ⟨p, hp, rfl⟩ := List.mem_map.mp hq
              exact z1 p hp
            · rw [hts.len, List.length_map]
              exact hl
          · refine q v' H5 ((gr.trans gr4).trans gr5) ?_
            rw [fillN_hit (k := .hole h) e]
            exact h5
    | app =>
      refine ⟨_, rfl, a, _, 0, _, rfl, rfl, go "app" rfl, at0, rfl, _, rfl, iteEqF (by decide +kernel) ?_⟩
      exact miss rfl _ (fun _ => rfl) (fun _ => rfl) (fun _ => rfl) (fun _ => rfl)
    | pi =>
      refine ⟨_, rfl, a, _, 0, _, rfl, rfl, go "pi" rfl, at0, rfl, _, rfl, iteEqF (by decide +kernel) ?_⟩
      exact miss rfl _ (fun _ => rfl) (fun _ => rfl) (fun _ => rfl) (fun _ => rfl)
    | fn =>
      refine ⟨_, rfl, a, _, 0, _, rfl, rfl, go "fun" rfl, at0, rfl, _, rfl, iteEqF (by decide +kernel) ?_⟩
      exact miss rfl _ (fun _ => rfl) (fun _ => rfl) (fun _ => rfl) (fun _ => rfl)
    | lt =>
      refine ⟨_, rfl, a, _, 0, _, rfl, rfl, go "let" rfl, at0, rfl, _, rfl, iteEqF (by decide +kernel) ?_⟩
      exact miss rfl _ (fun _ => rfl) (fun _ => rfl) (fun _ => rfl) (fun _ => rfl)
/-! ### settled -/
abbrev Ens := List (Int × Nat × Tm)
def FlE (K : PySem.W.Frag) (H : Hp) (p : Key × V) (e : Int × Nat × Tm) : Prop := p.1 = .inl e.1 ∧ ∃ a vb, p.2 = .ref a ∧ SqT K H a [.int ((e.2.1 : Nat) : Int), vb] ∧ Tr K H vb e.2.2
/-- the dict's pairs, in their order -/
inductive FlL (K : PySem.W.Frag) (H : Hp) : List (Key × V) → Ens → Prop
  | nil : FlL K H [] []
  | cons {p : Key × V} {e : Int × Nat × Tm} {ps : List (Key × V)} {es : Ens} : FlE K H p e → FlL K H ps es → FlL K H (p :: ps) (e :: es)
theorem FlE.te {H H' : Hp} {p : Key × V} {e : Int × Nat × Tm} (h : FlE K H p e) (t : Te H H') : FlE K H' p e :=
  let ⟨h1, a, vb, h2, h3, h4⟩ := h; ⟨h1, a, vb, h2, t.seq h3, h4.ext t⟩
theorem FlL.te {H H' : Hp} {ps : List (Key × V)} {es : Ens} (h : FlL K H ps es) (t : Te H H') : FlL K H' ps es := by
  induction h with
  | nil => exact .nil
  | cons h1 _ ih => exact .cons (h1.te t) ih
theorem FlL.len {H : Hp} {ps : List (Key × V)} {es : Ens} (h : FlL K H ps es) : ps.length = es.length := by
  induction h with
  | nil => rfl
  | cons _ _ ih => simp [ih]
theorem FlL.snoc {H : Hp} {ps : List (Key × V)} {es : Ens} {p : Key × V} {e : Int × Nat × Tm} (h : FlL K H ps es) (k : FlE K H p e) : FlL K H (ps ++ [p]) (es ++ [e]) := by
  induction h with
  | nil => exact .cons k .nil
  | cons h1 _ ih => exact .cons h1 ih
theorem FlL.get {H : Hp} {ps : List (Key × V)} {es : Ens} (h : FlL K H ps es) : ∀ {i : Nat} {p : Key × V}, ps[i]? = some p → ∃ e, es[i]? = some e ∧ FlE K H p e := by
  induction h with
  | nil => intro i p e; simp at e
  | cons h1 _ ih =>
    intro i p e
    cases i with
    | zero => simp at e; subst e; exact ⟨_, rfl, h1⟩
    | succ i =>
      obtain ⟨e', h2, h3⟩ := ih (i := i) (p := p) (by simpa using e)
      exact ⟨e', by simpa using h2, h3⟩
theorem FlL.flK {H : Hp} {ps : List (Key × V)} {es : Ens} (h : FlL K H ps es) : FlK K H ps (fun k => es.lookup k) := by
  induction h with
  | nil => exact ⟨fun _ _ => rfl, fun _ _ _ z => by simp at z⟩
  | @cons p e ps es h1 _ ih =>
    obtain ⟨e1, a, vb, e2, h3, h4⟩ := h1
    obtain ⟨x, ar, b⟩ := e
    refine ⟨fun k z => ?_, fun k ar' b' z => ?_⟩
    · rw [List.lookup_cons] at z
      by_cases q : k = x
      · subst q; simp at z
      · rw [show (k == x) = false from by simpa using q] at z
        rw [valV_neg (fun y => q (by rw [e1] at y; exact (Sum.inl.inj y).symm))]
        exact ih.no k z
    · rw [List.lookup_cons] at z
      by_cases q : k = x
      · subst q
        simp at z
        obtain ⟨rfl, rfl⟩ := z
        exact ⟨a, vb, by rw [valV_pos e1, e2], h3, h4⟩
      · rw [show (k == x) = false from by simpa using q] at z
        rw [valV_neg (fun y => q (by rw [e1] at y; exact (Sum.inl.inj y).symm))]
        exact ih.yes k ar' b' z
theorem FlL.keys {H : Hp} {ps : List (Key × V)} {es : Ens} (h : FlL K H ps es) : ps.map (·.1) = es.map fun e => (Sum.inl e.1 : Key) := by
  induction h with
  | nil => rfl
  | cons h1 _ ih => simp [ih, h1.1]
theorem nodup_inl {es : Ens} (h : (es.map (·.1)).Nodup) : (es.map fun e => (Sum.inl e.1 : Key)).Nodup := by
  unfold List.Nodup at *
  rw [List.pairwise_map] at *
  exact h.imp fun hne e => hne (Sum.inl.inj e)
/-- each body filled -/
def setl (n : Nat) (es : Ens) : Ens := es.map fun e => (e.1, e.2.1, fillN (fun k => es.lookup k) n e.2.2)
/-- while D is locked -/
structure Lkd (T : List (Addr × Str)) (H H' : Hp) (D : Addr) (od : Obj) (kvs : List (Key × V)) : Prop where
  at_ : H' D = some (.frz od (.dK kvs))
  ext : ∀ b o, H b = some o → b ≠ D → (∀ ps, o ≠ .tbl ps) → H' b = some o
  tab : Tabs T H'
theorem Lkd.re {H H' : Hp} {D : Addr} {od : Obj} {kvs : List (Key × V)} (L : Lkd T H H' D od kvs) (h : H D = some (.dK kvs)) : Re H H' := fun a u p r => by
  by_cases e : a = D
  · subst e
    rcases r with r | ⟨ob, r⟩
    · rw [h] at r; cases r; exact .inr ⟨od, L.at_⟩
    · rw [h] at r; cases r
  · rcases r with r | ⟨ob, r⟩
    · exact .inl (L.ext a u r e fun ps z => by subst z; cases p)
    · exact .inr ⟨ob, L.ext a _ r e fun ps z => by cases z⟩
theorem Lkd.gr {H H1 H2 : Hp} {D : Addr} {od : Obj} {kvs : List (Key × V)} (L : Lkd T H H1 D od kvs) (g : Gr T H1 H2) : Lkd T H H2 D od kvs :=
  ⟨g.ext _ _ L.at_ (fun ps z => by cases z), fun b o e n nt => g.ext b o (L.ext b o e n nt) nt, g.tab L.tab⟩
theorem Lkd.mut {H H1 : Hp} {D p : Addr} {od : Obj} {kvs : List (Key × V)} {u o : HO} (L : Lkd T H H1 D od kvs) (hp : H p = none) (hD : p ≠ D) (h1 : H1 p = some u) (n1 : ∀ ps, u ≠ .tbl ps) (n2 : ∀ c q, u ≠ CodeO c q) : Lkd T H (upd H1 p o) D od kvs := by
  refine ⟨by rw [upd_ne (Ne.symm hD)]; exact L.at_, fun b ob e n nt => by rw [upd_ne (ne_of_none e hp)]; exact L.ext b ob e n nt, fun q hq => ?_⟩
  obtain ⟨ps, a1, a2, a3⟩ := L.tab q hq
  have ne : q.1 ≠ p := fun e => by rw [e, h1] at a1; exact n1 ps (Option.some.inj a1)
  refine ⟨ps, by rw [upd_ne ne]; exact a1, a2, fun pos cv hcv => ?_⟩
  obtain ⟨c, e1, e2⟩ := a3 pos cv hcv
  refine ⟨c, e1, ?_⟩
  by_cases z : c = p
  · rw [z, h1] at e2; exact (n2 _ _ (Option.some.inj e2)).elim
  · rw [upd_ne z]; exact e2
theorem Lkd.unlock {H H' : Hp} {D : Addr} {od : Obj} {kvs : List (Key × V)} (L : Lkd T H H' D od kvs) (h : H D = some (.dK kvs)) : Gr T H (upd H' D (.dK kvs)) := by
  refine ⟨fun b o e nt => ?_, fun _ q hq => ?_⟩
  · by_cases z : b = D
    · subst z; rw [h] at e; cases e; exact upd_same
    · rw [upd_ne z]; exact L.ext b o e z nt
  · obtain ⟨ps, a1, a2, a3⟩ := L.tab q hq
    have ne : q.1 ≠ D := fun e => by rw [e, L.at_] at a1; cases a1
    refine ⟨ps, by rw [upd_ne ne]; exact a1, a2, fun pos cv hcv => ?_⟩
    obtain ⟨c, e1, e2⟩ := a3 pos cv hcv
    refine ⟨c, e1, ?_⟩
    have ne2 : c ≠ D := fun e => by rw [e, L.at_] at e2; exact absurd (Option.some.inj e2) (by unfold CodeO; intro z; cases z)
    rw [upd_ne ne2]; exact e2
theorem Lkd.back {H H1 H' : Hp} {D : Addr} {od : Obj} {kvs : List (Key × V)} (L : Lkd T H1 H' D od kvs) (e : Same H H1) : Lkd T H H' D od kvs := ⟨L.at_, fun b o e1 n nt => L.ext b o (e b o e1) n nt, L.tab⟩
theorem Lkd.start {H : Hp} {D : Addr} {od : Obj} {kvs : List (Key × V)} (h : H D = some (.dK kvs)) (t : Tabs T H) : Lkd T H (upd H D (.frz od (.dK kvs))) D od kvs := by
  refine ⟨upd_same, fun b o e n _ => by rw [upd_ne n]; exact e, fun q hq => ?_⟩
  obtain ⟨ps, a1, a2, a3⟩ := t q hq
  have ne : q.1 ≠ D := fun e => by rw [e, h] at a1; cases a1
  refine ⟨ps, by rw [upd_ne ne]; exact a1, a2, fun pos cv hcv => ?_⟩
  obtain ⟨c, e1, e2⟩ := a3 pos cv hcv
  refine ⟨c, e1, ?_⟩
  have ne2 : c ≠ D := fun e => by rw [e, h] at e2; exact absurd (Option.some.inj e2) (by unfold CodeO; intro z; cases z)
  rw [upd_ne ne2]; exact e2
/-- back under the lock: what the tuples and lists are -/
theorem te_unlock {H' : Hp} {D : Addr} {od : Obj} {kvs : List (Key × V)} (h : H' D = some (.frz od (.dK kvs))) : Te H' (upd H' D (.dK kvs)) := Te.upd (no_tup h (fun _ z => by cases z) fun _ _ z => by cases z)
/-! ### holes_of -/
theorem same_mut {H H1 : Hp} {p : Addr} {o : HO} (e : Same H H1) (h : H p = none) : Same H (upd H1 p o) := fun b u q => by rw [upd_ne (ne_of_none q h)]; exact e b u q
/-- the dict of the numbers met -/
def metK (ks : List Int) : List (Key × V) := ks.map fun h => (Sum.inl h, V.bl true)
theorem metK_put (ks : List Int) (h : Int) : putK (metK ks) (.inl h) (.bl true) = metK (if h ∈ ks then ks else ks ++ [h]) := by
  unfold putK
  by_cases hm : h ∈ ks
  · have ha : ((metK ks).any fun kv => decide (kv.1 = Sum.inl h)) = true := by
      rw [List.any_eq_true]
      exact ⟨(Sum.inl h, .bl true), List.mem_map.mpr ⟨h, hm, rfl⟩, by simp⟩
    rw [if_pos ha, if_pos hm]
    unfold metK
    rw [List.map_map]
    refine List.map_congr_left fun x _ => ?_
    show (if (Sum.inl x : Key) = Sum.inl h then ((Sum.inl x : Key), V.bl true) else _) = _
    split <;> rfl
  · have ha : ¬ ((metK ks).any fun kv => decide (kv.1 = Sum.inl h)) = true := by
      rw [List.any_eq_true]
      rintro ⟨kv, hk, e⟩
      obtain ⟨x, hx, rfl⟩ := List.mem_map.mp hk
      have e := Sum.inl.inj (of_decide_eq_true e)
      exact hm (e ▸ hx)
    rw [if_neg ha, if_neg hm]
    simp [metK]
theorem tpA_split {H : Hp} : ∀ {ts : List Tm} {t : Tm} {ws : List V}, Ts K H ws (ts ++ [t]) → ∃ ws' x, ws = ws' ++ [x] ∧ Ts K H ws' ts ∧ Tr K H x t
  | [], t, ws, h => by
    cases h with
    | cons h1 h2 => cases h2; exact ⟨[], _, rfl, .nil, h1⟩
  | p :: ts, t, ws, h => by
    cases h with
    | cons h1 h2 =>
      obtain ⟨ws', x, e, h3, h4⟩ := tpA_split (ts := ts) h2
      exact ⟨_ :: ws', x, by rw [e]; rfl, .cons h1 h3, h4⟩
theorem ts_append {H : Hp} : ∀ {as : List Tm} {vs ws : List V} {bs : List Tm}, Ts K H vs as → Ts K H ws bs → Ts K H (vs ++ ws) (as ++ bs)
  | [], _, _, _, h, k => by cases h; exact k
  | _ :: as, _, _, _, h, k => by
    cases h with
    | cons h1 h2 => exact .cons h1 (ts_append (as := as) h2 k)
end
end KP

/-! The law's drawing. -/
namespace KP
open PySem PyProof.Rows L2 LamX NdefX KL KM KD
abbrev sDraw : Stmt := top 19
abbrev sPick : Stmt := top 20
abbrev sOne : Stmt := top 21
abbrev sLeaf : Stmt := top 28
abbrev sFresh : Stmt := top 29
/-- all stands but what is at p -/
def Kp (p : Addr) (H H' : Hp) : Prop := ∀ b o, H b = some o → b ≠ p → H' b = some o
theorem Kp.refl {p : Addr} {H : Hp} : Kp p H H := fun _ _ e _ => e
theorem Kp.trans {p : Addr} {H H1 H2 : Hp} (a : Kp p H H1) (b : Kp p H1 H2) : Kp p H H2 := fun x o e n => b x o (a x o e n) n
theorem Kp.upd {p : Addr} {H : Hp} {o : HO} : Kp p H (upd H p o) := fun b u e n => by rw [upd_ne n]; exact e
theorem Kp.same {p : Addr} {H H' : Hp} (e : Same H H') : Kp p H H' := fun b o h _ => e b o h
/-- a draw's list stands at p -/
def DrOk (H : Hp) (p b : Addr) : Prop := ∃ (ns : List Int) (i x y z c s : Int), H p = some (.lst [.ref b, .int i, .int x, .int y, .int z, .int c, .int s]) ∧ H b = some (.lst (ns.map V.int)) ∧ b ≠ p ∧ 0 ≤ i ∧ 0 ≤ x
theorem DrOk.same {p b : Addr} {H H' : Hp} (d : DrOk H p b) (k : Same H H') : DrOk H' p b := by
  obtain ⟨ns, i, x, y, z, c, s, h1, h2, h3⟩ := d
  exact ⟨ns, i, x, y, z, c, s, k _ _ h1, k _ _ h2, h3⟩
section
variable {P : Program} {w : World} {K : PySem.W.Frag} {mg : Str → Option Value} {base : Heap} {T : List (Addr × Str)}
def spDraw (K : PySem.W.Frag) : Sp := fun vs H Q _ => ∃ (a : Addr) (ns : List Int), vs = [.ref a] ∧ SqL K H a (ns.map V.int) ∧ ns.length ≤ 63 ∧ ∀ p b H', Same H H' → H p = none → H b = none → DrOk H' p b → Q (.ref p) H'
theorem scDraw : FnScope ["_law_script"] ["_law_script"] (defScope sDraw) := ⟨rfl, rfl, rfl, by decide +kernel, rfl, by decide +kernel, by decide +kernel⟩
theorem cut_map (ns : List Int) : cutV (ns.map V.int) none (some 1) = (ns.take 1).map V.int := by
  unfold cutV
  rw [HT.sIx_none]
  have z := HT.sIx_nat (ns.map V.int).length (ns.map V.int).length 1
  rw [show (some ((1 : Nat) : Int)) = some 1 from rfl] at z
  rw [z, List.drop_zero, Nat.sub_zero, List.map_take]
  cases ns <;> simp
theorem ok_draw {f : Addr} {fd : FuncData} (F : Fun K "_law_draw" "_law_draw" sDraw f fd) (ml : mg "list" = none) (ms : mg "sum" = none) : FnOk P w K mg base CX0 1 f fd ["_law_script"] (spDraw K) := by
  refine F.ok scDraw (fun vs H Q E h => ?_) (fun cdv A outer s H vs Q E hr h => ?_)
  · obtain ⟨a, ns, rfl, _⟩ := h; rfl
  obtain ⟨a, ns, rfl, ha, hl, q⟩ := h
  refine ⟨_, pss_one (ps_ret (pe_lst (pa_cons (pe_callTy call_list_of rfl ml (by decide +kernel) (pa_cons (pv 0) pa_nil)) (pa_cons pe_int (pa_cons pe_int (pa_cons pe_int (pa_cons pe_int (pa_cons pe_int
    (pa_cons (pe_callB (cr_sum rfl) rfl ms (by decide +kernel) (pa_cons (pe_slice sl_list (pv 0) po_none (po_some pe_int)) pa_nil)) pa_nil))))))))), ?_⟩
  refine ⟨_, rfl, a, _, rfl, .inl ha, fun b hb => ?_⟩
  have s1 := same_new hb (HO.lst (ns.map V.int))
  refine ⟨_, rfl, 1, rfl, a, _, rfl, s1.seq ha, fun c hc => ?_⟩
  have s2 := s1.trans (same_new hc (HO.lst (cutV (ns.map V.int) none (some 1))))
  refine ⟨c, ns.take 1, rfl, SqL.of (by rw [upd_same, cut_map]), le_line (by simp), fun p hp => ?_⟩
  have nbc : b ≠ c := fun e => by subst e; rw [upd_same] at hc; cases hc
  have nbp : b ≠ p := fun e => by subst e; rw [upd_ne nbc, upd_same] at hp; cases hp
  refine q p b _ (s2.trans (same_new hp _)) (s2.free hp) hb ⟨ns, 0, 0, 0, 0, 0, (ns.take 1).sum, upd_same, ?_, nbp, Int.le_refl _, Int.le_refl _⟩
  rw [upd_ne nbp, upd_ne nbc, upd_same]
/-! ### pick -/
def absZ (c : Int) : Int := if c < 0 then -c else c
theorem absZ_nn (c : Int) : 0 ≤ absZ c := by unfold absZ; split <;> omega
/-- the draw's list, its seven items -/
structure D7 (H : Hp) (p b : Addr) (ns : List Int) (i x y z c s : Int) : Prop where
  at_ : H p = some (.lst [.ref b, .int i, .int x, .int y, .int z, .int c, .int s])
  li : H b = some (.lst (ns.map V.int))
  ne : b ≠ p
  i0 : 0 ≤ i
  x0 : 0 ≤ x
theorem D7.ok {H : Hp} {p b : Addr} {ns : List Int} {i x y z c s : Int} (d : D7 H p b ns i x y z c s) : DrOk H p b := ⟨ns, i, x, y, z, c, s, d.at_, d.li, d.ne, d.i0, d.x0⟩
theorem D7.put {H : Hp} {p b : Addr} {ns : List Int} {i x y z c s i' x' y' z' c' s' : Int} (d : D7 H p b ns i x y z c s) (h1 : 0 ≤ i') (h2 : 0 ≤ x') :
    D7 (upd H p (.lst [.ref b, .int i', .int x', .int y', .int z', .int c', .int s'])) p b ns i' x' y' z' c' s' := ⟨upd_same, by rw [upd_ne d.ne]; exact d.li, d.ne, h1, h2⟩
def spPick : Sp := fun vs H Q _ => ∃ p b many, vs = [.ref p, .int many] ∧ DrOk H p b ∧ many ≤ 100000 ∧ ∀ r H', 0 ≤ r → (r < many ∨ (r = 0 ∧ many < 2)) → Kp p H H' → DrOk H' p b → Q (.int r) H'
theorem scPick : FnScope ["_law_draw_here", "_law_many", "_law_cell", "_law_digit", "_law_one_here", "_law_two"] ["_law_draw_here", "_law_many"] (defScope sPick) := ⟨rfl, rfl, rfl, by decide +kernel, rfl, by decide +kernel, by decide +kernel⟩
theorem big_pow : (0 : Int) ≤ 64 ∧ (Builtin.Int.intBits ((10 : Int) ^ (60 : Int).toNat) : Int) * 64 ≤ 2 ^ 27 := by constructor <;> decide +kernel
theorem big_pos : (0 : Int) < ((10 : Int) ^ (60 : Int).toNat) ^ (64 : Int).toNat := Int.pow_pos (Int.pow_pos (by decide))
theorem ok_pick {f : Addr} {fd : FuncData} (F : Fun K "_law_pick" "_law_pick" sPick f fd) (ml : mg "len" = none) (mi : mg "int" = none) (ma : mg "abs" = none) : FnOk P w K mg base CX0 1 f fd ["_law_draw_here", "_law_many"] spPick := by
  refine F.ok scPick (fun vs H Q E h => ?_) (fun cdv A outer s H vs Q E hr h => ?_)
  · obtain ⟨p, b, many, rfl, _⟩ := h; rfl
  obtain ⟨p, b, many, rfl, ⟨ns, i, x, y, z, c, sm, e1, e2, e3, e4, e5⟩, hm, q⟩ := h
  have d : D7 H p b ns i x y z c sm := ⟨e1, e2, e3, e4, e5⟩
  refine ⟨_, pss_cons (ps_if (pt_cmpR op_lt (pv 1) pe_int (nomark _)) (pss_one (ps_ret pe_int)) pss_nil)
    (Evl.pss_cut (ps_if (PW.pt (pw_and (pt_cmpR op_eq (pe_ix ix_list (pv 0) pe_int (fun _ _ => rfl)) pe_int (nomark _)) (pw_and1 (pt_cmpR op_eq (pe_ix ix_list (pv 0) pe_int (fun _ _ => rfl)) pe_int (nomark _)))))
      (pss_cons (ps_set (i := 2) scPick.nd rfl (.inl rfl) (pe_op op_add (pe_op op_add (pe_ix ix_list (pv 0) pe_int (fun _ _ => rfl)) (pe_op op_mul pe_int (pe_ix ix_list (pv 0) pe_int (fun _ _ => rfl)))) pe_int))
      (Evl.pss_cut (ps_if (pt_cmpR op_lt (pe_ix ix_list (pv 0) pe_int (fun _ _ => rfl)) (pe_callB call_len_seq rfl ml PySem.boot_len (pa_cons (pe_ix ix_list (pv 0) pe_int (fun _ _ => rfl)) pa_nil)) (nomark _))
        (pss_cons (ps_set (i := 2) scPick.nd rfl (.inl rfl) (pe_ix ix_list (pe_ix ix_list (pv 0) pe_int (fun _ _ => rfl)) (pe_ix ix_list (pv 0) pe_int (fun _ _ => rfl)) (fun _ _ => rfl)))
        (pss_cons (ps_asg (pe_op op_add (pe_ix ix_list (pv 0) pe_int (fun _ _ => rfl)) pe_int) (pg_sub (pv 0) pe_int set_list))
        (pss_one (ps_asg (pe_ifExp (pt_cmpR op_ge (pe_callB call_abs rfl ma (by decide +kernel) (pa_cons (pv 2) pa_nil)) (pe_op op_pow pe_int pe_int) (nomark _))
          (pe_op op_mod (pe_callTy call_int1 rfl mi (by decide +kernel) (pa_cons (pe_callB call_abs rfl ma (by decide +kernel) (pa_cons (pv 2) pa_nil)) pa_nil)) (pe_op op_powW (pe_op op_pow pe_int pe_int) pe_int)) pe_int) (pg_sub (pv 0) pe_int set_list))))) pss_nil)
      (pss_cons (ps_asg (pe_ifExp (pt_truth (pe_ix ix_list (pv 0) pe_int (fun _ _ => rfl)) (by intro _; rfl)) pe_int pe_int) (pg_sub (pv 0) pe_int set_list))
      (pss_one (ps_asg (pe_op op_add (pe_op op_mod (pe_callTy call_int1 rfl mi (by decide +kernel) (pa_cons (pe_callB call_abs rfl ma (by decide +kernel) (pa_cons (pv 2) pa_nil)) pa_nil)) pe_int) (pe_ifExp (pt_cmpR op_lt (pv 2) pe_int (nomark _)) pe_int pe_int)) (pg_sub (pv 0) pe_int set_list)))))) pss_nil)
    (pss_cons (ps_if (pt_cmpR op_gt (pe_ix ix_list (pv 0) pe_int (fun _ _ => rfl)) pe_int (nomark _))
      (pss_cons (ps_set (i := 3) scPick.nd rfl (.inl rfl) (pe_op op_mod (pe_callTy call_int1 rfl mi (by decide +kernel) (pa_cons (pe_ix ix_list (pv 0) pe_int (fun _ _ => rfl)) pa_nil)) (pv 1)))
      (pss_cons (ps_asg (pe_op op_fdiv (pe_ix ix_list (pv 0) pe_int (fun _ _ => rfl)) (pv 1)) (pg_sub (pv 0) pe_int set_list))
      (pss_one (ps_ret (pv 3))))) pss_nil)
    (pss_cons (ps_asg (pe_op op_sub (pe_ix ix_list (pv 0) pe_int (fun _ _ => rfl)) pe_int) (pg_sub (pv 0) pe_int set_list))
    (pss_cons (ps_asg (pe_op op_add (pe_ix ix_list (pv 0) pe_int (fun _ _ => rfl)) pe_int) (pg_sub (pv 0) pe_int set_list))
    (pss_cons (ps_set (i := 4) scPick.nd rfl (.inl rfl) (pe_op op_mod (pe_callTy call_int1 rfl mi (by decide +kernel) (pa_cons (pe_op op_add (pe_op op_add (pe_op op_mul (pe_ix ix_list (pv 0) pe_int (fun _ _ => rfl)) pe_int) (pe_op op_mul (pe_ix ix_list (pv 0) pe_int (fun _ _ => rfl)) pe_int)) pe_int) pa_nil)) pe_int))
    (pss_cons (ps_set (i := 5) scPick.nd rfl (.inl rfl) (pe_op op_mod (pe_callTy call_int1 rfl mi (by decide +kernel) (pa_cons (pe_op op_add (pe_op op_mul (pv 4) (pv 4)) (pe_op op_mul (pe_ix ix_list (pv 0) pe_int (fun _ _ => rfl)) pe_int)) pa_nil)) pe_int))
    (pss_one (ps_ret (pe_op op_mod (pe_callTy call_int1 rfl mi (by decide +kernel) (pa_cons (pe_op op_fdiv (pe_op op_mod (pe_callTy call_int1 rfl mi (by decide +kernel) (pa_cons (pe_op op_add (pe_op op_mul (pv 5) pe_int) (pe_op op_fdiv (pv 4) pe_int)) pa_nil)) pe_int) pe_int) pa_nil)) (pv 1)))))))))), ?_⟩
  refine ⟨_, rfl, _, _, rfl, rfl, _, rfl, ?_⟩
  refine ite2 (fun e => ?_) (fun e => ?_)
  · have e := of_decide_eq_true e
    exact q 0 H (Int.le_refl _) (.inr ⟨rfl, e⟩) Kp.refl d.ok
  have e : ¬ many < 2 := of_decide_eq_false (Bool.eq_false_iff.mpr e)
  refine ⟨fun σ H' => (∃ x2 x3 x4 x5, σ = [some (.ref p), some (.int many), x2, x3, x4, x5]) ∧ Kp p H H' ∧ ∃ ns i x y z c s, D7 H' p b ns i x y z c s, ?_, ?_⟩
  · have skip : (∃ x2 x3 x4 x5, (start ["_law_draw_here", "_law_many", "_law_cell", "_law_digit", "_law_one_here", "_law_two"] [.ref p, .int many]) = [some (.ref p), some (.int many), x2, x3, x4, x5]) ∧ Kp p H H ∧ ∃ ns i x y z c s, D7 H p b ns i x y z c s := ⟨⟨_, _, _, _, rfl⟩, Kp.refl, _, _, _, _, _, _, _, d⟩
    refine ⟨_, rfl, p, _, 2, _, rfl, rfl, SqL.of d.at_, atI_nat (j := 2) rfl, rfl, _, rfl, ?_⟩
    refine ite2 (fun _ => ?_) (fun _ => skip)
    refine ⟨_, rfl, p, _, 3, _, rfl, rfl, SqL.of d.at_, atI_nat (j := 3) rfl, rfl, _, rfl, ?_⟩
    refine ite2 (fun _ => ?_) (fun _ => skip)
    refine ⟨_, rfl, p, _, 6, _, rfl, rfl, SqL.of d.at_, atI_nat (j := 6) rfl, _, rfl, p, _, 5, _, rfl, rfl, SqL.of d.at_, atI_nat (j := 5) rfl, _, _, rfl, rfl, .inl (by constructor <;> decide), _, _, rfl, rfl, _, _, rfl, rfl, ?_⟩
    refine ⟨fun σ H' => (∃ cl x3 x4 x5, σ = [some (.ref p), some (.int many), some (.int cl), x3, x4, x5]) ∧ Kp p H H' ∧ ∃ ns i x y z c s, D7 H' p b ns i x y z c s, ?_, ?_⟩
    · refine ⟨_, rfl, p, _, 1, _, rfl, rfl, SqL.of d.at_, atI_nat (j := 1) rfl, _, rfl, p, _, 0, _, rfl, rfl, SqL.of d.at_, atI_nat (j := 0) rfl, b, _, rfl, .inl (SqL.of d.li), _, _, rfl, rfl, _, rfl, ?_⟩
      refine ite2 (fun hi => ?_) (fun _ => ⟨⟨_, _, _, _, rfl⟩, Kp.refl, _, _, _, _, _, _, _, d⟩)
      have hi := of_decide_eq_true hi
      rw [List.length_map] at hi
      have i0 := d.i0
      have hin : i.toNat < ns.length := by omega
      obtain ⟨j, rfl⟩ : ∃ j : Nat, i = (j : Int) := ⟨i.toNat, by omega⟩
      have hj : j < ns.length := by omega
      have hat : atI (ns.map V.int) ((j : Nat) : Int) = some (.int ns[j]) := atI_nat (by rw [List.getElem?_map]; simp [hj])
      refine ⟨_, rfl, p, _, 0, _, rfl, rfl, SqL.of d.at_, atI_nat (j := 0) rfl, _, rfl, p, _, 1, _, rfl, rfl, SqL.of d.at_, atI_nat (j := 1) rfl, b, _, _, _, rfl, rfl, SqL.of d.li, hat, ?_⟩
      refine ⟨_, rfl, p, _, 1, _, rfl, rfl, SqL.of d.at_, atI_nat (j := 1) rfl, _, _, rfl, rfl, _, rfl, p, _, 1, 1, rfl, rfl, d.at_, rfl, ?_⟩
      have d1 := d.put (i' := (j : Int) + 1) (x' := x) (y' := y) (z' := z) (c' := c) (s' := sm) (by omega) d.x0
      refine ⟨_, rfl, _, rfl, _, _, rfl, rfl, ⟨by decide, by decide, by decide⟩, _, _, rfl, rfl, _, rfl, ?_⟩
      refine ite2 (fun _ => ?_) (fun _ => ?_)
      · refine ⟨_, rfl, _, rfl, .inl ⟨_, rfl, _, _, rfl, rfl, ⟨by decide, by decide, by decide⟩, _, _, rfl, rfl, big_pow, _, _, rfl, rfl, big_pos, _, rfl, p, _, 2, 2, rfl, rfl, d1.at_, rfl, ?_⟩⟩
        exact ⟨⟨_, _, _, _, rfl⟩, Kp.trans Kp.upd Kp.upd, _, _, _, _, _, _, _, d1.put d1.i0 (Int.emod_nonneg _ (Int.ne_of_gt big_pos))⟩
      · refine ⟨_, rfl, p, _, 2, 2, rfl, rfl, d1.at_, rfl, ?_⟩
        exact ⟨⟨_, _, _, _, rfl⟩, Kp.trans Kp.upd Kp.upd, _, _, _, _, _, _, _, d1.put d1.i0 (Int.le_refl _)⟩
    · rintro σ H1 ⟨⟨cl, x3, x4, x5, rfl⟩, k1, ns, i, x, y, z, c, sm, d⟩
      refine ⟨_, rfl, p, _, 2, _, rfl, rfl, SqL.of d.at_, atI_nat (j := 2) rfl, _, rfl, ?_⟩
      refine ite2 (fun _ => ?_) (fun _ => ?_)
      · refine ⟨_, rfl, p, _, 3, 3, rfl, rfl, d.at_, rfl, ?_⟩
        have d1 := d.put (i' := i) (x' := x) (y' := 0) (z' := z) (c' := c) (s' := sm) d.i0 d.x0
        refine ⟨_, rfl, _, rfl, .inl ⟨_, rfl, _, _, rfl, rfl, (show (0 : Int) < 2147483629 by decide), _, rfl, _, _, rfl, rfl, _, rfl, ?_⟩⟩
        refine ite2 (fun _ => ?_) (fun _ => ?_)
        · refine ⟨_, _, rfl, rfl, _, rfl, p, _, 4, 4, rfl, rfl, d1.at_, rfl, ?_⟩
          exact ⟨⟨_, _, _, _, rfl⟩, (k1.trans Kp.upd).trans Kp.upd, _, _, _, _, _, _, _, d1.put d1.i0 d1.x0⟩
        · refine ⟨_, _, rfl, rfl, _, rfl, p, _, 4, 4, rfl, rfl, d1.at_, rfl, ?_⟩
          exact ⟨⟨_, _, _, _, rfl⟩, (k1.trans Kp.upd).trans Kp.upd, _, _, _, _, _, _, _, d1.put d1.i0 d1.x0⟩
      · refine ⟨_, rfl, p, _, 3, 3, rfl, rfl, d.at_, rfl, ?_⟩
        have d1 := d.put (i' := i) (x' := x) (y' := 6) (z' := z) (c' := c) (s' := sm) d.i0 d.x0
        refine ⟨_, rfl, _, rfl, .inl ⟨_, rfl, _, _, rfl, rfl, (show (0 : Int) < 2147483629 by decide), _, rfl, _, _, rfl, rfl, _, rfl, ?_⟩⟩
        refine ite2 (fun _ => ?_) (fun _ => ?_)
        · refine ⟨_, _, rfl, rfl, _, rfl, p, _, 4, 4, rfl, rfl, d1.at_, rfl, ?_⟩
          exact ⟨⟨_, _, _, _, rfl⟩, (k1.trans Kp.upd).trans Kp.upd, _, _, _, _, _, _, _, d1.put d1.i0 d1.x0⟩
        · refine ⟨_, _, rfl, rfl, _, rfl, p, _, 4, 4, rfl, rfl, d1.at_, rfl, ?_⟩
          exact ⟨⟨_, _, _, _, rfl⟩, (k1.trans Kp.upd).trans Kp.upd, _, _, _, _, _, _, _, d1.put d1.i0 d1.x0⟩
  · rintro σ H1 ⟨⟨x2, x3, x4, x5, rfl⟩, k1, ns, i, x, y, z, c, sm, d⟩
    have hm0 : (0 : Int) < many := by omega
    refine ⟨_, rfl, p, _, 2, _, rfl, rfl, SqL.of d.at_, atI_nat (j := 2) rfl, _, _, rfl, rfl, _, rfl, ?_⟩
    refine ite2 (fun hx => ?_) (fun _ => ?_)
    · refine ⟨_, rfl, p, _, 2, _, rfl, rfl, SqL.of d.at_, atI_nat (j := 2) rfl, .inl ⟨_, rfl, _, rfl, _, _, rfl, rfl, hm0, ?_⟩⟩
      refine ⟨_, rfl, p, _, 2, _, rfl, rfl, SqL.of d.at_, atI_nat (j := 2) rfl, _, rfl, _, _, rfl, rfl, ⟨hm0, by omega⟩, _, rfl, p, _, 2, 2, rfl, rfl, d.at_, rfl, ?_⟩
      refine ⟨_, rfl, ?_⟩
      exact q _ _ (Int.emod_nonneg _ (Int.ne_of_gt hm0)) (.inl (Int.emod_lt_of_pos _ hm0)) (k1.trans Kp.upd) (d.put d.i0 (Int.ediv_nonneg d.x0 (Int.le_of_lt hm0))).ok
    · refine ⟨_, rfl, p, _, 3, _, rfl, rfl, SqL.of d.at_, atI_nat (j := 3) rfl, _, _, rfl, rfl, _, rfl, p, _, 3, 3, rfl, rfl, d.at_, rfl, ?_⟩
      have d1 := d.put (i' := i) (x' := x) (y' := y - 1) (z' := z) (c' := c) (s' := sm) d.i0 d.x0
      refine ⟨_, rfl, p, _, 5, _, rfl, rfl, SqL.of d1.at_, atI_nat (j := 5) rfl, _, _, rfl, rfl, _, rfl, p, _, 5, 5, rfl, rfl, d1.at_, rfl, ?_⟩
      have d2 := d1.put (i' := i) (x' := x) (y' := y - 1) (z' := z) (c' := c + 1) (s' := sm) d.i0 d.x0
      refine ⟨_, rfl, p, _, 4, _, rfl, rfl, SqL.of d2.at_, atI_nat (j := 4) rfl, _, _, rfl, rfl, .inr (by constructor <;> decide), _, rfl, p, _, 5, _, rfl, rfl, SqL.of d2.at_, atI_nat (j := 5) rfl, _, _, rfl, rfl, .inr (by constructor <;> decide), _, _, rfl, rfl, _, _, rfl, rfl, .inl ⟨_, rfl, _, _, rfl, rfl, (show (0 : Int) < 2147483647 by decide), ?_⟩⟩
      have b1 : ∀ a : Int, 0 ≤ a % 2147483647 ∧ a % 2147483647 < 2147483647 := fun a => ⟨Int.emod_nonneg _ (by decide), Int.emod_lt_of_pos _ (by decide)⟩
      have b2 : ∀ a : Int, 0 ≤ a % 1000000007 ∧ a % 1000000007 < 1000000007 := fun a => ⟨Int.emod_nonneg _ (by decide), Int.emod_lt_of_pos _ (by decide)⟩
      obtain ⟨p1, p2⟩ := b1 (z * 48271 + (c + 1) * 69621 + 11)
      generalize (z * 48271 + (c + 1) * 69621 + 11) % 2147483647 = one at p1 p2
      refine ⟨_, rfl, _, rfl, _, _, rfl, rfl, .inl ⟨by omega, by omega⟩, _, rfl, p, _, 5, _, rfl, rfl, SqL.of d2.at_, atI_nat (j := 5) rfl, _, _, rfl, rfl, .inr (by constructor <;> decide), _, _, rfl, rfl, .inl ⟨_, rfl, _, _, rfl, rfl, (show (0 : Int) < 1000000007 by decide), ?_⟩⟩
      refine ⟨_, rfl, _, _, rfl, rfl, .inr (by constructor <;> decide), _, rfl, _, _, rfl, rfl, ⟨by decide, by decide⟩, _, _, rfl, rfl, .inl ⟨_, rfl, _, _, rfl, rfl, (show (0 : Int) < 2147483399 by decide), _, _, rfl, rfl, ⟨by decide, by decide⟩, .inl ⟨_, rfl, _, rfl, _, _, rfl, rfl, hm0, ?_⟩⟩⟩
      exact q _ _ (Int.emod_nonneg _ (Int.ne_of_gt hm0)) (.inl (Int.emod_lt_of_pos _ hm0)) ((k1.trans Kp.upd).trans Kp.upd) d2.ok
end
end KP

/-! What the law draws, plainly: that all that it asks holds. -/
namespace KM
open PySem
section
variable {ph ph' : Int → Prop} {pa : Bool → List PyData → Prop}
mutual
/-- all the holes' numbers and all the atoms are so -/
def All (ph : Int → Prop) (pa : Bool → List PyData → Prop) : Tm → Prop
  | .var _ => True
  | .atom u xs => pa u xs
  | .node k ps => (∀ h ∈ hd k, ph h) ∧ AllL ph pa ps
def AllL (ph : Int → Prop) (pa : Bool → List PyData → Prop) : List Tm → Prop
  | [] => True
  | p :: ps => All ph pa p ∧ AllL ph pa ps
end
theorem allL_iff : ∀ ps : List Tm, AllL ph pa ps ↔ ∀ p ∈ ps, All ph pa p
  | [] => by simp [AllL]
  | p :: ps => by simp [AllL, allL_iff ps]
theorem all_node {k : Kd} {ps : List Tm} : All ph pa (.node k ps) ↔ (∀ h ∈ hd k, ph h) ∧ ∀ p ∈ ps, All ph pa p := by simp [All, allL_iff]
theorem all_atom {u : Bool} {xs : List PyData} : All ph pa (.atom u xs) ↔ pa u xs := by simp [All]
theorem all_var {i : Nat} : All ph pa (.var i) := by simp [All]
theorem all_mono (h : ∀ n, ph n → ph' n) {t : Tm} : All ph pa t → All ph' pa t := by
  refine Tm.ind (P := fun t => All ph pa t → All ph' pa t) (fun _ _ => all_var) (fun _ _ a => all_atom.mpr (all_atom.mp a)) (fun k ps ih a => ?_) t
  obtain ⟨a1, a2⟩ := all_node.mp a
  exact all_node.mpr ⟨fun x hx => h x (a1 x hx), fun p hp => ih p hp (a2 p hp)⟩
theorem all_nums {t : Tm} : All ph pa t → ∀ h ∈ nums t, ph h := by
  refine Tm.ind (P := fun t => All ph pa t → ∀ h ∈ nums t, ph h) (fun i _ h z => by rw [nums_var] at z; cases z) (fun u xs _ h z => by rw [nums_atom] at z; cases z) (fun k ps ih a h z => ?_) t
  obtain ⟨a1, a2⟩ := all_node.mp a
  rcases mem_nums_node.mp z with z | ⟨p, hp, z⟩
  · exact a1 h z
  · exact ih p hp (a2 p hp) h z
theorem all_trav {g : Nat → Nat → Tm} (hg : ∀ d i, All ph pa (g d i)) (t : Tm) : ∀ d, All ph pa t → All ph pa (trav g d t) := by
  refine Tm.ind (P := fun t => ∀ d, All ph pa t → All ph pa (trav g d t)) (fun i d _ => by rw [trav_var]; exact hg d i) (fun u xs d a => by rw [trav_atom]; exact a) (fun k ps ih d a => ?_) t
  obtain ⟨a1, a2⟩ := all_node.mp a
  rw [trav_node]
  refine all_node.mpr ⟨a1, fun q hq => ?_⟩
  obtain ⟨j, hj⟩ := List.mem_iff_getElem?.mp hq
  rw [mapI_get] at hj
  cases hp : ps[j]? with
  | none => rw [hp] at hj; cases hj
  | some p =>
    rw [hp] at hj
    simp only [Option.map_some, Option.some.injEq] at hj
    subst hj
    exact ih p (List.mem_of_getElem? hp) _ (a2 p (List.mem_of_getElem? hp))
theorem all_lift {b d : Nat} {t : Tm} (h : All ph pa t) : All ph pa (lift b d t) := by
  refine all_trav (fun d i => ?_) t d h
  by_cases q : i < d
  · rw [liftG_lo q]; exact all_var
  · rw [liftG_hi q]; exact all_var
theorem all_put {d : Nat} {t : Tm} {qs : List Tm} (h : All ph pa t) (hq : ∀ q ∈ qs, All ph pa q) : All ph pa (putU qs d t) := by
  refine all_trav (fun d i => ?_) t d h
  by_cases q : i < d
  · rw [putG_lo q]; exact all_var
  · by_cases hl : i - d < qs.length
    · rw [putG_in q hl]
      have hlt : qs.length - 1 - (i - d) < qs.length := by omega
      refine all_lift (hq _ ?_)
      rw [List.getD, List.getElem?_eq_getElem hlt]
      exact List.getElem_mem hlt
    · rw [putG_out q hl]; exact all_var
theorem hit_hd {φ : Fl} {k : Kd} (e : hit φ k = none) : ∀ h ∈ hd k, φ h = none := by
  cases k with
  | hole n =>
    intro h hh
    rw [List.mem_singleton.mp hh]
    exact e
  | _ => intro h hh; cases hh
theorem hit_hole {φ : Fl} {k : Kd} {ar : Nat} {b : Tm} (e : hit φ k = some (ar, b)) : ∃ n, k = .hole n ∧ φ n = some (ar, b) := by
  cases k with
  | hole n => exact ⟨n, rfl, e⟩
  | _ => cases e
theorem hit_none {φ : Fl} {k : Kd} (e : ∀ h ∈ hd k, φ h = none) : hit φ k = none := by
  cases k with
  | hole n => exact e n (List.mem_singleton.mpr rfl)
  | _ => rfl
theorem all_fill {φ : Fl} (hp : ∀ h, ph h → φ h = none → ph' h) (hφ : ∀ h ar b, φ h = some (ar, b) → All ph pa b) : ∀ {n w : Nat} {t : Tm}, wf φ n w t → All ph pa t → All ph' pa (fillN φ n t)
  | _, _, .var i, _, _ => by rw [fillN_var]; exact all_var
  | _, _, .atom u xs, _, a => by rw [fillN_atom]; exact all_atom.mpr (all_atom.mp a)
  | 0, _, .node _ _, h, _ => h.elim
  | n + 1, w, .node k ps, h, a => by
    obtain ⟨a1, a2⟩ := all_node.mp a
    cases e : hit φ k with
    | some ab =>
      obtain ⟨ar, b⟩ := ab
      obtain ⟨h1, h2, h3⟩ := (wf_hit e).mp h
      obtain ⟨x, rfl, e2⟩ := hit_hole e
      rw [fillN_hit e]
      refine all_put (all_fill hp hφ h3 (hφ _ _ _ e2)) fun q hq => ?_
      obtain ⟨p, hp', rfl⟩ := List.mem_map.mp hq
      exact all_fill hp hφ (h2 p hp') (a2 p hp')
    | none =>
      rw [fillN_miss e]
      refine all_node.mpr ⟨fun x hx => hp x (a1 x hx) (hit_hd e x hx), fun q hq => ?_⟩
      obtain ⟨p, hp', rfl⟩ := List.mem_map.mp hq
      obtain ⟨j, hj⟩ := List.mem_iff_getElem?.mp hp'
      exact all_fill hp hφ ((wf_miss e).mp h j p hj) (a2 p hp')
/-- with no filled hole -/
theorem none_fill {φ : Fl} : ∀ {n : Nat} {t : Tm}, All (fun h => φ h = none) pa t → dle n t → fillN φ n t = t
  | _, .var i, _, _ => fillN_var _ _ _
  | _, .atom u xs, _, _ => fillN_atom _ _ _ _
  | 0, .node _ _, _, h => h.elim
  | n + 1, .node k ps, a, h => by
    obtain ⟨a1, a2⟩ := all_node.mp a
    rw [fillN_miss (hit_none a1)]
    congr 1
    have : ps.map (fillN φ n) = ps.map id := List.map_congr_left fun p hp => none_fill (a2 p hp) (h.2 p hp)
    rw [this, List.map_id]
theorem none_wf {φ : Fl} : ∀ {n w : Nat} {t : Tm}, All (fun h => φ h = none) pa t → dle n t → sc w t → wf φ n w t
  | _, _, .var i, _, _, s => wf_var.mpr (sc_var.mp s)
  | _, _, .atom u xs, _, _, _ => wf_atom
  | 0, _, .node _ _, _, h, _ => h.elim
  | n + 1, w, .node k ps, a, h, s => by
    obtain ⟨a1, a2⟩ := all_node.mp a
    refine (wf_miss (hit_none a1)).mpr fun j p hp => ?_
    have hm := List.mem_of_getElem? hp
    exact none_wf (a2 p hm) (h.2 p hm) (sc_node.mp s j p hp)
theorem fdl_var {φ : Fl} {B C i : Nat} : ∀ n, KP.fdl φ B C n (.var i)
  | 0 => trivial
  | _ + 1 => trivial
theorem fdl_atom {φ : Fl} {B C : Nat} {u : Bool} {xs : List PyData} : ∀ n, KP.fdl φ B C n (.atom u xs)
  | 0 => trivial
  | _ + 1 => trivial
theorem cst_mono {φ : Fl} : ∀ {n m w c : Nat} {t : Tm}, wf φ n w t → cst φ n t c → n ≤ m → cst φ m t c
  | _, _, _, _, .var i, _, h, _ => cst_var.mpr (cst_var.mp h)
  | _, _, _, _, .atom u xs, _, h, _ => cst_atom.mpr (cst_atom.mp h)
  | 0, _, _, _, .node _ _, h, _, _ => h.elim
  | n + 1, 0, _, _, .node _ _, _, _, h => by omega
  | n + 1, m + 1, w, c, .node k ps, h, hc, hm => by
    have hm' : n ≤ m := by omega
    cases e : hit φ k with
    | some ab =>
      obtain ⟨ar, b⟩ := ab
      obtain ⟨h1, h2, h3⟩ := (wf_hit e).mp h
      obtain ⟨c1, c2, k1, k2, k3⟩ := (cst_hit e).mp hc
      exact (cst_hit e).mpr ⟨c1, c2, cst_mono h3 k1 hm', fun p hp => cst_mono (h2 p hp) (k2 p hp) hm', k3⟩
    | none =>
      obtain ⟨c1, k1, k2⟩ := (cst_miss e).mp hc
      refine (cst_miss e).mpr ⟨c1, fun p hp => ?_, k2⟩
      obtain ⟨j, hj⟩ := List.mem_iff_getElem?.mp hp
      exact cst_mono ((wf_miss e).mp h j p hj) (k1 p hp) hm'
/-! ### terms as they are drawn -/
inductive Gn (pa : Bool → List PyData → Prop) : List (Int × Nat) → Nat → Nat → Tm → Prop
  | var {hs : List (Int × Nat)} {d w i : Nat} : i < w → Gn pa hs d w (.var i)
  | atom {hs : List (Int × Nat)} {d w : Nat} {u : Bool} {xs : List PyData} : pa u xs → Gn pa hs d w (.atom u xs)
  | hole {hs pre rest : List (Int × Nat)} {n : Int} {ar d w : Nat} {ps : List Tm} : hs = pre ++ (n, ar) :: rest → ps.length = ar → ar ≤ 24 → (∀ p ∈ ps, Gn pa rest d w p) → Gn pa hs (d + 1) w (.node (.hole n) ps)
  | node {hs : List (Int × Nat)} {k : Kd} {d w : Nat} {ps : List Tm} : (∀ n, k ≠ .hole n) → arOk k ps.length → (∀ j p, ps[j]? = some p → Gn pa hs d (w + bnd k j) p) → Gn pa hs (d + 1) w (.node k ps)
theorem Gn.up {hs : List (Int × Nat)} {d w : Nat} {t : Tm} (g : Gn pa hs d w t) : ∀ {d' : Nat}, d ≤ d' → Gn pa hs d' w t := by
  induction g with
  | var h => intro d' _; exact .var h
  | atom h => intro d' _; exact .atom h
  | hole h1 h2 h3 _ ih => intro d' hd; obtain ⟨m, rfl⟩ : ∃ m, d' = m + 1 := ⟨d' - 1, by omega⟩; exact .hole h1 h2 h3 fun p hp => ih p hp (by omega)
  | node h1 h2 _ ih => intro d' hd; obtain ⟨m, rfl⟩ : ∃ m, d' = m + 1 := ⟨d' - 1, by omega⟩; exact .node h1 h2 fun j p hp => ih j p hp (by omega)
theorem Gn.nil' {hs0 : List (Int × Nat)} {d w : Nat} {t : Tm} (g : Gn pa hs0 d w t) : hs0 = [] → ∀ {hs : List (Int × Nat)}, Gn pa hs d w t := by
  induction g with
  | var h => intro _ _; exact .var h
  | atom h => intro _ _; exact .atom h
  | hole h1 h2 h3 _ ih => intro e; subst e; simp at h1
  | node h1 h2 _ ih => intro e hs; exact .node h1 h2 fun j p hp => ih j p hp e
theorem Gn.nil {hs : List (Int × Nat)} {d w : Nat} {t : Tm} (g : Gn pa [] d w t) : Gn pa hs d w t := g.nil' rfl
theorem Gn.dle {hs : List (Int × Nat)} {d w : Nat} {t : Tm} (g : Gn pa hs d w t) : dle d t := by
  induction g with
  | var h => exact dle_var _ _
  | atom h => exact dle_atom _ _ _
  | hole h1 h2 h3 _ ih => exact ⟨by subst h2; exact h3, ih⟩
  | node h1 h2 _ ih =>
    refine ⟨h2, fun p hp => ?_⟩
    obtain ⟨j, hj⟩ := List.mem_iff_getElem?.mp hp
    exact ih j p hj
theorem Gn.sc {hs : List (Int × Nat)} {d w : Nat} {t : Tm} (g : Gn pa hs d w t) : sc w t := by
  induction g with
  | var h => exact sc_var.mpr h
  | atom h => exact sc_atom
  | hole h1 h2 h3 _ ih => exact sc_node.mpr fun j p hp => by rw [bnd_hole]; exact ih p (List.mem_of_getElem? hp)
  | node h1 h2 _ ih => exact sc_node.mpr fun j p hp => ih j p hp
theorem Gn.all {hs : List (Int × Nat)} {d w : Nat} {t : Tm} (g : Gn pa hs d w t) : All (fun h => ∃ ar, (h, ar) ∈ hs) pa t := by
  induction g with
  | var h => exact all_var
  | atom h => exact all_atom.mpr h
  | @hole hs pre rest n ar d w ps h1 h2 h3 _ ih =>
    refine all_node.mpr ⟨fun h hh => ?_, fun p hp => all_mono (fun h ⟨a, ha⟩ => ⟨a, ?_⟩) (ih p hp)⟩
    · rw [List.mem_singleton.mp hh]; exact ⟨ar, by rw [h1]; simp⟩
    · rw [h1]; simp [ha]
  | @node hs k d w ps h1 h2 _ ih =>
    refine all_node.mpr ⟨fun h hh => ?_, fun p hp => ?_⟩
    · cases k with
      | hole n => exact (h1 n rfl).elim
      | _ => cases hh
    · obtain ⟨j, hj⟩ := List.mem_iff_getElem?.mp hp
      exact ih j p hj
/-- a filling that was drawn for these holes -/
def Cp (pa : Bool → List PyData → Prop) (hs : List (Int × Nat)) (φ : Fl) : Prop := ∀ pre n ar rest ar' b, hs = pre ++ (n, ar) :: rest → φ n = some (ar', b) → ar' = ar ∧ Gn pa rest (if rest = [] then 1 else 2) ar b
theorem Cp.rest {hs pre rest : List (Int × Nat)} {x : Int × Nat} {φ : Fl} (c : Cp pa hs φ) (e : hs = pre ++ x :: rest) : Cp pa rest φ := by
  intro pre' n ar rest' ar' b h1 h2
  exact c (pre ++ x :: pre') n ar rest' ar' b (by rw [e, h1]; simp) h2
def eM : Nat → Nat
  | 0 => 0
  | 1 => 0
  | n + 2 => 2 * eM (n + 1) + 1
def cM : Nat → Nat
  | 0 => 0
  | n + 1 => 2 * cM n + 3
theorem gn_main {φ : Fl} : ∀ (m : Nat) {hs : List (Int × Nat)} {d w : Nat} {t : Tm}, Gn pa hs d w t → hs.length ≤ m → Cp pa hs φ → wf φ (d + 2 * m) w t ∧ cst φ (d + 2 * m) t (d + 1 + cM m) ∧ dle (d + eM m) (fillN φ (d + 2 * m) t) ∧ ∀ B, d + eM m ≤ B → KP.fdl φ B B (d + 2 * m) t := by
  intro m
  induction m with
  | zero =>
    intro hs d w t g hl hc
    have e : hs = [] := List.eq_nil_of_length_eq_zero (by omega)
    clear hl
    revert e
    induction g with
    | var h => intro _; exact ⟨wf_var.mpr h, cst_var.mpr (by omega), by rw [fillN_var]; exact dle_var _ _, fun B _ => fdl_var _⟩
    | atom h => intro _; exact ⟨wf_atom, cst_atom.mpr (by omega), by rw [fillN_atom]; exact dle_atom _ _ _, fun B _ => fdl_atom _⟩
    | hole h1 => intro e; subst e; simp at h1
    | @node hs k d w ps h1 h2 _ ih =>
      intro e
      have hk : hit φ k = none := by
        cases k with
        | hole n => exact (h1 n rfl).elim
        | _ => rfl
      have ih' : ∀ p ∈ ps, cst φ (d + 2 * 0) p (d + 1 + cM 0) ∧ dle (d + eM 0) (fillN φ (d + 2 * 0) p) ∧ ∀ B, d + eM 0 ≤ B → KP.fdl φ B B (d + 2 * 0) p := fun p hp => by
        obtain ⟨j, hj⟩ := List.mem_iff_getElem?.mp hp
        exact (ih j p hj hc e).2
      rw [show d + 1 + 2 * 0 = (d + 2 * 0) + 1 by omega]
      refine ⟨(wf_miss hk).mpr fun j p hp => (ih j p hp hc e).1, (cst_miss hk).mpr ⟨_, fun p hp => (ih' p hp).1, by omega⟩, ?_, fun B hB => ?_⟩
      · rw [fillN_miss hk, show d + 1 + eM 0 = (d + eM 0) + 1 by omega]
        refine ⟨by rw [List.length_map]; exact h2, fun q hq => ?_⟩
        obtain ⟨p, hp, rfl⟩ := List.mem_map.mp hq
        exact (ih' p hp).2.1
      · refine ⟨Nat.le_trans h2.le (by decide), fun p hp => (ih' p hp).2.2 B (by omega), ?_⟩
        rw [hk]; trivial
  | succ m IH =>
    intro hs d w t g hl hc
    have em : eM (m + 1) ≥ eM m := by
      cases m with
      | zero => exact Nat.le_refl _
      | succ m => show 2 * eM (m + 1) + 1 ≥ _; omega
    have cm : cM (m + 1) = 2 * cM m + 3 := rfl
    induction g with
    | var h => exact ⟨wf_var.mpr h, cst_var.mpr (by omega), by rw [fillN_var]; exact dle_var _ _, fun B _ => fdl_var _⟩
    | atom h => exact ⟨wf_atom, cst_atom.mpr (by omega), by rw [fillN_atom]; exact dle_atom _ _ _, fun B _ => fdl_atom _⟩
    | @hole hs pre rest n ar d w ps h1 h2 h3 hg _ =>
      have hlr : rest.length ≤ m := by
        rw [h1] at hl
        simp at hl
        omega
      have hcr := hc.rest h1
      have ih := fun p hp => IH (hg p hp) hlr hcr
      rw [show d + 1 + 2 * (m + 1) = (d + 2 * m + 2) + 1 by omega]
      have fm : ∀ p ∈ ps, fillN φ (d + 2 * m + 2) p = fillN φ (d + 2 * m) p := fun p hp => fillN_mono (ih p hp).1 (by omega)
      have fd2 : ∀ {n : Nat} {t : Tm} {B m' : Nat}, KP.fdl φ B B n t → n ≤ m' → (∀ w, wf φ n w t → KP.fdl φ B B m' t) := by
        intro n
        induction n with
        | zero =>
          intro t B m' h hm w hw
          cases t with
          | var i => cases m' <;> trivial
          | atom u xs => cases m' <;> trivial
          | node k ps => exact h.elim
        | succ n ihn =>
          intro t B m' h hm w hw
          obtain ⟨m', rfl⟩ : ∃ z, m' = z + 1 := ⟨m' - 1, by omega⟩
          cases t with
          | var i => trivial
          | atom u xs => trivial
          | node k ps =>
            obtain ⟨a1, a2, a3⟩ := h
            cases e : hit φ k with
            | none =>
              refine ⟨a1, fun p hp => ?_, by rw [e]; trivial⟩
              obtain ⟨j, hj⟩ := List.mem_iff_getElem?.mp hp
              exact ihn (a2 p hp) (by omega) _ ((wf_miss e).mp hw j p hj)
            | some ab =>
              obtain ⟨ar, b⟩ := ab
              obtain ⟨z1, z2, z3⟩ := (wf_hit e).mp hw
              rw [e] at a3
              obtain ⟨b1, b2, b3⟩ := a3
              refine ⟨a1, fun p hp => ihn (a2 p hp) (by omega) _ (z2 p hp), ?_⟩
              rw [e]
              exact ⟨fun p hp => by rw [fillN_mono (z2 p hp) (by omega)]; exact b1 p hp, ihn b2 (by omega) _ z3, by rw [fillN_mono z3 (by omega)]; exact b3⟩
      cases e : φ n with
      | none =>
        have hk : hit φ (.hole n) = none := e
        refine ⟨(wf_miss hk).mpr fun j p hp => ?_, (cst_miss hk).mpr ⟨d + 1 + cM m, fun p hp => ?_, by omega⟩, ?_, fun B hB => ?_⟩
        · exact wf_mono (ih p (List.mem_of_getElem? hp)).1 (by omega)
        · have z := ih p hp
          clear fd2
          exact KM.cst_mono z.1 z.2.1 (by omega)
        · rw [fillN_miss hk, show d + 1 + eM (m + 1) = (d + eM (m + 1)) + 1 by omega]
          refine ⟨by rw [List.length_map, h2]; exact h3, fun q hq => ?_⟩
          obtain ⟨p, hp, rfl⟩ := List.mem_map.mp hq
          rw [fm p hp]
          exact dle_mono (ih p hp).2.2.1 (by omega)
        · refine ⟨by omega, fun p hp => fd2 ((ih p hp).2.2.2 B (by omega)) (by omega) _ (ih p hp).1, ?_⟩
          rw [hk]; trivial
      | some ab =>
        obtain ⟨ar', b⟩ := ab
        obtain ⟨rfl, hb⟩ := hc pre n ar rest ar' b h1 e
        have hk : hit φ (.hole n) = some (ar', b) := e
        generalize hdb : (if rest = [] then 1 else 2) = db at hb
        have hd2 : db ≤ 2 := by rw [← hdb]; split <;> omega
        have hde : db - 1 + 2 * eM m ≤ eM (m + 1) := by
          cases m with
          | zero =>
            have : rest = [] := List.eq_nil_of_length_eq_zero (by omega)
            rw [if_pos this] at hdb
            show db - 1 + 2 * 0 ≤ 0
            omega
          | succ m => show _ ≤ 2 * eM (m + 1) + 1; omega
        have hd1 : 1 ≤ db := by rw [← hdb]; split <;> omega
        obtain ⟨b1, b2, b3, b4⟩ := IH hb hlr hcr
        have fb : fillN φ (d + 2 * m + 2) b = fillN φ (db + 2 * m) b := fillN_mono b1 (by omega)
        refine ⟨(wf_hit hk).mpr ⟨h2, fun p hp => wf_mono (ih p hp).1 (by omega), wf_mono b1 (by omega)⟩, (cst_hit hk).mpr ⟨db + 1 + cM m, d + 1 + cM m, cst_mono b1 b2 (by omega), fun p hp => cst_mono (ih p hp).1 (ih p hp).2.1 (by omega), by omega⟩, ?_, fun B hB => ?_⟩
        · rw [fillN_hit hk, fb]
          refine dle_mono (dle_put b3 (m := d + eM m) fun q hq => ?_) (by omega)
          obtain ⟨p, hp, rfl⟩ := List.mem_map.mp hq
          rw [fm p hp]
          exact (ih p hp).2.2.1
        · refine ⟨by omega, fun p hp => fd2 ((ih p hp).2.2.2 B (by omega)) (by omega) _ (ih p hp).1, ?_⟩
          rw [hk]
          refine ⟨fun p hp => ?_, fd2 (b4 B (by omega)) (by omega) _ b1, ?_⟩
          · rw [fm p hp]
            exact dle_mono (ih p hp).2.2.1 (by omega)
          · rw [fb]
            exact dle_mono b3 (by omega)
    | @node hs k d w ps h1 h2 _ ih =>
      have hk : hit φ k = none := by
        cases k with
        | hole n => exact (h1 n rfl).elim
        | _ => rfl
      have ih' : ∀ p ∈ ps, cst φ (d + 2 * (m + 1)) p (d + 1 + cM (m + 1)) ∧ dle (d + eM (m + 1)) (fillN φ (d + 2 * (m + 1)) p) ∧ ∀ B, d + eM (m + 1) ≤ B → KP.fdl φ B B (d + 2 * (m + 1)) p := fun p hp => by
        obtain ⟨j, hj⟩ := List.mem_iff_getElem?.mp hp
        exact (ih j p hj hl hc).2
      rw [show d + 1 + 2 * (m + 1) = (d + 2 * (m + 1)) + 1 by omega]
      refine ⟨(wf_miss hk).mpr fun j p hp => (ih j p hp hl hc).1, (cst_miss hk).mpr ⟨_, fun p hp => (ih' p hp).1, by omega⟩, ?_, fun B hB => ?_⟩
      · rw [fillN_miss hk, show d + 1 + eM (m + 1) = (d + eM (m + 1)) + 1 by omega]
        refine ⟨by rw [List.length_map]; exact h2, fun q hq => ?_⟩
        obtain ⟨p, hp, rfl⟩ := List.mem_map.mp hq
        exact (ih' p hp).2.1
      · refine ⟨Nat.le_trans h2.le (by decide), fun p hp => (ih' p hp).2.2 B (by omega), ?_⟩
        rw [hk]; trivial
/-! ### the filling settled -/
theorem none_fdl {φ : Fl} {B C : Nat} : ∀ {n : Nat} {t : Tm}, All (fun h => φ h = none) pa t → dle n t → KP.fdl φ B C n t
  | _, .var i, _, _ => fdl_var _
  | _, .atom u xs, _, _ => fdl_atom _
  | 0, .node _ _, _, h => h.elim
  | n + 1, .node k ps, a, h => by
    obtain ⟨a1, a2⟩ := all_node.mp a
    refine ⟨Nat.le_trans h.1.le (by decide), fun p hp => none_fdl (a2 p hp) (h.2 p hp), ?_⟩
    rw [hit_none a1]
    trivial
theorem told_main {φ ψ : Fl} {n0 D : Nat} (h0 : ∀ h, φ h = none → ψ h = none)
    (h1 : ∀ h ar b, φ h = some (ar, b) → ψ h = some (ar, fillN φ n0 b) ∧ wf φ n0 ar b ∧ dle D (fillN φ n0 b) ∧ All (fun h => φ h = none) pa (fillN φ n0 b)) :
    ∀ {n w : Nat} {t : Tm}, wf φ n w t → fillN ψ (n + D) t = fillN φ n t ∧ ∀ B, D ≤ B → KP.fdl φ B B n t → KP.fdl ψ B B (n + D) t
  | n, w, .var i, _ => ⟨by rw [fillN_var, fillN_var], fun _ _ _ => fdl_var _⟩
  | n, w, .atom u xs, _ => ⟨by rw [fillN_atom, fillN_atom], fun _ _ _ => fdl_atom _⟩
  | 0, w, .node _ _, h => h.elim
  | n + 1, w, .node k ps, h => by
    rw [show n + 1 + D = (n + D) + 1 by omega]
    cases e : hit φ k with
    | none =>
      have e2 : hit ψ k = none := hit_none fun x hx => h0 x (hit_hd e x hx)
      have ih : ∀ p ∈ ps, fillN ψ (n + D) p = fillN φ n p ∧ ∀ B, D ≤ B → KP.fdl φ B B n p → KP.fdl ψ B B (n + D) p := fun p hp => by
        obtain ⟨j, hj⟩ := List.mem_iff_getElem?.mp hp
        exact told_main h0 h1 ((wf_miss e).mp h j p hj)
      rw [fillN_miss e, fillN_miss e2]
      refine ⟨?_, fun B hB hf => ?_⟩
      · congr 1
        exact List.map_congr_left fun p hp => (ih p hp).1
      · obtain ⟨a1, a2, _⟩ := hf
        refine ⟨a1, fun p hp => (ih p hp).2 B hB (a2 p hp), ?_⟩
        rw [e2]; trivial
    | some ab =>
      obtain ⟨ar, b⟩ := ab
      obtain ⟨z1, z2, z3⟩ := (wf_hit e).mp h
      obtain ⟨x, rfl, e3⟩ := hit_hole e
      obtain ⟨y1, y2, y3, y4⟩ := h1 x ar b e3
      have e2 : hit ψ (.hole x) = some (ar, fillN φ n0 b) := y1
      have ih : ∀ p ∈ ps, fillN ψ (n + D) p = fillN φ n p ∧ ∀ B, D ≤ B → KP.fdl φ B B n p → KP.fdl ψ B B (n + D) p := fun p hp => told_main h0 h1 (z2 p hp)
      have y5 : All (fun h => ψ h = none) pa (fillN φ n0 b) := all_mono h0 y4
      have y6 : dle (n + D) (fillN φ n0 b) := dle_mono y3 (by omega)
      have eb : fillN φ n0 b = fillN φ n b := by
        rcases Nat.le_total n n0 with q | q
        · exact fillN_mono z3 q
        · exact (fillN_mono y2 q).symm
      rw [fillN_hit e, fillN_hit e2, none_fill y5 y6]
      refine ⟨?_, fun B hB hf => ?_⟩
      · rw [eb]
        congr 1
        exact List.map_congr_left fun p hp => (ih p hp).1
      · obtain ⟨a1, a2, a3⟩ := hf
        refine ⟨a1, fun p hp => (ih p hp).2 B hB (a2 p hp), ?_⟩
        rw [e] at a3
        rw [e2]
        obtain ⟨b1, b2, b3⟩ := a3
        refine ⟨fun p hp => by rw [(ih p hp).1]; exact b1 p hp, none_fdl y5 y6, ?_⟩
        rw [none_fill y5 y6]
        exact dle_mono y3 hB
/-! ### the data are shaped -/
def PaD (pa : Bool → List PyData → Prop) : Prop := ∀ u xs, pa u xs → PyData.canLayAll0 xs = true ∧ PyData.depthAll xs ≤ 4
theorem tags_ok (k : Kd) : PyData.strOk (KD.Kd.tag k) = true := by
  cases k with
  | hole n => exact (show PyData.strOk "hole" = true by decide +kernel)
  | _ => decide +kernel
theorem canAll_map : ∀ {ps : List Tm}, (∀ p ∈ ps, (KD.enc p).canLay0 = true) → PyData.canLayAll0 (ps.map KD.enc) = true
  | [], _ => rfl
  | p :: ps, h => by
    simp only [List.map_cons, PyData.canLayAll0, Bool.and_eq_true]
    exact ⟨h p List.mem_cons_self, canAll_map fun q hq => h q (List.mem_cons_of_mem _ hq)⟩
theorem depAll_map {m : Nat} : ∀ {ps : List Tm}, (∀ p ∈ ps, (KD.enc p).depth ≤ m) → PyData.depthAll (ps.map KD.enc) ≤ m
  | [], _ => Nat.zero_le _
  | p :: ps, h => by
    simp only [List.map_cons, PyData.depthAll]
    exact Nat.max_le.mpr ⟨h p List.mem_cons_self, depAll_map fun q hq => h q (List.mem_cons_of_mem _ hq)⟩
theorem enc_ok (hp : PaD pa) : ∀ {n : Nat} {t : Tm}, All ph pa t → dle n t → (KD.enc t).canLay0 = true ∧ (KD.enc t).depth ≤ 2 * n + 5
  | n, .var i, _, _ => by
    rw [KD.enc_var]
    refine ⟨by simp only [PyData.canLay0, PyData.canLayAll0]; decide +kernel, by simp only [PyData.depth, PyData.depthAll]; omega⟩
  | n, .atom u xs, a, _ => by
    obtain ⟨h1, h2⟩ := hp u xs (all_atom.mp a)
    rw [KD.enc_atom]
    refine ⟨?_, ?_⟩
    · simp only [PyData.canLay0, PyData.canLayAll0, h1, Bool.and_true]
      cases u <;> decide +kernel
    · simp only [PyData.depth, PyData.depthAll]
      omega
  | 0, .node _ _, _, h => h.elim
  | n + 1, .node k ps, a, h => by
    obtain ⟨a1, a2⟩ := all_node.mp a
    have ih := fun p hm => enc_ok hp (a2 p hm) (h.2 p hm)
    have c1 := canAll_map fun p hm => (ih p hm).1
    have c2 := depAll_map fun p hm => (ih p hm).2
    by_cases hk : ∃ x, k = .hole x
    · obtain ⟨x, rfl⟩ := hk
      rw [KD.enc_hole]
      refine ⟨?_, ?_⟩
      · simp only [PyData.canLay0, PyData.canLayAll0, c1, Bool.and_true]
        decide +kernel
      · simp only [PyData.depth, PyData.depthAll]
        omega
    · rw [KD.enc_node fun x e => hk ⟨x, e⟩]
      refine ⟨?_, ?_⟩
      · simp only [PyData.canLay0, PyData.canLayAll0, c1, Bool.and_true]
        exact tags_ok k
      · simp only [PyData.depth, PyData.depthAll]
        omega
theorem enc_shaped (hp : PaD pa) {n : Nat} {t : Tm} (a : All ph pa t) (h : dle n t) (hn : 2 * n + 5 ≤ 64) : SeqAt.shaped (KD.enc t) = true := by
  obtain ⟨h1, h2⟩ := enc_ok hp a h
  unfold SeqAt.shaped
  rw [h1, Bool.true_and]
  exact decide_eq_true (by omega)
theorem ent_shaped (hp : PaD pa) {n : Nat} {t : Tm} {i : Int} (a : All ph pa t) (h : dle n t) (hn : 2 * n + 6 ≤ 64) : SeqAt.shaped (.tuple [.int i, KD.enc t]) = true := by
  obtain ⟨h1, h2⟩ := enc_ok hp a h
  unfold SeqAt.shaped
  simp only [PyData.canLay0, PyData.canLayAll0, PyData.depth, PyData.depthAll, h1, Bool.true_and, Bool.and_true]
  exact decide_eq_true (by omega)
end
end KM

/-! The law's terms drawn. -/
namespace KP
open PySem PyProof.Rows L2 LamX NdefX KL KM KD
theorem Kp.te {p : Addr} {xs : List V} {H H' : Hp} (k : Kp p H H') (h : H p = some (.lst xs)) : Te H H' := fun a ys r => by
  rcases r with r | ⟨o, r⟩
  · exact .inl (k a _ r (fun e => by subst e; rw [h] at r; cases r))
  · exact .inr ⟨o, k a _ r (fun e => by subst e; rw [h] at r; cases r)⟩
theorem DrOk.lst {p b : Addr} {H : Hp} (d : DrOk H p b) : ∃ xs, H p = some (.lst xs) := by
  obtain ⟨ns, i, x, y, z, c, s, h1, _⟩ := d; exact ⟨_, h1⟩
theorem Kp.te' {p b : Addr} {H H' : Hp} (k : Kp p H H') (d : DrOk H p b) : Te H H' := by
  obtain ⟨xs, h⟩ := d.lst; exact k.te h
theorem Kp.new {p q : Addr} {H : Hp} {o : HO} (h : H q = none) : Kp p H (L2.upd H q o) := Kp.same (same_new h o)
section
variable {P : Program} {w : World} {K : PySem.W.Frag} {mg : Str → Option Value} {base : Heap} {T : List (Addr × Str)}
def spOne (K : PySem.W.Frag) : Sp := fun vs H Q _ => ∃ p b a xs, vs = [.ref p, .ref a] ∧ DrOk H p b ∧ H a = some (.lst xs) ∧ a ≠ p ∧ 1 ≤ xs.length ∧ xs.length ≤ 100000 ∧ ∀ (r : Nat) x H', xs[r]? = some x → Kp p H H' → DrOk H' p b → Q x H'
theorem scOne : FnScope ["_law_draw_here", "_law_row"] ["_law_draw_here", "_law_row"] (defScope sOne) := ⟨rfl, rfl, rfl, by decide +kernel, rfl, by decide +kernel, by decide +kernel⟩
theorem ok_one {f fp : Addr} {fd fdp : FuncData} (F : Fun K "_law_one" "_law_one" sOne f fd) (ml : mg "len" = none) (CP : Cl P w K mg base 1 "_law_pick" fp fdp ["_law_draw_here", "_law_many"] spPick) : FnOk P w K mg base CX0 2 f fd ["_law_draw_here", "_law_row"] (spOne K) := by
  refine F.ok scOne (fun vs H Q E h => ?_) (fun cdv A outer s H vs Q E hr h => ?_)
  · obtain ⟨p, b, a, xs, rfl, _⟩ := h; rfl
  obtain ⟨p, b, a, xs, rfl, d, ha, ne, h1, h2, q⟩ := h
  refine ⟨_, pss_one (ps_ret (pe_ix ix_list (pv 1) (pe_cl CP hr (pa_cons (pv 0) (pa_cons (pe_callB call_len_seq rfl ml PySem.boot_len (pa_cons (pv 1) pa_nil)) pa_nil))) (fun _ _ => rfl))), ?_⟩
  refine ⟨_, rfl, _, rfl, _, rfl, a, _, rfl, .inl (SqL.of ha), p, b, _, rfl, d, by omega, fun r H' r0 r1 k d' => ?_⟩
  obtain ⟨j, rfl⟩ : ∃ j : Nat, r = (j : Int) := ⟨r.toNat, by omega⟩
  have hj : j < xs.length := by omega
  exact ⟨a, xs, (j : Int), _, rfl, rfl, SqL.of (k _ _ ha ne), atI_nat (List.getElem?_eq_getElem hj), q j _ H' (List.getElem?_eq_getElem hj) k d'⟩
/-! ### written data -/
def tDat (K : PySem.W.Frag) (d : PyData) : TE := fun _ H Q => ∀ v H', Same H H' → Tp K H' v d → Q v H'
def tDats (K : PySem.W.Frag) (ds : List PyData) : TA := fun _ H Q => ∀ vs H', Same H H' → TpAll K H' vs ds → Q vs H'
section
variable {X : Cx} {e : Expr} {es : List Expr} {pos : Pos}
theorem PE.weak {t t' : TE} (h : PE X e t) (hw : ∀ σ H Q, t' σ H Q → t σ H Q) : PE X e t' := ⟨fun pins s σ H Q I q => h.run pins s σ H Q I (hw σ H Q q)⟩
theorem PA.weak {t t' : TA} (h : PA X es t) (hw : ∀ σ H Q, t' σ H Q → t σ H Q) : PA X es t' := ⟨fun pos pins s σ H Q I q => h.run pos pins s σ H Q I (hw σ H Q q)⟩
theorem pd_int {i : Int} (h : PE X e (tC (.int i))) : PE X e (tDat X.K (.int i)) := PE.weak h fun _ H _ q => q _ H (fun _ _ z => z) (.int i)
theorem pd_str {z : Str} (h : PE X e (tC (.str z))) : PE X e (tDat X.K (.str z)) := PE.weak h fun _ H _ q => q _ H (fun _ _ z => z) (.str z)
theorem pd_nil : PA X [] (tDats X.K []) := PA.weak pa_nil fun _ H _ q => q _ H (fun _ _ z => z) .nil
theorem pd_cons {d : PyData} {ds : List PyData} (ha : PE X e (tDat X.K d)) (hr : PA X es (tDats X.K ds)) (hs : starEach (e :: es) X.env = (false, eval e X.env) :: starEach es X.env := by rfl) : PA X (e :: es) (tDats X.K (d :: ds)) :=
  PA.weak (pa_cons ha hr hs) fun _ H _ q => fun v H1 s1 h1 => fun vs H2 s2 h2 => q (v :: vs) H2 (s1.trans s2) (.cons (tp_ext (Te.of' s2) _ _ h1) h2)
theorem pd_tup {x1} {ds : List PyData} (h : PA X es (tDats X.K ds)) (hl : ds.length ≤ sizeLine := by decide) : PE X (.Tuple es x1 pos) (tDat X.K (.tuple ds)) :=
  PE.weak (pe_tup h) fun _ H _ q => fun vs H1 s1 h1 => ⟨by rw [tpA_len h1]; exact hl, fun p hp => q _ _ (s1.trans (same_new hp _)) (.tup (SqT.of upd_same) (tpA_ext (Te.of' (same_new hp _)) _ _ h1))⟩
def tDlst (K : PySem.W.Frag) (ds : List PyData) : TE := fun _ H Q => ∀ a vs H', Same H H' → H a = none → H' a = some (.lst vs) → TpAll K H' vs ds → Q (.ref a) H'
theorem pd_lst {ds : List PyData} (h : PA X es (tDats X.K ds)) (hl : ds.length ≤ sizeLine := by decide) : PE X (.List es pos) (tDlst X.K ds) :=
  PE.weak (pe_lst h) fun _ H _ q => fun vs H1 s1 h1 => ⟨by rw [tpA_len h1]; exact hl, fun p hp => q p vs _ (s1.trans (same_new hp _)) (s1.free hp) upd_same (tpA_ext (Te.of' (same_new hp _)) _ _ h1)⟩
end
/-! ### leaf -/
abbrev L0 : PyData := .tuple []
abbrev P00 : PyData := .tuple [.int 0, .int 0]
def unis : List PyData := [.tuple [.int 0, L0], .tuple [.int 0, L0], .tuple [.int 2, L0], .tuple [.int 0, .tuple [.tuple [.int 1, .int 3]]], .tuple [.int 1, .tuple [P00]]]
def lvls : List PyData := [L0, L0, .tuple [.tuple [.int 0, L0]], .tuple [.tuple [.int 0, .tuple [P00]], .tuple [.int 40, L0]]]
def nams : List PyData := [.str "b", .str "qed", .str "rim7", .str "nat.rec"]
/-- the atoms that are drawn -/
def pa0 (u : Bool) (xs : List PyData) : Prop := (u = true ∧ ∃ d ∈ unis, xs = [d]) ∨ (u = false ∧ ∃ n ∈ nams, ∃ l ∈ lvls, xs = [n, l])
theorem dep_uni : ∀ d ∈ unis, d.canLay0 = true ∧ d.depth ≤ 4 := by
  unfold unis
  simp [PyData.canLay0, PyData.canLayAll0, PyData.depth, PyData.depthAll]
theorem dep_lvl : ∀ d ∈ lvls, d.canLay0 = true ∧ d.depth ≤ 4 := by
  unfold lvls
  simp [PyData.canLay0, PyData.canLayAll0, PyData.depth, PyData.depthAll]
theorem dep_nam : ∀ d ∈ nams, d.canLay0 = true ∧ d.depth ≤ 4 := by
  intro d hd
  unfold nams at hd
  simp only [List.mem_cons, List.not_mem_nil, or_false] at hd
  rcases hd with rfl | rfl | rfl | rfl <;> exact ⟨by simp only [PyData.canLay0]; decide +kernel, by simp [PyData.depth]⟩
theorem pa0_ok : PaD pa0 := by
  rintro u xs (⟨rfl, d, hd, rfl⟩ | ⟨rfl, n, hn, l, hl, rfl⟩)
  · obtain ⟨h1, h2⟩ := dep_uni d hd
    simp only [PyData.canLayAll0, PyData.depthAll, h1, Bool.true_and]
    exact ⟨trivial, by omega⟩
  · obtain ⟨h1, h2⟩ := dep_nam n hn
    obtain ⟨h3, h4⟩ := dep_lvl l hl
    simp only [PyData.canLayAll0, PyData.depthAll, h1, h3, Bool.true_and]
    exact ⟨trivial, by omega⟩
def spLeaf (K : PySem.W.Frag) : Sp := fun vs H Q _ => ∃ (p b : Addr) (wd : Nat), vs = [.ref p, .int wd] ∧ DrOk H p b ∧ wd ≤ 1000 ∧ ∀ v H' t, Kp p H H' → DrOk H' p b → Tr K H' v t → (∀ hs d, Gn pa0 hs d wd t) → Q v H'
theorem scLeaf : FnScope ["_law_draw_here", "_law_wide", "_law_way", "_law_levels"] ["_law_draw_here", "_law_wide"] (defScope sLeaf) := ⟨rfl, rfl, rfl, by decide +kernel, rfl, by decide +kernel, by decide +kernel⟩
theorem ok_leaf {f fp fo : Addr} {fd fdp fdo : FuncData} (F : Fun K "_law_leaf" "_law_leaf" sLeaf f fd) (CP : Cl P w K mg base 1 "_law_pick" fp fdp ["_law_draw_here", "_law_many"] spPick) (CO : Cl P w K mg base 2 "_law_one" fo fdo ["_law_draw_here", "_law_row"] (spOne K)) : FnOk P w K mg base CX0 3 f fd ["_law_draw_here", "_law_wide"] (spLeaf K) := by
  refine F.ok scLeaf (fun vs H Q E h => ?_) (fun cdv A outer s H vs Q E hr h => ?_)
  · obtain ⟨p, b, wd, rfl, _⟩ := h; rfl
  obtain ⟨p, b, wd, rfl, d, hw, q⟩ := h
  have hr1 := hr.mono (show 1 ≤ 2 by omega)
  refine ⟨_, pss_cons (ps_set (i := 2) scLeaf.nd rfl (.inl rfl) (pe_cl CP hr1 (pa_cons (pv 0) (pa_cons pe_int pa_nil))))
    (Evl.pss_cut (ps_if (PW.pt (pw_and (pt_truth (pv 1) (by intro _; rfl)) (pw_and1 (pt_cmpR op_lt (pv 2) pe_int (nomark _))))) (pss_one (ps_ret (pe_tup (pa_cons pe_str (pa_cons (pe_cl CP hr1 (pa_cons (pv 0) (pa_cons (pv 1) pa_nil))) pa_nil))))) pss_nil)
    (Evl.pss_cut (ps_if (pt_cmpR op_eq (pv 2) pe_int (nomark _)) (pss_one (ps_ret (pe_tup (pa_cons pe_str (pa_cons (pe_cl CO hr (pa_cons (pv 0) (pa_cons (pd_lst (ds := unis)
        (pd_cons (pd_tup (pd_cons (pd_int pe_int) (pd_cons (pd_tup pd_nil) pd_nil))) (pd_cons (pd_tup (pd_cons (pd_int pe_int) (pd_cons (pd_tup pd_nil) pd_nil))) (pd_cons (pd_tup (pd_cons (pd_int pe_int) (pd_cons (pd_tup pd_nil) pd_nil)))
        (pd_cons (pd_tup (pd_cons (pd_int pe_int) (pd_cons (pd_tup (pd_cons (pd_tup (pd_cons (pd_int pe_int) (pd_cons (pd_int pe_int) pd_nil))) pd_nil)) pd_nil)))
        (pd_cons (pd_tup (pd_cons (pd_int pe_int) (pd_cons (pd_tup (pd_cons (pd_tup (pd_cons (pd_int pe_int) (pd_cons (pd_int pe_int) pd_nil))) pd_nil)) pd_nil))) pd_nil)))))) pa_nil))) pa_nil))))) pss_nil)
    (pss_cons (ps_set (i := 3) scLeaf.nd rfl (.inl rfl) (pe_cl CO hr (pa_cons (pv 0) (pa_cons (pd_lst (ds := lvls)
        (pd_cons (pd_tup pd_nil) (pd_cons (pd_tup pd_nil) (pd_cons (pd_tup (pd_cons (pd_tup (pd_cons (pd_int pe_int) (pd_cons (pd_tup pd_nil) pd_nil))) pd_nil))
        (pd_cons (pd_tup (pd_cons (pd_tup (pd_cons (pd_int pe_int) (pd_cons (pd_tup (pd_cons (pd_tup (pd_cons (pd_int pe_int) (pd_cons (pd_int pe_int) pd_nil))) pd_nil)) pd_nil))) (pd_cons (pd_tup (pd_cons (pd_int pe_int) (pd_cons (pd_tup pd_nil) pd_nil))) pd_nil))) pd_nil))))) pa_nil))))
    (pss_one (ps_ret (pe_tup (pa_cons pe_str (pa_cons (pe_cl CO hr (pa_cons (pv 0) (pa_cons (pd_lst (ds := nams) (pd_cons (pd_str pe_str) (pd_cons (pd_str pe_str) (pd_cons (pd_str pe_str) (pd_cons (pd_str pe_str) pd_nil))))) pa_nil))) (pa_cons (pv 3) pa_nil))))))))), ?_⟩
  refine ⟨_, rfl, p, b, 7, rfl, d, by decide, fun way H1 _ _ k1 d1 => ?_⟩
  have pt := d.lst
  refine ⟨fun σ H' => σ = [some (.ref p), some (.int (wd : Nat)), some (.int way), none] ∧ H1 = H', ?_, ?_⟩
  · refine ⟨_, rfl, _, rfl, ?_⟩
    refine ite2 (fun e => ?_) (fun _ => iteF ⟨rfl, rfl⟩)
    have wd0 : wd ≠ 0 := fun z => by subst z; cases e
    refine ⟨_, rfl, _, _, rfl, rfl, _, rfl, ?_⟩
    refine ite2 (fun _ => ?_) (fun _ => ⟨rfl, rfl⟩)
    refine ⟨_, rfl, _, rfl, p, b, wd, rfl, d1, by omega, fun r H2 r0 r1 k2 d2 => ?_⟩
    obtain ⟨j, rfl⟩ : ∃ j : Nat, r = (j : Int) := ⟨r.toNat, by omega⟩
    refine ⟨le_line (by simp), fun a ha => ?_⟩
    have k3 : Kp p H2 _ := Kp.new (o := HO.tup [.str "var", .int (j : Int)]) ha
    exact q _ _ (.var j) ((k1.trans k2).trans k3) (d2.same (same_new ha _)) (tr_mk_var (SqT.of upd_same)) fun hs d => .var (by omega)
  · rintro σ _ ⟨rfl, rfl⟩
    refine ⟨fun σ H' => σ = [some (.ref p), some (.int (wd : Nat)), some (.int way), none] ∧ H1 = H', ?_, ?_⟩
    · refine ⟨_, rfl, rfl, _, rfl, ?_⟩
      refine ite2 (fun _ => ?_) (fun _ => ⟨rfl, rfl⟩)
      refine ⟨_, rfl, fun a vs H2 s2 f2 a2 t2 => ?_⟩
      have d2 := d1.same s2
      have nap : a ≠ p := fun e => by subst e; obtain ⟨xs, hx⟩ := d1.lst; rw [f2] at hx; cases hx
      have hl : vs.length = 5 := tpA_len t2
      refine ⟨p, b, a, vs, rfl, d2, a2, nap, by omega, by omega, fun r x H3 hx k3 d3 => ?_⟩
      have hr : r < 5 := by rw [← hl]; exact (List.getElem?_eq_some_iff.mp hx).1
      obtain ⟨v, hv, tv⟩ := tpA_get (i := r) (d := unis[r]) t2 (List.getElem?_eq_getElem (by exact hr))
      rw [hx] at hv
      cases hv
      refine ⟨le_line (by simp), fun g hg => ?_⟩
      have s4 := same_new hg (HO.tup [.str "univ", x])
      have tv' := tp_ext ((k3.te' d2).trans (Te.of' s4)) _ _ tv
      refine q _ _ (.atom true [unis[r]]) (((k1.trans (Kp.same s2)).trans k3).trans (Kp.same s4)) (d3.same s4) ?_ fun hs d => .atom (.inl ⟨rfl, _, List.getElem_mem _, rfl⟩)
      show Tp K _ _ (enc _)
      rw [enc_atom]
      exact .tup (SqT.of upd_same) (.cons (.str _) (.cons tv' .nil))
    · rintro σ _ ⟨rfl, rfl⟩
      refine ⟨_, rfl, fun a vs H2 s2 f2 a2 t2 => ?_⟩
      have d2 := d1.same s2
      have nap : a ≠ p := fun e => by subst e; obtain ⟨xs, hx⟩ := d1.lst; rw [f2] at hx; cases hx
      have hl : vs.length = 4 := tpA_len t2
      refine ⟨p, b, a, vs, rfl, d2, a2, nap, by omega, by omega, fun r x H3 hx k3 d3 => ?_⟩
      have hr : r < 4 := by rw [← hl]; exact (List.getElem?_eq_some_iff.mp hx).1
      obtain ⟨v, hv, tv⟩ := tpA_get (i := r) (d := lvls[r]) t2 (List.getElem?_eq_getElem (by exact hr))
      rw [hx] at hv
      cases hv
      have tv3 := tp_ext (k3.te' d2) _ _ tv
      refine ⟨_, rfl, fun a4 vs4 H4 s4 f4 e4 t4 => ?_⟩
      have d4 := d3.same s4
      have nap4 : a4 ≠ p := fun e => by subst e; obtain ⟨xs, hx⟩ := d3.lst; rw [f4] at hx; cases hx
      have hl4 : vs4.length = 4 := tpA_len t4
      refine ⟨p, b, a4, vs4, rfl, d4, e4, nap4, by omega, by omega, fun r5 x5 H5 hx5 k5 d5 => ?_⟩
      have hr5 : r5 < 4 := by rw [← hl4]; exact (List.getElem?_eq_some_iff.mp hx5).1
      obtain ⟨v5, hv5, tv5⟩ := tpA_get (i := r5) (d := nams[r5]) t4 (List.getElem?_eq_getElem (by exact hr5))
      rw [hx5] at hv5
      cases hv5
      have tv5' := tp_ext (k5.te' d4) _ _ tv5
      have tv6 := tp_ext ((Te.of' s4).trans (k5.te' d4)) _ _ tv3
      refine ⟨_, rfl, le_line (by simp), fun g hg => ?_⟩
      have s7 := same_new hg (HO.tup [.str "const", x5, x])
      have te7 : Te _ _ := Te.of' s7
      refine q _ _ (.atom false [nams[r5], lvls[r]]) (((((k1.trans (Kp.same s2)).trans k3).trans (Kp.same s4)).trans k5).trans (Kp.same s7)) (d5.same s7) ?_ fun hs d => .atom (.inr ⟨rfl, _, List.getElem_mem _, _, List.getElem_mem _, rfl⟩)
      show Tp K _ _ (enc _)
      rw [enc_atom]
      exact .tup (SqT.of upd_same) (.cons (.str _) (.cons (tp_ext te7 _ _ tv5') (.cons (tp_ext te7 _ _ tv6) .nil)))
/-! ### fresh -/
theorem nodup_len : ∀ {l ns : List Int}, l.Nodup → (∀ x ∈ l, x ∈ ns) → l.length ≤ ns.length
  | [], _, _, _ => Nat.zero_le _
  | x :: l, ns, h, hs => by
    obtain ⟨h1, h2⟩ := List.nodup_cons.mp h
    have hx := hs x List.mem_cons_self
    have z := nodup_len (l := l) (ns := ns.erase x) h2 fun y hy => (List.mem_erase_of_ne (by rintro rfl; exact h1 hy)).mpr (hs y (List.mem_cons_of_mem _ hy))
    rw [List.length_erase_of_mem hx] at z
    have : 0 < ns.length := List.length_pos_of_mem hx
    simp only [List.length_cons]
    omega
theorem fresh_end {ns : List Int} {c : Int} (h0 : 0 ≤ c) (h1 : c < 200) (hl : ns.length < 100) (h : c ∉ ns ∨ ∀ j : Int, 1 ≤ j → j ≤ ns.length → (c - j) % 200 ∈ ns) : c ∉ ns := by
  rcases h with h | h
  · exact h
  · intro hc
    have z := nodup_len (l := (List.range (ns.length + 1)).map fun j => (c - (j : Nat)) % 200) (ns := ns) ?_ ?_
    · simp at z; omega
    · unfold List.Nodup
      rw [List.pairwise_map]
      refine List.Pairwise.imp_of_mem (R := fun a b => a < b) (fun {a b} ha hb hab e => ?_) List.pairwise_lt_range
      have := List.mem_range.mp ha
      have := List.mem_range.mp hb
      omega
    · intro x hx
      obtain ⟨j, hj, rfl⟩ := List.mem_map.mp hx
      have := List.mem_range.mp hj
      by_cases j0 : j = 0
      · subst j0
        have : (c - (0 : Nat)) % 200 = c := by omega
        rw [this]; exact hc
      · exact h j (by omega) (by omega)
theorem inV_int (c : Int) : ∀ ns : List Int, inV (.int c) (ns.map V.int) = decide (c ∈ ns)
  | [] => rfl
  | n :: ns => by
    have z := inV_int c ns
    unfold inV at z ⊢
    rw [List.map_cons, List.any_cons, z]
    by_cases h : c = n
    · subst h; simp [eqV]
    · have h' : ¬ n = c := fun e => h e.symm
      simp [eqV, h, h']
theorem flat_int (ns : List Int) : (ns.map V.int).all flatV = true := by
  induction ns with
  | nil => rfl
  | cons n ns ih => rw [List.map_cons, List.all_cons, ih]; rfl
def spFresh : Sp := fun vs H Q _ => ∃ (p b a : Addr) (ns : List Int), vs = [.ref p, .ref a] ∧ DrOk H p b ∧ H a = some (.lst (ns.map V.int)) ∧ a ≠ p ∧ ns.length < 100 ∧ ∀ r H', 0 ≤ r → r < 200 → r ∉ ns → Kp p H H' → DrOk H' p b → Q (.int r) H'
theorem scFresh : FnScope ["_law_draw_here", "_law_taken", "_law_number", "_law_k"] ["_law_draw_here", "_law_taken"] (defScope sFresh) := ⟨rfl, rfl, rfl, by decide +kernel, rfl, by decide +kernel, by decide +kernel⟩
theorem ok_fresh {f fp : Addr} {fd fdp : FuncData} (F : Fun K "_law_fresh" "_law_fresh" sFresh f fd) (ml : mg "len" = none) (mr : mg "range" = none) (mi : mg "int" = none) (CP : Cl P w K mg base 1 "_law_pick" fp fdp ["_law_draw_here", "_law_many"] spPick) : FnOk P w K mg base CX0 2 f fd ["_law_draw_here", "_law_taken"] spFresh := by
  refine F.ok scFresh (fun vs H Q E h => ?_) (fun cdv A outer s H vs Q E hr h => ?_)
  · obtain ⟨p, b, a, ns, rfl, _⟩ := h; rfl
  obtain ⟨p, b, a, ns, rfl, d, ha, ne, hl, q⟩ := h
  refine ⟨_, pss_cons (ps_set (i := 2) scFresh.nd rfl (.inl rfl) (pe_cl CP hr (pa_cons (pv 0) (pa_cons pe_int pa_nil))))
    (pss_cons (ps_for PassesOwn.never rfl (pi_range1 rfl mr (pa_cons (pe_callB call_len_seq rfl ml PySem.boot_len (pa_cons (pv 1) pa_nil)) pa_nil)) (pg_name (i := 3) scFresh.nd rfl (.inl rfl))
      (pss_one (ps_if (pt_cmpR op_in_seq (pv 2) (pv 1) rfl) (pss_one (ps_set (i := 2) scFresh.nd rfl (.inl rfl) (pe_op op_mod (pe_callTy call_int1 rfl mi (by decide +kernel) (pa_cons (pe_op op_add (pv 2) pe_int) pa_nil)) pe_int))) pss_nil)))
    (pss_one (ps_ret (pv 2)))), ?_⟩
  refine ⟨_, rfl, p, b, 200, rfl, d, by decide, fun c H1 c0 c1 k1 d1 => ?_⟩
  have ha1 := k1 _ _ ha ne
  refine ⟨_, rfl, a, _, rfl, .inl (SqL.of ha1), _, rfl, by omega, by rw [List.length_map]; omega, ?_⟩
  refine for_it walk_range (fun i σ H' => H1 = H' ∧ ∃ c x3, σ = [some (.ref p), some (.ref a), some (.int c), x3] ∧ 0 ≤ c ∧ c < 200 ∧ (c ∉ ns ∨ ∀ j : Int, 1 ≤ j → j ≤ i → (c - j) % 200 ∈ ns)) ?_ ?_ ?_ ?_
  · exact ⟨rfl, c, _, rfl, c0, by omega, .inr fun j _ _ => by omega⟩
  · intro _ _ _ _ _; trivial
  · rintro i x σ H2 H3 hi ⟨rfl, c, x3, rfl, c0, c1, hc⟩ ⟨rfl, rfl⟩
    refine ⟨_, rfl, _, rfl, a, _, rfl, .inl (SqL.of ha1), rfl, flat_int ns, _, rfl, ?_⟩
    refine ite2 (fun e => ?_) (fun e => ?_)
    · have e : c ∈ ns := by
        have e : inV (.int c) (ns.map V.int) = true := e
        rw [inV_int] at e
        exact of_decide_eq_true e
      refine ⟨_, rfl, _, _, rfl, rfl, .inl ⟨_, rfl, _, _, rfl, rfl, (show (0 : Int) < 200 by decide), rfl, _, _, rfl, by omega, by omega, .inr fun j j0 j1 => ?_⟩⟩
      rcases hc with hc | hc
      · exact (hc e).elim
      · by_cases z : j = 1
        · have : ((c + 1) % 200 - j) % 200 = c := by omega
          rw [this]; exact e
        · have : ((c + 1) % 200 - j) % 200 = (c - (j - 1)) % 200 := by omega
          rw [this]; exact hc (j - 1) (by omega) (by omega)
    · have e : c ∉ ns := by
        have e : ¬ inV (.int c) (ns.map V.int) = true := e
        rw [inV_int] at e
        exact fun h => e (decide_eq_true h)
      exact ⟨rfl, c, _, rfl, c0, c1, .inl e⟩
  · rintro σ H2 ⟨rfl, c, x3, rfl, c0, c1, hc⟩
    refine ⟨_, rfl, q c H1 c0 c1 (fresh_end c0 c1 hl ?_) k1 d1⟩
    rcases hc with hc | hc
    · exact .inl hc
    · exact .inr fun j j0 j1 => hc j j0 (by simp; omega)
end
end KP

/-! The law's terms drawn: open. -/
namespace KP
open PySem PyProof.Rows L2 LamX NdefX KL KM KD
def nd (h : Bool) (r : Int) : Nat := (if h = true then 1 else 0) + (if r < 2 then 0 else if r < 5 then 1 else if r < 11 then 2 else 3)
theorem nd_half {h : Bool} {r : Int} {d : Nat} (h2 : ¬ r < 2) (h3 : r ≤ 22) (hn : nd h r ≤ d + 1) : nd h ((r - 1) / 2) ≤ d := by
  unfold nd at *
  generalize (if h = true then 1 else 0 : Nat) = x at *
  repeat' split at hn
  all_goals repeat' split
  all_goals omega
theorem nd_hole {h : Bool} {r l : Int} {d : Nat} (h2 : l ≤ 0 ∨ 2 * l ≤ r - 1) (h3 : r ≤ 22) (hn : nd true r ≤ d + 1) : (0 < l → nd h l ≤ d) ∧ (l ≤ 0 → nd false l ≤ d) := by
  unfold nd at *
  have hx : (if h = true then 1 else 0 : Nat) ≤ 1 := by split <;> omega
  generalize (if h = true then 1 else 0 : Nat) = x at *
  simp only [if_true, if_false, Bool.false_eq_true] at *
  constructor
  · intro hl
    repeat' split at hn
    all_goals repeat' split
    all_goals omega
  · intro hl
    repeat' split
    all_goals omega
theorem less_le {x m : Int} (hm : 2 ≤ m) : x / m ≤ 0 ∨ 2 * (x / m) ≤ x := by
  have h1 := Int.ediv_mul_le x (show m ≠ 0 by omega)
  by_cases h : x / m ≤ 0
  · exact .inl h
  · have h2 : x / m * 2 ≤ x / m * m := Int.mul_le_mul_of_nonneg_left hm (by omega)
    exact .inr (by omega)
abbrev encH (x : Int × Nat) : PyData := .tuple [.int x.1, .int x.2]
theorem Kp.mut {p q : Addr} {H H1 : Hp} {o : HO} (k : Kp p H H1) (h : H q = none) : Kp p H (L2.upd H1 q o) := fun b u e n => by rw [upd_ne (ne_of_none e h)]; exact k b u e n
theorem DrOk.ne {p b : Addr} {H H1 : Hp} {q : Addr} {o : HO} (d0 : DrOk H p b) (d : DrOk H1 p b) (h : H q = none) : DrOk (L2.upd H1 q o) p b := by
  obtain ⟨ns0, i0, x0, y0, z0, c0, s0, a1, a2, _⟩ := d0
  obtain ⟨ns, i, x, y, z, c, s, h1, h2, h3⟩ := d
  exact ⟨ns, i, x, y, z, c, s, by rw [upd_ne (ne_of_none a1 h)]; exact h1, by rw [upd_ne (ne_of_none a2 h)]; exact h2, h3⟩
theorem tpA_drop {K : PySem.W.Frag} {H : Hp} : ∀ {n : Nat} {us : List V} {ds : List PyData}, TpAll K H us ds → TpAll K H (us.drop n) (ds.drop n)
  | 0, _, _, h => h
  | n + 1, _, [], h => by cases h; exact .nil
  | n + 1, _, _ :: _, h => by
    cases h with
    | cons _ h2 => exact tpA_drop (n := n) h2
theorem cut_from {us : List V} {j : Nat} (h : j + 1 ≤ us.length) : cutV us (some ((j : Int) + 1)) none = us.drop (j + 1) := by
  unfold cutV
  rw [HT.sIx_none]
  have z := HT.sIx_nat us.length 0 (j + 1)
  rw [show (some ((j + 1 : Nat) : Int)) = some ((j : Int) + 1) from by simp] at z
  rw [z, Nat.min_eq_left h]
  exact List.take_of_length_le (by rw [List.length_drop]; exact Nat.le_refl _)
section
variable {P : Program} {w : World} {K : PySem.W.Frag} {mg : Str → Option Value} {base : Heap} {T : List (Addr × Str)}
theorem tagK (j : Nat) (x : V) (h : ([V.str "app", .str "app", .str "app", .str "pi", .str "fun", .str "let"] : List V)[j]? = some x) : ∃ k : Kd, (∀ n, k ≠ .hole n) ∧ x = .str (Kd.tag k) := by
  match j, h with
  | 0, h => cases h; exact ⟨.app, (fun n z => by cases z), rfl⟩
  | 1, h => cases h; exact ⟨.app, (fun n z => by cases z), rfl⟩
  | 2, h => cases h; exact ⟨.app, (fun n z => by cases z), rfl⟩
  | 3, h => cases h; exact ⟨.pi, (fun n z => by cases z), rfl⟩
  | 4, h => cases h; exact ⟨.fn, (fun n z => by cases z), rfl⟩
  | 5, h => cases h; exact ⟨.lt, (fun n z => by cases z), rfl⟩
  | j + 6, h => simp at h
theorem gn_two {hs : List (Int × Nat)} {d wd : Nat} {k : Kd} {t1 t2 : Tm} (hk : k = .app ∨ k = .pi ∨ k = .fn) (g1 : Gn pa0 hs d wd t1) (g2 : Gn pa0 hs d (wd + bnd k 1) t2) : Gn pa0 hs (d + 1) wd (.node k [t1, t2]) := by
  refine .node ?_ ?_ ?_
  · rcases hk with rfl | rfl | rfl <;> intro n z <;> cases z
  · rcases hk with rfl | rfl | rfl <;> rfl
  · intro j p hp
    match j, hp with
    | 0, hp => cases hp; rcases hk with rfl | rfl | rfl <;> exact g1
    | 1, hp => cases hp; exact g2
    | j + 2, hp => simp at hp
theorem gn_let {hs : List (Int × Nat)} {d wd : Nat} {t1 t2 t3 : Tm} (g1 : Gn pa0 hs d wd t1) (g2 : Gn pa0 hs d wd t2) (g3 : Gn pa0 hs d (wd + 1) t3) : Gn pa0 hs (d + 1) wd (.node .lt [t1, t2, t3]) := by
  refine .node (by intro n z; cases z) rfl ?_
  intro j p hp
  match j, hp with
  | 0, hp => cases hp; exact g1
  | 1, hp => cases hp; exact g2
  | 2, hp => cases hp; exact g3
  | j + 3, hp => simp at hp
end
end KP

/-! The law's own reading of terms. -/
namespace KP
open PySem PyProof.Rows L2 LamX NdefX KL KM KD
abbrev sBits : Stmt := top 22
abbrev sLUnd : Stmt := top 23
abbrev sNode : Stmt := top 24
abbrev sShow : Stmt := top 25
abbrev sDone : Stmt := top 26
abbrev sNums : Stmt := top 27
section
variable {P : Program} {w : World} {K : PySem.W.Frag} {mg : Str → Option Value} {base : Heap} {T : List (Addr × Str)}
theorem pe_never {X : Cx} {e : Expr} : PE X e (fun _ _ _ => False) := ⟨fun _ _ _ _ _ _ h => h.elim⟩
theorem scBits : FnScope ["_law_node_here"] ["_law_node_here"] (defScope sBits) := ⟨rfl, rfl, rfl, by decide +kernel, rfl, by decide +kernel, by decide +kernel⟩
theorem ok_bits {f : Addr} {fd : FuncData} (F : Fun K "_law_bits" "_law_bits" sBits f fd) : FnOk P w K mg base CX0 1 f fd ["_law_node_here"] (spParts K) := by
  refine F.ok scBits (fun vs H Q E h => ?_) (fun cdv A outer s H vs Q E hr h => ?_)
  · obtain ⟨v, t, rfl, _⟩ := h; rfl
  obtain ⟨v, t, rfl, ht, hl, q⟩ := h
  refine ⟨_, pss_cons (ps_if (pt_cmpR op_eq (pe_ix ix_tup (pv 0) pe_int (fun _ _ => rfl)) pe_str (nomark _)) (pss_one (ps_ret (pe_ix ix_tup (pv 0) pe_int (fun _ _ => rfl)))) pss_nil)
    (pss_one (ps_ret (pe_ifExp (pt_cmpR op_in_seq (pe_ix ix_tup (pv 0) pe_int (fun _ _ => rfl)) (pe_tup (pa_cons pe_str (pa_cons pe_str (pa_cons pe_str pa_nil)))) rfl) (pe_tup pa_nil) (pe_slice sl_tup (pv 0) (po_some pe_int) po_none)))), ?_⟩
  have leafy : partsT t = [] → ∀ H1 : Hp, Same H H1 → tTup tNil [some v] H1 Q := fun e H1 s1 => ⟨le_line (by decide), fun p hp => q p _ [] (s1.trans (same_new hp _)) (SqT.of upd_same) (by rw [e]; exact TpAll.nil)⟩
  obtain ⟨a, ys, rfl, hs⟩ := tr_tag ht
  have go : ∀ tag : Str, tagOf t = tag → SqT K H a (.str tag :: ys) := fun tag e => by subst e; exact hs
  cases t with
  | var i =>
    refine ⟨_, rfl, a, _, 0, _, rfl, rfl, go "var" rfl, at0, rfl, _, rfl, iteEqF (by decide +kernel) ?_⟩
    refine ⟨_, rfl, a, _, 0, _, rfl, rfl, go "var" rfl, at0, le_line (by simp), fun g hg => ⟨g, _, rfl, .inr (SqT.of upd_same), rfl, rfl, _, rfl, ?_⟩⟩
    exact leafy rfl _ (same_new hg _)
  | atom u xs =>
    cases u with
    | false =>
      refine ⟨_, rfl, a, _, 0, _, rfl, rfl, go "const" rfl, at0, rfl, _, rfl, iteEqF (by decide +kernel) ?_⟩
      refine ⟨_, rfl, a, _, 0, _, rfl, rfl, go "const" rfl, at0, le_line (by simp), fun g hg => ⟨g, _, rfl, .inr (SqT.of upd_same), rfl, rfl, _, rfl, ?_⟩⟩
      exact leafy rfl _ (same_new hg _)
    | true =>
      refine ⟨_, rfl, a, _, 0, _, rfl, rfl, go "univ" rfl, at0, rfl, _, rfl, iteEqF (by decide +kernel) ?_⟩
      refine ⟨_, rfl, a, _, 0, _, rfl, rfl, go "univ" rfl, at0, le_line (by simp), fun g hg => ⟨g, _, rfl, .inr (SqT.of upd_same), rfl, rfl, _, rfl, ?_⟩⟩
      exact leafy rfl _ (same_new hg _)
  | node k ps =>
    by_cases hk : ∃ n, k = .hole n
    · obtain ⟨n, rfl⟩ := hk
      obtain ⟨a, b, vs, e, h1, h2, h3⟩ := tr_hole ht
      cases e
      refine ⟨_, rfl, a, _, 0, _, rfl, rfl, h1, at0, rfl, _, rfl, iteEqT (by decide +kernel) ⟨_, rfl, a, _, 2, _, rfl, rfl, h1, at2, ?_⟩⟩
      exact q b H vs (Same.refl H) h2 h3
    · obtain ⟨a', vs, e, h1, h2⟩ := tr_node (fun n e => hk ⟨n, e⟩) ht
      cases e
      have rest : ∀ (g : Addr) (o : HO), H g = none → tSl (rSlT K) (tVar 0) (tPart (tC (.int 1))) tNoPart [some (.ref a)] (L2.upd H g o) Q := fun g o hg => by
        have s1 := same_new hg o
        refine ⟨_, rfl, 1, rfl, a, _, rfl, sqT_same s1 h1, cut1_not _ _, fun p hp => ?_⟩
        have s2 := s1.trans (same_new hp (HO.tup (cutV (.str (Kd.tag k) :: vs) (some 1) none)))
        refine q p _ vs s2 (SqT.of ?_) (h2.ext (Te.of' s2))
        rw [upd_same, cut1]
      cases k with
      | hole n => exact (hk ⟨n, rfl⟩).elim
      | app =>
        refine ⟨_, rfl, a, _, 0, _, rfl, rfl, go "app" rfl, at0, rfl, _, rfl, iteEqF (by decide +kernel) ?_⟩
        exact ⟨_, rfl, a, _, 0, _, rfl, rfl, go "app" rfl, at0, le_line (by simp), fun g hg => ⟨g, _, rfl, .inr (SqT.of upd_same), rfl, rfl, _, rfl, rest g _ hg⟩⟩
      | pi =>
        refine ⟨_, rfl, a, _, 0, _, rfl, rfl, go "pi" rfl, at0, rfl, _, rfl, iteEqF (by decide +kernel) ?_⟩
        exact ⟨_, rfl, a, _, 0, _, rfl, rfl, go "pi" rfl, at0, le_line (by simp), fun g hg => ⟨g, _, rfl, .inr (SqT.of upd_same), rfl, rfl, _, rfl, rest g _ hg⟩⟩
      | fn =>
        refine ⟨_, rfl, a, _, 0, _, rfl, rfl, go "fun" rfl, at0, rfl, _, rfl, iteEqF (by decide +kernel) ?_⟩
        exact ⟨_, rfl, a, _, 0, _, rfl, rfl, go "fun" rfl, at0, le_line (by simp), fun g hg => ⟨g, _, rfl, .inr (SqT.of upd_same), rfl, rfl, _, rfl, rest g _ hg⟩⟩
      | lt =>
        refine ⟨_, rfl, a, _, 0, _, rfl, rfl, go "let" rfl, at0, rfl, _, rfl, iteEqF (by decide +kernel) ?_⟩
        exact ⟨_, rfl, a, _, 0, _, rfl, rfl, go "let" rfl, at0, le_line (by simp), fun g hg => ⟨g, _, rfl, .inr (SqT.of upd_same), rfl, rfl, _, rfl, rest g _ hg⟩⟩
def spLUnd (K : PySem.W.Frag) : Sp := fun vs H Q _ => ∃ v k ps j, vs = [v, .int (j : Nat)] ∧ Tr K H v (.node k ps) ∧ arOk k ps.length ∧ ∀ H', Same H H' → Q (.int (bnd k j : Nat)) H'
theorem scLUnd : FnScope ["_law_node_here", "_law_k"] ["_law_node_here", "_law_k"] (defScope sLUnd) := ⟨rfl, rfl, rfl, by decide +kernel, rfl, by decide +kernel, by decide +kernel⟩
theorem ok_lund {f : Addr} {fd : FuncData} (F : Fun K "_law_under" "_law_under" sLUnd f fd) (ml : mg "len" = none) : FnOk P w K mg base CX0 1 f fd ["_law_node_here", "_law_k"] (spLUnd K) := by
  refine F.ok scLUnd (fun vs H Q E h => ?_) (fun cdv A outer s H vs Q E hr h => ?_)
  · obtain ⟨v, k, ps, j, rfl, _⟩ := h; rfl
  obtain ⟨v, k, ps, j, rfl, ht, har, q⟩ := h
  refine ⟨_, pss_one (ps_ret (pe_ifExp (PW.pt (pw_and (pt_cmpR op_in_seq (pe_ix ix_tup (pv 0) pe_int (fun _ _ => rfl)) (pe_tup (pa_cons pe_str (pa_cons pe_str (pa_cons pe_str pa_nil)))) rfl)
    (pw_and1 (pt_cmpR op_eq (pv 1) (pe_op op_sub (pe_callB call_len_seq rfl ml PySem.boot_len (pa_cons (pv 0) pa_nil)) pe_int) (nomark _))))) pe_int pe_int)), ?_⟩
  obtain ⟨a, ys, rfl, hs⟩ := tr_tag ht
  have go : ∀ tag : Str, Kd.tag k = tag → SqT K H a (.str tag :: ys) := fun tag e => by subst e; exact hs
  by_cases hk : ∃ n, k = .hole n
  · obtain ⟨n, rfl⟩ := hk
    refine ⟨_, rfl, a, _, 0, _, rfl, rfl, go "hole" rfl, at0, le_line (by simp), fun g hg => ⟨g, _, rfl, .inr (SqT.of upd_same), rfl, rfl, _, rfl, ?_⟩⟩
    exact q _ (same_new hg _)
  · obtain ⟨a', vs, e, h1, h2⟩ := tr_node (fun n e => hk ⟨n, e⟩) ht
    cases e
    have hl : vs.length = ps.length := h2.len
    cases k with
    | hole n => exact (hk ⟨n, rfl⟩).elim
    | app =>
      refine ⟨_, rfl, a, _, 0, _, rfl, rfl, go "app" rfl, at0, le_line (by simp), fun g hg => ⟨g, _, rfl, .inr (SqT.of upd_same), rfl, rfl, _, rfl, ?_⟩⟩
      exact q _ (same_new hg _)
    | pi =>
      refine ⟨_, rfl, a, _, 0, _, rfl, rfl, go "pi" rfl, at0, le_line (by simp), fun g hg => ⟨g, _, rfl, .inr (SqT.of upd_same), rfl, rfl, _, rfl, ?_⟩⟩
      have s1 := same_new hg (HO.tup [V.str "pi", V.str "fun", V.str "let"])
      have har : ps.length = 2 := har
      refine ⟨_, rfl, _, rfl, a, _, rfl, .inr (sqT_same s1 h1), _, _, rfl, rfl, rfl, _, rfl, ?_⟩
      by_cases hj : j = 1
      · subst hj
        refine iteIntT (by simp [hl, har]) ?_
        exact q _ s1
      · refine iteIntF (by simp [hl, har]; omega) ?_
        have : bnd .pi j = 0 := by unfold bnd; split <;> simp_all
        rw [this] at q
        exact q _ s1
    | fn =>
      refine ⟨_, rfl, a, _, 0, _, rfl, rfl, go "fun" rfl, at0, le_line (by simp), fun g hg => ⟨g, _, rfl, .inr (SqT.of upd_same), rfl, rfl, _, rfl, ?_⟩⟩
      have s1 := same_new hg (HO.tup [V.str "pi", V.str "fun", V.str "let"])
      have har : ps.length = 2 := har
      refine ⟨_, rfl, _, rfl, a, _, rfl, .inr (sqT_same s1 h1), _, _, rfl, rfl, rfl, _, rfl, ?_⟩
      by_cases hj : j = 1
      · subst hj
        refine iteIntT (by simp [hl, har]) ?_
        exact q _ s1
      · refine iteIntF (by simp [hl, har]; omega) ?_
        have : bnd .fn j = 0 := by unfold bnd; split <;> simp_all
        rw [this] at q
        exact q _ s1
    | lt =>
      refine ⟨_, rfl, a, _, 0, _, rfl, rfl, go "let" rfl, at0, le_line (by simp), fun g hg => ⟨g, _, rfl, .inr (SqT.of upd_same), rfl, rfl, _, rfl, ?_⟩⟩
      have s1 := same_new hg (HO.tup [V.str "pi", V.str "fun", V.str "let"])
      have har : ps.length = 3 := har
      refine ⟨_, rfl, _, rfl, a, _, rfl, .inr (sqT_same s1 h1), _, _, rfl, rfl, rfl, _, rfl, ?_⟩
      by_cases hj : j = 2
      · subst hj
        refine iteIntT (by simp [hl, har]) ?_
        exact q _ s1
      · refine iteIntF (by simp [hl, har]; omega) ?_
        have : bnd .lt j = 0 := by unfold bnd; split <;> simp_all
        rw [this] at q
        exact q _ s1
/-! ### node -/
theorem tag_ne {t : Tm} (h : ∀ n ps, t ≠ .node (.hole n) ps) : ¬ tagOf t = "hole" := by
  cases t with
  | var i => exact (show ¬ ("var" : Str) = "hole" by decide +kernel)
  | atom b xs =>
    cases b
    · exact (show ¬ ("const" : Str) = "hole" by decide +kernel)
    · exact (show ¬ ("univ" : Str) = "hole" by decide +kernel)
  | node k ps =>
    cases k with
    | hole n => exact (h n ps rfl).elim
    | app => exact (show ¬ ("app" : Str) = "hole" by decide +kernel)
    | pi => exact (show ¬ ("pi" : Str) = "hole" by decide +kernel)
    | fn => exact (show ¬ ("fun" : Str) = "hole" by decide +kernel)
    | lt => exact (show ¬ ("let" : Str) = "hole" by decide +kernel)
def nodeR : Tm → List Tm → Tm → Prop
  | .node k _, us, u => u = .node k us ∧ ((∀ n, k ≠ .hole n) → us ≠ [])
  | t, us, u => us = [] ∧ u = t
def spNode (K : PySem.W.Frag) : Sp := fun vs H Q _ => ∃ v l ws t us u, vs = [v, .ref l] ∧ Tr K H v t ∧ H l = some (.lst ws) ∧ Ts K H ws us ∧ us.length ≤ 100 ∧ nodeR t us u ∧ ∀ v' H', Same H H' → Tr K H' v' u → Q v' H'
theorem scNode : FnScope ["_law_node_here", "_law_bits_here"] ["_law_node_here", "_law_bits_here"] (defScope sNode) := ⟨rfl, rfl, rfl, by decide +kernel, rfl, by decide +kernel, by decide +kernel⟩
theorem ok_node {f : Addr} {fd : FuncData} (F : Fun K "_law_node" "_law_node" sNode f fd) (mt : mg "tuple" = none) : FnOk P w K mg base CX0 1 f fd ["_law_node_here", "_law_bits_here"] (spNode K) := by
  refine F.ok scNode (fun vs H Q E h => ?_) (fun cdv A outer s H vs Q E hr h => ?_)
  · obtain ⟨v, l, ws, t, us, u, rfl, _⟩ := h; rfl
  obtain ⟨v, l, ws, t, us, u, rfl, ht, hL, hw, hl, hn, q⟩ := h
  refine ⟨_, pss_cons (ps_if (pt_cmpR op_eq (pe_ix ix_tup (pv 0) pe_int (fun _ _ => rfl)) pe_str (nomark _)) (pss_one (ps_ret (pe_tup (pa_cons pe_str (pa_cons (pe_ix ix_tup (pv 0) pe_int (fun _ _ => rfl)) (pa_cons (pe_callTy call_tuple_of rfl mt (by decide +kernel) (pa_cons (pv 1) pa_nil)) pa_nil)))))) pss_nil)
    (pss_one (ps_ret (pe_ifExp (pt_truth (pv 1) (by intro _; rfl)) (pe_op op_catT (pe_tup (pa_cons (pe_ix ix_tup (pv 0) pe_int (fun _ _ => rfl)) pa_nil)) (pe_callTy call_tuple_of rfl mt (by decide +kernel) (pa_cons (pv 1) pa_nil))) (pv 0)))), ?_⟩
  have hlu : ws.length = us.length := hw.len
  obtain ⟨a, ys, rfl, hs⟩ := tr_tag ht
  have go : ∀ tag : Str, tagOf t = tag → SqT K H a (.str tag :: ys) := fun tag e => by subst e; exact hs
  have leaf : us = [] → u = t → tIf (fun σ H Q => tVar 1 σ H fun x H' => ∃ k, TruV K x H' k ∧ Q k H') (tOp (rCatT K) (tTup (tCons (tOp (rIxT K) (tVar 0) (tC (.int 0))) tNil)) (tCB (fun xs H Q => ∃ p ys, xs = [V.ref p] ∧ ((SqL K H p ys ∧ ∀ l, H l = none → Q (.ref l) (upd H l (.tup ys))) ∨ (SqT K H p ys ∧ Q (.ref p) H))) (tCons (tVar 1) tNil))) (tVar 0) [some (.ref a), some (.ref l)] H Q := fun e1 e2 => by
    subst e1
    have : ws = [] := List.eq_nil_of_length_eq_zero hlu
    subst this
    refine ⟨_, rfl, _, .inl ⟨_, SqL.of hL, rfl⟩, ?_⟩
    exact ⟨_, rfl, q _ H (Same.refl H) (by rw [e2]; exact ht)⟩
  cases t with
  | var i =>
    refine ⟨_, rfl, a, _, 0, _, rfl, rfl, go "var" rfl, at0, rfl, _, rfl, iteEqF (by decide +kernel) ?_⟩
    exact leaf hn.1 hn.2
  | atom b xs =>
    cases b with
    | false =>
      refine ⟨_, rfl, a, _, 0, _, rfl, rfl, go "const" rfl, at0, rfl, _, rfl, iteEqF (by decide +kernel) ?_⟩
      exact leaf hn.1 hn.2
    | true =>
      refine ⟨_, rfl, a, _, 0, _, rfl, rfl, go "univ" rfl, at0, rfl, _, rfl, iteEqF (by decide +kernel) ?_⟩
      exact leaf hn.1 hn.2
  | node k ps =>
    obtain ⟨rfl, hne⟩ := hn
    by_cases hk : ∃ n, k = .hole n
    · obtain ⟨n, rfl⟩ := hk
      obtain ⟨a', b, vs, e, h1, h2, h3⟩ := tr_hole ht
      cases e
      refine ⟨_, rfl, a, _, 0, _, rfl, rfl, h1, at0, rfl, _, rfl, iteEqT (by decide +kernel) ⟨_, rfl, a, _, 1, _, rfl, rfl, h1, at1, _, rfl, l, ws, rfl, .inl ⟨SqL.of hL, fun p2 hp2 => ?_⟩⟩⟩
      have g2 := same_new hp2 (HO.tup ws)
      refine ⟨le_line (by simp), fun p3 hp3 => ?_⟩
      have g3 := g2.trans (same_new hp3 (HO.tup [V.str "hole", V.int n, V.ref p2]))
      have ne : p2 ≠ p3 := fun e => by subst e; rw [upd_same] at hp3; cases hp3
      exact q _ _ g3 (tr_mk_hole (SqT.of upd_same) (SqT.of (by rw [upd_ne ne]; exact upd_same)) (hw.ext (Te.of' g3)))
    · have hkn : ∀ n, k ≠ .hole n := fun n e => hk ⟨n, e⟩
      have hne := hne hkn
      have h0 : ¬ tagOf (.node k ps) = "hole" := tag_ne fun n qs e => hkn n (by injection e)
      refine ⟨_, rfl, a, _, 0, _, rfl, rfl, hs, at0, rfl, _, rfl, iteEqF h0 ?_⟩
      refine ⟨_, rfl, _, .inl ⟨_, SqL.of hL, rfl⟩, ?_⟩
      have hwe : (!ws.isEmpty) = true := by
        cases ws with
        | nil => exact (hne (List.eq_nil_of_length_eq_zero hlu.symm)).elim
        | cons _ _ => rfl
      rw [hwe]
      refine ⟨_, rfl, a, _, 0, _, rfl, rfl, hs, at0, le_line (by simp), fun p hp => ?_⟩
      have g1 := same_new hp (HO.tup [.str (tagOf (.node k ps))])
      refine ⟨_, rfl, l, ws, rfl, .inl ⟨SqL.of (g1 _ _ hL), fun p2 hp2 => ?_⟩⟩
      have g2 := g1.trans (same_new hp2 (HO.tup ws))
      have ne : p ≠ p2 := fun e => by subst e; rw [upd_same] at hp2; cases hp2
      refine ⟨p, p2, _, _, rfl, rfl, SqT.of (by rw [upd_ne ne]; exact upd_same), SqT.of upd_same, (by simp), le_line (by simp; omega), fun e => ?_, fun _ p3 hp3 => ?_⟩
      · subst e
        cases hwe
      · have g3 := g2.trans (same_new hp3 (HO.tup ([V.str (tagOf (.node k ps))] ++ ws)))
        exact q _ _ g3 (tr_mk_node hkn (SqT.of upd_same) (hw.ext (Te.of' g3)))
/-! ### numbers, count -/
def hdT : Tm → List Int
  | .node k _ => hd k
  | _ => []
theorem nums_parts (t : Tm) : nums t = hdT t ++ ((partsT t).map nums).flatten := by
  cases t with
  | var i => rw [nums_var]; rfl
  | atom u xs => rw [nums_atom]; rfl
  | node k ps => rw [nums_node]; rfl
theorem sz_parts (t : Tm) : sz t = 1 + ((partsT t).map sz).sum := by
  cases t with
  | var i => rw [sz_var]; rfl
  | atom u xs => rw [sz_atom]; rfl
  | node k ps => rw [sz_node, szL_eq]; rfl
theorem nums_len (t : Tm) : (nums t).length ≤ sz t := by
  refine Tm.ind (P := fun t => (nums t).length ≤ sz t) (fun i => by rw [nums_var]; simp) (fun u xs => by rw [nums_atom]; simp) (fun k ps ih => ?_) t
  rw [nums_node, sz_node, List.length_append]
  have h1 : (hd k).length ≤ 1 := by cases k <;> simp [hd]
  have h2 : ((ps.map nums).flatten).length ≤ szL ps := by
    clear h1
    induction ps with
    | nil => simp [szL]
    | cons p ps ih2 =>
      have a := ih p List.mem_cons_self
      have b := ih2 fun q hq => ih q (List.mem_cons_of_mem _ hq)
      simp only [List.map_cons, List.flatten_cons, List.length_append, szL]
      omega
  omega
theorem parts_dle {n : Nat} {t : Tm} (h : dle n t) : (partsT t).length ≤ 24 ∧ ∀ p ∈ partsT t, ∃ m, m < n ∧ dle m p := by
  cases t with
  | var i => exact ⟨Nat.zero_le _, fun p hp => by cases hp⟩
  | atom u xs => exact ⟨Nat.zero_le _, fun p hp => by cases hp⟩
  | node k ps =>
    cases n with
    | zero => exact h.elim
    | succ n => exact ⟨h.1.le, fun p hp => ⟨n, Nat.lt_succ_self n, h.2 p hp⟩⟩
theorem flat_take {ps : List Tm} (i : Nat) : (((ps.take i).map nums).flatten).length ≤ ((ps.map nums).flatten).length := by
  have : ps = ps.take i ++ ps.drop i := (List.take_append_drop i ps).symm
  have e : ((ps.map nums).flatten).length = (((ps.take i).map nums).flatten).length + (((ps.drop i).map nums).flatten).length := by
    rw [← List.length_append, ← List.flatten_append, ← List.map_append, List.take_append_drop]
  omega
theorem sz_part {t p : Tm} (h : p ∈ partsT t) : sz p ≤ sz t := by
  rw [sz_parts t]
  have : sz p ≤ ((partsT t).map sz).sum := by
    generalize partsT t = ps at h
    induction ps with
    | nil => cases h
    | cons q ps ih =>
      simp only [List.map_cons, List.sum_cons]
      rcases List.mem_cons.mp h with h | h
      · subst h; omega
      · have := ih h; omega
  omega
def spNums (K : PySem.W.Frag) (n : Nat) : Sp := fun vs H Q _ => ∃ v t m, vs = [v] ∧ m < n ∧ Tr K H v t ∧ dle m t ∧ sz t ≤ 1000000 ∧ ∀ p H', Same H H' → H' p = some (.lst ((nums t).map V.int)) → Q (.ref p) H'
theorem scNums : FnScope ["_law_term", "_law_out", "_law_part"] ["_law_term"] (defScope sNums) := ⟨rfl, rfl, rfl, by decide +kernel, rfl, by decide +kernel, by decide +kernel⟩
theorem ok_nums {f fb : Addr} {fd fdb : FuncData} (F : Fun K "_law_numbers" "_law_numbers" sNums f fd) (mf : mg "_law_numbers" = some (.ref f)) (bf : L2.Binds K fd ["_law_term"] []) (CB : Cl P w K mg base 1 "_law_bits" fb fdb ["_law_node_here"] (spParts K)) : ∀ n, Cl P w K mg base (n + 1) "_law_numbers" f fd ["_law_term"] (spNums K n)
  | 0 => by
    refine ⟨?_, mf, F.kp, bf⟩
    refine F.ok scNums (fun vs H Q E h => ?_) (fun cdv A outer s H vs Q E hr h => ?_)
    · obtain ⟨v, t, m, rfl, _⟩ := h; rfl
    · obtain ⟨v, t, m, rfl, h, _⟩ := h
      exact absurd h (Nat.not_lt_zero _)
  | n + 1 => by
    have ih := ok_nums F mf bf CB n
    refine ⟨?_, mf, F.kp, bf⟩
    refine F.ok scNums (fun vs H Q E h => ?_) (fun cdv A outer s H vs Q E hr h => ?_)
    · obtain ⟨v, t, m, rfl, _⟩ := h; rfl
    obtain ⟨v, t, m, rfl, hm, ht, hd, hz, q⟩ := h
    refine ⟨_, pss_cons (ps_set (i := 1) scNums.nd rfl (.inl rfl) (pe_ifExp (pt_cmpR op_eq (pe_ix ix_tup (pv 0) pe_int (fun _ _ => rfl)) pe_str (nomark _)) (pe_lst (pa_cons (pe_ix ix_tup (pv 0) pe_int (fun _ _ => rfl)) pa_nil)) (pe_lst pa_nil)))
      (pss_cons (ps_for PassesOwn.never rfl (pi_tup (pe_cl CB (hr.mono (by omega)) (pa_cons (pv 0) pa_nil))) (pg_name (i := 2) scNums.nd rfl (.inl rfl))
        (pss_one (ps_set (i := 1) scNums.nd rfl (.inl rfl) (pe_op op_cat (pv 1) (pe_cl ih hr (pa_cons (pv 2) pa_nil))))))
      (pss_one (ps_ret (pv 1)))), ?_⟩
    obtain ⟨hp24, hpd⟩ := parts_dle hd
    have go : ∀ l H1, Same H H1 → H1 l = some (.lst ((hdT t).map V.int)) → tSeq (tFor (iTup K (tCall (spParts K) [] E0 (tCons (tVar 0) tNil))) (gName 2) (tAsg (tOp rCat (tVar 1) (tCall (spNums K n) [] E0 (tCons (tVar 2) tNil))) (gName 1))) (tRet (tVar 1)) { nx := fun _ H' => Q .non H', rt := Q } [some v, some (.ref l), none] H1 := fun l H1 s1 h1 => by
      refine ⟨_, rfl, v, t, rfl, ht.ext (Te.of' s1), by omega, fun p H2 ws s2 h2 hws => ?_⟩
      refine ⟨p, rfl, ⟨ws, h2⟩, ?_⟩
      have hnl := nums_len t
      refine for_it (walk_tup (xs := ws)) (fun i σ H' => Same H2 H' ∧ ∃ l x2, σ = [some v, some (.ref l), x2] ∧ H' l = some (.lst ((hdT t ++ (((partsT t).take i).map nums).flatten).map V.int))) ?_ ?_ ?_ ?_
      · exact ⟨Same.refl _, l, _, rfl, by rw [s2 _ _ h1]; simp⟩
      · rintro i σ H' _ ⟨s3, _⟩
        exact sqT_same s3 h2
      · rintro i x σ H3 H4 hi ⟨s3, l, x2, rfl, hl⟩ ⟨rfl, hx⟩
        have hpi : i < (partsT t).length := by rw [← hws.len]; exact hi
        obtain ⟨y', hy', hty⟩ := hws.get (i := i) (t := (partsT t)[i]) (List.getElem?_eq_getElem hpi)
        rw [hx] at hy'
        cases hy'
        obtain ⟨m', hm', hd'⟩ := hpd _ (List.getElem_mem hpi)
        refine ⟨_, rfl, _, rfl, x, (partsT t)[i], m', rfl, by omega, hty.ext (Te.of' s3), hd', Nat.le_trans (sz_part (List.getElem_mem hpi)) hz, fun p5 H5 s5 h5 => ?_⟩
        have e1 : hdT t ++ (((partsT t).take (i + 1)).map nums).flatten = (hdT t ++ (((partsT t).take i).map nums).flatten) ++ nums (partsT t)[i] := by
          rw [List.take_add_one, List.getElem?_eq_getElem hpi, List.map_append, List.flatten_append, ← List.append_assoc]
          simp only [Option.toList, List.map_cons, List.map_nil, List.flatten_cons, List.flatten_nil, List.append_nil]
        have hlen : (hdT t ++ (((partsT t).take (i + 1)).map nums).flatten).length ≤ 1000000 := by
          have z := flat_take (ps := partsT t) (i + 1)
          rw [nums_parts t] at hnl
          rw [List.length_append] at hnl ⊢
          omega
        refine ⟨l, p5, _, _, rfl, rfl, s5 _ _ hl, h5, ?_, fun g hg => ?_⟩
        · rw [e1, List.length_append] at hlen
          rw [List.length_map, List.length_map]
          exact Nat.le_trans hlen (by decide)
        · refine ⟨(s3.trans s5).trans (same_new hg _), g, _, rfl, ?_⟩
          rw [upd_same, e1, ← List.map_append]
      · rintro σ H3 ⟨s3, l, x2, rfl, hl⟩
        refine ⟨_, rfl, q l H3 ((s1.trans s2).trans s3) ?_⟩
        rw [hl, nums_parts t, List.take_of_length_le (by rw [← hws.len]; exact Nat.le_refl _)]
    obtain ⟨a, ys, rfl, hs⟩ := tr_tag ht
    by_cases hk : ∃ n ps, t = .node (.hole n) ps
    · obtain ⟨x, ps, rfl⟩ := hk
      obtain ⟨a', b, vs, e, h1, h2, h3⟩ := tr_hole ht
      cases e
      refine ⟨_, rfl, a, _, 0, _, rfl, rfl, h1, at0, rfl, _, rfl, iteEqT (by decide +kernel) ⟨_, rfl, a, _, 1, _, rfl, rfl, h1, at1, le_line (by simp), fun g hg => ?_⟩⟩
      exact go g _ (same_new hg _) upd_same
    · have h0 : ¬ tagOf t = "hole" := tag_ne fun n qs e => hk ⟨n, qs, e⟩
      have he : hdT t = [] := by
        cases t with
        | node k ps =>
          cases k with
          | hole n => exact (hk ⟨n, ps, rfl⟩).elim
          | _ => rfl
        | _ => rfl
      refine ⟨_, rfl, a, _, 0, _, rfl, rfl, hs, at0, rfl, _, rfl, iteEqF h0 ⟨le_line (by simp), fun g hg => ?_⟩⟩
      exact go g _ (same_new hg _) (by rw [he]; exact upd_same)
end
end KP

/-! count, weight -/
namespace KP
open PySem PyProof.Rows L2 LamX NdefX KL KM KD
section
variable {P : Program} {w : World} {K : PySem.W.Frag} {mg : Str → Option Value} {base : Heap} {T : List (Addr × Str)}
/-! ### weight -/
theorem tag_nev {t : Tm} (h : ∀ i, t ≠ .var i) : ¬ tagOf t = "var" := by
  cases t with
  | var i => exact (h i rfl).elim
  | atom b xs =>
    cases b
    · exact (show ¬ ("const" : Str) = "var" by decide +kernel)
    · exact (show ¬ ("univ" : Str) = "var" by decide +kernel)
  | node k ps =>
    cases k with
    | hole n => exact (show ¬ ("hole" : Str) = "var" by decide +kernel)
    | app => exact (show ¬ ("app" : Str) = "var" by decide +kernel)
    | pi => exact (show ¬ ("pi" : Str) = "var" by decide +kernel)
    | fn => exact (show ¬ ("fun" : Str) = "var" by decide +kernel)
    | lt => exact (show ¬ ("let" : Str) = "var" by decide +kernel)
theorem repl1 (b : Nat) : (List.replicate ((b : Nat) : Int).toNat [V.int 1]).flatten = (List.replicate b (1 : Int)).map V.int := by
  rw [Int.toNat_natCast]
  induction b with
  | zero => rfl
  | succ b ih => rw [List.replicate_succ, List.flatten_cons, ih]; rfl
end
end KP

/-! show -/
namespace KP
open PySem PyProof.Rows L2 LamX NdefX KL KM KD
section
variable {P : Program} {w : World} {K : PySem.W.Frag} {mg : Str → Option Value} {base : Heap} {T : List (Addr × Str)}
mutual
inductive ER (K : PySem.W.Frag) (H : Hp) (N : Nat) : V → Ent → Prop
  | lvl (l : Nat) : ER K H N (.int (l : Nat)) (.lvl l)
  | clo {p a : Addr} {v : V} {t : Tm} {vs : List V} {env : List Ent} : H p = some (.tup [v, .ref a]) → Tr K H v t → (∃ m, dle m t) → H a = some (.lst vs) → env.length + N ≤ 900 → ERs K H N vs env → ER K H N (.ref p) (.clo t env)
inductive ERs (K : PySem.W.Frag) (H : Hp) (N : Nat) : List V → List Ent → Prop
  | nil : ERs K H N [] []
  | cons {v : V} {vs : List V} {e : Ent} {es : List Ent} : ER K H N v e → ERs K H N vs es → ERs K H N (v :: vs) (e :: es)
end
section
variable {H H' : Hp} {N M : Nat}
mutual
theorem ER.ext (s : Same H H') (h : M ≤ N) : ∀ {v : V} {e : Ent}, ER K H N v e → ER K H' M v e
  | _, _, .lvl l => .lvl l
  | _, _, .clo h1 h2 h3 h4 h5 h6 => .clo (s _ _ h1) (h2.ext (Te.of' s)) h3 (s _ _ h4) (by omega) (ERs.ext s h h6)
theorem ERs.ext (s : Same H H') (h : M ≤ N) : ∀ {vs : List V} {es : List Ent}, ERs K H N vs es → ERs K H' M vs es
  | _, _, .nil => .nil
  | _, _, .cons h1 h2 => .cons (ER.ext s h h1) (ERs.ext s h h2)
end
theorem ERs.len : ∀ {vs : List V} {es : List Ent}, ERs K H N vs es → vs.length = es.length
  | _, _, .nil => rfl
  | _, _, .cons _ h2 => by simp [ERs.len h2]
theorem ERs.get : ∀ {vs : List V} {es : List Ent} {i : Nat} {e : Ent}, ERs K H N vs es → es[i]? = some e → ∃ v, vs[i]? = some v ∧ ER K H N v e
  | _, _, _, _, .nil, h => by simp at h
  | _, _, 0, _, .cons h1 _, h => by simp at h; subst h; exact ⟨_, rfl, h1⟩
  | _, _, i + 1, _, .cons _ h2, h => by
    obtain ⟨v, h3, h4⟩ := ERs.get (i := i) h2 (by simpa using h)
    exact ⟨v, by simpa using h3, h4⟩
theorem ERs.snoc : ∀ {vs : List V} {es : List Ent} {v : V} {e : Ent}, ERs K H N vs es → ER K H N v e → ERs K H N (vs ++ [v]) (es ++ [e])
  | _, _, _, _, .nil, h => .cons h .nil
  | _, _, _, _, .cons h1 h2, h => .cons h1 (ERs.snoc h2 h)
end
theorem ers_of {H : Hp} {N : Nat} : ∀ {vs : List V} {es : List Ent}, vs.length = es.length → (∀ (j : Nat) e, es[j]? = some e → ∃ v, vs[j]? = some v ∧ ER K H N v e) → ERs K H N vs es
  | [], [], _, _ => .nil
  | v :: vs, e :: es, hl, h => by
    obtain ⟨v', h1, h2⟩ := h 0 e rfl
    cases h1
    exact .cons h2 (ers_of (by simpa using hl) fun j e' he => by
      obtain ⟨v', h3, h4⟩ := h (j + 1) e' (by simpa using he)
      exact ⟨v', by simpa using h3, h4⟩)
def spShow (K : PySem.W.Frag) (n : Nat) : Sp := fun vs H Q _ => ∃ (v : V) (e D : Addr) (t : Tm) (xs : List V) (env : List Ent) (φ : Fl) (deep : Nat) (u : Tm), vs = [v, .ref e, .int (deep : Nat), .ref D] ∧ Tr K H v t ∧ (∃ j, dle j t) ∧ H e = some (.lst xs) ∧ ERs K H n xs env ∧ env.length + n ≤ 900 ∧ n ≤ 500 ∧
  Sh φ n t env deep u ∧ FlAt K H D φ ∧ (∀ k ar b, φ k = some (ar, b) → ∃ j, dle j b) ∧ ∀ v' H', Same H H' → Tr K H' v' u → Q v' H'
abbrev nShow : List Str := ["_law_term", "_law_env", "_law_deep", "_law_filling", "_law_entry", "_law_bits_here", "_law_k", "_law_part", "_law_inner"]
theorem scShow : FnScope nShow ["_law_term", "_law_env", "_law_deep", "_law_filling"] (defScope sShow) := ⟨rfl, rfl, rfl, by decide +kernel, rfl, by decide +kernel, by decide +kernel⟩
theorem ok_show {f fb fu fn : Addr} {fd fdb fdu fdn : FuncData} (F : Fun K "_law_show" "_law_show" sShow f fd) (mf : mg "_law_show" = some (.ref f)) (bf : L2.Binds K fd ["_law_term", "_law_env", "_law_deep", "_law_filling"] []) (ml : mg "len" = none) (me : mg "enumerate" = none) (mi : mg "isinstance" = none) (mj : mg "int" = none)
    (CB : Cl P w K mg base 1 "_law_bits" fb fdb ["_law_node_here"] (spParts K)) (CU : Cl P w K mg base 1 "_law_under" fu fdu ["_law_node_here", "_law_k"] (spLUnd K)) (CN : Cl P w K mg base 1 "_law_node" fn fdn ["_law_node_here", "_law_bits_here"] (spNode K)) : ∀ n, Cl P w K mg base (n + 1) "_law_show" f fd ["_law_term", "_law_env", "_law_deep", "_law_filling"] (spShow K n)
  | 0 => by
    refine ⟨?_, mf, F.kp, bf⟩
    refine F.ok scShow (fun vs H Q E h => ?_) (fun cdv A outer s H vs Q E hr h => ?_)
    · obtain ⟨v, e, D, t, xs, env, φ, deep, u, rfl, _⟩ := h; rfl
    · obtain ⟨v, e, D, t, xs, env, φ, deep, u, rfl, _, _, _, _, _, _, h, _⟩ := h
      cases h
  | n + 1 => by
    have ih := ok_show F mf bf ml me mi mj CB CU CN n
    refine ⟨?_, mf, F.kp, bf⟩
    refine F.ok scShow (fun vs H Q E h => ?_) (fun cdv A outer s H vs Q E hr h => ?_)
    · obtain ⟨v, e, D, t, xs, env, φ, deep, u, rfl, _⟩ := h; rfl
    obtain ⟨v, e, D, t, xs, env, φ, deep, u, rfl, ht, ⟨jd, hd⟩, he, hE, hl, hn5, hS, hF, hφ, q⟩ := h
    have hu := hu_of hr
    have hr1 := hr.mono (show 1 ≤ n + 1 by omega)
    refine ⟨_, pss_cons (ps_if (pt_cmpR op_eq (pe_ix ix_tup (pv 0) pe_int (fun _ _ => rfl)) pe_str (nomark _))
        (pss_cons (ps_set (i := 4) scShow.nd rfl (.inl rfl) (pe_ix ix_list (pv 1) (pe_op op_sub (pe_op op_sub (pe_callB call_len_seq rfl ml PySem.boot_len (pa_cons (pv 1) pa_nil)) pe_int) (pe_ix ix_tup (pv 0) pe_int (fun _ _ => rfl))) (fun _ _ => rfl)))
        (pss_cons (ps_if (pt_truth (pe_callB call_isi rfl mi (by decide +kernel) (pa_cons (pv 4) (pa_cons (pe_bltn (x := "int") (v := .ty "int") rfl mj (by decide +kernel) rfl) pa_nil))) (by intro _; rfl)) (pss_one (ps_ret (pe_tup (pa_cons pe_str (pa_cons (pe_op op_sub (pe_op op_sub (pv 2) pe_int) (pv 4)) pa_nil))))) pss_nil)
        (pss_one (ps_ret (pe_cl ih hr (pa_cons (pe_ix ix_tup (pv 4) pe_int (fun _ _ => rfl)) (pa_cons (pe_ix ix_tup (pv 4) pe_int (fun _ _ => rfl)) (pa_cons (pv 2) (pa_cons (pv 3) pa_nil))))))))) pss_nil)
      (Evl.pss_cut (ps_if (PW.pt (pw_and (pt_cmpR op_eq (pe_ix ix_tup (pv 0) pe_int (fun _ _ => rfl)) pe_str (nomark _)) (pw_and1 (pt_cmp (pc_din hu (pe_ix ix_tup (pv 0) pe_int (fun _ _ => rfl)) (pv 3))))))
        (pss_one (ps_ret (pe_cl ih hr (pa_cons (pe_ix ix_tup (pe_dget hu (pv 3) (pe_ix ix_tup (pv 0) pe_int (fun _ _ => rfl)) (fun _ _ => rfl)) pe_int (fun _ _ => rfl)) (pa_cons
          (pe_lc (own := [("_law_part", 7)]) (g := gName 7) (tt := tYes) rfl scShow.nd (pi_tup (pe_ix ix_tup (pv 0) pe_int (fun _ _ => rfl))) (blkOk_by (N := nShow) (sc := defScope sShow) (by decide +kernel)) (fun _ _ _ _ _ => pg_name (i := 7) scShow.nd rfl (.inl rfl)) (fun _ _ _ _ _ => pts_nil)
            (fun _ _ _ _ _ => pe_tup (pa_cons (pv 7) (pa_cons (pv 1) pa_nil)))) (pa_cons (pv 2) (pa_cons (pv 3) pa_nil))))))) pss_nil)
      (pss_cons (ps_set (i := 5) scShow.nd rfl (.inl rfl) (pe_lst pa_nil))
      (pss_cons (ps_for PassesOwn.never rfl (pi_enumT rfl me (pa_cons (pe_cl CB hr1 (pa_cons (pv 0) pa_nil)) pa_nil)) (pg_tup rfl (pgs_cons (pg_name (i := 6) scShow.nd rfl (.inl rfl)) (pgs_cons (pg_name (i := 7) scShow.nd rfl (.inl rfl)) pgs_nil)))
        (Evl.pss_cut (ps_set (i := 8) scShow.nd rfl (.inl rfl) (pe_ifExp (pt_truth (pe_cl CU hr1 (pa_cons (pv 0) (pa_cons (pv 6) pa_nil))) (by intro _; rfl)) (pe_op op_cat (pv 1) (pe_lst (pa_cons (pv 2) pa_nil))) (pv 1)))
        (pss_one (ps_expr (pe_bm PySem.F.plainAttrs_list PySem.F.slot_list_append PySem.F.type_list_append mt_append (pv 5) (pa_cons (pe_cl ih hr (pa_cons (pv 7) (pa_cons (pv 8) (pa_cons (pe_op op_add (pv 2) (pe_cl CU hr1 (pa_cons (pv 0) (pa_cons (pv 6) pa_nil)))) (pa_cons (pv 3) pa_nil))))) pa_nil))))))
      (pss_one (ps_ret (pe_cl CN hr1 (pa_cons (pv 0) (pa_cons (pv 5) pa_nil)))))))), ?_⟩
    by_cases hv : ∃ i, t = .var i
    · obtain ⟨i, rfl⟩ := hv
      obtain ⟨a, rfl, hs⟩ := tr_var ht
      refine ⟨_, rfl, a, _, 0, _, rfl, rfl, hs, at0, rfl, _, rfl, iteEqT (by decide +kernel) ?_⟩
      have hlx := hE.len
      cases hS with
      | @lvl _ _ _ l _ h1 h2 h3 =>
        obtain ⟨x, hx, rx⟩ := hE.get h2
        cases rx
        have hidx : ((xs.length : Nat) : Int) - 1 - ((i : Nat) : Int) = ((env.length - 1 - i : Nat) : Int) := by omega
        refine ⟨_, rfl, _, rfl, e, _, rfl, .inl (SqL.of he), _, _, rfl, rfl, _, rfl, a, _, 1, _, rfl, rfl, hs, at1, _, _, rfl, rfl, e, _, _, V.int (l : Nat), rfl, rfl, SqL.of he, (by rw [hidx]; exact atI_nat hx), ?_⟩
        refine ⟨_, rfl, _, _, _, _, true, rfl, .ty _, .base (.int _), rfl, _, rfl, ?_⟩
        refine iteT ⟨_, rfl, _, _, rfl, rfl, _, rfl, _, _, rfl, rfl, le_line (by simp), fun g hg => ?_⟩
        have ec : ((deep : Nat) : Int) - 1 - ((l : Nat) : Int) = ((deep - 1 - l : Nat) : Int) := by omega
        exact q _ _ (same_new hg _) (tr_mk_var (SqT.of (by rw [← ec, upd_same])))
      | @clo _ _ _ _ env' t' _ h1 h2 h3 =>
        obtain ⟨x, hx, rx⟩ := hE.get h2
        cases rx with
        | @clo p a' v' _ vs' _ r1 r2 r3 r4 r5 r6 =>
          have hidx : ((xs.length : Nat) : Int) - 1 - ((i : Nat) : Int) = ((env.length - 1 - i : Nat) : Int) := by omega
          refine ⟨_, rfl, _, rfl, e, _, rfl, .inl (SqL.of he), _, _, rfl, rfl, _, rfl, a, _, 1, _, rfl, rfl, hs, at1, _, _, rfl, rfl, e, _, _, V.ref p, rfl, rfl, SqL.of he, (by rw [hidx]; exact atI_nat hx), ?_⟩
          refine ⟨_, rfl, _, _, _, _, false, rfl, .ty _, .base (.tup r1), rfl, _, rfl, ?_⟩
          refine iteF ⟨_, rfl, p, _, 0, _, rfl, rfl, SqT.of r1, at0, _, rfl, p, _, 1, _, rfl, rfl, SqT.of r1, at1, _, rfl, _, rfl, ?_⟩
          exact ⟨v', a', D, t', vs', env', φ, deep, u, rfl, r2, r3, r4, r6.ext (Same.refl H) (by omega), by omega, by omega, h3, hF, hφ, q⟩
    obtain ⟨a, ys, rfl, hs⟩ := tr_tag ht
    have h0 : ¬ tagOf t = "var" := tag_nev fun i e => hv ⟨i, e⟩
    refine ⟨_, rfl, a, _, 0, _, rfl, rfl, hs, at0, rfl, _, rfl, iteEqF h0 ?_⟩
    obtain ⟨hp24, hpd⟩ := parts_dle hd
    refine ⟨fun σ H' => σ = [some (.ref a), some (.ref e), some (.int (deep : Nat)), some (.ref D), none, none, none, none, none] ∧ H = H' ∧ ∃ us, us.length = (partsT t).length ∧ nodeR t us u ∧
      ∀ j p u', (partsT t)[j]? = some p → us[j]? = some u' → ∃ k ps, t = .node k ps ∧ arOk k ps.length ∧ Sh φ n p (if bnd k j = 1 then env ++ [.lvl deep] else env) (deep + bnd k j) u', ?_, ?_⟩
    · cases hS with
      | lvl h1 h2 h3 => exact (hv ⟨_, rfl⟩).elim
      | clo h1 h2 h3 => exact (hv ⟨_, rfl⟩).elim
      | atom =>
        refine ⟨_, rfl, a, _, 0, _, rfl, rfl, hs, at0, rfl, _, rfl, iteEqF (tag_ne fun x qs e => by cases e) ?_⟩
        exact ⟨rfl, rfl, [], rfl, ⟨rfl, rfl⟩, fun j p u' hp => by simp [partsT] at hp⟩
      | @miss _ _ _ k ps us h1 h2 h3 =>
        have har : arOk k ps.length := by
          cases jd with
          | zero => exact hd.elim
          | succ jd => exact hd.1
        have mid : ∃ us', us'.length = (partsT (.node k ps)).length ∧ nodeR (.node k ps) us' (.node k us) ∧
            ∀ j p u', (partsT (.node k ps))[j]? = some p → us'[j]? = some u' → ∃ k' ps', Tm.node k ps = .node k' ps' ∧ arOk k' ps'.length ∧ Sh φ n p (if bnd k' j = 1 then env ++ [.lvl deep] else env) (deep + bnd k' j) u' := by
          refine ⟨us, h2, ⟨rfl, fun hk e => ?_⟩, fun j p u' hp hu' => ⟨k, ps, rfl, har, h3 j p u' hp hu'⟩⟩
          subst e
          have hl0 : ps.length = 0 := h2.symm
          rw [hl0] at har
          cases k with
          | hole x => exact hk x rfl
          | app => cases har
          | pi => cases har
          | fn => cases har
          | lt => cases har
        by_cases hk : ∃ x, k = .hole x
        · obtain ⟨x, rfl⟩ := hk
          obtain ⟨a', b', vs, e1, k1, k2, k3⟩ := tr_hole ht
          cases e1
          obtain ⟨o, ho, hno, hyes⟩ := hF.get x
          obtain rfl := hno h1
          refine ⟨_, rfl, a, _, 0, _, rfl, rfl, k1, at0, rfl, _, rfl, iteEqT (by decide +kernel) ?_⟩
          refine ⟨_, rfl, a, _, 1, _, rfl, rfl, k1, at1, _, rfl, D, _, rfl, ho, _, rfl, ?_⟩
          exact ⟨rfl, rfl, mid⟩
        · refine ⟨_, rfl, a, _, 0, _, rfl, rfl, hs, at0, rfl, _, rfl, iteEqF (tag_ne fun x qs e => hk ⟨x, by injection e⟩) ?_⟩
          exact ⟨rfl, rfl, mid⟩
      | @hit _ _ ar _ k ps b _ h1 h2 =>
        obtain ⟨x, rfl, e2⟩ := hit_hole h1
        obtain ⟨a', b', vs, e1, k1, k2, k3⟩ := tr_hole ht
        cases e1
        obtain ⟨o, ho, hno, hyes⟩ := hF.get x
        obtain ⟨va, vb, rfl, j1, j2⟩ := hyes ar b e2
        have hp24 : ps.length ≤ 24 := hp24
        refine ⟨_, rfl, a, _, 0, _, rfl, rfl, k1, at0, rfl, _, rfl, iteEqT (by decide +kernel) ?_⟩
        refine ⟨_, rfl, a, _, 1, _, rfl, rfl, k1, at1, _, rfl, D, _, rfl, ho, _, rfl, ?_⟩
        refine ⟨_, rfl, _, rfl, a, _, 1, _, rfl, rfl, k1, at1, D, _, rfl, ho, va, _, 1, _, rfl, rfl, j1, at1, ?_⟩
        refine ⟨_, rfl, a, _, 2, _, rfl, rfl, k1, at2, b', rfl, ⟨vs, k2⟩, fun Dl hDl => ?_⟩
        have nDe : ∀ {g : Addr} {u : HO}, H g = some u → g ≠ Dl := fun hg e => by subst e; rw [hDl] at hg; cases hg
        refine lc_tup (xs := vs) (fun i H' => Same H H' ∧ ∃ acc, H' Dl = some (.lst acc) ∧ acc.length = i ∧ ∀ (j : Nat) p, j < i → ps[j]? = some p → ∃ g v, acc[j]? = some (.ref g) ∧ H' g = some (.tup [v, .ref e]) ∧ Tr K H' v p) ?_ ?_ ?_ ?_
        · exact ⟨same_new hDl _, [], upd_same, rfl, fun j p hj => by omega⟩
        · rintro i H' _ ⟨s3, _⟩
          exact sqT_same s3 k2
        · rintro i x' H3 hx ⟨s3, acc, hacc, hli, hall⟩
          have hpi : i < ps.length := by rw [← k3.len]; exact (List.getElem?_eq_some_iff.mp hx).1
          obtain ⟨y', hy', hty⟩ := k3.get (i := i) (t := ps[i]) (List.getElem?_eq_getElem hpi)
          rw [hx] at hy'
          cases hy'
          refine ⟨rfl, _, rfl, _, rfl, le_line (by simp), fun g hg => ?_⟩
          have s4 := same_new hg (HO.tup [x', .ref e])
          have hacc4 := s4 _ _ hacc
          have t6 : Te _ _ := Te.lst (o := HO.lst (acc ++ [V.ref g])) hacc4
          have ng : g ≠ Dl := fun e => by subst e; rw [hacc] at hg; cases hg
          refine ⟨acc, hacc4, small1000 (by omega), same_mut (s3.trans s4) hDl, acc ++ [V.ref g], upd_same, by simp [hli], fun j p hj hp => ?_⟩
          by_cases hji : j = i
          · subst hji
            rw [List.getElem?_eq_getElem hpi] at hp
            cases hp
            refine ⟨g, x', by rw [List.getElem?_append_right (by omega), hli]; simp, by rw [upd_ne ng, upd_same], hty.ext ((Te.of' (s3.trans s4)).trans t6)⟩
          · obtain ⟨g', v', z1, z2, z3⟩ := hall j p (by omega) hp
            have ng' : g' ≠ Dl := fun e => by subst e; rw [hacc] at z2; cases z2
            refine ⟨g', v', by rw [List.getElem?_append_left (by omega)]; exact z1, by rw [upd_ne ng']; exact s4 _ _ z2, z3.ext ((Te.of' s4).trans t6)⟩
        · rintro H3 ⟨s3, acc, hacc, hli, hall⟩
          have hvl : vs.length = ps.length := k3.len
          refine ⟨_, rfl, _, rfl, vb, Dl, D, b, acc, ps.map fun p => .clo p env, φ, deep, u, rfl, j2.ext (Te.of' s3), hφ _ _ _ e2, hacc, ?_, ?_, by omega, h2, hF.re (Re.of (ExtN.of s3)), hφ, fun v' H' s' h' => q v' H' (s3.trans s') h'⟩
          · refine ers_of (by rw [hli, List.length_map, hvl]) fun j e' he' => ?_
            rw [List.getElem?_map] at he'
            cases hp : ps[j]? with
            | none => rw [hp] at he'; cases he'
            | some p =>
              rw [hp] at he'
              simp only [Option.map_some, Option.some.injEq] at he'
              subst he'
              have hjl := (List.getElem?_eq_some_iff.mp hp).1
              obtain ⟨g, v', z1, z2, z3⟩ := hall j p (by omega) hp
              cases jd with
              | zero => exact hd.elim
              | succ jd => exact ⟨_, z1, .clo z2 z3 ⟨jd, hd.2 p (List.mem_of_getElem? hp)⟩ (s3 _ _ he) (by omega) (hE.ext s3 (by omega))⟩
          · rw [List.length_map]; omega
    · rintro σ _ ⟨rfl, rfl, us, hul, hnr, hkid⟩
      refine ⟨le_line (by simp), fun Bl hBl => ?_⟩
      have s1 := same_new hBl (HO.lst [])
      refine ⟨_, rfl, _, t, rfl, ht.ext (Te.of' s1), by omega, fun p H2 ws s2 h2 hws => ?_⟩
      refine ⟨p, ws, rfl, h2, ?_⟩
      refine for_it (walk_enumT (xs := ws)) (fun i σ H' => ∃ x6 x7 x8 acc, σ = [some (.ref a), some (.ref e), some (.int (deep : Nat)), some (.ref D), none, some (.ref Bl), x6, x7, x8] ∧ Same H H' ∧ SqT K H' p ws ∧ Ts K H' ws (partsT t) ∧ H' Bl = some (.lst acc) ∧ Ts K H' acc (us.take i)) ?_ ?_ ?_ ?_
      · exact ⟨_, _, _, [], rfl, s1.trans s2, h2, hws, s2 _ _ upd_same, .nil⟩
      · rintro i σ H' _ ⟨_, _, _, _, _, _, h3, _⟩
        exact h3
      · rintro i x σ H3 H4 hi ⟨x6, x7, x8, acc, rfl, s3, h3, hws3, hB3, hts⟩ ⟨A1, x', y, rfl, hA1, rfl, ex, hy⟩
        cases ex
        have hpi : i < (partsT t).length := by rw [← hws.len]; exact hi
        obtain ⟨y', hy', hty⟩ := hws3.get (i := i) (t := (partsT t)[i]) (List.getElem?_eq_getElem hpi)
        have hy : ws[i]? = some y := hy
        rw [hy] at hy'
        cases hy'
        have hui : i < us.length := by omega
        obtain ⟨k, ps, rfl, har, hsh⟩ := hkid i _ us[i] (List.getElem?_eq_getElem hpi) (List.getElem?_eq_getElem hui)
        obtain ⟨mj, _, hdj⟩ := hpd _ (List.getElem_mem hpi)
        have s4 := same_new hA1 (HO.tup [.int (i : Nat), y])
        have hb := bnd_le k i
        refine ⟨A1, _, rfl, SqT.of upd_same, rfl, _, _, rfl, _, _, rfl, rfl, ?_⟩
        refine ⟨fun σ H' => ∃ el xs', σ = [some (.ref a), some (.ref e), some (.int (deep : Nat)), some (.ref D), none, some (.ref Bl), some (.int (i : Nat)), some y, some (.ref el)] ∧ Same (upd H3 A1 (.tup [.int (i : Nat), y])) H' ∧ H' el = some (.lst xs') ∧ ERs K H' n xs' (if bnd k i = 1 then env ++ [.lvl deep] else env), ?_, ?_⟩
        · refine ⟨_, rfl, _, rfl, _, k, ps, i, rfl, ht.ext (Te.of' (s3.trans s4)), har, fun H5 s5 => ?_⟩
          refine ⟨_, rfl, ?_⟩
          have he5 := s5 _ _ (s4 _ _ (s3 _ _ he))
          have hE5 := hE.ext ((s3.trans s4).trans s5) (show n ≤ n + 1 by omega)
          by_cases hb1 : bnd k i = 1
          · rw [if_pos hb1]
            have : (((bnd k i : Nat) : Int) != 0) = true := by rw [hb1]; rfl
            rw [this]
            refine iteT ⟨_, rfl, _, rfl, le_line (by simp), fun g hg => ?_⟩
            have s6 := same_new hg (HO.lst [V.int (deep : Nat)])
            refine ⟨e, g, _, _, rfl, rfl, s6 _ _ he5, upd_same, ?_, fun g2 hg2 => ?_⟩
            · have := hE.len
              exact le_line (by simp; omega)
            · have s7 := same_new hg2 (HO.lst (xs ++ [V.int (deep : Nat)]))
              exact ⟨g2, _, rfl, (s5.trans s6).trans s7, upd_same, (hE5.ext (s6.trans s7) (Nat.le_refl n)).snoc (.lvl deep)⟩
          · rw [if_neg hb1]
            have hb0 : bnd k i = 0 := by omega
            have : (((bnd k i : Nat) : Int) != 0) = false := by rw [hb0]; rfl
            rw [this]
            exact iteF ⟨_, rfl, e, xs, rfl, s5, he5, hE5⟩
        · rintro σ H5 ⟨el, xs', rfl, s5, hel, hE5⟩
          have hB5 := s5 _ _ (s4 _ _ hB3)
          have sA := (s3.trans s4).trans s5
          refine ⟨_, rfl, .inl ⟨rfl, _, SqL.of hB5⟩, _, rfl, _, rfl, _, rfl, _, rfl, _, rfl, _, k, ps, i, rfl, ht.ext (Te.of' sA), har, fun H6 s6 => ?_⟩
          refine ⟨_, _, rfl, rfl, _, rfl, y, el, D, ps[i], xs', (if bnd k i = 1 then env ++ [.lvl deep] else env), φ, deep + bnd k i, us[i], ?_, hty.ext (Te.of' ((s4.trans s5).trans s6)), ⟨mj, hdj⟩, s6 _ _ hel, hE5.ext s6 (Nat.le_refl n), ?_, by omega, hsh, hF.re (Re.of (ExtN.of (sA.trans s6))), hφ, fun v' H7 s7 h7 => ?_⟩
          · show [y, V.ref el, V.int ((deep : Int) + ((bnd k i : Nat) : Int)), V.ref D] = [y, V.ref el, V.int ((deep + bnd k i : Nat) : Int), V.ref D]
            rw [Int.natCast_add]
          · split
            · rw [List.length_append]; show env.length + 1 + n ≤ 900; omega
            · omega
          · have hB7 := s7 _ _ (s6 _ _ hB5)
            have t8 : Te H7 (upd H7 Bl (.lst (acc ++ [v']))) := Te.lst hB7
            have tA := Te.of' (((s4.trans s5).trans s6).trans s7)
            have hal : acc.length ≤ 100 := by rw [hts.len, List.length_take]; omega
            refine ⟨Bl, acc, v', rfl, rfl, hB7, small1000 (by omega), _, _, _, acc ++ [v'], rfl, same_mut ((sA.trans s6).trans s7) hBl, t8.seq (tA.seq h3), (hws3.ext tA).ext t8, upd_same, ?_⟩
            have e1 : us.take (i + 1) = us.take i ++ [us[i]] := by rw [List.take_add_one, List.getElem?_eq_getElem hui]; rfl
            rw [e1]
            exact ((hts.ext tA).ext t8).snoc (h7.ext t8)
      · rintro σ H3 ⟨x6, x7, x8, acc, rfl, s3, h3, hws3, hB3, hts⟩
        rw [List.take_of_length_le (by rw [hul, ← hws.len]; exact Nat.le_refl _)] at hts
        refine ⟨_, rfl, _, rfl, _, Bl, acc, t, us, u, rfl, ht.ext (Te.of' s3), hB3, hts, by omega, hnr, fun v' H' s' h' => q v' H' (s3.trans s') h'⟩
/-! ### done -/
def spDone (K : PySem.W.Frag) (n : Nat) : Sp := fun vs H Q _ => ∃ (v : V) (D : Addr) (t : Tm) (wd : Nat) (φ : Fl) (m : Nat), vs = [v, .int (wd : Nat), .ref D] ∧ Tr K H v t ∧ (∃ j, dle j t) ∧ wd + n ≤ 900 ∧ n ≤ 500 ∧ wf φ m wd t ∧ cst φ m t n ∧ FlAt K H D φ ∧ (∀ k ar b, φ k = some (ar, b) → ∃ j, dle j b) ∧
  ∀ v' H', Same H H' → Tr K H' v' (fillN φ m t) → Q v' H'
theorem scDone : FnScope ["_law_term", "_law_wide", "_law_filling"] ["_law_term", "_law_wide", "_law_filling"] (defScope sDone) := ⟨rfl, rfl, rfl, by decide +kernel, rfl, by decide +kernel, by decide +kernel⟩
theorem ok_done {n : Nat} {f fs : Addr} {fd fds : FuncData} (F : Fun K "_law_done" "_law_done" sDone f fd) (ml : mg "list" = none) (mr : mg "range" = none)
    (CS : Cl P w K mg base (n + 1) "_law_show" fs fds ["_law_term", "_law_env", "_law_deep", "_law_filling"] (spShow K n)) : FnOk P w K mg base CX0 (n + 2) f fd ["_law_term", "_law_wide", "_law_filling"] (spDone K n) := by
  refine F.ok scDone (fun vs H Q E h => ?_) (fun cdv A outer s H vs Q E hr h => ?_)
  · obtain ⟨v, D, t, wd, φ, m, rfl, _⟩ := h; rfl
  obtain ⟨v, D, t, wd, φ, m, rfl, ht, hd, hl, hn, hw, hc, hF, hφ, q⟩ := h
  refine ⟨_, pss_one (ps_ret (pe_cl CS hr (pa_cons (pv 0) (pa_cons (pe_listRg rfl rfl ml (prg_1 rfl mr (pv 1))) (pa_cons (pv 1) (pa_cons (pv 2) pa_nil)))))), ?_⟩
  refine ⟨_, rfl, _, rfl, _, rfl, RgOk.of_le (Int.le_refl _) (by omega) (by omega) (by omega), fun g hg => ?_⟩
  have s1 := same_new hg (HO.lst (rgV 0 wd))
  refine ⟨_, rfl, _, rfl, v, g, D, t, rgV 0 wd, (List.range wd).map .lvl, φ, wd, fillN φ m t, rfl, ht.ext (Te.of' s1), hd, upd_same, ?_, by simp; exact hl, hn, show_top hw hc, hF.re (Re.of (ExtN.of s1)), hφ, fun v' H' s' h' => q v' H' (s1.trans s') h'⟩
  refine ers_of (by rw [rgV_length]; simp) fun j e he => ?_
  have hj : j < wd := by
    by_cases h : j < wd
    · exact h
    · rw [List.getElem?_eq_none (by simp; omega)] at he; cases he
  rw [List.getElem?_map, List.getElem?_range hj] at he
  cases he
  refine ⟨.int (j : Nat), ?_, .lvl j⟩
  unfold rgV
  rw [List.getElem?_map, List.getElem?_range (by simp; exact hj)]
  simp
end
end KP

/-! right -/
namespace KP
open PySem PyProof.Rows L2 LamX NdefX KL KM KD
abbrev ph0 (h : Int) : Prop := 0 ≤ h ∧ h < 200
abbrev fOf (es : Ens) : Fl := fun k => es.lookup k
/-! ### what right needs -/
theorem look_mem : ∀ {es : Ens} {k : Int} {x : Nat × Tm}, es.lookup k = some x → (k, x) ∈ es
  | [], _, _, h => by cases h
  | (y, z) :: es, k, x, h => by
    rw [List.lookup_cons] at h
    by_cases q : k = y
    · subst q
      simp at h
      subst h
      exact List.mem_cons_self
    · rw [show (k == y) = false from by simpa using q] at h
      exact List.mem_cons_of_mem _ (look_mem h)
theorem look_map (n : Nat) (φ : Fl) : ∀ (es : Ens) (k : Int), (es.map fun e => (e.1, e.2.1, fillN φ n e.2.2)).lookup k = (es.lookup k).map fun x => (x.1, fillN φ n x.2)
  | [], _ => rfl
  | (y, z) :: es, k => by
    rw [List.map_cons, List.lookup_cons, List.lookup_cons, look_map n φ es k]
    by_cases q : (k == y) = true
    · simp [q]
    · have q : (k == y) = false := by simpa using q
      simp [q]
theorem setl_none {n i : Nat} {es : Ens} {h : Int} {ar : Nat} {b : Tm} {K : PySem.W.Frag} {H' : Hp} {kvs' : List (Key × V)} (hnd : (es.map (·.1)).Nodup) (he : es[i]? = some (h, ar, b)) (hE' : FlL K H' kvs' ((setl n es).take i)) : valV kvs' (.inl h) = none := by
  cases hv : valV kvs' (.inl h) with
  | none => rfl
  | some z =>
    exfalso
    have hm := valV_in hv
    rw [hE'.keys] at hm
    obtain ⟨e2, he2, e3⟩ := List.mem_map.mp hm
    obtain ⟨j, hj⟩ := List.mem_iff_getElem?.mp he2
    have hji : j < i := by
      have z := (List.getElem?_eq_some_iff.mp hj).1
      rw [List.length_take] at z
      omega
    rw [List.getElem?_take_of_lt hji] at hj
    obtain ⟨e4, he4, rfl⟩ := by
      have z := hj
      unfold setl at z
      rw [List.getElem?_map] at z
      exact Option.map_eq_some_iff.mp z
    have e5 : e4.1 = h := Sum.inl.inj e3
    have x1 : (es.map (·.1))[j]? = some h := by rw [List.getElem?_map, he4]; exact congrArg some e5
    have x2 : (es.map (·.1))[i]? = some h := by rw [List.getElem?_map, he]; rfl
    obtain ⟨l1, y1⟩ := List.getElem?_eq_some_iff.mp x1
    obtain ⟨l2, y2⟩ := List.getElem?_eq_some_iff.mp x2
    have := (List.getElem_inj hnd).mp (y1.trans y2.symm)
    omega
theorem setl_keys {n : Nat} {es : Ens} : (setl n es).map (·.1) = es.map (·.1) := by
  unfold setl
  rw [List.map_map]
  rfl
theorem fl_dp {K : PySem.W.Frag} {H : Hp} {p : Key × V} {e : Int × Nat × Tm} (h : FlE K H p e) : Dp K H p.2 (.tuple [.int (e.2.1 : Nat), enc e.2.2]) := by
  obtain ⟨_, a, vb, e2, h3, h4⟩ := h
  rw [e2]
  exact Tp.dp _ _ (.tup h3 (.cons (.int _) (.cons h4 .nil)))
theorem flL_pair {K : PySem.W.Frag} {H : Hp} {ks ls : List (Key × V)} {es : Ens} (h1 : FlL K H ks es) (h2 : FlL K H ls es) (hnd : (es.map (·.1)).Nodup) (hs : ∀ e ∈ es, SeqAt.shaped (.tuple [.int (e.2.1 : Nat), enc e.2.2]) = true) :
    ks.length = ls.length ∧ ∀ p ∈ ks, ∃ u d, valV ls p.1 = some u ∧ Dp K H p.2 d ∧ Dp K H u d ∧ SeqAt.shaped d = true := by
  refine ⟨by rw [h1.len, h2.len], fun p hp => ?_⟩
  obtain ⟨i, hi⟩ := List.mem_iff_getElem?.mp hp
  obtain ⟨e, he, h3⟩ := h1.get hi
  have hil : i < ls.length := by rw [h2.len]; exact (List.getElem?_eq_some_iff.mp he).1
  obtain ⟨e', he', h4⟩ := h2.get (i := i) (p := ls[i]) (List.getElem?_eq_getElem hil)
  rw [he] at he'
  cases he'
  refine ⟨ls[i].2, _, ?_, fl_dp h3, fl_dp h4, hs e (List.mem_of_getElem? he)⟩
  rw [h3.1, ← h4.1]
  exact val_nodup (by rw [h2.keys]; exact nodup_inl hnd) _ (List.getElem_mem hil)
theorem ite_ne {d : PyData} (h : SeqAt.shaped d = true) {A B : Prop} (b : B) : if (!PyData.eqv d d) = true then A else B := by
  rw [SeqAt.eqv_refl d (SeqAt.canLay_of_shaped h)]
  exact b
/-- there at H: nothing, or a table -/
def Nw (H : Hp) (p : Addr) : Prop := ∀ u, H p = some u → ∃ ps, u = .tbl ps
theorem Nw.of {H : Hp} {p : Addr} (h : H p = none) : Nw H p := fun u e => by rw [h] at e; cases e
theorem Nw.ne {H : Hp} {p b : Addr} {o : HO} (n : Nw H p) (h : H b = some o) (nt : ∀ ps, o ≠ .tbl ps) : b ≠ p := fun e => by
  subst e
  obtain ⟨ps, e⟩ := n o h
  exact nt ps e
section
variable {T : List (Addr × Str)}
theorem nw_gr {H H1 : Hp} {p : Addr} (g : Gr T H H1) (h : H1 p = none) : Nw H p := fun u e => by
  by_cases q : ∃ ps, u = .tbl ps
  · exact q
  · rw [g.ext p u e fun ps z => q ⟨ps, z⟩] at h
    cases h
theorem nw_lk {H H1 : Hp} {D p : Addr} {od : Obj} {kvs : List (Key × V)} (L : Lkd T H H1 D od kvs) (h : H1 p = none) : Nw H p := fun u e => by
  by_cases q : ∃ ps, u = .tbl ps
  · exact q
  · by_cases z : p = D
    · subst z; rw [L.at_] at h; cases h
    · rw [L.ext p u e z fun ps z => q ⟨ps, z⟩] at h
      cases h
theorem tab_mut {H : Hp} {p : Addr} {u o : HO} (t : Tabs T H) (h1 : H p = some u) (n1 : ∀ ps, u ≠ .tbl ps) (n2 : ∀ c q, u ≠ CodeO c q) : Tabs T (L2.upd H p o) := fun q hq => by
  obtain ⟨ps, a1, a2, a3⟩ := t q hq
  have ne : q.1 ≠ p := fun e => by rw [e, h1] at a1; exact n1 ps (Option.some.inj a1)
  refine ⟨ps, by rw [upd_ne ne]; exact a1, a2, fun pos cv hcv => ?_⟩
  obtain ⟨c, e1, e2⟩ := a3 pos cv hcv
  refine ⟨c, e1, ?_⟩
  by_cases z : c = p
  · rw [z, h1] at e2; exact (n2 _ _ (Option.some.inj e2)).elim
  · rw [upd_ne z]; exact e2
theorem gr_mutN {H H1 : Hp} {p : Addr} {u o : HO} (a : Gr T H H1) (h : Nw H p) (h1 : H1 p = some u) (n1 : ∀ ps, u ≠ .tbl ps) (n2 : ∀ c q, u ≠ CodeO c q) : Gr T H (L2.upd H1 p o) :=
  ⟨fun b ob e n => by rw [upd_ne (h.ne e n)]; exact a.ext b ob e n, fun t => tab_mut (a.tab t) h1 n1 n2⟩
theorem Lkd.mutN {H H1 : Hp} {D p : Addr} {od : Obj} {kvs : List (Key × V)} {u o : HO} (L : Lkd T H H1 D od kvs) (hp : Nw H p) (hD : p ≠ D) (h1 : H1 p = some u) (n1 : ∀ ps, u ≠ .tbl ps) (n2 : ∀ c q, u ≠ CodeO c q) : Lkd T H (L2.upd H1 p o) D od kvs :=
  ⟨by rw [upd_ne (Ne.symm hD)]; exact L.at_, fun b ob e n nt => by rw [upd_ne (hp.ne e nt)]; exact L.ext b ob e n nt, tab_mut L.tab h1 n1 n2⟩
theorem Lkd.startG {H H1 : Hp} {D : Addr} {od : Obj} {kvs : List (Key × V)} (g : Gr T H H1) (h : H D = some (.dK kvs)) (t : Tabs T H) : Lkd T H (L2.upd H1 D (.frz od (.dK kvs))) D od kvs :=
  ⟨upd_same, fun b o e n nt => by rw [upd_ne n]; exact g.ext b o e nt, (Lkd.start (g.ext _ _ h fun ps z => by cases z) (g.tab t)).tab⟩
theorem frz_code {od : Obj} {kvs : List (Key × V)} (c : Addr) (q : Str) : HO.frz od (.dK kvs) ≠ CodeO c q := fun z => by unfold CodeO at z; cases z
theorem dp_ints {K : PySem.W.Frag} {H : Hp} {p : Addr} {ns : List Int} (h : SqT K H p (ns.map V.int)) : Dp K H (.ref p) (.tuple (ns.map PyData.int)) := by
  refine .tup h ?_
  clear h
  induction ns with
  | nil => exact .nil
  | cons n ns ih => exact .cons (.int n) ih
theorem shaped_ints (ns : List Int) : SeqAt.shaped (.tuple (ns.map PyData.int)) = true := by
  have h : PyData.canLayAll0 (ns.map PyData.int) = true ∧ PyData.depthAll (ns.map PyData.int) = 0 := by
    induction ns with
    | nil => exact ⟨rfl, rfl⟩
    | cons n ns ih =>
      simp only [List.map_cons, PyData.canLayAll0, PyData.depthAll, PyData.canLay0, PyData.depth]
      exact ⟨by rw [ih.1]; rfl, by rw [ih.2]; rfl⟩
  have h2 : (PyData.tuple (ns.map PyData.int)).depth ≤ 64 := by simp only [PyData.depth]; omega
  have h1 : (PyData.tuple (ns.map PyData.int)).canLay0 = true := by simp only [PyData.canLay0]; exact h.1
  exact Bool.and_eq_true_iff.mpr ⟨h1, decide_eq_true h2⟩
end
/-- the numbers of a term below i, rising -/
def numsTo (t : Tm) (i : Nat) : List Int := ((List.range i).map fun j => ((j : Nat) : Int)).filter fun n => decide (n ∈ nums t)
theorem numsTo_succ (t : Tm) (i : Nat) : numsTo t (i + 1) = if ((i : Nat) : Int) ∈ nums t then numsTo t i ++ [((i : Nat) : Int)] else numsTo t i := by
  unfold numsTo
  rw [List.range_succ, List.map_append, List.filter_append]
  by_cases h : ((i : Nat) : Int) ∈ nums t
  · simp [h]
  · simp [h]
theorem numsTo_up (t : Tm) (i : Nat) : (numsTo t i).Pairwise (· < ·) := by
  unfold numsTo
  refine List.Pairwise.filter _ ?_
  rw [List.pairwise_map]
  exact List.pairwise_lt_range.imp fun h => by omega
theorem numsTo_mem {t : Tm} (h : All ph0 pa0 t) (x : Int) : x ∈ numsTo t 200 ↔ x ∈ nums t := by
  unfold numsTo
  rw [List.mem_filter]
  constructor
  · rintro ⟨_, z⟩
    exact of_decide_eq_true z
  · intro z
    refine ⟨List.mem_map.mpr ⟨x.toNat, List.mem_range.mpr ?_, ?_⟩, decide_eq_true z⟩
    · have := all_nums h x z
      have : 0 ≤ x ∧ x < 200 := this
      omega
    · have : 0 ≤ x ∧ x < 200 := all_nums h x z
      omega
theorem numsTo_len (t : Tm) (i : Nat) : (numsTo t i).length ≤ i := by
  unfold numsTo
  exact Nat.le_trans (List.length_filter_le _ _) (by simp)
section
variable {P : Program} {w : World} {K : PySem.W.Frag} {mg : Str → Option Value} {base : Heap} {T : List (Addr × Str)}
end
end KP

/-! law -/
namespace KP
open PySem PyProof.Rows L2 LamX NdefX KL KM KD
/-! ### what law keeps -/
theorem FnOk.ex {P : Program} {w : World} {K : PySem.W.Frag} {mg : Str → Option Value} {base : Heap} {k m : Nat} {x : Str} {f : Addr} {fd : FuncData} {ps : List Str} {sp : Nat → Sp} (C : ∀ n, n ≤ m → Cl P w K mg base k x f fd ps (sp n)) : Cl P w K mg base k x f fd ps (fun vs H Q E => ∃ n, n ≤ m ∧ sp n vs H Q E) := by
  have C0 := C 0 (Nat.zero_le _)
  refine ⟨⟨fun vs H Q E h => ?_, fun A outer s H args us vs Q E a b c d h => ?_⟩, C0.mg, C0.kp, C0.b⟩
  · obtain ⟨n, hn, h⟩ := h
    exact (C n hn).ok.len vs H Q E h
  · obtain ⟨n, hn, h⟩ := h
    exact (C n hn).ok.run A outer s H args us vs Q E a b c d h
theorem atI_last {xs : List V} {v : V} (h : xs[xs.length - 1]? = some v) : atI xs (-1) = some v := by
  have hl := (List.getElem?_eq_some_iff.mp h).1
  unfold atI ixN
  rw [if_neg (by omega), if_pos (by omega)]
  have : ((-1 : Int) + (xs.length : Int)).toNat = xs.length - 1 := by omega
  simp only [Option.bind_some]
  first | rw [this]; exact h | (rw [show (((xs.length : Nat) : Int) + -1).toNat = xs.length - 1 by omega]; exact h)
theorem tabs_kp {T : List (Addr × Str)} {H H' : Hp} {p : Addr} {xs : List V} (t : Tabs T H) (h : H p = some (.lst xs)) (k : Kp p H H') : Tabs T H' := fun q hq => by
  obtain ⟨ps, a1, a2, a3⟩ := t q hq
  refine ⟨ps, k _ _ a1 (fun e => by rw [e, h] at a1; cases a1), a2, fun pos cv hcv => ?_⟩
  obtain ⟨c, e1, e2⟩ := a3 pos cv hcv
  exact ⟨c, e1, k _ _ e2 (fun e => by rw [e, h] at e2; exact lst_code _ _ (Option.some.inj e2))⟩
structure HsOk (hs : List (Int × Nat)) : Prop where
  nd : (hs.map (·.1)).Nodup
  ok : ∀ x ∈ hs, (0 ≤ x.1 ∧ x.1 < 200) ∧ x.2 ≤ 24
structure EsOk (hs : List (Int × Nat)) (es : Ens) : Prop where
  nd : (es.map (·.1)).Nodup
  at_ : ∀ e ∈ es, ∃ i, hs[i]? = some (e.1, e.2.1) ∧ Gn pa0 (hs.drop (i + 1)) (if hs.drop (i + 1) = [] then 1 else 2) e.2.1 e.2.2
theorem EsOk.nil {hs : List (Int × Nat)} : EsOk hs [] := ⟨List.nodup_nil, fun e h => by cases h⟩
theorem val_none {K : PySem.W.Frag} {H : Hp} {kvs : List (Key × V)} {es : Ens} {n : Int} (h : FlL K H kvs es) (hn : n ∉ es.map (·.1)) : valV kvs (.inl n) = none := by
  cases hv : valV kvs (.inl n) with
  | none => rfl
  | some z =>
    exfalso
    have hm := valV_in hv
    rw [h.keys] at hm
    obtain ⟨e, he, e3⟩ := List.mem_map.mp hm
    exact hn (by rw [← Sum.inl.inj e3]; exact List.mem_map_of_mem he)
theorem FlL.drop {K : PySem.W.Frag} {H : Hp} {n : Int} {kvs : List (Key × V)} {es : Ens} (h : FlL K H kvs es) : FlL K H (dropK kvs (.inl n)) (es.filter fun e => decide (e.1 ≠ n)) := by
  induction h with
  | nil => exact .nil
  | @cons p e ps es h1 _ ih =>
    have e1 := h1.1
    by_cases q : e.1 = n
    · rw [dropK_pos (by rw [e1, q]), List.filter_cons, if_neg (by simp [q])]
      exact ih
    · rw [dropK_neg (by rw [e1]; intro z; exact q (Sum.inl.inj z)), List.filter_cons, if_pos (by simp [q])]
      exact .cons h1 ih
/-- what stands while law runs -/
structure LS (K : PySem.W.Frag) (T : List (Addr × Str)) (p b a D : Addr) (hs : List (Int × Nat)) (us : List V) (kvs : List (Key × V)) (es : Ens) (H : Hp) : Prop where
  dr : DrOk H p b
  la : H a = some (.lst us)
  lt : TpAll K H us (hs.map encH)
  ap : a ≠ p
  ab : a ≠ b
  dk : H D = some (.dK kvs)
  fl : FlL K H kvs es
  tb : Tabs T H
theorem DrOk.upd {H : Hp} {p b q : Addr} {o : HO} (d : DrOk H p b) (h1 : q ≠ p) (h2 : q ≠ b) : DrOk (L2.upd H q o) p b := by
  obtain ⟨ns, i, x, y, z, c, s, e1, e2, e3⟩ := d
  exact ⟨ns, i, x, y, z, c, s, by rw [upd_ne (Ne.symm h1)]; exact e1, by rw [upd_ne (Ne.symm h2)]; exact e2, e3⟩
section
variable {K : PySem.W.Frag} {T : List (Addr × Str)} {p b a D : Addr} {hs : List (Int × Nat)} {us : List V} {kvs : List (Key × V)} {es : Ens} {H H' : Hp}
theorem LS.dp (l : LS K T p b a D hs us kvs es H) : D ≠ p ∧ D ≠ b := by
  obtain ⟨ns, i, x, y, z, c, s, e1, e2, e3⟩ := l.dr
  have e := l.dk
  exact ⟨(fun q => by rw [q, e1] at e; cases e), (fun q => by rw [q, e2] at e; cases e)⟩
theorem LS.kp (l : LS K T p b a D hs us kvs es H) (k : Kp p H H') (d : DrOk H' p b) : LS K T p b a D hs us kvs es H' := by
  obtain ⟨xs, hx⟩ := l.dr.lst
  exact ⟨d, k _ _ l.la l.ap, tpA_ext (k.te hx) _ _ l.lt, l.ap, l.ab, k _ _ l.dk l.dp.1, l.fl.te (k.te hx), tabs_kp l.tb hx k⟩
theorem LS.same (l : LS K T p b a D hs us kvs es H) (k : Same H H') : LS K T p b a D hs us kvs es H' := l.kp (Kp.same k) (l.dr.same k)
theorem LS.gr (l : LS K T p b a D hs us kvs es H) (g : Gr T H H') : LS K T p b a D hs us kvs es H' := by
  obtain ⟨ns, i, x, y, z, c, s, e1, e2, e3⟩ := l.dr
  exact ⟨⟨ns, i, x, y, z, c, s, g.ext _ _ e1 (fun ps z => by cases z), g.ext _ _ e2 (fun ps z => by cases z), e3⟩, g.ext _ _ l.la (fun ps z => by cases z), tpA_ext g.te _ _ l.lt, l.ap, l.ab, g.ext _ _ l.dk (fun ps z => by cases z), l.fl.te g.te, g.tab l.tb⟩
theorem LS.dict (l : LS K T p b a D hs us kvs es H) {kvs' : List (Key × V)} {es' : Ens} (h : FlL K H kvs' es') : LS K T p b a D hs us kvs' es' (L2.upd H D (.dK kvs')) := by
  have t := Te.dK (o := HO.dK kvs') l.dk
  have e := l.dk
  have na : a ≠ D := fun q => by rw [← q, l.la] at e; cases e
  exact ⟨l.dr.upd l.dp.1 l.dp.2, by rw [upd_ne na]; exact l.la, tpA_ext t _ _ l.lt, l.ap, l.ab, upd_same, h.te t, tab_mut l.tb l.dk (fun ps z => by cases z) dK_code⟩
theorem LS.push (l : LS K T p b a D hs us kvs es H) {v : V} {x : Int × Nat} (h : Tp K H v (encH x)) : LS K T p b a D (hs ++ [x]) (us ++ [v]) kvs es (L2.upd H a (.lst (us ++ [v]))) := by
  have t := Te.lst (o := HO.lst (us ++ [v])) l.la
  have e := l.dk
  have na : D ≠ a := fun q => by rw [q, l.la] at e; cases e
  refine ⟨l.dr.upd l.ap l.ab, upd_same, ?_, l.ap, l.ab, by rw [upd_ne na]; exact l.dk, l.fl.te t, tab_mut l.tb l.la (fun ps z => by cases z) lst_code⟩
  rw [List.map_append]
  exact tpA_snoc (tpA_ext t _ _ l.lt) (tp_ext t _ _ h)
theorem LS.get (l : LS K T p b a D hs us kvs es H) {i : Nat} {x : Int × Nat} (h : hs[i]? = some x) : ∃ tp, us[i]? = some (.ref tp) ∧ SqT K H tp [.int x.1, .int (x.2 : Nat)] := by
  obtain ⟨v, hv, tv⟩ := tpA_get (i := i) (d := encH x) l.lt (by rw [List.getElem?_map, h]; rfl)
  cases tv with
  | tup h1 h2 => cases h2 with | cons a1 a2 => cases a1; cases a2 with | cons a3 a4 => cases a3; cases a4; exact ⟨_, hv, h1⟩
theorem LS.len (l : LS K T p b a D hs us kvs es H) : us.length = hs.length := by rw [tpA_len l.lt, List.length_map]
end
section
variable {P : Program} {w : World} {K : PySem.W.Frag} {mg : Str → Option Value} {base : Heap} {T : List (Addr × Str)}
end
end KP

/-! Matching, plainly. -/
namespace KM
open PySem
abbrev Ens := List (Int × Nat × Tm)
/-! ### free variables -/
mutual
/-- the free variables behind d binders, from the left -/
def fre (d : Nat) : Tm → List Nat
  | .var i => if d ≤ i then [i - d] else []
  | .atom _ _ => []
  | .node k ps => freL k d 0 ps
def freL (k : Kd) (d : Nat) : Nat → List Tm → List Nat
  | _, [] => []
  | j, p :: ps => fre (d + bnd k j) p ++ freL k d (j + 1) ps
end
theorem fre_var (d i : Nat) : fre d (.var i) = if d ≤ i then [i - d] else [] := by simp [fre]
theorem fre_atom (d : Nat) (u : Bool) (xs : List PyData) : fre d (.atom u xs) = [] := by simp [fre]
theorem fre_node (d : Nat) (k : Kd) (ps : List Tm) : fre d (.node k ps) = freL k d 0 ps := by simp [fre]
theorem freL_cons (k : Kd) (d j : Nat) (p : Tm) (ps : List Tm) : freL k d j (p :: ps) = fre (d + bnd k j) p ++ freL k d (j + 1) ps := by simp [freL]
theorem freL_nil (k : Kd) (d j : Nat) : freL k d j [] = [] := by simp [freL]
theorem mem_freL {k : Kd} {d v : Nat} : ∀ {ps : List Tm} {j : Nat}, v ∈ freL k d j ps ↔ ∃ i p, ps[i]? = some p ∧ v ∈ fre (d + bnd k (j + i)) p
  | [], j => by simp [freL_nil]
  | q :: ps, j => by
    rw [freL_cons, List.mem_append, mem_freL (ps := ps)]
    constructor
    · rintro (h | ⟨i, p, hp, hv⟩)
      · exact ⟨0, q, rfl, h⟩
      · exact ⟨i + 1, p, by simpa using hp, by rw [show j + (i + 1) = j + 1 + i by omega]; exact hv⟩
    · rintro ⟨i, p, hp, hv⟩
      cases i with
      | zero => simp at hp; subst hp; exact .inl hv
      | succ i => exact .inr ⟨i, p, by simpa using hp, by rw [show j + 1 + i = j + (i + 1) by omega]; exact hv⟩
/-- all the free variables are so -/
def Fr (P : Nat → Prop) (d : Nat) (t : Tm) : Prop := ∀ v ∈ fre d t, P v
theorem fr_var {P : Nat → Prop} {d i : Nat} : Fr P d (.var i) ↔ (d ≤ i → P (i - d)) := by
  unfold Fr
  rw [fre_var]
  by_cases h : d ≤ i
  · rw [if_pos h]; simp [h]
  · rw [if_neg h]; simp [h]
theorem fr_atom {P : Nat → Prop} {d : Nat} {u : Bool} {xs : List PyData} : Fr P d (.atom u xs) := by
  unfold Fr; rw [fre_atom]; intro v h; cases h
theorem fr_node {P : Nat → Prop} {d : Nat} {k : Kd} {ps : List Tm} : Fr P d (.node k ps) ↔ ∀ j p, ps[j]? = some p → Fr P (d + bnd k j) p := by
  unfold Fr
  rw [fre_node]
  constructor
  · intro h j p hp v hv
    exact h v (mem_freL.mpr ⟨j, p, hp, by rw [Nat.zero_add]; exact hv⟩)
  · intro h v hv
    obtain ⟨i, p, hp, hv⟩ := mem_freL.mp hv
    rw [Nat.zero_add] at hv
    exact h i p hp v hv
theorem trav_fr {g g' : Nat → Nat → Tm} {P : Nat → Prop} (hg : ∀ e i, (e ≤ i → P (i - e)) → g e i = g' e i) (t : Tm) : ∀ d, Fr P d t → trav g d t = trav g' d t := by
  refine Tm.ind (P := fun t => ∀ d, Fr P d t → trav g d t = trav g' d t) ?_ ?_ ?_ t
  · intro i d h
    rw [trav_var, trav_var]
    exact hg d i (fr_var.mp h)
  · intro u xs d h; rw [trav_atom, trav_atom]
  · intro k ps ih d h
    rw [trav_node, trav_node]
    refine congrArg (Tm.node k) (mapI_congr ps 0 fun j p hp => ?_)
    rw [Nat.zero_add]
    exact ih p (List.mem_of_getElem? hp) _ (fr_node.mp h j p hp)
theorem fr_trav {g : Nat → Nat → Tm} {P : Nat → Prop} {Q : Nat → Nat → Prop} (hg : ∀ e i, Q e i → Fr P e (g e i)) (t : Tm) : ∀ d, (∀ e i, d ≤ e → Q e i) → Fr P d (trav g d t) := by
  refine Tm.ind (P := fun t => ∀ d, (∀ e i, d ≤ e → Q e i) → Fr P d (trav g d t)) ?_ ?_ ?_ t
  · intro i d h; rw [trav_var]; exact hg d i (h d i (Nat.le_refl _))
  · intro u xs d h; rw [trav_atom]; exact fr_atom
  · intro k ps ih d h
    rw [trav_node, fr_node]
    intro j q hq
    rw [mapI_get] at hq
    cases hp : ps[j]? with
    | none => rw [hp] at hq; cases hq
    | some p =>
      rw [hp] at hq
      simp only [Option.map_some, Option.some.injEq, Nat.zero_add] at hq
      subst hq
      exact ih p (List.mem_of_getElem? hp) _ fun e i he => h e i (by omega)
theorem fr_sc {w : Nat} {t : Tm} : ∀ {d : Nat}, sc (w + d) t ↔ Fr (· < w) d t := by
  refine Tm.ind (P := fun t => ∀ {d : Nat}, sc (w + d) t ↔ Fr (· < w) d t) ?_ ?_ ?_ t
  · intro i d
    rw [sc_var, fr_var]
    constructor
    · intro h _; omega
    · intro h
      by_cases z : d ≤ i
      · have := h z; omega
      · omega
  · intro u xs d; exact ⟨fun _ => fr_atom, fun _ => sc_atom⟩
  · intro k ps ih d
    rw [sc_node, fr_node]
    constructor
    · intro h j p hp
      have z := h j p hp
      rw [Nat.add_assoc] at z
      exact (ih p (List.mem_of_getElem? hp)).mp z
    · intro h j p hp
      rw [Nat.add_assoc]
      exact (ih p (List.mem_of_getElem? hp)).mpr (h j p hp)
/-! ### variables renamed -/
def renG (sp : Nat → Nat) : Nat → Nat → Tm := fun d i => if i < d then .var i else .var (sp (i - d) + d)
def ren (sp : Nat → Nat) (d : Nat) (t : Tm) : Tm := trav (renG sp) d t
theorem renG_lo {sp : Nat → Nat} {d i : Nat} (h : i < d) : renG sp d i = .var i := by unfold renG; rw [if_pos h]
theorem renG_hi {sp : Nat → Nat} {d i : Nat} (h : ¬ i < d) : renG sp d i = .var (sp (i - d) + d) := by unfold renG; rw [if_neg h]
theorem ren_var {sp : Nat → Nat} {d i : Nat} : ren sp d (.var i) = if i < d then .var i else .var (sp (i - d) + d) := by unfold ren; rw [trav_var]; rfl
/-- the number that v gets: the first of vs is the greatest -/
def spo (vs : List Nat) (v : Nat) : Nat := vs.length - 1 - vs.idxOf v
theorem idx_get {vs : List Nat} (h : vs.Nodup) {j : Nat} (hj : j < vs.length) : vs.idxOf vs[j] = j := by
  have hm : vs[j] ∈ vs := List.getElem_mem hj
  have hl : vs.idxOf vs[j] < vs.length := List.idxOf_lt_length_iff.mpr hm
  have e : vs[vs.idxOf vs[j]] = vs[j] := List.getElem_idxOf hl
  exact (List.getElem_inj h).mp e
theorem dle_ren {sp : Nat → Nat} {n d : Nat} {t : Tm} (h : dle n t) : dle n (ren sp d t) := by
  refine dle_trav (m := 0) (fun d i => ?_) h
  by_cases q : i < d
  · rw [renG_lo q]; trivial
  · rw [renG_hi q]; trivial
theorem all_ren {ph : Int → Prop} {pa : Bool → List PyData → Prop} {sp : Nat → Nat} {d : Nat} {t : Tm} (h : All ph pa t) : All ph pa (ren sp d t) := by
  refine all_trav (fun d i => ?_) t d h
  by_cases q : i < d
  · rw [renG_lo q]; exact all_var
  · rw [renG_hi q]; exact all_var
abbrev vars (vs : List Nat) : List Tm := vs.map Tm.var
/-- back again -/
theorem put_ren {vs : List Nat} {t : Tm} (h : Fr (· ∈ vs) 0 t) : putU (vars vs) 0 (ren (spo vs) 0 t) = t := by
  unfold putU ren
  rw [trav_comp]
  have e : trav (fun d i => trav (putG (vars vs)) d (renG (spo vs) d i)) 0 t = trav (fun _ i => Tm.var i) 0 t := by
    refine trav_fr (P := (· ∈ vs)) (fun e i hi => ?_) t 0 h
    by_cases z : i < e
    · rw [renG_lo z, trav_var, putG_lo z]
    · have hv := hi (by omega)
      have hl : vs.idxOf (i - e) < vs.length := List.idxOf_lt_length_iff.mpr hv
      rw [renG_hi z, trav_var, putG_in (by omega) (by unfold spo; simp; omega)]
      have e1 : (vars vs).length - 1 - (spo vs (i - e) + e - e) = vs.idxOf (i - e) := by unfold spo; simp; omega
      rw [e1]
      have e2 : (vars vs).getD (vs.idxOf (i - e)) (.var 0) = .var (i - e) := by
        simp only [List.getD, List.getElem?_map, List.getElem?_eq_getElem hl, Option.map_some, Option.getD_some, List.getElem_idxOf hl]
      rw [e2, lift_var_hi (Nat.zero_le _)]
      congr 1
      omega
  rw [e]
  exact trav_id0 t 0 fun _ _ => rfl
theorem ren_put {vs : List Nat} {b : Tm} (hn : vs.Nodup) (s : sc vs.length b) : ren (spo vs) 0 (putU (vars vs) 0 b) = b := by
  unfold putU ren
  rw [trav_comp]
  refine trav_id b vs.length 0 s fun e i hi => ?_
  rw [Nat.zero_add]
  by_cases z : i < e
  · rw [putG_lo z, trav_var, renG_lo z]
  · rw [putG_in z (by simp; omega)]
    have hl : vs.length - 1 - (i - e) < vs.length := by omega
    have e2 : (vars vs).getD ((vars vs).length - 1 - (i - e)) (.var 0) = .var vs[vs.length - 1 - (i - e)] := by
      simp only [List.length_map, List.getD, List.getElem?_map, List.getElem?_eq_getElem hl, Option.map_some, Option.getD_some]
    rw [e2, lift_var_hi (Nat.zero_le _), trav_var, renG_hi (by omega)]
    congr 1
    rw [Nat.add_sub_cancel]
    unfold spo
    rw [idx_get hn hl]
    omega
theorem fr_put {vs : List Nat} {b : Tm} (s : sc vs.length b) : Fr (· ∈ vs) 0 (putU (vars vs) 0 b) := by
  have go : ∀ (t : Tm) (d : Nat), sc (vs.length + d) t → Fr (· ∈ vs) d (trav (putG (vars vs)) d t) := by
    intro t
    refine Tm.ind (P := fun t => ∀ (d : Nat), sc (vs.length + d) t → Fr (· ∈ vs) d (trav (putG (vars vs)) d t)) ?_ ?_ ?_ t
    · intro i d s
      have hi := sc_var.mp s
      rw [trav_var]
      by_cases z : i < d
      · rw [putG_lo z, fr_var]; intro h; omega
      · rw [putG_in z (by simp; omega)]
        have hl : vs.length - 1 - (i - d) < vs.length := by omega
        have e2 : (vars vs).getD ((vars vs).length - 1 - (i - d)) (.var 0) = .var vs[vs.length - 1 - (i - d)] := by
          simp only [List.length_map, List.getD, List.getElem?_map, List.getElem?_eq_getElem hl, Option.map_some, Option.getD_some]
        rw [e2, lift_var_hi (Nat.zero_le _), fr_var]
        intro _
        rw [Nat.add_sub_cancel]
        exact List.getElem_mem hl
    · intro u xs d s; rw [trav_atom]; exact fr_atom
    · intro k ps ih d s
      rw [trav_node, fr_node]
      intro j q hq
      rw [mapI_get] at hq
      cases hp : ps[j]? with
      | none => rw [hp] at hq; cases hq
      | some p =>
        rw [hp] at hq
        simp only [Option.map_some, Option.some.injEq, Nat.zero_add] at hq
        subst hq
        refine ih p (List.mem_of_getElem? hp) _ ?_
        have z := sc_node.mp s j p hp
        rw [Nat.add_assoc] at z
        exact z
  exact go b 0 s
theorem sc_ren {vs : List Nat} {t : Tm} (h : Fr (· ∈ vs) 0 t) : sc vs.length (ren (spo vs) 0 t) := by
  have go : ∀ (t : Tm) (d : Nat), Fr (· ∈ vs) d t → sc (vs.length + d) (trav (renG (spo vs)) d t) := by
    intro t
    refine Tm.ind (P := fun t => ∀ (d : Nat), Fr (· ∈ vs) d t → sc (vs.length + d) (trav (renG (spo vs)) d t)) ?_ ?_ ?_ t
    · intro i d h
      rw [trav_var]
      by_cases z : i < d
      · rw [renG_lo z, sc_var]; omega
      · have hv := fr_var.mp h (by omega)
        have hl : vs.idxOf (i - d) < vs.length := List.idxOf_lt_length_iff.mpr hv
        rw [renG_hi z, sc_var]; unfold spo; omega
    · intro u xs d s; rw [trav_atom]; exact sc_atom
    · intro k ps ih d h
      rw [trav_node, sc_node]
      intro j q hq
      rw [mapI_get] at hq
      cases hp : ps[j]? with
      | none => rw [hp] at hq; cases hq
      | some p =>
        rw [hp] at hq
        simp only [Option.map_some, Option.some.injEq, Nat.zero_add] at hq
        subst hq
        have z := ih p (List.mem_of_getElem? hp) _ (fr_node.mp h j p hp)
        rw [← Nat.add_assoc] at z
        exact z
  exact go t 0 h
end KM

/-! Matching, plainly: the program's way and the law's way. -/
namespace KM
open PySem Classical
abbrev partsM : Tm → List Tm := fun t => match t with
  | .node _ ps => ps
  | _ => []
def argv (as : List Tm) : List Nat := as.map fun a => match a with
  | .var i => i
  | _ => 0
theorem argv_vars (vs : List Nat) : argv (vars vs) = vs := by
  unfold argv
  rw [List.map_map]
  conv => rhs; rw [← List.map_id vs]
  exact List.map_congr_left fun _ _ => rfl
noncomputable def bodyO (vs : List Nat) (t : Tm) : Option Tm := if Fr (· ∈ vs) 0 t then some (ren (spo vs) 0 t) else none
mutual
/-- the program's matches -/
noncomputable def mt : Tm → Tm → Ens → Option Ens
  | .node (.hole n) as, t, E => match bodyO (argv as) t with
    | none => none
    | some b => match E.lookup n with
      | some x => if x.2 = b then some E else none
      | none => some (E ++ [(n, as.length, b)])
  | .node .app ps, t, E => match t with
    | .node .app ts => mtL ps ts E
    | _ => none
  | .node .pi ps, t, E => match t with
    | .node .pi ts => mtL ps ts E
    | _ => none
  | .node .fn ps, t, E => match t with
    | .node .fn ts => mtL ps ts E
    | _ => none
  | .node .lt ps, t, E => match t with
    | .node .lt ts => mtL ps ts E
    | _ => none
  | .var i, t, E => if t = .var i then some E else none
  | .atom u xs, t, E => if t = .atom u xs then some E else none
noncomputable def mtL : List Tm → List Tm → Ens → Option Ens
  | [], _, E => some E
  | p :: ps, ts, E => match ts with
    | [] => some E
    | t :: ts => match mt p t E with
      | none => none
      | some E1 => mtL ps ts E1
end
mutual
/-- the law's reading: the holes of p from the left, each at its place in the term -/
noncomputable def lm : Tm → Option Tm → Ens → Option Ens
  | .node (.hole n) as, ot, E => match E.lookup n with
    | some _ => some E
    | none => match ot with
      | none => none
      | some t => match bodyO (argv as) t with
        | none => none
        | some b => some (E ++ [(n, as.length, b)])
  | .node .app ps, ot, E => lmL ps 0 ot E
  | .node .pi ps, ot, E => lmL ps 0 ot E
  | .node .fn ps, ot, E => lmL ps 0 ot E
  | .node .lt ps, ot, E => lmL ps 0 ot E
  | .var _, _, E => some E
  | .atom _ _, _, E => some E
noncomputable def lmL : List Tm → Nat → Option Tm → Ens → Option Ens
  | [], _, _, E => some E
  | p :: ps, j, ot, E => match lm p (ot.bind fun t => (partsM t)[j]?) E with
    | none => none
    | some E1 => lmL ps (j + 1) ot E1
end
theorem mt_var {i : Nat} {t : Tm} {E : Ens} : mt (.var i) t E = if t = .var i then some E else none := by simp [mt]
theorem mt_atom {u : Bool} {xs : List PyData} {t : Tm} {E : Ens} : mt (.atom u xs) t E = if t = .atom u xs then some E else none := by simp [mt]
theorem mt_hole {n : Int} {as : List Tm} {t : Tm} {E : Ens} : mt (.node (.hole n) as) t E = match bodyO (argv as) t with
    | none => none
    | some b => match E.lookup n with
      | some x => if x.2 = b then some E else none
      | none => some (E ++ [(n, as.length, b)]) := by simp [mt]
theorem mt_node {k : Kd} {ps ts : List Tm} {E : Ens} (hk : ∀ n, k ≠ .hole n) : mt (.node k ps) (.node k ts) E = mtL ps ts E := by
  cases k with
  | hole n => exact (hk n rfl).elim
  | _ => simp [mt]
theorem mt_not {k : Kd} {ps : List Tm} {t : Tm} {E : Ens} (hk : ∀ n, k ≠ .hole n) (ht : ∀ ts, t ≠ .node k ts) : mt (.node k ps) t E = none := by
  cases k with
  | hole n => exact (hk n rfl).elim
  | app =>
    cases t with
    | node k' ts =>
      cases k' with
      | app => exact (ht ts rfl).elim
      | _ => simp [mt]
    | _ => simp [mt]
  | pi =>
    cases t with
    | node k' ts =>
      cases k' with
      | pi => exact (ht ts rfl).elim
      | _ => simp [mt]
    | _ => simp [mt]
  | fn =>
    cases t with
    | node k' ts =>
      cases k' with
      | fn => exact (ht ts rfl).elim
      | _ => simp [mt]
    | _ => simp [mt]
  | lt =>
    cases t with
    | node k' ts =>
      cases k' with
      | lt => exact (ht ts rfl).elim
      | _ => simp [mt]
    | _ => simp [mt]
theorem mtL_cons {p t : Tm} {ps ts : List Tm} {E : Ens} : mtL (p :: ps) (t :: ts) E = match mt p t E with
    | none => none
    | some E1 => mtL ps ts E1 := by simp [mtL]
theorem mtL_nil {ts : List Tm} {E : Ens} : mtL [] ts E = some E := by simp [mtL]
theorem lm_hole {n : Int} {as : List Tm} {ot : Option Tm} {E : Ens} : lm (.node (.hole n) as) ot E = match E.lookup n with
    | some _ => some E
    | none => match ot with
      | none => none
      | some t => match bodyO (argv as) t with
        | none => none
        | some b => some (E ++ [(n, as.length, b)]) := by simp [lm]
theorem lm_node {k : Kd} {ps : List Tm} {ot : Option Tm} {E : Ens} (hk : ∀ n, k ≠ .hole n) : lm (.node k ps) ot E = lmL ps 0 ot E := by
  cases k with
  | hole n => exact (hk n rfl).elim
  | _ => simp [lm]
theorem lm_var {i : Nat} {ot : Option Tm} {E : Ens} : lm (.var i) ot E = some E := by simp [lm]
theorem lm_atom {u : Bool} {xs : List PyData} {ot : Option Tm} {E : Ens} : lm (.atom u xs) ot E = some E := by simp [lm]
theorem lmL_cons {p : Tm} {ps : List Tm} {j : Nat} {ot : Option Tm} {E : Ens} : lmL (p :: ps) j ot E = match lm p (ot.bind fun t => (partsM t)[j]?) E with
    | none => none
    | some E1 => lmL ps (j + 1) ot E1 := by simp [lmL]
theorem lmL_nil {j : Nat} {ot : Option Tm} {E : Ens} : lmL [] j ot E = some E := by simp [lmL]
/-! ### patterns, and what is found -/
inductive Pt (hs : List (Int × Nat)) : Nat → Nat → Tm → Prop
  | var {d w i : Nat} : i < w → Pt hs d w (.var i)
  | atom {d w : Nat} {u : Bool} {xs : List PyData} : Pt hs d w (.atom u xs)
  | hole {d w : Nat} {n : Int} {vs : List Nat} : (n, vs.length) ∈ hs → vs.Nodup → (∀ v ∈ vs, v < w) → vs.length ≤ 3 → Pt hs (d + 1) w (.node (.hole n) (vars vs))
  | node {d w : Nat} {k : Kd} {ps : List Tm} : (∀ n, k ≠ .hole n) → arOk k ps.length → (∀ j p, ps[j]? = some p → Pt hs d (w + bnd k j) p) → Pt hs (d + 1) w (.node k ps)
abbrev Hf (t : Tm) : Prop := All (fun _ => False) (fun _ _ => True) t
structure GE (hs : List (Int × Nat)) (D : Nat) (E : Ens) : Prop where
  nd : (E.map (·.1)).Nodup
  ok : ∀ e ∈ E, (e.1, e.2.1) ∈ hs ∧ Hf e.2.2 ∧ dle D e.2.2 ∧ sc e.2.1 e.2.2
abbrev fE (E : Ens) : Fl := fun k => E.lookup k
def Sub (E : Ens) (φ : Fl) : Prop := ∀ k x, E.lookup k = some x → φ k = some x
theorem look_in : ∀ {es : Ens} {k : Int} {x : Nat × Tm}, es.lookup k = some x → (k, x) ∈ es
  | [], _, _, h => by cases h
  | (y, z) :: es, k, x, h => by
    rw [List.lookup_cons] at h
    by_cases q : k = y
    · subst q
      simp at h
      subst h
      exact List.mem_cons_self
    · rw [show (k == y) = false from by simpa using q] at h
      exact List.mem_cons_of_mem _ (look_in h)
theorem look_snoc {E : Ens} {n : Int} {x : Nat × Tm} (h : E.lookup n = none) (k : Int) : (E ++ [(n, x)]).lookup k = if k = n then some x else E.lookup k := by
  induction E with
  | nil =>
    show ([(n, x)] : Ens).lookup k = _
    rw [List.lookup_cons]
    by_cases q : k = n
    · simp [q]
    · rw [show (k == n) = false from by simpa using q, if_neg q]
  | cons e E ih =>
    obtain ⟨y, z⟩ := e
    rw [List.lookup_cons] at h
    by_cases q : n = y
    · subst q; simp at h
    · rw [show (n == y) = false from by simpa using q] at h
      rw [List.cons_append, List.lookup_cons, List.lookup_cons]
      by_cases q2 : k = y
      · subst q2
        simp
        intro e; exact (q e.symm).elim
      · rw [show (k == y) = false from by simpa using q2]
        exact ih h
theorem look_none {E : Ens} {n : Int} (h : n ∉ E.map (·.1)) : E.lookup n = none := by
  cases e : E.lookup n with
  | none => rfl
  | some x => exact (h (List.mem_map.mpr ⟨_, look_in e, rfl⟩)).elim
theorem look_some {E : Ens} {n : Int} (h : n ∈ E.map (·.1)) : ∃ x, E.lookup n = some x := by
  cases e : E.lookup n with
  | some x => exact ⟨x, rfl⟩
  | none =>
    exfalso
    induction E with
    | nil => cases h
    | cons q E ih =>
      rw [List.lookup_cons] at e
      by_cases z : n = q.1
      · subst z; simp at e
      · rw [show (n == q.1) = false from by simpa using z] at e
        rcases List.mem_cons.mp h with h | h
        · exact z h
        · exact ih h e
theorem GE.snoc {hs : List (Int × Nat)} {D : Nat} {E : Ens} (g : GE hs D E) {n : Int} {ar : Nat} {b : Tm} (h : E.lookup n = none) (h1 : (n, ar) ∈ hs) (h2 : Hf b) (h3 : dle D b) (h4 : sc ar b) : GE hs D (E ++ [(n, ar, b)]) := by
  refine ⟨?_, fun e he => ?_⟩
  · rw [List.map_append]
    refine List.nodup_append.mpr ⟨g.nd, by simp, fun x hx y hy e => ?_⟩
    have hy : y = n := by simpa using hy
    subst e hy
    obtain ⟨z, hz⟩ := look_some hx
    rw [h] at hz
    cases hz
  · rcases List.mem_append.mp he with he | he
    · exact g.ok e he
    · rw [List.mem_singleton.mp he]; exact ⟨h1, h2, h3, h4⟩
theorem hf_node {k : Kd} {ps : List Tm} (h : Hf (.node k ps)) : (∀ n, k ≠ .hole n) ∧ ∀ p ∈ ps, Hf p := by
  obtain ⟨h1, h2⟩ := all_node.mp h
  refine ⟨fun n e => ?_, h2⟩
  subst e
  exact h1 n (by simp [hd])
theorem hf_none {φ : Fl} {t : Tm} (h : Hf t) : All (fun n => φ n = none) (fun _ _ => True) t := all_mono (fun n z => z.elim) h
theorem ar_eq {hs : List (Int × Nat)} (hn : (hs.map (·.1)).Nodup) {n : Int} {a b : Nat} (h1 : (n, a) ∈ hs) (h2 : (n, b) ∈ hs) : a = b := by
  obtain ⟨i, hi⟩ := List.mem_iff_getElem?.mp h1
  obtain ⟨j, hj⟩ := List.mem_iff_getElem?.mp h2
  have x1 : (hs.map (·.1))[i]? = some n := by rw [List.getElem?_map, hi]; rfl
  have x2 : (hs.map (·.1))[j]? = some n := by rw [List.getElem?_map, hj]; rfl
  obtain ⟨l1, y1⟩ := List.getElem?_eq_some_iff.mp x1
  obtain ⟨l2, y2⟩ := List.getElem?_eq_some_iff.mp x2
  have e := (List.getElem_inj hn).mp (y1.trans y2.symm)
  subst e
  rw [hi] at hj
  exact (Prod.mk.inj (Option.some.inj hj)).2
theorem fill_hole {φ : Fl} {D n m : Nat} {x : Int} {vs : List Nat} {b : Tm} (h : φ x = some (n, b)) (hb : Hf b) (hd : dle D b) (hm : D ≤ m) : fillN φ (m + 1) (.node (.hole x) (vars vs)) = putU (vars vs) 0 b := by
  rw [fillN_hit (k := .hole x) h, none_fill (hf_none hb) (dle_mono hd hm)]
  congr 1
  rw [List.map_map]
  exact List.map_congr_left fun v _ => fillN_var _ _ _
/-- matches says: found as the law finds, and filled so the pattern is the term -/
theorem mt_ok {hs : List (Int × Nat)} {D : Nat} (hn : (hs.map (·.1)).Nodup) : ∀ {d w : Nat} {p : Tm}, Pt hs d w p → ∀ {t : Tm} {E E' : Ens}, Hf t → dle D t → GE hs D E → mt p t E = some E' →
    lm p (some t) E = some E' ∧ GE hs D E' ∧ Sub E (fE E') ∧ (∀ x ∈ nums p, ∃ y, E'.lookup x = some y) ∧ (∀ x y, E'.lookup x = some y → E.lookup x = some y ∨ x ∈ nums p) ∧ ∀ φ, Sub E' φ → fillN φ (d + D) p = t := by
  intro d w p hp
  induction hp with
  | var h =>
    intro t E E' ht hd hE h
    rw [mt_var] at h
    split at h
    · rename_i e; cases h; exact ⟨lm_var, hE, fun _ _ z => z, (fun x hx => by rw [nums_var] at hx; cases hx), fun x y z => .inl z, fun φ _ => by rw [fillN_var, e]⟩
    · cases h
  | atom =>
    intro t E E' ht hd hE h
    rw [mt_atom] at h
    split at h
    · rename_i e; cases h; exact ⟨lm_atom, hE, fun _ _ z => z, (fun x hx => by rw [nums_atom] at hx; cases hx), fun x y z => .inl z, fun φ _ => by rw [fillN_atom, e]⟩
    · cases h
  | @hole d w n vs h1 h2 h3 h4 =>
    intro t E E' ht hd hE h
    have hm : d + 1 + D = (d + D) + 1 := by omega
    have nm : ∀ x, x ∈ nums (.node (.hole n) (vars vs)) ↔ x = n := fun x => by
      rw [mem_nums_node]
      constructor
      · rintro (z | ⟨p, hp, z⟩)
        · simpa [hd] using List.mem_singleton.mp z
        · obtain ⟨v, _, rfl⟩ := List.mem_map.mp hp
          rw [nums_var] at z; cases z
      · rintro rfl; exact .inl (List.mem_singleton.mpr rfl)
    rw [mt_hole, argv_vars] at h
    by_cases hf : Fr (· ∈ vs) 0 t
    · have hb : bodyO vs t = some (ren (spo vs) 0 t) := by unfold bodyO; rw [if_pos hf]
      rw [hb] at h
      simp only at h
      cases e : E.lookup n with
      | some x =>
        rw [e] at h
        simp only at h
        split at h
        · rename_i e2
          cases h
          obtain ⟨ar, b⟩ := x
          have e2 : b = ren (spo vs) 0 t := e2
          subst e2
          have ok := hE.ok _ (look_in e)
          refine ⟨by rw [lm_hole, e], hE, fun _ _ z => z, fun x hx => ?_, fun x y z => .inl z, fun φ hφ => ?_⟩
          · rw [(nm x).mp hx]; exact ⟨_, e⟩
          · rw [hm, fill_hole (hφ _ _ e) ok.2.1 ok.2.2.1 (Nat.le_add_left _ _)]
            exact put_ren hf
        · cases h
      | none =>
        rw [e] at h
        simp only [List.length_map] at h
        cases h
        have hE' := hE.snoc (b := ren (spo vs) 0 t) e h1 (all_ren ht) (dle_ren hd) (sc_ren hf)
        refine ⟨by rw [lm_hole, argv_vars, e]; simp only [hb, List.length_map], hE', fun k x hk => ?_, fun x hx => ?_, fun x y z => ?_, fun φ hφ => ?_⟩
        · show (E ++ [(n, vs.length, _)]).lookup k = _
          rw [look_snoc e]
          by_cases q : k = n
          · subst q; rw [e] at hk; cases hk
          · rw [if_neg q]; exact hk
        · rw [(nm x).mp hx, look_snoc e, if_pos rfl]; exact ⟨_, rfl⟩
        · rw [look_snoc e] at z
          by_cases q : x = n
          · exact .inr ((nm x).mpr q)
          · rw [if_neg q] at z; exact .inl z
        · rw [hm, fill_hole (hφ n _ (by rw [look_snoc e, if_pos rfl])) (all_ren ht) (dle_ren hd) (Nat.le_add_left _ _)]
          exact put_ren hf
    · have hb : bodyO vs t = none := by unfold bodyO; rw [if_neg hf]
      rw [hb] at h
      cases h
  | @node d w k ps h1 h2 h3 ih =>
    intro t E E' ht hd hE h
    have hm : d + 1 + D = (d + D) + 1 := by omega
    by_cases hts : ∃ ts, t = .node k ts
    · obtain ⟨ts, rfl⟩ := hts
      rw [mt_node h1] at h
      rw [lm_node h1]
      obtain ⟨_, hht⟩ := hf_node ht
      have hlen : ps.length = ts.length := by
        cases D with
        | zero => exact hd.elim
        | succ D =>
          have h5 : arOk k ts.length := hd.1
          cases k with
          | hole n => exact (h1 n rfl).elim
          | app => exact Eq.trans h2 (Eq.symm h5)
          | pi => exact Eq.trans h2 (Eq.symm h5)
          | fn => exact Eq.trans h2 (Eq.symm h5)
          | lt => exact Eq.trans h2 (Eq.symm h5)
      have hdt : ∀ q ∈ ts, dle D q := by
        cases D with
        | zero => exact hd.elim
        | succ D => exact fun q hq => dle_mono (hd.2 q hq) (Nat.le_succ D)
      have go : ∀ (ps' ts' : List Tm) (j : Nat) (E : Ens), ps'.length = ts'.length → (∀ p ∈ ps', ∃ i : Nat, ps[i]? = some p) → (∀ q ∈ ts', Hf q ∧ dle D q) → (∀ i : Nat, ts'[i]? = ts[j + i]?) → GE hs D E → mtL ps' ts' E = some E' →
          lmL ps' j (some (.node k ts)) E = some E' ∧ GE hs D E' ∧ Sub E (fE E') ∧ (∀ x, (∃ p ∈ ps', x ∈ nums p) → ∃ y, E'.lookup x = some y) ∧ (∀ x y, E'.lookup x = some y → E.lookup x = some y ∨ ∃ p ∈ ps', x ∈ nums p) ∧ ∀ φ, Sub E' φ → ps'.map (fillN φ (d + D)) = ts' := by
        intro ps'
        induction ps' with
        | nil =>
          intro ts' j E hl _ _ _ hE h
          rw [mtL_nil] at h
          cases h
          have : ts' = [] := List.eq_nil_of_length_eq_zero hl.symm
          subst this
          exact ⟨lmL_nil, hE, fun _ _ z => z, (fun x ⟨p, hp, _⟩ => by cases hp), fun x y z => .inl z, fun φ _ => rfl⟩
        | cons p ps' ih2 =>
          intro ts' j E hl hmem hq hget hE h
          cases ts' with
          | nil => cases hl
          | cons q ts' =>
            rw [mtL_cons] at h
            cases e : mt p q E with
            | none => rw [e] at h; cases h
            | some E1 =>
              rw [e] at h
              simp only at h
              obtain ⟨i, hi⟩ := hmem p List.mem_cons_self
              obtain ⟨hq1, hq2⟩ := hq q List.mem_cons_self
              obtain ⟨a1, a2, a3, a4, a5, a6⟩ := ih i p hi hq1 hq2 hE e
              obtain ⟨b1, b2, b3, b4, b5, b6⟩ := ih2 ts' (j + 1) E1 (by simpa using hl) (fun p hp => hmem p (List.mem_cons_of_mem _ hp)) (fun q hq' => hq q (List.mem_cons_of_mem _ hq')) (fun i => by
                have z := hget (i + 1)
                rw [show j + 1 + i = j + (i + 1) by omega, ← z]; simp) a2 h
              have hj : (partsM (.node k ts))[j]? = some q := by
                have z := hget 0
                simp at z
                exact z.symm
              refine ⟨?_, b2, fun k x hk => b3 k x (a3 k x hk), ?_, ?_, fun φ hφ => ?_⟩
              · rw [lmL_cons]
                have : ((some (Tm.node k ts)).bind fun t => (partsM t)[j]?) = some q := hj
                rw [this, a1]
                exact b1
              · rintro x ⟨p', hp', hx⟩
                rcases List.mem_cons.mp hp' with e' | e'
                · subst e'
                  obtain ⟨y, hy⟩ := a4 x hx
                  exact ⟨y, b3 x y hy⟩
                · exact b4 x ⟨p', e', hx⟩
              · intro x y hy
                rcases b5 x y hy with z | ⟨p', hp', hx⟩
                · rcases a5 x y z with z | z
                  · exact .inl z
                  · exact .inr ⟨p, List.mem_cons_self, z⟩
                · exact .inr ⟨p', List.mem_cons_of_mem _ hp', hx⟩
              · rw [List.map_cons, a6 φ (fun k x hk => hφ k x (b3 k x hk)), b6 φ hφ]
      obtain ⟨c1, c2, c3, c4, c5, c6⟩ := go ps ts 0 E hlen (fun p hp => by
        obtain ⟨i, hi⟩ := List.mem_iff_getElem?.mp hp
        exact ⟨i, hi⟩) (fun q hq => ⟨hht q hq, hdt q hq⟩) (fun i => by rw [Nat.zero_add]) hE h
      have hhd : KM.hd k = [] := by
        cases k with
        | hole n => exact (h1 n rfl).elim
        | _ => rfl
      refine ⟨c1, c2, c3, fun x hx => ?_, fun x y z => ?_, fun φ hφ => ?_⟩
      · rcases mem_nums_node.mp hx with z | z
        · rw [hhd] at z; cases z
        · exact c4 x z
      · rcases c5 x y z with z | z
        · exact .inl z
        · exact .inr (mem_nums_node.mpr (.inr z))
      · rw [hm, fillN_miss (by cases k with | hole n => exact (h1 n rfl).elim | _ => rfl), c6 φ hφ]
    · rw [mt_not h1 (fun ts e => hts ⟨ts, e⟩)] at h
      cases h
end KM

/-! Matching, plainly: what the law finds. -/
namespace KM
open PySem Classical
theorem hit_of {φ : Fl} {k : Kd} (hk : ∀ n, k ≠ .hole n) : hit φ k = none := by
  cases k with
  | hole n => exact (hk n rfl).elim
  | _ => rfl
theorem hd_of {k : Kd} (hk : ∀ n, k ≠ .hole n) : KM.hd k = [] := by
  cases k with
  | hole n => exact (hk n rfl).elim
  | _ => rfl
theorem nums_hole (n : Int) (vs : List Nat) (x : Int) : x ∈ nums (.node (.hole n) (vars vs)) ↔ x = n := by
  rw [mem_nums_node]
  constructor
  · rintro (z | ⟨p, hp, z⟩)
    · exact List.mem_singleton.mp z
    · obtain ⟨v, _, rfl⟩ := List.mem_map.mp hp
      rw [nums_var] at z; cases z
  · rintro rfl; exact .inl (List.mem_singleton.mpr rfl)
theorem ar_len {k : Kd} {m n : Nat} (hk : ∀ n, k ≠ .hole n) (h1 : arOk k m) (h2 : arOk k n) : m = n := by
  cases k with
  | hole n => exact (hk n rfl).elim
  | app => exact Eq.trans h1 (Eq.symm h2)
  | pi => exact Eq.trans h1 (Eq.symm h2)
  | fn => exact Eq.trans h1 (Eq.symm h2)
  | lt => exact Eq.trans h1 (Eq.symm h2)
theorem parts_hf {t : Tm} (h : Hf t) {j : Nat} {q : Tm} (hq : (partsM t)[j]? = some q) : Hf q := by
  cases t with
  | node k ts => exact (hf_node h).2 q (List.mem_of_getElem? hq)
  | _ => simp [partsM] at hq
theorem parts_dl {D : Nat} {t : Tm} (h : dle D t) {j : Nat} {q : Tm} (hq : (partsM t)[j]? = some q) : dle D q := by
  cases t with
  | node k ts =>
    cases D with
    | zero => exact h.elim
    | succ D => exact dle_mono (h.2 q (List.mem_of_getElem? hq)) (Nat.le_succ D)
  | _ => simp [partsM] at hq
/-- what the law finds -/
theorem lm_ok {hs : List (Int × Nat)} {D : Nat} : ∀ {d w : Nat} {p : Tm}, Pt hs d w p → ∀ {ot : Option Tm} {E E' : Ens}, (∀ t, ot = some t → Hf t ∧ dle D t) → GE hs D E → lm p ot E = some E' →
    GE hs D E' ∧ Sub E (fE E') ∧ ∀ x ∈ nums p, ∃ y, E'.lookup x = some y := by
  intro d w p hp
  induction hp with
  | var h =>
    intro ot E E' _ hE h
    rw [lm_var] at h; cases h
    exact ⟨hE, fun _ _ z => z, (fun x hx => by rw [nums_var] at hx; cases hx)⟩
  | atom =>
    intro ot E E' _ hE h
    rw [lm_atom] at h; cases h
    exact ⟨hE, fun _ _ z => z, (fun x hx => by rw [nums_atom] at hx; cases hx)⟩
  | @hole d w n vs h1 h2 h3 h4 =>
    intro ot E E' ht hE h
    rw [lm_hole, argv_vars] at h
    cases e : E.lookup n with
    | some x =>
      rw [e] at h; cases h
      exact ⟨hE, fun _ _ z => z, fun x hx => by rw [(nums_hole n vs x).mp hx]; exact ⟨_, e⟩⟩
    | none =>
      rw [e] at h
      cases ot with
      | none => cases h
      | some t =>
        simp only at h
        obtain ⟨ht1, ht2⟩ := ht t rfl
        by_cases hf : Fr (· ∈ vs) 0 t
        · have hb : bodyO vs t = some (ren (spo vs) 0 t) := by unfold bodyO; rw [if_pos hf]
          rw [hb] at h
          simp only [List.length_map] at h
          cases h
          refine ⟨hE.snoc e h1 (all_ren ht1) (dle_ren ht2) (sc_ren hf), fun k x hk => ?_, fun x hx => ?_⟩
          · show (E ++ [(n, vs.length, _)]).lookup k = _
            rw [look_snoc e]
            by_cases q : k = n
            · subst q; rw [e] at hk; cases hk
            · rw [if_neg q]; exact hk
          · rw [(nums_hole n vs x).mp hx, look_snoc e, if_pos rfl]; exact ⟨_, rfl⟩
        · have hb : bodyO vs t = none := by unfold bodyO; rw [if_neg hf]
          rw [hb] at h; cases h
  | @node d w k ps h1 h2 h3 ih =>
    intro ot E E' ht hE h
    rw [lm_node h1] at h
    have go : ∀ (ps' : List Tm) (j : Nat) (E : Ens), (∀ p ∈ ps', ∃ i : Nat, ps[i]? = some p) → GE hs D E → lmL ps' j ot E = some E' → GE hs D E' ∧ Sub E (fE E') ∧ ∀ x, (∃ p ∈ ps', x ∈ nums p) → ∃ y, E'.lookup x = some y := by
      intro ps'
      induction ps' with
      | nil =>
        intro j E _ hE h
        rw [lmL_nil] at h; cases h
        exact ⟨hE, fun _ _ z => z, (fun x ⟨p, hp, _⟩ => by cases hp)⟩
      | cons p ps' ih2 =>
        intro j E hmem hE h
        rw [lmL_cons] at h
        cases e : lm p (ot.bind fun t => (partsM t)[j]?) E with
        | none => rw [e] at h; cases h
        | some E1 =>
          rw [e] at h
          obtain ⟨i, hi⟩ := hmem p List.mem_cons_self
          obtain ⟨a1, a2, a3⟩ := ih i p hi (ot := ot.bind fun t => (partsM t)[j]?) (fun q hq => by
            obtain ⟨t, rfl, ht'⟩ := Option.bind_eq_some_iff.mp hq
            exact ⟨parts_hf (ht t rfl).1 ht', parts_dl (ht t rfl).2 ht'⟩) hE e
          obtain ⟨b1, b2, b3⟩ := ih2 (j + 1) E1 (fun p hp => hmem p (List.mem_cons_of_mem _ hp)) a1 h
          refine ⟨b1, fun k x hk => b2 k x (a2 k x hk), ?_⟩
          rintro x ⟨p', hp', hx⟩
          rcases List.mem_cons.mp hp' with e' | e'
          · subst e'
            obtain ⟨y, hy⟩ := a3 x hx
            exact ⟨y, b2 x y hy⟩
          · exact b3 x ⟨p', e', hx⟩
    obtain ⟨c1, c2, c3⟩ := go ps 0 E (fun p hp => List.mem_iff_getElem?.mp hp) hE h
    refine ⟨c1, c2, fun x hx => ?_⟩
    rcases mem_nums_node.mp hx with z | z
    · rw [hd_of h1] at z; cases z
    · exact c3 x z
/-- the law's find, if it fills the pattern to the term, is the program's -/
theorem lm_mt {hs : List (Int × Nat)} {D : Nat} (hn : (hs.map (·.1)).Nodup) : ∀ {d w : Nat} {p : Tm}, Pt hs d w p → ∀ {t : Tm} {E E' : Ens} {φ : Fl}, Hf t → dle D t → GE hs D E → lm p (some t) E = some E' → Sub E' φ → fillN φ (d + D) p = t → mt p t E = some E' := by
  intro d w p hp
  induction hp with
  | var h =>
    intro t E E' φ _ _ _ h _ hf
    rw [lm_var] at h; cases h
    rw [fillN_var] at hf
    rw [mt_var, if_pos hf.symm]
  | atom =>
    intro t E E' φ _ _ _ h _ hf
    rw [lm_atom] at h; cases h
    rw [fillN_atom] at hf
    rw [mt_atom, if_pos hf.symm]
  | @hole d w n vs h1 h2 h3 h4 =>
    intro t E E' φ ht hd hE h hφ hf
    rw [lm_hole, argv_vars] at h
    rw [mt_hole, argv_vars]
    cases e : E.lookup n with
    | some x =>
      rw [e] at h; cases h
      obtain ⟨ar, b⟩ := x
      obtain ⟨k1, k2, k3, k4⟩ := hE.ok _ (look_in e)
      have ea : ar = vs.length := ar_eq hn k1 h1
      subst ea
      rw [show d + 1 + D = (d + D) + 1 by omega, fill_hole (hφ _ _ e) k2 k3 (Nat.le_add_left _ _)] at hf
      subst hf
      have hb : bodyO vs (putU (vars vs) 0 b) = some b := by unfold bodyO; rw [if_pos (fr_put k4), ren_put h2 k4]
      rw [hb]
      simp
    | none =>
      rw [e] at h
      simp only at h
      cases hb : bodyO vs t with
      | none => rw [hb] at h; cases h
      | some b =>
        rw [hb] at h
        exact h
  | @node d w k ps h1 h2 h3 ih =>
    intro t E E' φ ht hd hE h hφ hf
    rw [lm_node h1] at h
    rw [show d + 1 + D = (d + D) + 1 by omega, fillN_miss (hit_of h1)] at hf
    subst hf
    rw [mt_node h1]
    have hdt : ∀ q ∈ ps.map (fillN φ (d + D)), dle D q := by
      cases D with
      | zero => exact hd.elim
      | succ D => exact fun q hq => dle_mono (hd.2 q hq) (Nat.le_succ D)
    have go : ∀ (ps' : List Tm) (j : Nat) (E : Ens), (∀ i : Nat, ps'[i]? = ps[j + i]?) → GE hs D E → lmL ps' j (some (.node k (ps.map (fillN φ (d + D))))) E = some E' → mtL ps' (ps'.map (fillN φ (d + D))) E = some E' := by
      intro ps'
      induction ps' with
      | nil => intro j E _ _ h; rw [lmL_nil] at h; cases h; exact mtL_nil
      | cons p ps' ih2 =>
        intro j E hget hE h
        have hpj : ps[j]? = some p := by
          have z := hget 0
          simp at z
          exact z.symm
        have hj : ((some (Tm.node k (ps.map (fillN φ (d + D))))).bind fun t => (partsM t)[j]?) = some (fillN φ (d + D) p) := by
          show (ps.map (fillN φ (d + D)))[j]? = _
          rw [List.getElem?_map, hpj]
          rfl
        rw [lmL_cons, hj] at h
        have hm : fillN φ (d + D) p ∈ ps.map (fillN φ (d + D)) := List.mem_map_of_mem (List.mem_of_getElem? hpj)
        have hpf := (hf_node ht).2 _ hm
        cases e : lm p (some (fillN φ (d + D) p)) E with
        | none => rw [e] at h; cases h
        | some E1 =>
          rw [e] at h
          simp only at h
          obtain ⟨a1, a2, a3⟩ := lm_ok (h3 j p hpj) (fun t z => by cases z; exact ⟨hpf, hdt _ hm⟩) hE e
          have rest : Sub E1 (fE E') := by
            have go2 : ∀ (ps' : List Tm) (j : Nat) (E : Ens), (∀ p ∈ ps', ∃ i : Nat, ps[i]? = some p) → GE hs D E → lmL ps' j (some (.node k (ps.map (fillN φ (d + D))))) E = some E' → Sub E (fE E') := by
              intro ps'
              induction ps' with
              | nil => intro j E _ _ h; rw [lmL_nil] at h; cases h; exact fun _ _ z => z
              | cons p ps' ih3 =>
                intro j E hmem hE h
                rw [lmL_cons] at h
                cases e : lm p ((some (Tm.node k (ps.map (fillN φ (d + D))))).bind fun t => (partsM t)[j]?) E with
                | none => rw [e] at h; cases h
                | some E2 =>
                  rw [e] at h
                  obtain ⟨i, hi⟩ := hmem p List.mem_cons_self
                  obtain ⟨b1, b2, _⟩ := lm_ok (h3 i p hi) (fun q hq => by
                    obtain ⟨t, et, ht'⟩ := Option.bind_eq_some_iff.mp hq
                    cases et
                    exact ⟨parts_hf ht ht', parts_dl hd ht'⟩) hE e
                  exact fun k x hk => ih3 (j + 1) E2 (fun p hp => hmem p (List.mem_cons_of_mem _ hp)) b1 h k x (b2 k x hk)
            refine go2 ps' (j + 1) E1 (fun q hq => ?_) a1 h
            obtain ⟨i, hi⟩ := List.mem_iff_getElem?.mp hq
            refine ⟨j + (i + 1), ?_⟩
            rw [← hget (i + 1)]
            simpa using hi
          have m1 := ih j p hpj hpf (hdt _ hm) hE e (φ := φ) (fun k x hk => hφ k x (rest k x hk)) rfl
          rw [List.map_cons, mtL_cons, m1]
          simp only
          refine ih2 (j + 1) E1 (fun i => ?_) a1 h
          rw [show j + 1 + i = j + (i + 1) by omega, ← hget (i + 1)]
          simp
    exact go ps 0 E (fun i => by rw [Nat.zero_add]) hE h
/-- a filling of the pattern is found -/
theorem mt_tot {hs : List (Int × Nat)} {D : Nat} (hn : (hs.map (·.1)).Nodup) {φ : Fl} : ∀ {d w : Nat} {p : Tm}, Pt hs d w p → (∀ x ∈ nums p, ∃ ar b, φ x = some (ar, b) ∧ (x, ar) ∈ hs ∧ Hf b ∧ dle D b ∧ sc ar b) → ∀ {E : Ens}, Sub E φ → Hf (fillN φ (d + D) p) → dle D (fillN φ (d + D) p) → GE hs D E →
    ∃ E', mt p (fillN φ (d + D) p) E = some E' ∧ Sub E' φ := by
  intro d w p hp
  induction hp with
  | var h => intro _ E hE _ _ _; exact ⟨E, by rw [fillN_var, mt_var, if_pos rfl], hE⟩
  | atom => intro _ E hE _ _ _; exact ⟨E, by rw [fillN_atom, mt_atom, if_pos rfl], hE⟩
  | @hole d w n vs h1 h2 h3 h4 =>
    intro hx E hE _ _ hG
    obtain ⟨ar, b, e1, e2, e3, e4, e5⟩ := hx n ((nums_hole n vs n).mpr rfl)
    have ea : ar = vs.length := ar_eq hn e2 h1
    subst ea
    rw [show d + 1 + D = (d + D) + 1 by omega, fill_hole e1 e3 e4 (Nat.le_add_left _ _), mt_hole, argv_vars]
    have hb : bodyO vs (putU (vars vs) 0 b) = some b := by unfold bodyO; rw [if_pos (fr_put e5), ren_put h2 e5]
    rw [hb]
    simp only
    cases e : E.lookup n with
    | some x =>
      have z := hE _ _ e
      rw [e1] at z
      cases z
      exact ⟨E, by simp, hE⟩
    | none =>
      refine ⟨_, rfl, fun k x hk => ?_⟩
      simp only [List.length_map] at hk
      rw [look_snoc e] at hk
      by_cases q : k = n
      · subst q; rw [if_pos rfl] at hk; cases hk; exact e1
      · rw [if_neg q] at hk; exact hE k x hk
  | @node d w k ps h1 h2 h3 ih =>
    intro hx E hE ht hd hG
    rw [show d + 1 + D = (d + D) + 1 by omega, fillN_miss (hit_of h1)] at ht hd ⊢
    rw [mt_node h1]
    have hdt : ∀ q ∈ ps.map (fillN φ (d + D)), dle D q := by
      cases D with
      | zero => exact hd.elim
      | succ D => exact fun q hq => dle_mono (hd.2 q hq) (Nat.le_succ D)
    have go : ∀ (ps' : List Tm) (E : Ens), (∀ p ∈ ps', p ∈ ps) → Sub E φ → GE hs D E → ∃ E', mtL ps' (ps'.map (fillN φ (d + D))) E = some E' ∧ Sub E' φ := by
      intro ps'
      induction ps' with
      | nil => intro E _ hE _; exact ⟨E, mtL_nil, hE⟩
      | cons p ps' ih2 =>
        intro E hmem hE hG
        have hpm := hmem p List.mem_cons_self
        obtain ⟨i, hi⟩ := List.mem_iff_getElem?.mp hpm
        have hm : fillN φ (d + D) p ∈ ps.map (fillN φ (d + D)) := List.mem_map_of_mem hpm
        obtain ⟨E1, a1, a2⟩ := ih i p hi (fun x hx' => hx x (mem_nums_node.mpr (.inr ⟨p, hpm, hx'⟩))) hE ((hf_node ht).2 _ hm) (hdt _ hm) hG
        have ok := mt_ok hn (h3 i p hi) ((hf_node ht).2 _ hm) (hdt _ hm) hG a1
        obtain ⟨E', b1, b2⟩ := ih2 E1 (fun p hp => hmem p (List.mem_cons_of_mem _ hp)) a2 ok.2.1
        refine ⟨E', ?_, b2⟩
        rw [List.map_cons, mtL_cons, a1]
        exact b1
    exact go ps E (fun _ h => h) hE hG
/-- a filled pattern -/
theorem pt_fill {hs : List (Int × Nat)} {D : Nat} (hn : (hs.map (·.1)).Nodup) {φ : Fl} : ∀ {d w : Nat} {p : Tm}, Pt hs d w p → (∀ x ∈ nums p, ∃ ar b, φ x = some (ar, b) ∧ (x, ar) ∈ hs ∧ Hf b ∧ dle D b ∧ sc ar b) →
    wf φ (d + D) w p ∧ cst φ (d + D) p (d + D + 2) ∧ dle (d + D) (fillN φ (d + D) p) ∧ Hf (fillN φ (d + D) p) ∧ ∀ B, d + D ≤ B → KP.fdl φ B B (d + D) p := by
  intro d w p hp
  induction hp with
  | var h => intro _; exact ⟨wf_var.mpr h, cst_var.mpr (by omega), by rw [fillN_var]; exact dle_var _ _, by rw [fillN_var]; exact all_var, fun B _ => fdl_var _⟩
  | atom => intro _; exact ⟨wf_atom, cst_atom.mpr (by omega), by rw [fillN_atom]; exact dle_atom _ _ _, by rw [fillN_atom]; exact all_atom.mpr trivial, fun B _ => fdl_atom _⟩
  | @hole d w n vs h1 h2 h3 h4 =>
    intro hx
    obtain ⟨ar, b, e1, e2, e3, e4, e5⟩ := hx n ((nums_hole n vs n).mpr rfl)
    have ea : ar = vs.length := ar_eq hn e2 h1
    subst ea
    have hk : hit φ (.hole n) = some (vs.length, b) := e1
    have ebf := none_fill (φ := φ) (hf_none e3) (dle_mono e4 (Nat.le_add_left D d))
    rw [show d + 1 + D = (d + D) + 1 by omega]
    have hv : ∀ p ∈ vars vs, ∃ v, v ∈ vs ∧ p = .var v := fun p hp => by
      obtain ⟨v, hv, rfl⟩ := List.mem_map.mp hp
      exact ⟨v, hv, rfl⟩
    refine ⟨(wf_hit hk).mpr ⟨by simp, fun p hp => ?_, none_wf (hf_none e3) (dle_mono e4 (Nat.le_add_left D d)) e5⟩, (cst_hit hk).mpr ⟨D + 1, 1, ?_, fun p hp => ?_, by omega⟩, ?_, ?_, fun B hB => ⟨?_, fun p hp => ?_, ?_⟩⟩
    · obtain ⟨v, hv1, rfl⟩ := hv p hp
      exact wf_var.mpr (h3 v hv1)
    · have cs : ∀ {n : Nat} {t : Tm} {m : Nat}, Hf t → dle n t → n ≤ m → cst φ m t (n + 1) := by
        intro n
        induction n with
        | zero =>
          intro t m hh hd hm
          cases t with
          | var i => exact cst_var.mpr (by omega)
          | atom u xs => exact cst_atom.mpr (by omega)
          | node k ps => exact hd.elim
        | succ n ihn =>
          intro t m hh hd hm
          obtain ⟨m, rfl⟩ : ∃ z, m = z + 1 := ⟨m - 1, by omega⟩
          cases t with
          | var i => exact cst_var.mpr (by omega)
          | atom u xs => exact cst_atom.mpr (by omega)
          | node k ps =>
            obtain ⟨q1, q2⟩ := hf_node hh
            exact (cst_miss (hit_of q1)).mpr ⟨n + 1, fun p hp => ihn (q2 p hp) (hd.2 p hp) (by omega), by omega⟩
      exact cs e3 e4 (Nat.le_add_left D d)
    · obtain ⟨v, _, rfl⟩ := hv p hp
      exact cst_var.mpr (Nat.le_refl _)
    · rw [fillN_hit hk, ebf]
      refine dle_mono (dle_put (m := 0) e4 fun q hq => ?_) (by omega)
      obtain ⟨p, hp, rfl⟩ := List.mem_map.mp hq
      obtain ⟨v, _, rfl⟩ := hv p hp
      rw [fillN_var]; trivial
    · rw [fillN_hit hk, ebf]
      refine all_put e3 fun q hq => ?_
      obtain ⟨p, hp, rfl⟩ := List.mem_map.mp hq
      obtain ⟨v, _, rfl⟩ := hv p hp
      rw [fillN_var]; exact all_var
    · simp; omega
    · obtain ⟨v, _, rfl⟩ := hv p hp
      exact fdl_var _
    · rw [hk]
      refine ⟨fun p hp => ?_, none_fdl (hf_none e3) (dle_mono e4 (Nat.le_add_left D d)), by rw [ebf]; exact dle_mono e4 (by omega)⟩
      obtain ⟨v, _, rfl⟩ := hv p hp
      rw [fillN_var]; exact dle_var _ _
  | @node d w k ps h1 h2 h3 ih =>
    intro hx
    have hk := hit_of (φ := φ) h1
    rw [show d + 1 + D = (d + D) + 1 by omega]
    have ih' : ∀ j p, ps[j]? = some p → _ := fun j p hp => ih j p hp fun x hx' => hx x (mem_nums_node.mpr (.inr ⟨p, List.mem_of_getElem? hp, hx'⟩))
    have ihm : ∀ p ∈ ps, cst φ (d + D) p (d + D + 2) ∧ dle (d + D) (fillN φ (d + D) p) ∧ Hf (fillN φ (d + D) p) ∧ ∀ B, d + D ≤ B → KP.fdl φ B B (d + D) p := fun p hp => by
      obtain ⟨j, hj⟩ := List.mem_iff_getElem?.mp hp
      exact (ih' j p hj).2
    refine ⟨(wf_miss hk).mpr fun j p hp => (ih' j p hp).1, (cst_miss hk).mpr ⟨_, fun p hp => (ihm p hp).1, by omega⟩, ?_, ?_, fun B hB => ⟨Nat.le_trans h2.le (by decide), fun p hp => (ihm p hp).2.2.2 B (by omega), by rw [hk]; trivial⟩⟩
    · rw [fillN_miss hk]
      refine ⟨by rw [List.length_map]; exact h2, fun q hq => ?_⟩
      obtain ⟨p, hp, rfl⟩ := List.mem_map.mp hq
      exact (ihm p hp).2.1
    · rw [fillN_miss hk]
      refine all_node.mpr ⟨(by rw [hd_of h1]; intro h hh; cases hh), fun q hq => ?_⟩
      obtain ⟨p, hp, rfl⟩ := List.mem_map.mp hq
      exact (ihm p hp).2.2.1
end KM

/-! Terms as data: equal as data, equal as terms. -/
namespace KP
open PySem PyProof.Rows L2 LamX NdefX KL KM KD
mutual
/-- data of numbers, texts and tuples -/
def pl : PyData → Bool
  | .int _ => true
  | .str _ => true
  | .tuple xs => plL xs
  | .none => false
  | .bool _ => false
  | .list _ => false
  | .dict _ => false
def plL : List PyData → Bool
  | [] => true
  | x :: xs => pl x && plL xs
end
mutual
theorem eqv_pl : ∀ {a b : PyData}, pl a = true → pl b = true → PyData.eqv a b = true → a = b
  | .int i, b, _, hb, h => by
    cases b with
    | int j => simp only [PyData.eqv] at h; rw [eq_of_beq h]
    | bool j => simp [pl] at hb
    | _ => simp [PyData.eqv] at h
  | .str i, b, _, hb, h => by
    cases b with
    | str j => simp only [PyData.eqv] at h; rw [eq_of_beq h]
    | _ => simp [PyData.eqv] at h
  | .tuple xs, b, ha, hb, h => by
    cases b with
    | tuple ys =>
      simp only [PyData.eqv] at h
      rw [eqv_plL (xs := xs) (ys := ys) (by simpa [pl] using ha) (by simpa [pl] using hb) h]
    | _ => simp [PyData.eqv] at h
  | .none, _, ha, _, _ => by simp [pl] at ha
  | .bool _, _, ha, _, _ => by simp [pl] at ha
  | .list _, _, ha, _, _ => by simp [pl] at ha
  | .dict _, _, ha, _, _ => by simp [pl] at ha
theorem eqv_plL : ∀ {xs ys : List PyData}, plL xs = true → plL ys = true → PyData.eqvAll xs ys = true → xs = ys
  | [], ys, _, _, h => by
    cases ys with
    | nil => rfl
    | cons y ys => simp [PyData.eqvAll] at h
  | x :: xs, ys, ha, hb, h => by
    cases ys with
    | nil => simp [PyData.eqvAll] at h
    | cons y ys =>
      simp only [PyData.eqvAll, Bool.and_eq_true] at h
      simp only [plL, Bool.and_eq_true] at ha hb
      rw [eqv_pl ha.1 hb.1 h.1, eqv_plL ha.2 hb.2 h.2]
end
theorem enc_inj : ∀ (a b : Tm), enc a = enc b → a = b := by
  intro a
  refine Tm.ind (P := fun a => ∀ b, enc a = enc b → a = b) ?_ ?_ ?_ a
  · intro i b h
    rw [enc_var] at h
    cases b with
    | var j => rw [enc_var] at h; injection h with h; injection h with _ h; injection h with h _; injection h with h; rw [Int.ofNat.inj h]
    | atom u xs =>
      rw [enc_atom] at h; injection h with h; injection h with h _; injection h with h
      cases u
      · exact absurd h (by show ¬ ("var" : Str) = "const"; decide +kernel)
      · exact absurd h (by show ¬ ("var" : Str) = "univ"; decide +kernel)
    | node k ps =>
      cases k with
      | hole n => rw [enc_hole] at h; injection h with h; injection h with h _; injection h with h; exact absurd h (by decide +kernel)
      | app => rw [enc_node (by intro n z; cases z)] at h; injection h with h; injection h with h _; injection h with h; exact absurd h (by show ¬ ("var" : Str) = "app"; decide +kernel)
      | pi => rw [enc_node (by intro n z; cases z)] at h; injection h with h; injection h with h _; injection h with h; exact absurd h (by show ¬ ("var" : Str) = "pi"; decide +kernel)
      | fn => rw [enc_node (by intro n z; cases z)] at h; injection h with h; injection h with h _; injection h with h; exact absurd h (by show ¬ ("var" : Str) = "fun"; decide +kernel)
      | lt => rw [enc_node (by intro n z; cases z)] at h; injection h with h; injection h with h _; injection h with h; exact absurd h (by show ¬ ("var" : Str) = "let"; decide +kernel)
  · intro u xs b h
    have tg : ∀ z : Str, z ≠ "univ" → z ≠ "const" → ¬ (if u = true then ("univ" : Str) else "const") = z := by
      intro z h1 h2 e
      cases u
      · exact h2 e.symm
      · exact h1 e.symm
    rw [enc_atom] at h
    cases b with
    | var j => rw [enc_var] at h; injection h with h; injection h with h _; injection h with h; exact absurd h (tg "var" (by decide +kernel) (by decide +kernel))
    | atom u' xs' =>
      rw [enc_atom] at h; injection h with h; injection h with h1 h2; injection h1 with h1
      have : u = u' := by
        cases u <;> cases u'
        · rfl
        · exact absurd h1 (by show ¬ ("const" : Str) = "univ"; decide +kernel)
        · exact absurd h1 (by show ¬ ("univ" : Str) = "const"; decide +kernel)
        · rfl
      rw [this, h2]
    | node k ps =>
      cases k with
      | hole n => rw [enc_hole] at h; injection h with h; injection h with h _; injection h with h; exact absurd h (tg "hole" (by decide +kernel) (by decide +kernel))
      | app => rw [enc_node (by intro n z; cases z)] at h; injection h with h; injection h with h _; injection h with h; exact absurd h (tg "app" (by decide +kernel) (by decide +kernel))
      | pi => rw [enc_node (by intro n z; cases z)] at h; injection h with h; injection h with h _; injection h with h; exact absurd h (tg "pi" (by decide +kernel) (by decide +kernel))
      | fn => rw [enc_node (by intro n z; cases z)] at h; injection h with h; injection h with h _; injection h with h; exact absurd h (tg "fun" (by decide +kernel) (by decide +kernel))
      | lt => rw [enc_node (by intro n z; cases z)] at h; injection h with h; injection h with h _; injection h with h; exact absurd h (tg "let" (by decide +kernel) (by decide +kernel))
  · intro k ps ih b h
    have tgN : ∀ k : Kd, Kd.tag k ≠ "var" ∧ Kd.tag k ≠ "univ" ∧ Kd.tag k ≠ "const" := by
      intro k
      cases k with
      | hole n => exact (show ("hole" : Str) ≠ "var" ∧ ("hole" : Str) ≠ "univ" ∧ ("hole" : Str) ≠ "const" by decide +kernel)
      | _ => decide +kernel
    have first : ∀ t : Tm, ∃ rs, enc t = .tuple (.str (tagOf t) :: rs) := by
      intro t
      cases t with
      | var i => exact ⟨_, enc_var i⟩
      | atom u xs => exact ⟨_, enc_atom u xs⟩
      | node k ps =>
        by_cases hk : ∃ n, k = .hole n
        · obtain ⟨n, rfl⟩ := hk; exact ⟨_, enc_hole n ps⟩
        · exact ⟨_, enc_node (fun n e => hk ⟨n, e⟩) ps⟩
    obtain ⟨r1, e1⟩ := first (.node k ps)
    obtain ⟨r2, e2⟩ := first b
    have ht : Kd.tag k = tagOf b := by
      have h' := h
      rw [e1, e2] at h'
      injection h' with h'; injection h' with h' _; injection h' with h'
    cases b with
    | var j => exact absurd ht (tgN k).1
    | atom u xs =>
      cases u
      · exact absurd ht (tgN k).2.2
      · exact absurd ht (tgN k).2.1
    | node k' qs =>
      have lists : ps.map enc = qs.map enc → ps = qs := by
        intro h
        have : ∀ (as bs : List Tm), (∀ a ∈ as, a ∈ ps) → as.map enc = bs.map enc → as = bs := by
          intro as
          induction as with
          | nil => intro bs _ h; cases bs with | nil => rfl | cons b bs => simp at h
          | cons a as ih2 =>
            intro bs hm h
            cases bs with
            | nil => simp at h
            | cons b bs =>
              simp only [List.map_cons, List.cons.injEq] at h
              rw [ih a (hm a List.mem_cons_self) b h.1, ih2 bs (fun a ha => hm a (List.mem_cons_of_mem _ ha)) h.2]
        exact this ps qs (fun _ h => h) h
      have ht : Kd.tag k = Kd.tag k' := ht
      by_cases hk : ∃ n, k = .hole n
      · obtain ⟨n, rfl⟩ := hk
        cases k' with
        | hole m =>
          rw [enc_hole, enc_hole] at h
          injection h with h; injection h with _ h; injection h with h1 h; injection h with h2 _; injection h1 with h1; injection h2 with h2
          rw [h1, lists h2]
        | app => exact absurd ht (show ¬ ("hole" : Str) = "app" by decide +kernel)
        | pi => exact absurd ht (show ¬ ("hole" : Str) = "pi" by decide +kernel)
        | fn => exact absurd ht (show ¬ ("hole" : Str) = "fun" by decide +kernel)
        | lt => exact absurd ht (show ¬ ("hole" : Str) = "let" by decide +kernel)
      · have hk : ∀ n, k ≠ .hole n := fun n e => hk ⟨n, e⟩
        have hk' : ∀ n, k' ≠ .hole n := fun n e => by
          subst e
          cases k with
          | hole n => exact hk n rfl
          | app => exact absurd ht (show ¬ ("app" : Str) = "hole" by decide +kernel)
          | pi => exact absurd ht (show ¬ ("pi" : Str) = "hole" by decide +kernel)
          | fn => exact absurd ht (show ¬ ("fun" : Str) = "hole" by decide +kernel)
          | lt => exact absurd ht (show ¬ ("let" : Str) = "hole" by decide +kernel)
        have kk : k = k' := by
          cases k with
          | hole n => exact (hk n rfl).elim
          | app => cases k' with | hole n => exact (hk' n rfl).elim | app => rfl | pi => exact absurd ht (show ¬ ("app" : Str) = "pi" by decide +kernel) | fn => exact absurd ht (show ¬ ("app" : Str) = "fun" by decide +kernel) | lt => exact absurd ht (show ¬ ("app" : Str) = "let" by decide +kernel)
          | pi => cases k' with | hole n => exact (hk' n rfl).elim | pi => rfl | app => exact absurd ht (show ¬ ("pi" : Str) = "app" by decide +kernel) | fn => exact absurd ht (show ¬ ("pi" : Str) = "fun" by decide +kernel) | lt => exact absurd ht (show ¬ ("pi" : Str) = "let" by decide +kernel)
          | fn => cases k' with | hole n => exact (hk' n rfl).elim | fn => rfl | app => exact absurd ht (show ¬ ("fun" : Str) = "app" by decide +kernel) | pi => exact absurd ht (show ¬ ("fun" : Str) = "pi" by decide +kernel) | lt => exact absurd ht (show ¬ ("fun" : Str) = "let" by decide +kernel)
          | lt => cases k' with | hole n => exact (hk' n rfl).elim | lt => rfl | app => exact absurd ht (show ¬ ("let" : Str) = "app" by decide +kernel) | pi => exact absurd ht (show ¬ ("let" : Str) = "pi" by decide +kernel) | fn => exact absurd ht (show ¬ ("let" : Str) = "fun" by decide +kernel)
        rw [enc_node hk, enc_node hk'] at h
        injection h with h; injection h with _ h
        rw [kk, lists h]
theorem plL_map : ∀ {ps : List Tm}, (∀ p ∈ ps, pl (enc p) = true) → plL (ps.map enc) = true
  | [], _ => by simp [plL]
  | p :: ps, h => by
    simp only [List.map_cons, plL, Bool.and_eq_true]
    exact ⟨h p List.mem_cons_self, plL_map fun q hq => h q (List.mem_cons_of_mem _ hq)⟩
/-- the atoms drawn are plain data -/
def PlA (pa : Bool → List PyData → Prop) : Prop := ∀ u xs, pa u xs → plL xs = true
theorem pl_enc {ph : Int → Prop} {pa : Bool → List PyData → Prop} (hp : PlA pa) : ∀ {t : Tm}, All ph pa t → pl (enc t) = true := by
  intro t
  refine Tm.ind (P := fun t => All ph pa t → pl (enc t) = true) ?_ ?_ ?_ t
  · intro i _; rw [enc_var]; simp [pl, plL]
  · intro u xs h; rw [enc_atom]; simp [pl, plL, hp u xs (all_atom.mp h)]
  · intro k ps ih h
    obtain ⟨_, h2⟩ := all_node.mp h
    have hl := plL_map fun p hp => ih p hp (h2 p hp)
    by_cases hk : ∃ n, k = .hole n
    · obtain ⟨n, rfl⟩ := hk; rw [enc_hole]; simp [pl, plL, hl]
    · rw [enc_node (fun n e => hk ⟨n, e⟩)]; simp [pl, plL, hl]
theorem pa0_pl : PlA pa0 := by
  rintro u xs (⟨rfl, d, hd, rfl⟩ | ⟨rfl, n, hn, l, hl, rfl⟩)
  · have : ∀ d ∈ unis, pl d = true := by unfold unis; simp [pl, plL]
    simp [plL, this d hd]
  · have h1 : ∀ d ∈ nams, pl d = true := by unfold nams; simp [pl]
    have h2 : ∀ d ∈ lvls, pl d = true := by unfold lvls; simp [pl, plL]
    simp [plL, h1 n hn, h2 l hl]
open Classical in
theorem eqv_enc {ph ph' : Int → Prop} {a b : Tm} (ha : All ph pa0 a) (hb : All ph' pa0 b) (hs : SeqAt.shaped (enc a) = true) : PyData.eqv (enc a) (enc b) = decide (a = b) := by
  by_cases e : a = b
  · subst e
    rw [SeqAt.eqv_refl _ (SeqAt.canLay_of_shaped hs), decide_eq_true rfl]
  · rw [decide_eq_false e]
    cases q : PyData.eqv (enc a) (enc b) with
    | false => rfl
    | true => exact (e (enc_inj a b (eqv_pl (pl_enc pa0_pl ha) (pl_enc pa0_pl hb) q))).elim
end KP

/-! same_node, body_under, body_over -/
namespace KP
open PySem PyProof.Rows L2 LamX NdefX KL KM KD
abbrev sSame : Stmt := top 4
abbrev sBUnd : Stmt := top 12
abbrev sBOv : Stmt := top 13
theorem all_pa {ph : Int → Prop} {pa pa' : Bool → List PyData → Prop} (h : ∀ u xs, pa u xs → pa' u xs) {t : Tm} : All ph pa t → All ph pa' t := by
  refine Tm.ind (P := fun t => All ph pa t → All ph pa' t) (fun _ _ => all_var) (fun _ _ a => all_atom.mpr (h _ _ (all_atom.mp a))) (fun k ps ih a => ?_) t
  obtain ⟨a1, a2⟩ := all_node.mp a
  exact all_node.mpr ⟨a1, fun p hp => ih p hp (a2 p hp)⟩
/-- a drawn term without holes -/
abbrev H0 (t : Tm) : Prop := All (fun _ => False) pa0 t
theorem H0.hf {t : Tm} (h : H0 t) : Hf t := all_pa (fun _ _ _ => trivial) h
theorem iteNeT {a b : Str} {A B : Prop} (e : ¬ a = b) (h : A) : if (!decide (V.str a = V.str b)) = true then A else B := by
  rw [if_pos (by rw [decide_eq_false (fun z => e (V.str.inj z))]; rfl)]; exact h
theorem iteNeF {a b : Str} {A B : Prop} (e : a = b) (h : B) : if (!decide (V.str a = V.str b)) = true then A else B := by
  rw [if_neg (by rw [decide_eq_true (congrArg V.str e)]; decide)]; exact h
section
variable {P : Program} {w : World} {K : PySem.W.Frag} {mg : Str → Option Value} {base : Heap} {T : List (Addr × Str)}
def SameN : Tm → Tm → Prop
  | .node k _, t => ∃ ts, t = .node k ts
  | p, t => t = p
def spSame (K : PySem.W.Frag) : Sp := fun vs H Q _ => ∃ v v' p t, vs = [v, v'] ∧ Tr K H v p ∧ Tr K H v' t ∧ (∀ n ps, p ≠ .node (.hole n) ps) ∧ (∃ ph, All ph pa0 p) ∧ (∃ ph, All ph pa0 t) ∧ SeqAt.shaped (enc p) = true ∧ SeqAt.shaped (enc t) = true ∧
  ∀ b : Bool, (b = true ↔ SameN p t) → Q (.bl b) H
theorem scSame : FnScope ["one", "other", "tag"] ["one", "other"] (defScope sSame) := ⟨rfl, rfl, rfl, by decide +kernel, rfl, by decide +kernel, by decide +kernel⟩
theorem tag_eq {p t : Tm} (h : tagOf p = tagOf t) : ∀ k ps, p = .node k ps → (∀ n, k ≠ .hole n) → ∃ ts, t = .node k ts := by
  rintro k ps rfl hk
  have h : Kd.tag k = tagOf t := h
  cases t with
  | var i =>
    cases k with
    | hole n => exact (hk n rfl).elim
    | app => exact absurd h (show ¬ ("app" : Str) = "var" by decide +kernel)
    | pi => exact absurd h (show ¬ ("pi" : Str) = "var" by decide +kernel)
    | fn => exact absurd h (show ¬ ("fun" : Str) = "var" by decide +kernel)
    | lt => exact absurd h (show ¬ ("let" : Str) = "var" by decide +kernel)
  | atom u xs =>
    cases u
    · cases k with
      | hole n => exact (hk n rfl).elim
      | app => exact absurd h (show ¬ ("app" : Str) = "const" by decide +kernel)
      | pi => exact absurd h (show ¬ ("pi" : Str) = "const" by decide +kernel)
      | fn => exact absurd h (show ¬ ("fun" : Str) = "const" by decide +kernel)
      | lt => exact absurd h (show ¬ ("let" : Str) = "const" by decide +kernel)
    · cases k with
      | hole n => exact (hk n rfl).elim
      | app => exact absurd h (show ¬ ("app" : Str) = "univ" by decide +kernel)
      | pi => exact absurd h (show ¬ ("pi" : Str) = "univ" by decide +kernel)
      | fn => exact absurd h (show ¬ ("fun" : Str) = "univ" by decide +kernel)
      | lt => exact absurd h (show ¬ ("let" : Str) = "univ" by decide +kernel)
  | node k' ts =>
    have h : Kd.tag k = Kd.tag k' := h
    cases k with
    | hole n => exact (hk n rfl).elim
    | app => cases k' with | app => exact ⟨ts, rfl⟩ | hole n => exact absurd h (show ¬ ("app" : Str) = "hole" by decide +kernel) | pi => exact absurd h (show ¬ ("app" : Str) = "pi" by decide +kernel) | fn => exact absurd h (show ¬ ("app" : Str) = "fun" by decide +kernel) | lt => exact absurd h (show ¬ ("app" : Str) = "let" by decide +kernel)
    | pi => cases k' with | pi => exact ⟨ts, rfl⟩ | hole n => exact absurd h (show ¬ ("pi" : Str) = "hole" by decide +kernel) | app => exact absurd h (show ¬ ("pi" : Str) = "app" by decide +kernel) | fn => exact absurd h (show ¬ ("pi" : Str) = "fun" by decide +kernel) | lt => exact absurd h (show ¬ ("pi" : Str) = "let" by decide +kernel)
    | fn => cases k' with | fn => exact ⟨ts, rfl⟩ | hole n => exact absurd h (show ¬ ("fun" : Str) = "hole" by decide +kernel) | app => exact absurd h (show ¬ ("fun" : Str) = "app" by decide +kernel) | pi => exact absurd h (show ¬ ("fun" : Str) = "pi" by decide +kernel) | lt => exact absurd h (show ¬ ("fun" : Str) = "let" by decide +kernel)
    | lt => cases k' with | lt => exact ⟨ts, rfl⟩ | hole n => exact absurd h (show ¬ ("let" : Str) = "hole" by decide +kernel) | app => exact absurd h (show ¬ ("let" : Str) = "app" by decide +kernel) | pi => exact absurd h (show ¬ ("let" : Str) = "pi" by decide +kernel) | fn => exact absurd h (show ¬ ("let" : Str) = "fun" by decide +kernel)
open Classical in
theorem ok_same {f : Addr} {fd : FuncData} (F : Fun K "same_node" "same_node" sSame f fd) : FnOk P w K mg base CX0 1 f fd ["one", "other"] (spSame K) := by
  refine F.ok scSame (fun vs H Q E h => ?_) (fun cdv A outer s H vs Q E hr h => ?_)
  · obtain ⟨v, v', p, t, rfl, _⟩ := h; rfl
  obtain ⟨v, v', p, t, rfl, hp, ht, hnh, ⟨ph, ap⟩, ⟨ph', at'⟩, sp, st, q⟩ := h
  have hu64 := hr.units
  refine ⟨_, pss_cons (ps_if (pt_cmpR op_ne (pe_ix ix_tup (pv 0) pe_int (fun _ _ => rfl)) (pe_ix ix_tup (pv 1) pe_int (fun _ _ => rfl)) (nomark _)) (pss_one (ps_ret pe_bl)) pss_nil)
    (pss_cons (ps_set (i := 2) scSame.nd rfl (.inl rfl) (pe_ix ix_tup (pv 0) pe_int (fun _ _ => rfl)))
    (pss_cons (ps_if (PW.pt (pw_or (pt_cmpR op_eq (pv 2) pe_str (nomark _)) (pw_or (pt_cmpR op_eq (pv 2) pe_str (nomark _)) (pw_or (pt_cmpR op_eq (pv 2) pe_str (nomark _)) (pw_or (pt_cmpR op_eq (pv 2) pe_str (nomark _)) (pw_or1 (pt_cmpR op_eq (pv 2) pe_str (nomark _))))))))
      (pss_one (ps_ret (pe_cmpR (op_eqD hu64) (pv 0) (pv 1) (nomark _)))) pss_nil)
    (pss_cons (ps_if (pt_cmpR op_eq (pv 2) pe_str (nomark _)) pss_never pss_nil)
    (pss_one (ps_ret pe_bl))))), ?_⟩
  obtain ⟨a, ys, rfl, h1⟩ := tr_tag hp
  obtain ⟨a', ys', rfl, h2⟩ := tr_tag ht
  refine ⟨_, rfl, a, _, 0, _, rfl, rfl, h1, at0, _, rfl, a', _, 0, _, rfl, rfl, h2, at0, rfl, _, rfl, ?_⟩
  by_cases e : tagOf p = tagOf t
  · refine iteNeF e ?_
    refine ⟨_, rfl, a, _, 0, _, rfl, rfl, h1, at0, ?_⟩
    have cmp : ∀ (hl : ∀ k ps, p ≠ .node k ps), tRet (tOp (rEqD K) (tVar 0) (tVar 1)) { nx := fun _ H' => Q .non H', rt := Q } [some (.ref a), some (.ref a'), some (.str (tagOf p))] H := fun hl => by
      refine ⟨_, rfl, _, rfl, _, _, Tp.dp _ _ hp, Tp.dp _ _ ht, sp, st, q _ ?_⟩
      rw [eqv_enc ap at' sp, decide_eq_true_eq]
      cases p with
      | node k ps => exact (hl k ps rfl).elim
      | var i => exact ⟨fun z => z.symm, fun z => Eq.symm z⟩
      | atom u xs => exact ⟨fun z => z.symm, fun z => Eq.symm z⟩
    cases p with
    | var i =>
      refine ⟨_, rfl, rfl, _, rfl, iteEqT rfl ?_⟩
      exact iteT (cmp (by intro k ps z; cases z))
    | atom u xs =>
      cases u with
      | false =>
        refine ⟨_, rfl, rfl, _, rfl, iteEqF (by show ¬ ("const" : Str) = _; decide +kernel) ?_⟩
        refine ⟨_, rfl, rfl, _, rfl, iteEqF (by show ¬ ("const" : Str) = _; decide +kernel) ?_⟩
        refine ⟨_, rfl, rfl, _, rfl, iteEqT rfl ?_⟩
        exact iteT (cmp (by intro k ps z; cases z))
      | true =>
        refine ⟨_, rfl, rfl, _, rfl, iteEqF (by show ¬ ("univ" : Str) = _; decide +kernel) ?_⟩
        refine ⟨_, rfl, rfl, _, rfl, iteEqT rfl ?_⟩
        exact iteT (cmp (by intro k ps z; cases z))
    | node k ps =>
      have hk : ∀ n, k ≠ .hole n := fun n z => hnh n ps (by rw [z])
      have yes := q true ⟨fun _ => tag_eq e k ps rfl hk, fun _ => rfl⟩
      cases k with
      | hole n => exact (hk n rfl).elim
      | app =>
        iterate 6 (refine ⟨_, rfl, rfl, _, rfl, ?_⟩; refine iteEqF (by show ¬ ("app" : Str) = _; decide +kernel) ?_)
        exact yes
      | pi =>
        iterate 6 (refine ⟨_, rfl, rfl, _, rfl, ?_⟩; refine iteEqF (by show ¬ ("pi" : Str) = _; decide +kernel) ?_)
        exact yes
      | fn =>
        iterate 6 (refine ⟨_, rfl, rfl, _, rfl, ?_⟩; refine iteEqF (by show ¬ ("fun" : Str) = _; decide +kernel) ?_)
        exact yes
      | lt =>
        iterate 6 (refine ⟨_, rfl, rfl, _, rfl, ?_⟩; refine iteEqF (by show ¬ ("let" : Str) = _; decide +kernel) ?_)
        exact yes
  · refine iteNeT e ?_
    refine q false ⟨(fun z => by cases z), fun z => ?_⟩
    exfalso
    apply e
    cases p with
    | node k ps => obtain ⟨ts, rfl⟩ := z; rfl
    | var i => have z : t = _ := z; rw [z]
    | atom u xs => have z : t = _ := z; rw [z]
end
end KP

/-! body_under, body_over -/
namespace KP
open PySem PyProof.Rows L2 LamX NdefX KL KM KD
theorem Cl.or2 {P : Program} {w : World} {K : PySem.W.Frag} {mg : Str → Option Value} {base : Heap} {k : Nat} {x : Str} {f : Addr} {fd : FuncData} {ps : List Str} {sp sp' : Sp} (C : Cl P w K mg base k x f fd ps sp) (C' : FnOk P w K mg base CX0 k f fd ps sp') : Cl P w K mg base k x f fd ps (fun vs H Q E => sp vs H Q E ∨ sp' vs H Q E) := by
  refine ⟨⟨fun vs H Q E h => ?_, fun A outer s H args us vs Q E a b c d h => ?_⟩, C.mg, C.kp, C.b⟩
  · rcases h with h | h
    · exact C.ok.len vs H Q E h
    · exact C'.len vs H Q E h
  · rcases h with h | h
    · exact C.ok.run A outer s H args us vs Q E a b c d h
    · exact C'.run A outer s H args us vs Q E a b c d h
section
variable {P : Program} {w : World} {K : PySem.W.Frag} {mg : Str → Option Value} {base : Heap} {T : List (Addr × Str)}
/-- with_parts of a leaf -/
def spWithL (K : PySem.W.Frag) : Sp := fun vs H Q _ => ∃ v l t, vs = [v, .ref l] ∧ Tr K H v t ∧ (∀ k ps, t ≠ .node k ps) ∧ Q v H
theorem ok_withL {f : Addr} {fd : FuncData} (F : Fun K "with_parts" "with_parts" sWith f fd) : FnOk P w K mg base CX0 1 f fd ["node", "parts"] (spWithL K) := by
  refine F.ok scWith (fun vs H Q E h => ?_) (fun cdv A outer s H vs Q E hr h => ?_)
  · obtain ⟨v, l, t, rfl, _⟩ := h; rfl
  obtain ⟨v, l, t, rfl, ht, hl, q⟩ := h
  refine ⟨_, pss_cons (ps_set (i := 2) scWith.nd rfl (.inl rfl) (pe_ix ix_tup (pv 0) pe_int (fun _ _ => rfl)))
    (pss_cons (ps_if (PW.pt (pw_or (pt_cmpR op_eq (pv 2) pe_str (nomark _)) (pw_or (pt_cmpR op_eq (pv 2) pe_str (nomark _)) (pw_or (pt_cmpR op_eq (pv 2) pe_str (nomark _)) (pw_or1 (pt_cmpR op_eq (pv 2) pe_str (nomark _))))))) pss_never pss_nil)
    (pss_cons (ps_if (pt_cmpR op_eq (pv 2) pe_str (nomark _)) pss_never pss_nil)
    (pss_one (ps_ret (pv 0))))), ?_⟩
  obtain ⟨a, ys, rfl, h1⟩ := tr_tag ht
  refine ⟨_, rfl, a, _, 0, _, rfl, rfl, h1, at0, ?_⟩
  cases t with
  | node k ps => exact (hl k ps rfl).elim
  | var i =>
    iterate 5 (refine ⟨_, rfl, rfl, _, rfl, ?_⟩; refine iteEqF (by show ¬ ("var" : Str) = _; decide +kernel) ?_)
    exact ⟨_, rfl, q⟩
  | atom u xs =>
    cases u with
    | false =>
      iterate 5 (refine ⟨_, rfl, rfl, _, rfl, ?_⟩; refine iteEqF (by show ¬ ("const" : Str) = _; decide +kernel) ?_)
      exact ⟨_, rfl, q⟩
    | true =>
      iterate 5 (refine ⟨_, rfl, rfl, _, rfl, ?_⟩; refine iteEqF (by show ¬ ("univ" : Str) = _; decide +kernel) ?_)
      exact ⟨_, rfl, q⟩
def spWithA (K : PySem.W.Frag) : Sp := fun vs H Q E => spWith K vs H Q E ∨ spWithL K vs H Q E
/-- the dict of the spots -/
def SpD (H : Hp) (S : Addr) (vs : List Nat) : Prop := ∃ ks, H S = some (.dK ks) ∧ ∀ v : Nat, valV ks (.inl (v : Int)) = if v ∈ vs then some (.int (spo vs v : Nat)) else none
theorem SpD.same {H H' : Hp} {S : Addr} {vs : List Nat} (h : SpD H S vs) (s : Same H H') : SpD H' S vs := let ⟨ks, a, b⟩ := h; ⟨ks, s _ _ a, b⟩
def spBUnd (K : PySem.W.Frag) (n : Nat) : Sp := fun us H Q _ => ∃ (v : V) (S : Addr) (d : Nat) (t : Tm) (vs : List Nat) (m : Nat), us = [v, .ref S, .int (d : Nat)] ∧ m < n ∧ Tr K H v t ∧ dle m t ∧ H0 t ∧ SpD H S vs ∧
  (∀ v' H', Same H H' → Fr (· ∈ vs) d t → Tr K H' v' (ren (spo vs) d t) → Q v' H') ∧ (∀ H', Same H H' → ¬ Fr (· ∈ vs) d t → Q .non H')
abbrev nBUnd : List Str := ["term", "spots", "under", "parts", "k", "part", "inner"]
theorem scBUnd : FnScope nBUnd ["term", "spots", "under"] (defScope sBUnd) := ⟨rfl, rfl, rfl, by decide +kernel, rfl, by decide +kernel, by decide +kernel⟩
theorem ok_bund {f fp fw fb : Addr} {fd fdp fdw fdb : FuncData} (F : Fun K "body_under" "body_under" sBUnd f fd) (mf : mg "body_under" = some (.ref f)) (bf : L2.Binds K fd ["term", "spots", "under"] []) (me : mg "enumerate" = none)
    (CP : Cl P w K mg base 1 "parts_of" fp fdp ["node"] (spParts K)) (CW : Cl P w K mg base 1 "with_parts" fw fdw ["node", "parts"] (spWithA K)) (CB : Cl P w K mg base 1 "binds" fb fdb ["node", "k"] (spBinds K)) :
    ∀ n, Cl P w K mg base (n + 1) "body_under" f fd ["term", "spots", "under"] (spBUnd K n)
  | 0 => by
    refine ⟨?_, mf, F.kp, bf⟩
    refine F.ok scBUnd (fun vs H Q E h => ?_) (fun cdv A outer s H vs Q E hr h => ?_)
    · obtain ⟨v, S, d, t, vs, m, rfl, _⟩ := h; rfl
    · obtain ⟨v, S, d, t, vs, m, rfl, h, _⟩ := h
      exact absurd h (Nat.not_lt_zero _)
  | n + 1 => by
    have ih := ok_bund F mf bf me CP CW CB n
    refine ⟨?_, mf, F.kp, bf⟩
    refine F.ok scBUnd (fun vs H Q E h => ?_) (fun cdv A outer s H vs Q E hr h => ?_)
    · obtain ⟨v, S, d, t, vs, m, rfl, _⟩ := h; rfl
    obtain ⟨v, S, d, t, vs, m, rfl, hm, ht, hd, h0, hS, q1, q2⟩ := h
    have hu := hu_of hr
    have hr1 := hr.mono (show 1 ≤ n + 1 by omega)
    refine ⟨_, pss_cons (ps_if (pt_cmpR op_eq (pe_ix ix_tup (pv 0) pe_int (fun _ _ => rfl)) pe_str (nomark _))
        (pss_cons (ps_if (pt_cmpR op_lt (pe_ix ix_tup (pv 0) pe_int (fun _ _ => rfl)) (pv 2) (nomark _)) (pss_one (ps_ret (pv 0))) pss_nil)
        (pss_cons (ps_if (pt_cmp (pc_dnotin hu (pe_op op_sub (pe_ix ix_tup (pv 0) pe_int (fun _ _ => rfl)) (pv 2)) (pv 1))) (pss_one (ps_ret pe_non)) pss_nil)
        (pss_one (ps_ret (pe_tup (pa_cons pe_str (pa_cons (pe_op op_add (pe_dget hu (pv 1) (pe_op op_sub (pe_ix ix_tup (pv 0) pe_int (fun _ _ => rfl)) (pv 2)) (fun _ _ => rfl)) (pv 2)) pa_nil))))))) pss_nil)
      (pss_cons (ps_set (i := 3) scBUnd.nd rfl (.inl rfl) (pe_lst pa_nil))
      (pss_cons (ps_for PassesOwn.never rfl (pi_enumT rfl me (pa_cons (pe_cl CP hr1 (pa_cons (pv 0) pa_nil)) pa_nil)) (pg_tup rfl (pgs_cons (pg_name (i := 4) scBUnd.nd rfl (.inl rfl)) (pgs_cons (pg_name (i := 5) scBUnd.nd rfl (.inl rfl)) pgs_nil)))
        (pss_cons (ps_set (i := 6) scBUnd.nd rfl (.inl rfl) (pe_cl ih hr (pa_cons (pv 5) (pa_cons (pv 1) (pa_cons (pe_op op_add (pv 2) (pe_cl CB hr1 (pa_cons (pv 0) (pa_cons (pv 4) pa_nil)))) pa_nil)))))
        (pss_cons (ps_if (pt_cmpR op_isN (pv 6) pe_non (nomark _)) (pss_one (ps_ret pe_non)) pss_nil)
        (pss_one (ps_expr (pe_bm PySem.F.plainAttrs_list PySem.F.slot_list_append PySem.F.type_list_append mt_append (pv 3) (pa_cons (pv 6) pa_nil)))))))
      (pss_one (ps_ret (pe_cl CW hr1 (pa_cons (pv 0) (pa_cons (pv 3) pa_nil))))))), ?_⟩
    by_cases hv : ∃ i, t = .var i
    · obtain ⟨i, rfl⟩ := hv
      obtain ⟨a, rfl, hs⟩ := tr_var ht
      obtain ⟨ks, hK, hval⟩ := hS
      refine ⟨_, rfl, a, _, 0, _, rfl, rfl, hs, at0, rfl, _, rfl, iteEqT (by decide +kernel) ?_⟩
      refine ⟨_, rfl, a, _, 1, _, rfl, rfl, hs, at1, _, rfl, _, _, rfl, rfl, _, rfl, ?_⟩
      refine ite2 (fun e => ?_) (fun e => ?_)
      · have e : (i : Int) < (d : Int) := of_decide_eq_true e
        refine ⟨_, rfl, q1 _ H (Same.refl H) (fr_var.mpr fun h => by omega) ?_⟩
        rw [ren_var, if_pos (by omega)]
        exact ht
      · have e : ¬ (i : Int) < (d : Int) := fun z => e (decide_eq_true z)
        have ei : ((i : Int) - (d : Int)) = ((i - d : Nat) : Int) := by omega
        have hvi := hval (i - d)
        refine ⟨_, rfl, a, _, 1, _, rfl, rfl, hs, at1, _, rfl, _, _, rfl, rfl, _, rfl, S, _, rfl, .inl ⟨ks, .inl ((i - d : Nat) : Int), .inl hK, congrArg V.int ei, rfl⟩, _, rfl, ?_⟩
        by_cases hm : i - d ∈ vs
        · rw [hvi, if_pos hm]
          refine iteF ?_
          refine ⟨_, rfl, _, rfl, a, _, 1, _, rfl, rfl, hs, at1, _, rfl, _, _, rfl, rfl, S, _, rfl, .inl ⟨ks, .inl ((i - d : Nat) : Int), .inl hK, congrArg V.int ei, (hvi.trans (if_pos hm)).symm⟩, ?_⟩
          refine ⟨_, rfl, _, _, rfl, rfl, le_line (by simp), fun g hg => ?_⟩
          refine q1 _ _ (same_new hg _) (fr_var.mpr fun _ => hm) ?_
          rw [ren_var, if_neg (by omega)]
          exact tr_mk_var (SqT.of (by rw [upd_same, Int.natCast_add]))
        · rw [hvi, if_neg hm]
          refine iteT ?_
          exact q2 H (Same.refl H) fun z => hm (fr_var.mp z (by omega))
    · obtain ⟨a, ys, rfl, hs⟩ := tr_tag ht
      have hnv : ¬ tagOf t = "var" := tag_nev fun i e => hv ⟨i, e⟩
      refine ⟨_, rfl, a, _, 0, _, rfl, rfl, hs, at0, rfl, _, rfl, iteEqF hnv ?_⟩
      obtain ⟨hp24, hpd⟩ := parts_dle hd
      refine ⟨le_line (by simp), fun Bl hBl => ?_⟩
      have s1 := same_new hBl (HO.lst [])
      refine ⟨_, rfl, _, t, rfl, ht.ext (Te.of' s1), by omega, fun p H2 ws s2 h2 hws => ?_⟩
      refine ⟨p, ws, rfl, h2, ?_⟩
      have frN : Fr (· ∈ vs) d t ↔ ∀ (j : Nat) p, (partsT t)[j]? = some p → Fr (· ∈ vs) (d + bndT t j) p := by
        cases t with
        | var i => exact (hv ⟨i, rfl⟩).elim
        | atom u xs => exact ⟨(fun _ j p hp => by simp [partsT] at hp), fun _ => fr_atom⟩
        | node k ps => exact fr_node
      refine for_it (walk_enumT (xs := ws)) (fun i σ H' => ∃ x4 x5 x6 acc, σ = [some (.ref a), some (.ref S), some (.int (d : Nat)), some (.ref Bl), x4, x5, x6] ∧ Same H H' ∧ SqT K H' p ws ∧ Ts K H' ws (partsT t) ∧ H' Bl = some (.lst acc) ∧ Ts K H' acc ((mapI (fun j p => ren (spo vs) (d + bndT t j) p) 0 (partsT t)).take i) ∧ ∀ (j : Nat) p, j < i → (partsT t)[j]? = some p → Fr (· ∈ vs) (d + bndT t j) p) ?_ ?_ ?_ ?_
      · exact ⟨_, _, _, [], rfl, s1.trans s2, h2, hws, s2 _ _ upd_same, .nil, fun j p hj => by omega⟩
      · rintro i σ H' _ ⟨_, _, _, _, _, _, h3, _⟩
        exact h3
      · rintro i x σ H3 H4 hi ⟨x4, x5, x6, acc, rfl, s3, h3, hws3, hB3, hts, hfr⟩ ⟨A1, x', y, rfl, hA1, rfl, ex, hy⟩
        cases ex
        have hpi : i < (partsT t).length := by rw [← hws.len]; exact hi
        have hpe : (partsT t)[i]? = some (partsT t)[i] := List.getElem?_eq_getElem hpi
        obtain ⟨y', hy', hty⟩ := hws3.get (i := i) (t := (partsT t)[i]) hpe
        have hy : ws[i]? = some y := hy
        rw [hy] at hy'
        cases hy'
        obtain ⟨mj, hmj, hdj⟩ := hpd _ (List.getElem_mem hpi)
        have h0j : H0 (partsT t)[i] := by
          cases t with
          | node k ps => exact (all_node.mp h0).2 _ (List.getElem_mem hpi)
          | _ => exact (Nat.not_lt_zero _ hpi).elim
        have s4 := same_new hA1 (HO.tup [.int (i : Nat), y])
        have s34 := s3.trans s4
        refine ⟨A1, _, rfl, SqT.of upd_same, rfl, _, _, rfl, _, _, rfl, rfl, ?_⟩
        have bindsR : ∃ k ps, t = .node k ps := by
          cases t with
          | node k ps => exact ⟨k, ps, rfl⟩
          | _ => exact (Nat.not_lt_zero _ hpi).elim
        obtain ⟨k, ps, et⟩ := bindsR
        refine ⟨_, rfl, _, rfl, _, rfl, _, rfl, _, rfl, _, k, ps, i, rfl, by rw [← et]; exact ht.ext (Te.of' s34), ?_⟩
        have ebn : bnd k i = bndT t i := by rw [et]; rfl
        refine ⟨_, _, rfl, rfl, y, S, d + bndT t i, (partsT t)[i], vs, mj, ?_, by omega, hty.ext (Te.of' s4), hdj, h0j, hS.same s34, fun v5 H5 s5 hf5 ht5 => ?_, fun H5 s5 hf5 => ?_⟩
        · show [y, V.ref S, V.int ((d : Int) + ((bnd k i : Nat) : Int))] = [y, V.ref S, V.int ((d + bndT t i : Nat) : Int)]
          rw [ebn, Int.natCast_add]
        · obtain ⟨g, _, rfl, _⟩ := tr_tag ht5
          refine ⟨_, rfl, rfl, _, rfl, iteF ?_⟩
          have hB5 := s5 _ _ (s4 _ _ hB3)
          have t8 : Te H5 (upd H5 Bl (.lst (acc ++ [V.ref g]))) := Te.lst hB5
          have tA := Te.of' (s4.trans s5)
          have hal : acc.length ≤ 100 := by rw [hts.len, List.length_take, mapI_len]; omega
          refine ⟨_, rfl, .inl ⟨rfl, _, SqL.of hB5⟩, _, rfl, Bl, acc, .ref g, rfl, rfl, hB5, small1000 (by omega), _, _, _, acc ++ [V.ref g], rfl, same_mut (s34.trans s5) hBl, t8.seq (tA.seq h3), (hws3.ext tA).ext t8, upd_same, ?_, ?_⟩
          · have e1 : (mapI (fun j p => ren (spo vs) (d + bndT t j) p) 0 (partsT t)).take (i + 1) = (mapI (fun j p => ren (spo vs) (d + bndT t j) p) 0 (partsT t)).take i ++ [ren (spo vs) (d + bndT t i) (partsT t)[i]] := by
              rw [List.take_add_one, mapI_get, hpe, Nat.zero_add]; rfl
            rw [e1]
            exact ((hts.ext tA).ext t8).snoc (ht5.ext t8)
          · intro j p hj hp
            by_cases hji : j = i
            · subst hji
              rw [hpe] at hp
              cases hp
              exact hf5
            · exact hfr j p (by omega) hp
        · refine ⟨_, rfl, rfl, _, rfl, iteT ?_⟩
          exact q2 H5 (s34.trans s5) fun z => hf5 (frN.mp z i _ hpe)
      · rintro σ H3 ⟨x4, x5, x6, acc, rfl, s3, h3, hws3, hB3, hts, hfr⟩
        have hle : ws.length = (partsT t).length := hws.len
        rw [List.take_of_length_le (by rw [mapI_len, hle]; exact Nat.le_refl _)] at hts
        have hfrA : Fr (· ∈ vs) d t := frN.mpr fun j p hp => hfr j p (by rw [hle]; exact (List.getElem?_eq_some_iff.mp hp).1) hp
        refine ⟨_, rfl, _, rfl, ?_⟩
        cases t with
        | var i => exact (hv ⟨i, rfl⟩).elim
        | atom u xs =>
          refine .inr ⟨_, Bl, .atom u xs, rfl, ht.ext (Te.of' s3), (by intro k ps z; cases z), q1 _ H3 s3 hfrA ?_⟩
          show Tr K H3 _ (trav _ d (.atom u xs))
          rw [trav_atom]
          exact ht.ext (Te.of' s3)
        | node k ps =>
          have hk := (hf_node h0.hf).1
          have hne : ps ≠ [] := by
            intro z
            subst z
            cases m with
            | zero => exact hd.elim
            | succ m =>
              have ha : arOk k ([] : List Tm).length := hd.1
              cases k with
              | hole n => exact hk n rfl
              | app => cases ha
              | pi => cases ha
              | fn => cases ha
              | lt => cases ha
          refine .inl ⟨_, Bl, acc, k, ps, _, rfl, ht.ext (Te.of' s3), SqL.of hB3, hts, by rw [hts.len, mapI_len]; exact Nat.le_trans hp24 (by decide), fun z => hne ?_, fun v' H' s' h' => q1 v' H' (s3.trans s') hfrA ?_⟩
          · have z2 := congrArg List.length z
            rw [mapI_len] at z2
            exact List.eq_nil_of_length_eq_zero z2
          · show Tr K H' v' (trav _ d (.node k ps))
            rw [trav_node]
            exact h'
end
end KP

/-! body_over, solves, matches, matched -/
namespace KP
open PySem PyProof.Rows L2 LamX NdefX KL KM KD
abbrev sSolves : Stmt := top 15
abbrev sMatches : Stmt := top 16
abbrev sMatched : Stmt := top 17
section
variable {P : Program} {w : World} {K : PySem.W.Frag} {mg : Str → Option Value} {base : Heap} {T : List (Addr × Str)}
def spBOv (K : PySem.W.Frag) (n : Nat) : Sp := fun us H Q _ => ∃ (v : V) (a : Addr) (t : Tm) (ws : List V) (vs : List Nat) (m : Nat), us = [v, .ref a] ∧ m < n ∧ Tr K H v t ∧ dle m t ∧ H0 t ∧ SqT K H a ws ∧ Ts K H ws (vars vs) ∧ vs.Nodup ∧ vs.length ≤ 24 ∧
  (∀ v' b H', Same H H' → bodyO vs t = some b → Tr K H' v' b → Q v' H') ∧ (∀ H', Same H H' → bodyO vs t = none → Q .non H')
abbrev nBOv : List Str := ["term", "arguments", "arity", "spots", "j", "argument"]
theorem scBOv : FnScope nBOv ["term", "arguments"] (defScope sBOv) := ⟨rfl, rfl, rfl, by decide +kernel, rfl, by decide +kernel, by decide +kernel⟩
theorem ok_bov {n : Nat} {f fb : Addr} {fd fdb : FuncData} (F : Fun K "body_over" "body_over" sBOv f fd) (ml : mg "len" = none) (me : mg "enumerate" = none) (CB : Cl P w K mg base (n + 1) "body_under" fb fdb ["term", "spots", "under"] (spBUnd K n)) :
    FnOk P w K mg base CX0 (n + 2) f fd ["term", "arguments"] (spBOv K n) := by
  refine F.ok scBOv (fun vs H Q E h => ?_) (fun cdv A outer s H vs Q E hr h => ?_)
  · obtain ⟨v, a, t, ws, vs, m, rfl, _⟩ := h; rfl
  obtain ⟨v, a, t, ws, vs, m, rfl, hm, ht, hd, h0, ha, hws, hnd, hl, q1, q2⟩ := h
  have hu := hu_of hr
  refine ⟨_, pss_cons (ps_set (i := 2) scBOv.nd rfl (.inl rfl) (pe_callB call_len_seq rfl ml PySem.boot_len (pa_cons (pv 1) pa_nil)))
    (pss_cons (ps_set (i := 3) scBOv.nd rfl (.inl rfl) pe_dnewK)
    (pss_cons (ps_for PassesOwn.never rfl (pi_enumT rfl me (pa_cons (pv 1) pa_nil)) (pg_tup rfl (pgs_cons (pg_name (i := 4) scBOv.nd rfl (.inl rfl)) (pgs_cons (pg_name (i := 5) scBOv.nd rfl (.inl rfl)) pgs_nil)))
      (pss_one (ps_dput hu (pv 3) (pe_ix ix_tup (pv 5) pe_int (fun _ _ => rfl)) (pe_op op_sub (pe_op op_sub (pv 2) pe_int) (pv 4)) rfl)))
    (pss_one (ps_ret (pe_cl CB hr (pa_cons (pv 0) (pa_cons (pv 3) (pa_cons pe_int pa_nil)))))))), ?_⟩
  have hwl : ws.length = vs.length := by rw [hws.len, List.length_map]
  refine ⟨_, rfl, a, _, rfl, .inr ha, fun S hS => ?_⟩
  have s1 := same_new hS (HO.dK [])
  refine ⟨_, rfl, a, ws, rfl, sqT_same s1 ha, ?_⟩
  refine for_it (walk_enumT (xs := ws)) (fun i σ H' => ∃ x4 x5 ks, σ = [some v, some (.ref a), some (.int (ws.length : Nat)), some (.ref S), x4, x5] ∧ Same H H' ∧ SqT K H' a ws ∧ Ts K H' ws (vars vs) ∧ H' S = some (.dK ks) ∧ ks.length = i ∧ ∀ v : Nat, valV ks (.inl (v : Int)) = if v ∈ vs.take i then some (.int (spo vs v : Nat)) else none) ?_ ?_ ?_ ?_
  · exact ⟨_, _, [], rfl, s1, sqT_same s1 ha, hws.ext (Te.of' s1), upd_same, rfl, fun v => by simp [valV_nil]⟩
  · rintro i σ H' _ ⟨_, _, _, _, _, h, _⟩
    exact h
  · rintro i x σ H3 H4 hi ⟨x4, x5, ks, rfl, s3, ha3, hws3, hS3, hkl, hval⟩ ⟨A1, x', y, rfl, hA1, rfl, ex, hy⟩
    cases ex
    have hiv : i < vs.length := by omega
    have hpe : (vars vs)[i]? = some (.var vs[i]) := by rw [List.getElem?_map, List.getElem?_eq_getElem hiv]; rfl
    obtain ⟨y', hy', hty⟩ := hws3.get hpe
    have hy : ws[i]? = some y := hy
    rw [hy] at hy'
    cases hy'
    obtain ⟨g, rfl, hg⟩ := tr_var hty
    have s4 := same_new hA1 (HO.tup [.int (i : Nat), .ref g])
    have hS4 := s4 _ _ hS3
    refine ⟨A1, _, rfl, SqT.of upd_same, rfl, _, _, rfl, _, _, rfl, rfl, ?_⟩
    refine ⟨_, rfl, _, _, rfl, rfl, _, rfl, _, _, rfl, rfl, _, rfl, _, rfl, g, _, 1, _, rfl, rfl, sqT_same s4 hg, at1, S, _, rfl, DPut.k (k := Sum.inl ((vs[i] : Nat) : Int)) hS4 (small1000 (by omega)), ?_⟩
    have hni : vs[i] ∉ vs.take i := fun z => by
      obtain ⟨j, hj⟩ := List.mem_iff_getElem?.mp z
      have hjl := (List.getElem?_eq_some_iff.mp hj).1
      rw [List.length_take] at hjl
      rw [List.getElem?_take_of_lt (by omega)] at hj
      obtain ⟨l1, y1⟩ := List.getElem?_eq_some_iff.mp hj
      have := (List.getElem_inj hnd).mp y1
      omega
    have hnone : valV ks (.inl ((vs[i] : Nat) : Int)) = none := by rw [hval, if_neg hni]
    rw [putK_new _ hnone]
    have t5 : Te _ (upd (upd H3 A1 (.tup [.int (i : Nat), .ref g])) S (.dK (ks ++ [(Sum.inl ((vs[i] : Nat) : Int), V.int (((ws.length : Nat) : Int) - 1 - ((i : Nat) : Int)))]))) := Te.dK hS4
    have tA := (Te.of' s4).trans t5
    refine ⟨_, _, _, rfl, same_mut (s3.trans s4) hS, tA.seq ha3, hws3.ext tA, upd_same, by simp [hkl], fun u => ?_⟩
    have e9 : vs.take (i + 1) = vs.take i ++ [vs[i]] := by rw [List.take_add_one, List.getElem?_eq_getElem hiv]; rfl
    have e8 : ((ws.length : Nat) : Int) - 1 - ((i : Nat) : Int) = ((spo vs vs[i] : Nat) : Int) := by
      unfold spo
      rw [idx_get hnd hiv]
      omega
    rw [valV_snoc _ _ _ _ hnone, hval, e9]
    by_cases e : u = vs[i]
    · subst e
      rw [if_pos rfl, if_pos (List.mem_append_right _ (List.mem_singleton.mpr rfl))]
      exact congrArg (fun z => some (V.int z)) e8
    · rw [if_neg (fun z => e (by have z := Sum.inl.inj z; exact Int.ofNat.inj z))]
      by_cases hm : u ∈ vs.take i
      · rw [if_pos hm, if_pos (List.mem_append_left _ hm)]
      · rw [if_neg hm, if_neg (fun z => by
          rcases List.mem_append.mp z with z | z
          · exact hm z
          · exact e (List.mem_singleton.mp z))]
  · rintro σ H3 ⟨x4, x5, ks, rfl, s3, ha3, hws3, hS3, hkl, hval⟩
    rw [hwl] at hval
    rw [List.take_of_length_le (Nat.le_refl _)] at hval
    refine ⟨_, rfl, _, rfl, v, S, 0, t, vs, m, rfl, hm, ht.ext (Te.of' s3), hd, h0, ⟨ks, hS3, hval⟩, fun v' H' s' hf h' => ?_, fun H' s' hf => ?_⟩
    · exact q1 v' _ H' (s3.trans s') (by unfold bodyO; rw [if_pos hf]) h'
    · exact q2 H' (s3.trans s') (by unfold bodyO; rw [if_neg hf])
end
end KP

/-! matches, matched -/
namespace KP
open PySem PyProof.Rows L2 LamX NdefX KL KM KD
theorem Kp.teD {p : Addr} {ks : List (Key × V)} {H H' : Hp} (k : Kp p H H') (h : H p = some (.dK ks)) : Te H H' := fun a ys r => by
  rcases r with r | ⟨o, r⟩
  · exact .inl (k a _ r (fun e => by subst e; rw [h] at r; cases r))
  · exact .inr ⟨o, k a _ r (fun e => by subst e; rw [h] at r; cases r)⟩
theorem ge_len {hs : List (Int × Nat)} {D : Nat} {E : Ens} (g : GE hs D E) : E.length ≤ hs.length := by
  have z := nodup_len (l := E.map (·.1)) (ns := hs.map (·.1)) g.nd fun x hx => by
    obtain ⟨e, he, rfl⟩ := List.mem_map.mp hx
    exact List.mem_map.mpr ⟨_, (g.ok e he).1, rfl⟩
  rw [List.length_map, List.length_map] at z
  exact z
theorem mtL_at : ∀ (i : Nat) (ps ts : List Tm) (E E1 : Ens) (p t : Tm), ps[i]? = some p → ts[i]? = some t → mtL (ps.take i) (ts.take i) E = some E1 → (mt p t E1 = none → mtL ps ts E = none) ∧ (∀ E2, mt p t E1 = some E2 → mtL (ps.take (i + 1)) (ts.take (i + 1)) E = some E2)
  | 0, [], _, _, _, _, _, h, _, _ => by simp at h
  | 0, _ :: _, [], _, _, _, _, _, h, _ => by simp at h
  | 0, q :: ps, u :: ts, E, E1, p, t, h1, h2, h3 => by
    simp at h1 h2
    subst h1 h2
    rw [List.take_zero, mtL_nil] at h3
    cases h3
    refine ⟨fun h => ?_, fun E2 h => ?_⟩
    · rw [mtL_cons, h]
    · rw [List.take_succ_cons, List.take_succ_cons, mtL_cons, h]
      simp [mtL_nil]
  | i + 1, [], _, _, _, _, _, h, _, _ => by simp at h
  | i + 1, _ :: _, [], _, _, _, _, _, h, _ => by simp at h
  | i + 1, q :: ps, u :: ts, E, E1, p, t, h1, h2, h3 => by
    rw [List.take_succ_cons, List.take_succ_cons, mtL_cons] at h3
    cases e : mt q u E with
    | none => rw [e] at h3; cases h3
    | some E0 =>
      rw [e] at h3
      obtain ⟨a, b⟩ := mtL_at i ps ts E0 E1 p t (by simpa using h1) (by simpa using h2) h3
      refine ⟨fun h => ?_, fun E2 h => ?_⟩
      · rw [mtL_cons, e]; exact a h
      · rw [List.take_succ_cons, List.take_succ_cons, mtL_cons, e]; exact b E2 h
section
variable {P : Program} {w : World} {K : PySem.W.Frag} {mg : Str → Option Value} {base : Heap} {T : List (Addr × Str)}
theorem flL_look {H : Hp} {kvs : List (Key × V)} {E : Ens} (h : FlL K H kvs E) (n : Int) : (E.lookup n = none → valV kvs (.inl n) = none) ∧ ∀ ar b, E.lookup n = some (ar, b) → ∃ a vb, valV kvs (.inl n) = some (.ref a) ∧ SqT K H a [.int (ar : Nat), vb] ∧ Tr K H vb b :=
  ⟨h.flK.no n, fun ar b e => h.flK.yes n ar b e⟩
/-- what matches is asked, and what it says -/
structure MatQ (K : PySem.W.Frag) (hs : List (Int × Nat)) (D d w : Nat) (v v' : V) (f : Addr) (p t : Tm) (kvs : List (Key × V)) (E : Ens) (H : Hp) : Prop where
  hp : Tr K H v p
  ht : Tr K H v' t
  pt : Pt hs d w p
  ap : ∃ ph, All ph pa0 p
  dp : dle d p
  h0 : H0 t
  dt : dle D t
  df : H f = some (.dK kvs)
  fl : FlL K H kvs E
  ge : GE hs D E
  eb : ∀ e ∈ E, H0 e.2.2
def spMat (K : PySem.W.Frag) (hs : List (Int × Nat)) (D n : Nat) : Sp := fun us H Q _ => ∃ (v v' : V) (f : Addr) (p t : Tm) (kvs : List (Key × V)) (E : Ens) (d w : Nat), us = [v, v', .ref f] ∧ d < n ∧ MatQ K hs D d w v v' f p t kvs E H ∧
  (∀ H' kvs' E', Kp f H H' → mt p t E = some E' → H' f = some (.dK kvs') → FlL K H' kvs' E' → (∀ e ∈ E', H0 e.2.2) → Q (.bl true) H') ∧ (∀ H' kvs', Kp f H H' → mt p t E = none → H' f = some (.dK kvs') → Q (.bl false) H')
abbrev nMat : List Str := ["pattern", "term", "found", "body", "first", "second"]
theorem scMat : FnScope nMat ["pattern", "term", "found"] (defScope sMatches) := ⟨rfl, rfl, rfl, by decide +kernel, rfl, by decide +kernel, by decide +kernel⟩
open Classical in
theorem ok_mat {hs : List (Int × Nat)} {D L : Nat} {f fo fs fp : Addr} {fd fdo fds fdp : FuncData} (hn : (hs.map (·.1)).Nodup) (hl : hs.length ≤ 50) (hD : 2 * D + 5 ≤ 64) (hL : 1 ≤ L) (F : Fun K "matches" "matches" sMatches f fd) (mf : mg "matches" = some (.ref f)) (bf : L2.Binds K fd ["pattern", "term", "found"] []) (ml : mg "len" = none) (mz : mg "zip" = none)
    (CO : Cl P w K mg base L "body_over" fo fdo ["term", "arguments"] (spBOv K (D + 1))) (CS : Cl P w K mg base 1 "same_node" fs fds ["one", "other"] (spSame K)) (CP : Cl P w K mg base 1 "parts_of" fp fdp ["node"] (spParts K)) :
    ∀ n, n ≤ 20 → Cl P w K mg base (L + n + 1) "matches" f fd ["pattern", "term", "found"] (spMat K hs D n)
  | 0, _ => by
    refine ⟨?_, mf, F.kp, bf⟩
    refine F.ok scMat (fun vs H Q E h => ?_) (fun cdv A outer s H vs Q E hr h => ?_)
    · obtain ⟨v, v', f, p, t, kvs, E, d, w, rfl, _⟩ := h; rfl
    · obtain ⟨v, v', f, p, t, kvs, E, d, w, rfl, h, _⟩ := h
      exact absurd h (Nat.not_lt_zero _)
  | n + 1, hn20 => by
    have ih := ok_mat hn hl hD hL F mf bf ml mz CO CS CP n (by omega)
    refine ⟨?_, mf, F.kp, bf⟩
    refine F.ok scMat (fun vs H Q E h => ?_) (fun cdv A outer s H vs Q E hr h => ?_)
    · obtain ⟨v, v', f, p, t, kvs, E, d, w, rfl, _⟩ := h; rfl
    obtain ⟨v, v', f, p, t, kvs, E, d, w, rfl, hdn, M, q1, q2⟩ := h
    have hu64 := hr.units
    have hr1 := hr.mono (show 1 ≤ L + n + 1 by omega)
    refine ⟨_, pss_cons (ps_if (pt_cmpR op_eq (pe_ix ix_tup (pv 0) pe_int (fun _ _ => rfl)) pe_str (nomark _))
        (pss_cons (ps_set (i := 3) scMat.nd rfl (.inl rfl) (pe_cl CO (hr.mono (by omega)) (pa_cons (pv 1) (pa_cons (pe_ix ix_tup (pv 0) pe_int (fun _ _ => rfl)) pa_nil))))
        (pss_cons (ps_if (pt_cmpR op_isN (pv 3) pe_non (nomark _)) (pss_one (ps_ret pe_bl)) pss_nil)
        (pss_one (ps_ret (pe_cmpR (op_eqD hu64) (pe_ix ix_tup (pe_dsetd (pv 2) (pe_ix ix_tup (pv 0) pe_int (fun _ _ => rfl)) (pe_tup (pa_cons (pe_callB call_len_seq rfl ml PySem.boot_len (pa_cons (pe_ix ix_tup (pv 0) pe_int (fun _ _ => rfl)) pa_nil)) (pa_cons (pv 3) pa_nil))) ⟨rfl, rfl, rfl, rfl⟩) pe_int (fun _ _ => rfl)) (pv 3) (nomark _)))))) pss_nil)
      (pss_cons (ps_if (pt_not (pt_truth (pe_cl CS hr1 (pa_cons (pv 0) (pa_cons (pv 1) pa_nil))) (by intro _; rfl))) (pss_one (ps_ret pe_bl)) pss_nil)
      (pss_cons (ps_for PassesOwn.never rfl (RZ.pi_zipA rfl mz (pa_cons (pe_cl CP hr1 (pa_cons (pv 0) pa_nil)) (pa_cons (pe_cl CP hr1 (pa_cons (pv 1) pa_nil)) pa_nil))) (pg_tup rfl (pgs_cons (pg_name (i := 4) scMat.nd rfl (.inl rfl)) (pgs_cons (pg_name (i := 5) scMat.nd rfl (.inl rfl)) pgs_nil)))
        (pss_one (ps_if (pt_not (pt_truth (pe_cl ih hr (pa_cons (pv 4) (pa_cons (pv 5) (pa_cons (pv 2) pa_nil)))) (by intro _; rfl))) (pss_one (ps_ret pe_bl)) pss_nil)))
      (pss_one (ps_ret pe_bl)))), ?_⟩
    have hel := ge_len M.ge
    have hkl := M.fl.len
    obtain ⟨ph, hap⟩ := M.ap
    by_cases hh : ∃ x as, p = .node (.hole x) as
    · obtain ⟨x, as, rfl⟩ := hh
      obtain ⟨vs, rfl, hnd, hmem⟩ : ∃ vs, as = vars vs ∧ vs.Nodup ∧ vs.length ≤ 3 ∧ (x, vs.length) ∈ hs := by
        cases M.pt with
        | hole h1 h2 h3 h4 => exact ⟨_, rfl, h2, h4, h1⟩
        | node h1 _ _ => exact (h1 x rfl).elim
      obtain ⟨a, b, ws, rfl, k1, k2, k3⟩ := tr_hole M.hp
      refine ⟨_, rfl, a, _, 0, _, rfl, rfl, k1, at0, rfl, _, rfl, iteEqT (by decide +kernel) ?_⟩
      refine ⟨_, rfl, _, rfl, a, _, 2, _, rfl, rfl, k1, at2, v', b, t, ws, vs, D, rfl, by omega, M.ht, M.dt, M.h0, k2, k3, hnd, by omega, fun v5 bd H5 s5 hb5 ht5 => ?_, fun H5 s5 hb5 => ?_⟩
      · obtain ⟨g, _, rfl, _⟩ := tr_tag ht5
        refine ⟨_, rfl, rfl, _, rfl, iteF ?_⟩
        have k15 := sqT_same s5 k1
        have df5 := s5 _ _ M.df
        refine ⟨_, rfl, f, rfl, .inl ⟨kvs, .inl df5⟩, _, rfl, a, _, 1, _, rfl, rfl, k15, at1, _, rfl, a, _, 2, _, rfl, rfl, k15, at2, b, _, rfl, .inr (sqT_same s5 k2), _, rfl, le_line (by simp), fun tp htp => ?_⟩
        have s6 := same_new htp (HO.tup [V.int (ws.length : Nat), V.ref g])
        have s56 := s5.trans s6
        have df6 := s6 _ _ df5
        have ht6 := ht5.ext (Te.of' s6)
        have hbd : H0 bd ∧ dle D bd ∧ bd = ren (spo vs) 0 t ∧ Fr (· ∈ vs) 0 t := by
          unfold bodyO at hb5
          by_cases hf : Fr (· ∈ vs) 0 t
          · rw [if_pos hf] at hb5; cases hb5
            exact ⟨all_ren M.h0, dle_ren M.dt, rfl, hf⟩
          · rw [if_neg hf] at hb5; cases hb5
        have hsb : SeqAt.shaped (enc bd) = true := enc_shaped pa0_ok hbd.1 hbd.2.1 hD
        have fl6 := M.fl.te (Te.of' s56)
        obtain ⟨z1, z2⟩ := flL_look fl6 x
        have wl : ws.length = vs.length := by rw [k3.len, List.length_map]
        refine ⟨kvs, .inl x, df6, rfl, small1000 (by omega), fun u hu => ?_, fun hnone => ?_⟩
        · cases e : E.lookup x with
          | none => rw [z1 e] at hu; cases hu
          | some y =>
            obtain ⟨ar, b'⟩ := y
            obtain ⟨aa, vb, e1, e2, e3⟩ := z2 ar b' e
            rw [e1] at hu
            cases hu
            have ok := M.ge.ok _ (look_in e)
            have ab' := M.eb _ (look_in e)
            have sb' : SeqAt.shaped (enc b') = true := enc_shaped pa0_ok ab' ok.2.2.1 hD
            refine ⟨aa, _, 1, _, rfl, rfl, e2, at1, _, rfl, _, _, Tp.dp _ _ e3, Tp.dp _ _ ht6, sb', hsb, ?_⟩
            rw [eqv_enc ab' hbd.1 sb']
            have em : mt (.node (.hole x) (vars vs)) t E = if b' = bd then some E else none := by
              rw [mt_hole, argv_vars, hb5]
              simp only [e]
            by_cases eb : b' = bd
            · rw [decide_eq_true eb]
              rw [if_pos eb] at em
              exact q1 _ kvs E (Kp.same s56) em df6 fl6 M.eb
            · rw [decide_eq_false eb]
              rw [if_neg eb] at em
              exact q2 _ kvs (Kp.same s56) em df6
        · have e : E.lookup x = none := by
            cases e : E.lookup x with
            | none => rfl
            | some y =>
              obtain ⟨ar, b'⟩ := y
              obtain ⟨aa, vb, e1, _⟩ := z2 ar b' e
              rw [hnone] at e1; cases e1
          rw [putK_new _ hnone]
          have t7 : Te _ (upd _ f (.dK (kvs ++ [(Sum.inl x, V.ref tp)]))) := Te.dK df6
          have htp6 : SqT K (upd H5 tp (.tup [V.int (ws.length : Nat), V.ref g])) tp [V.int (ws.length : Nat), V.ref g] := SqT.of upd_same
          refine ⟨tp, _, 1, _, rfl, rfl, t7.seq htp6, at1, _, rfl, _, _, Tp.dp _ _ (ht6.ext t7), Tp.dp _ _ (ht6.ext t7), hsb, hsb, ?_⟩
          rw [SeqAt.eqv_refl _ (SeqAt.canLay_of_shaped hsb)]
          have em : mt (.node (.hole x) (vars vs)) t E = some (E ++ [(x, vs.length, bd)]) := by
            rw [mt_hole, argv_vars, hb5]
            simp only [e, List.length_map]
          refine q1 _ _ _ (Kp.trans (Kp.same s56) Kp.upd) em upd_same ((fl6.te t7).snoc ⟨rfl, tp, .ref g, rfl, ?_, ht6.ext t7⟩) (fun y hy => by
            rcases List.mem_append.mp hy with hy | hy
            · exact M.eb y hy
            · rw [List.mem_singleton.mp hy]; exact hbd.1)
          have z := t7.seq htp6
          show SqT K _ tp [V.int ((vs.length : Nat) : Int), V.ref g]
          rw [← wl]
          exact z
      · refine ⟨_, rfl, rfl, _, rfl, iteT ?_⟩
        refine q2 H5 kvs (Kp.same s5) ?_ (s5 _ _ M.df)
        rw [mt_hole, argv_vars, hb5]
    · have hnh : ∀ x qs, p ≠ .node (.hole x) qs := fun x qs e => hh ⟨x, qs, e⟩
      obtain ⟨a, ys, rfl, hs1⟩ := tr_tag M.hp
      refine ⟨_, rfl, a, _, 0, _, rfl, rfl, hs1, at0, rfl, _, rfl, iteEqF (tag_ne hnh) ?_⟩
      have sp := enc_shaped pa0_ok hap M.dp (by omega)
      have st := enc_shaped pa0_ok M.h0 M.dt hD
      refine ⟨_, rfl, _, rfl, _, v', p, t, rfl, M.hp, M.ht, hnh, ⟨ph, hap⟩, ⟨_, M.h0⟩, sp, st, fun b hb => ⟨_, rfl, ?_⟩⟩
      cases b with
      | false =>
        have hns : ¬ SameN p t := fun z => by have := hb.mpr z; cases this
        refine iteT (q2 H kvs Kp.refl ?_ M.df)
        cases p with
        | var i => rw [mt_var, if_neg (show ¬ t = .var i from hns)]
        | atom u xs => rw [mt_atom, if_neg (show ¬ t = .atom u xs from hns)]
        | node k ps => exact mt_not (fun x e => hnh x ps (by rw [e])) fun ts e => hns ⟨ts, e⟩
      | true =>
        have hsn := hb.mp rfl
        refine iteF ?_
        have hp24 := (parts_dle M.dp).1
        have ht24 := (parts_dle M.dt).1
        refine ⟨_, rfl, _, p, rfl, M.hp, by omega, fun pp H1 ws1 s1 h1 hw1 => ?_⟩
        refine ⟨_, rfl, v', t, rfl, M.ht.ext (Te.of' s1), by omega, fun pq H2 ws2 s2 h2 hw2 => ?_⟩
        have hlen : (partsT p).length = (partsT t).length := by
          cases p with
          | var i => have z : t = _ := hsn; rw [z]
          | atom u xs => have z : t = _ := hsn; rw [z]
          | node k ps =>
            obtain ⟨ts, rfl⟩ := hsn
            have hk : ∀ x, k ≠ .hole x := fun x e => hnh x ps (by rw [e])
            have a1 : arOk k ps.length := by cases M.pt with | node _ h _ => exact h | hole _ _ _ _ => exact (hk _ rfl).elim
            have a2 : arOk k ts.length := by
              have z := M.dt
              cases D with
              | zero => exact z.elim
              | succ D => exact z.1
            exact ar_len hk a1 a2
        refine ⟨pp, pq, ws1, ws2, rfl, .inr ⟨sqT_same s2 h1, h2, ?_⟩⟩
        have l1 : ws1.length = (partsT p).length := hw1.len
        have l2 : ws2.length = (partsT t).length := hw2.len
        refine RZ.for_zipT (xs := ws1) (ys := ws2) (by omega) (fun i σ H' => ∃ x4 x5, σ = [some (.ref a), some v', some (.ref f), none, x4, x5] ∧ Kp f H H' ∧ SqT K H' pp ws1 ∧ SqT K H' pq ws2 ∧ Ts K H' ws1 (partsT p) ∧ Ts K H' ws2 (partsT t) ∧
          ∃ kvs' E', H' f = some (.dK kvs') ∧ FlL K H' kvs' E' ∧ GE hs D E' ∧ (∀ e ∈ E', H0 e.2.2) ∧ mtL ((partsT p).take i) ((partsT t).take i) E = some E') ?_ ?_ ?_ ?_
        · exact ⟨_, _, rfl, Kp.same (s1.trans s2), sqT_same s2 h1, h2, hw1.ext (Te.of' s2), hw2, kvs, E, s2 _ _ (s1 _ _ M.df), M.fl.te (Te.of' (s1.trans s2)), M.ge, M.eb, by simp [mtL_nil]⟩
        · rintro i σ H' ⟨_, _, _, _, z1, z2, _⟩
          exact ⟨z1, z2⟩
        · rintro i x y A1 σ H3 hx hy ⟨x4, x5, rfl, k3, b1, b2, c1, c2, kvs', E', df3, fl3, ge3, eb3, em3⟩ hA1
          have hpi : i < (partsT p).length := by rw [← l1]; exact (List.getElem?_eq_some_iff.mp hx).1
          have hti : i < (partsT t).length := by omega
          have ep : (partsT p)[i]? = some (partsT p)[i] := List.getElem?_eq_getElem hpi
          have et : (partsT t)[i]? = some (partsT t)[i] := List.getElem?_eq_getElem hti
          obtain ⟨x', hx', htx⟩ := c1.get ep
          rw [hx] at hx'; cases hx'
          obtain ⟨y', hy', hty⟩ := c2.get et
          rw [hy] at hy'; cases hy'
          have s4 := same_new hA1 (HO.tup [x, y])
          obtain ⟨k, ps, rfl⟩ : ∃ k ps, p = .node k ps := by
            cases p with
            | node k ps => exact ⟨k, ps, rfl⟩
            | _ => exact (Nat.not_lt_zero _ hpi).elim
          have hk : ∀ x, k ≠ .hole x := fun x e => hnh x ps (by rw [e])
          obtain ⟨ts, rfl⟩ := hsn
          obtain ⟨d', w', edp, hpt⟩ : ∃ d' w', d = d' + 1 ∧ Pt hs d' w' ps[i] := by
            cases M.pt with
            | node _ _ h => exact ⟨_, _, rfl, h i _ ep⟩
            | hole _ _ _ _ => exact (hk _ rfl).elim
          subst edp
          have hdp := M.dp.2 _ (List.getElem_mem hpi)
          have hdt : dle D ts[i] := by
            have z := M.dt
            cases D with
            | zero => exact z.elim
            | succ D => exact dle_mono (z.2 _ (List.getElem_mem hti)) (Nat.le_succ D)
          have MQ : MatQ K hs D d' w' x y f ps[i] ts[i] kvs' E' (upd H3 A1 (.tup [x, y])) := ⟨htx.ext (Te.of' s4), hty.ext (Te.of' s4), hpt, ⟨ph, (all_node.mp hap).2 _ (List.getElem_mem hpi)⟩, hdp, (all_node.mp M.h0).2 _ (List.getElem_mem hti), hdt, s4 _ _ df3, fl3.te (Te.of' s4), ge3, eb3⟩
          obtain ⟨mf1, mf2⟩ := mtL_at i ps ts E E' ps[i] ts[i] ep et em3
          refine ⟨A1, _, rfl, SqT.of upd_same, rfl, _, _, rfl, _, _, rfl, rfl, ?_⟩
          refine ⟨_, rfl, _, rfl, _, rfl, x, y, f, ps[i], ts[i], kvs', E', d', w', rfl, by omega, MQ, fun H5 kvs5 E5 k5 em5 df5 fl5 eb5 => ?_, fun H5 kvs5 k5 em5 df5 => ?_⟩
          · refine ⟨_, rfl, iteF ?_⟩
            have ok := mt_ok hn hpt (H0.hf ((all_node.mp M.h0).2 _ (List.getElem_mem hti))) hdt ge3 em5
            have tA := (Te.of' s4).trans (k5.teD (s4 _ _ df3))
            exact ⟨_, _, rfl, (k3.trans (Kp.same s4)).trans k5, tA.seq b1, tA.seq b2, c1.ext tA, c2.ext tA, kvs5, E5, df5, fl5, ok.2.1, eb5, mf2 E5 em5⟩
          · refine ⟨_, rfl, iteT ?_⟩
            refine q2 H5 kvs5 ((k3.trans (Kp.same s4)).trans k5) ?_ df5
            rw [mt_node hk]
            exact mf1 em5
        · rintro σ H3 ⟨x4, x5, rfl, k3, b1, b2, c1, c2, kvs', E', df3, fl3, ge3, eb3, em3⟩
          rw [List.take_of_length_le (by omega), List.take_of_length_le (by omega)] at em3
          refine q1 H3 kvs' E' k3 ?_ df3 fl3 eb3
          cases p with
          | var i =>
            have z : t = _ := hsn
            rw [mt_var, if_pos z]
            rw [← em3]; exact (mtL_nil).symm
          | atom u xs =>
            have z : t = _ := hsn
            rw [mt_atom, if_pos z]
            rw [← em3]; exact (mtL_nil).symm
          | node k ps =>
            obtain ⟨ts, rfl⟩ := hsn
            rw [mt_node (fun x e => hnh x ps (by rw [e]))]
            exact em3
end
end KP

/-! matched, solves, says -/
namespace KP
open PySem PyProof.Rows L2 LamX NdefX KL KM KD
abbrev sSays : Stmt := top 38
section
variable {P : Program} {w : World} {K : PySem.W.Frag} {mg : Str → Option Value} {base : Heap} {T : List (Addr × Str)}
def spMatd (K : PySem.W.Frag) (hs : List (Int × Nat)) (D n : Nat) : Sp := fun us H Q _ => ∃ (v v' : V) (p t : Tm) (d w : Nat), us = [v, v'] ∧ d < n ∧ Tr K H v p ∧ Tr K H v' t ∧ Pt hs d w p ∧ (∃ ph, All ph pa0 p) ∧ dle d p ∧ H0 t ∧ dle D t ∧
  (∀ g kvs E H', Same H H' → H g = none → mt p t [] = some E → H' g = some (.dK kvs) → FlL K H' kvs E → (∀ e ∈ E, H0 e.2.2) → Q (.ref g) H') ∧ (∀ H', Same H H' → mt p t [] = none → Q .non H')
theorem scMatd : FnScope ["pattern", "term", "found"] ["pattern", "term"] (defScope sMatched) := ⟨rfl, rfl, rfl, by decide +kernel, rfl, by decide +kernel, by decide +kernel⟩
theorem ok_matd {hs : List (Int × Nat)} {D n k : Nat} {f fm : Addr} {fd fdm : FuncData} (F : Fun K "matched" "matched" sMatched f fd) (CM : Cl P w K mg base k "matches" fm fdm ["pattern", "term", "found"] (spMat K hs D n)) : FnOk P w K mg base CX0 (k + 1) f fd ["pattern", "term"] (spMatd K hs D n) := by
  refine F.ok scMatd (fun vs H Q E h => ?_) (fun cdv A outer s H vs Q E hr h => ?_)
  · obtain ⟨v, v', p, t, d, w, rfl, _⟩ := h; rfl
  obtain ⟨v, v', p, t, d, w, rfl, hdn, hp, ht, hpt, hap, hdp, h0, hdt, q1, q2⟩ := h
  refine ⟨_, pss_cons (ps_set (i := 2) scMatd.nd rfl (.inl rfl) pe_dnewK)
    (pss_one (ps_ret (pe_ifExp (pt_truth (pe_cl CM hr (pa_cons (pv 0) (pa_cons (pv 1) (pa_cons (pv 2) pa_nil)))) (by intro _; rfl)) (pv 2) pe_non))), ?_⟩
  intro g hg
  have s1 := same_new hg (HO.dK [])
  have back : ∀ {H' : Hp}, Kp g (upd H g (.dK [])) H' → Same H H' := fun k b o e => k b o (s1 b o e) (ne_of_none e hg)
  refine ⟨_, rfl, _, rfl, _, rfl, v, v', g, p, t, [], [], d, w, rfl, hdn, ⟨hp.ext (Te.of' s1), ht.ext (Te.of' s1), hpt, hap, hdp, h0, hdt, upd_same, .nil, ⟨List.nodup_nil, fun e h => by cases h⟩, fun e h => by cases h⟩, fun H' kvs' E' k em df fl eb => ?_, fun H' kvs' k em df => ?_⟩
  · refine ⟨_, rfl, iteT ⟨_, rfl, ?_⟩⟩
    exact q1 g kvs' E' H' (back k) hg em df fl eb
  · refine ⟨_, rfl, iteF ?_⟩
    exact q2 H' (back k) em
/-! ### solves, of one equation -/
theorem PI.or {X : Cx} {tg e : Expr} {t t' : TI} (h1 : PI X tg e t) (h2 : PI X tg e t') : PI X tg e (fun σ H R => t σ H R ∨ t' σ H R) := ⟨fun pins s σ H R I h => h.elim (h1.run pins s σ H R I) (h2.run pins s σ H R I)⟩
def spSolves (K : PySem.W.Frag) (T : List (Addr × Str)) (N n : Nat) : Sp := fun us H Q _ => ∃ (e q : Addr) (D : Addr) (m l r : V) (a b : Tm) (φ : Fl), us = [.ref e, .ref D] ∧ (SqL K H e [.ref q] ∨ SqT K H e [.ref q]) ∧ SqT K H q [m, l, r] ∧ Tr K H l a ∧ Tr K H r b ∧ FlAt K H D φ ∧ Tabs T H ∧
  fdl φ N N n a ∧ fdl φ N N n b ∧ (∃ ph, All ph pa0 (fillN φ n a)) ∧ (∃ ph, All ph pa0 (fillN φ n b)) ∧ SeqAt.shaped (enc (fillN φ n a)) = true ∧ SeqAt.shaped (enc (fillN φ n b)) = true ∧
  ∀ (c : Bool) H', Gr T H H' → (c = true ↔ fillN φ n a = fillN φ n b) → Q (.bl c) H'
abbrev nSol : List Str := ["equations", "filling", "many", "left", "right"]
theorem scSol : FnScope nSol ["equations", "filling"] (defScope sSolves) := ⟨rfl, rfl, rfl, by decide +kernel, rfl, by decide +kernel, by decide +kernel⟩
open Classical in
theorem ok_solves {N n k : Nat} {f ff : Addr} {fd fdf : FuncData} (F : Fun K "solves" "solves" sSolves f fd) (CF : Cl P w K mg base k "fill" ff fdf ["term", "filling"] (spFill K T N N n)) : FnOk P w K mg base CX0 (k + 1) f fd ["equations", "filling"] (spSolves K T N n) := by
  refine F.ok scSol (fun vs H Q E h => ?_) (fun cdv A outer s H vs Q E hr h => ?_)
  · obtain ⟨e, q, D, m, l, r, a, b, φ, rfl, _⟩ := h; rfl
  obtain ⟨e, qa, D, m, l, r, a, b, φ, rfl, he, hq, hl, hrr, hF, hT, fa, fb, ⟨pa1, aa⟩, ⟨pb1, ab⟩, sa, sb, q⟩ := h
  have hu64 := hr.units
  refine ⟨_, pss_cons (ps_for PassesOwn.never rfl (PI.or (pi_list (pv 0)) (pi_tup (pv 0))) (pg_tup rfl (pgs_cons (pg_name (i := 2) scSol.nd rfl (.inl rfl)) (pgs_cons (pg_name (i := 3) scSol.nd rfl (.inl rfl)) (pgs_cons (pg_name (i := 4) scSol.nd rfl (.inl rfl)) pgs_nil))))
      (pss_one (ps_if (pt_cmpR (op_neD hu64) (pe_cl CF hr (pa_cons (pv 3) (pa_cons (pv 1) pa_nil))) (pe_cl CF hr (pa_cons (pv 4) (pa_cons (pv 1) pa_nil))) (nomark _)) (pss_one (ps_ret pe_bl)) pss_nil)))
    (pss_one (ps_ret pe_bl)), ?_⟩
  rcases he with he | he
  · refine .inl ⟨_, rfl, e, rfl, ⟨_, he⟩, ?_⟩
    refine for_it (walk_list (xs := [V.ref qa])) (fun i σ H' => (i = 0 ∧ σ = [some (.ref e), some (.ref D), none, none, none] ∧ H = H') ∨ (i = 1 ∧ Gr T H H' ∧ fillN φ n a = fillN φ n b)) ?_ ?_ ?_ ?_
    · exact .inl ⟨rfl, rfl, rfl⟩
    · rintro i σ H' _ (⟨_, _, rfl⟩ | ⟨_, g, _⟩)
      · exact he
      · exact sqL_ext g.ext he
    · rintro i x σ H1 H2 hi (⟨rfl, rfl, rfl⟩ | ⟨rfl, _, _⟩) ⟨rfl, hx⟩
      · cases hx
        refine ⟨qa, _, rfl, hq, rfl, _, _, rfl, _, _, rfl, _, _, rfl, rfl, ?_⟩
        refine ⟨_, rfl, _, rfl, l, D, a, φ, rfl, hl, fa, hF, hT, fun v1 H3 g3 h3 => ?_⟩
        refine ⟨_, rfl, _, rfl, r, D, b, φ, rfl, hrr.ext g3.te, fb, hF.re (Re.of g3.ext), g3.tab hT, fun v2 H4 g4 h4 => ?_⟩
        refine ⟨_, _, Tp.dp _ _ (h3.ext g4.te), Tp.dp _ _ h4, sa, sb, _, rfl, ?_⟩
        rw [eqv_enc aa ab sa]
        by_cases z : fillN φ n a = fillN φ n b
        · rw [decide_eq_true z]
          exact iteF (.inr ⟨rfl, g3.trans g4, z⟩)
        · rw [decide_eq_false z]
          exact iteT (q false H4 (g3.trans g4) ⟨(fun h => by cases h), fun h => (z h).elim⟩)
      · exact absurd hi (Nat.lt_irrefl 1)
    · rintro σ H1 (⟨z, _⟩ | ⟨_, g, z⟩)
      · cases z
      · exact q true H1 g ⟨fun _ => z, fun _ => rfl⟩
  · refine .inr ⟨_, rfl, e, rfl, ⟨_, he⟩, ?_⟩
    refine for_it (walk_tup (xs := [V.ref qa])) (fun i σ H' => (i = 0 ∧ σ = [some (.ref e), some (.ref D), none, none, none] ∧ H = H') ∨ (i = 1 ∧ Gr T H H' ∧ fillN φ n a = fillN φ n b)) ?_ ?_ ?_ ?_
    · exact .inl ⟨rfl, rfl, rfl⟩
    · rintro i σ H' _ (⟨_, _, rfl⟩ | ⟨_, g, _⟩)
      · exact he
      · exact sqT_ext g.ext he
    · rintro i x σ H1 H2 hi (⟨rfl, rfl, rfl⟩ | ⟨rfl, _, _⟩) ⟨rfl, hx⟩
      · cases hx
        refine ⟨qa, _, rfl, hq, rfl, _, _, rfl, _, _, rfl, _, _, rfl, rfl, ?_⟩
        refine ⟨_, rfl, _, rfl, l, D, a, φ, rfl, hl, fa, hF, hT, fun v1 H3 g3 h3 => ?_⟩
        refine ⟨_, rfl, _, rfl, r, D, b, φ, rfl, hrr.ext g3.te, fb, hF.re (Re.of g3.ext), g3.tab hT, fun v2 H4 g4 h4 => ?_⟩
        refine ⟨_, _, Tp.dp _ _ (h3.ext g4.te), Tp.dp _ _ h4, sa, sb, _, rfl, ?_⟩
        rw [eqv_enc aa ab sa]
        by_cases z : fillN φ n a = fillN φ n b
        · rw [decide_eq_true z]
          exact iteF (.inr ⟨rfl, g3.trans g4, z⟩)
        · rw [decide_eq_false z]
          exact iteT (q false H4 (g3.trans g4) ⟨(fun h => by cases h), fun h => (z h).elim⟩)
      · exact absurd hi (Nat.lt_irrefl 1)
    · rintro σ H1 (⟨z, _⟩ | ⟨_, g, z⟩)
      · cases z
      · exact q true H1 g ⟨fun _ => z, fun _ => rfl⟩
/-! ### says: a bool, and this one -/
def spSays : Sp := fun us H Q _ => ∃ a b : Bool, us = [.bl a, .bl b] ∧ Q (.bl (a == b)) H
theorem scSays : FnScope ["_law_told", "_law_want"] ["_law_told", "_law_want"] (defScope sSays) := ⟨rfl, rfl, rfl, by decide +kernel, rfl, by decide +kernel, by decide +kernel⟩
theorem ok_says {f : Addr} {fd : FuncData} (F : Fun K "_law_says" "_law_says" sSays f fd) (mi : mg "isinstance" = none) (mb : mg "bool" = none) : FnOk P w K mg base CX0 1 f fd ["_law_told", "_law_want"] spSays := by
  refine F.ok scSays (fun vs H Q E h => ?_) (fun cdv A outer s H vs Q E hr h => ?_)
  · obtain ⟨a, b, rfl, _⟩ := h; rfl
  obtain ⟨a, b, rfl, q⟩ := h
  refine ⟨_, pss_one (ps_ret (pe_and (pe_callB call_isi rfl mi (by decide +kernel) (pa_cons (pv 0) (pa_cons (pe_bltn (x := "bool") (v := .ty "bool") rfl mb (by decide +kernel) rfl) pa_nil))) (pe_one (pe_cmpR op_eq (pv 0) (pv 1) (nomark _))))), ?_⟩
  refine ⟨_, rfl, _, _, _, _, true, rfl, .ty _, .base (.bl _), rfl, true, rfl, iteT ⟨_, rfl, _, rfl, rfl, ?_⟩⟩
  have e : decide (V.bl a = V.bl b) = (a == b) := by cases a <;> cases b <;> rfl
  rw [e]
  exact q
end
end KP

/-! some, sketch -/
namespace KP
open PySem PyProof.Rows L2 LamX NdefX KL KM KD
abbrev sSome : Stmt := top 30
abbrev sSketch : Stmt := top 31
theorem erase_perm : ∀ (l : List Nat) (j : Nat) (h : j < l.length), (l[j] :: l.eraseIdx j).Perm l
  | [], _, h => absurd h (Nat.not_lt_zero _)
  | x :: l, 0, _ => List.Perm.refl _
  | x :: l, j + 1, h => by
    have z := erase_perm l j (by simpa using h)
    exact (List.Perm.swap x _ _).trans (z.cons x)
theorem erase_map {α β : Type} (g : α → β) : ∀ (l : List α) (j : Nat), (l.map g).eraseIdx j = (l.eraseIdx j).map g
  | [], _ => rfl
  | x :: l, 0 => rfl
  | x :: l, j + 1 => congrArg (g x :: ·) (erase_map g l j)
section
variable {P : Program} {w : World} {K : PySem.W.Frag} {mg : Str → Option Value} {base : Heap} {T : List (Addr × Str)}
theorem seq_nat {r n : Nat} (h : r < n) : seqIndex? (r : Int) n = some r := by
  refine (ixN_seq (n := n) (i := (r : Int)) (j := r) ?_).1
  unfold ixN
  rw [if_pos (by omega), if_pos (by omega)]
  simp
def spSome (K : PySem.W.Frag) : Sp := fun us H Q _ => ∃ (p b : Addr) (wd m : Nat), us = [.ref p, .int (wd : Nat), .int (m : Nat)] ∧ DrOk H p b ∧ m ≤ wd ∧ wd ≤ 100 ∧ ∀ g ws vs H', Kp p H H' → DrOk H' p b → SqT K H' g ws → Ts K H' ws (vars vs) → vs.Nodup → vs.length = m → (∀ v ∈ vs, v < wd) → Q (.ref g) H'
abbrev nSome : List Str := ["_law_draw_here", "_law_wide", "_law_many", "_law_pool", "_law_out", "_law_k"]
theorem scSome : FnScope nSome ["_law_draw_here", "_law_wide", "_law_many"] (defScope sSome) := ⟨rfl, rfl, rfl, by decide +kernel, rfl, by decide +kernel, by decide +kernel⟩
theorem rgV_nat (n : Nat) : rgV 0 n = (List.range n).map fun j => V.int ((j : Nat) : Int) := by
  unfold rgV
  rw [show ((n : Int) - 0).toNat = n by omega]
  exact List.map_congr_left fun j _ => by rw [Int.zero_add]
theorem ok_some {f fp : Addr} {fd fdp : FuncData} (F : Fun K "_law_some" "_law_some" sSome f fd) (ml : mg "len" = none) (mr : mg "range" = none) (mi : mg "list" = none) (mt : mg "tuple" = none) (CP : Cl P w K mg base 1 "_law_pick" fp fdp ["_law_draw_here", "_law_many"] spPick) : FnOk P w K mg base CX0 2 f fd ["_law_draw_here", "_law_wide", "_law_many"] (spSome K) := by
  refine F.ok scSome (fun vs H Q E h => ?_) (fun cdv A outer s H vs Q E hr h => ?_)
  · obtain ⟨p, b, wd, m, rfl, _⟩ := h; rfl
  obtain ⟨p, b, wd, m, rfl, d0, hmw, hw, q⟩ := h
  refine ⟨_, pss_cons (ps_par (i := 3) (j := 4) rfl scSome.nd rfl rfl (by decide) rfl rfl (pa_cons (pe_listRg rfl rfl mi (prg_1 rfl mr (pv 1))) (pa_cons (pe_lst pa_nil) pa_nil)) (by rfl))
    (pss_cons (ps_for PassesOwn.never rfl (pi_range1 rfl mr (pa_cons (pv 2) pa_nil)) (pg_name (i := 5) scSome.nd rfl (.inl rfl))
      (pss_one (ps_expr (pe_bm PySem.F.plainAttrs_list PySem.F.slot_list_append PySem.F.type_list_append mt_append (pv 4) (pa_cons (pe_tup (pa_cons pe_str (pa_cons (pe_bm PySem.F.plainAttrs_list PySem.F.slot_list_pop PySem.F.type_list_pop mt_popAt (pv 3) (pa_cons (pe_cl CP hr (pa_cons (pv 0) (pa_cons (pe_callB call_len_seq rfl ml PySem.boot_len (pa_cons (pv 3) pa_nil)) pa_nil))) pa_nil)) pa_nil))) pa_nil)))))
    (pss_one (ps_ret (pe_callTy call_tuple_of rfl mt (by decide +kernel) (pa_cons (pv 4) pa_nil))))), ?_⟩
  refine ⟨_, rfl, _, rfl, RgOk.of_le (Int.le_refl _) (by omega) (by omega) (by omega), fun pl hpl => ⟨le_line (by simp), fun ol hol => ⟨_, _, rfl, ?_⟩⟩⟩
  have s1 := same_new hpl (HO.lst (rgV 0 wd))
  have s2 := s1.trans (same_new hol (HO.lst []))
  have nop : pl ≠ ol := fun e => by subst e; rw [upd_same] at hol; cases hol
  have hol0 := s1.free hol
  have ne : ∀ {g : Addr}, H g = none → g ≠ p := fun hg e => by subst e; obtain ⟨xs, hx⟩ := d0.lst; rw [hg] at hx; cases hx
  refine ⟨_, rfl, (m : Int), rfl, by omega, by omega, ?_⟩
  refine for_it walk_range (fun i σ H' => ∃ (x5 : Option V) (pool vs : List Nat) (acc : List V), σ = [some (.ref p), some (.int (wd : Nat)), some (.int (m : Nat)), some (.ref pl), some (.ref ol), x5] ∧ Kp p H H' ∧ DrOk H' p b ∧ H' pl = some (.lst (pool.map fun j => V.int ((j : Nat) : Int))) ∧ H' ol = some (.lst acc) ∧ Ts K H' acc (vars vs) ∧ (vs ++ pool).Nodup ∧ vs.length = i ∧ pool.length = wd - i ∧ ∀ v ∈ vs ++ pool, v < wd) ?_ ?_ ?_ ?_
  · refine ⟨_, List.range wd, [], [], rfl, Kp.same s2, d0.same s2, ?_, upd_same, .nil, by simpa using List.nodup_range, rfl, by simp, fun v hv => by simpa using hv⟩
    rw [upd_ne nop, upd_same, rgV_nat]
  · intro _ _ _ _ _; trivial
  · rintro i x σ H3 H4 hi ⟨x5, pool, vs, acc, rfl, k3, d3, hp3, ho3, hts, hnd, hvl, hpl3, hlt⟩ ⟨rfl, rfl⟩
    have hi : i < ((m : Nat) : Int).toNat := hi
    refine ⟨_, rfl, .inl ⟨rfl, _, SqL.of ho3⟩, _, rfl, .inl ⟨rfl, _, SqL.of hp3⟩, _, rfl, _, rfl, pl, _, rfl, .inl (SqL.of hp3), p, b, _, rfl, d3, by rw [List.length_map]; omega, fun r H5 r0 r1 k5 d5 => ?_⟩
    rw [List.length_map] at r1
    obtain ⟨j, rfl⟩ : ∃ j : Nat, r = (j : Int) := ⟨r.toNat, by omega⟩
    have hj : j < pool.length := by omega
    have hp5 := k5 _ _ hp3 (ne hpl)
    have ho5 := k5 _ _ ho3 (ne hol0)
    refine ⟨pl, _, (j : Int), j, V.int ((pool[j] : Nat) : Int), rfl, rfl, hp5, by omega, by omega, by rw [List.length_map]; exact seq_nat hj, by rw [List.getElem?_map, List.getElem?_eq_getElem hj]; rfl, ?_⟩
    have t6 : Te H5 (upd H5 pl (.lst ((pool.map fun j => V.int ((j : Nat) : Int)).eraseIdx j))) := Te.lst hp5
    have ho6 : upd H5 pl (.lst ((pool.map fun j => V.int ((j : Nat) : Int)).eraseIdx j)) ol = some (.lst acc) := by rw [upd_ne (Ne.symm nop)]; exact ho5
    refine ⟨le_line (by simp), fun tp htp => ?_⟩
    have s7 := same_new htp (HO.tup [V.str "var", V.int ((pool[j] : Nat) : Int)])
    have ho7 := s7 _ _ ho6
    have hp7 := s7 _ _ (show upd H5 pl (.lst ((pool.map fun j => V.int ((j : Nat) : Int)).eraseIdx j)) pl = _ from upd_same)
    have hal : acc.length ≤ 100 := by rw [hts.len, List.length_map]; omega
    refine ⟨ol, acc, .ref tp, rfl, rfl, ho7, small1000 (by omega), ?_⟩
    have t8 : Te _ (upd _ ol (.lst (acc ++ [V.ref tp]))) := Te.lst ho7
    have kA : Kp p H _ := ((k3.trans k5).mut hpl (o := HO.lst ((pool.map fun j => V.int ((j : Nat) : Int)).eraseIdx j))).trans (Kp.same s7)
    have dA : DrOk _ p b := (d0.ne d5 hpl (o := HO.lst ((pool.map fun j => V.int ((j : Nat) : Int)).eraseIdx j))).same s7
    have perm : (vs ++ pool).Perm ((vs ++ [pool[j]]) ++ pool.eraseIdx j) := by
      rw [List.append_assoc]
      refine List.Perm.append_left vs ?_
      exact (erase_perm pool j hj).symm
    refine ⟨_, pool.eraseIdx j, vs ++ [pool[j]], acc ++ [.ref tp], rfl, kA.mut hol0, d0.ne dA hol0, ?_, upd_same, ?_, perm.nodup_iff.mp hnd, by simp [hvl], by rw [List.length_eraseIdx_of_lt hj]; omega, fun v hv => hlt v (perm.mem_iff.mpr hv)⟩
    · rw [upd_ne nop, hp7, erase_map]
    · show TpAll K _ _ ((vars (vs ++ [pool[j]])).map enc)
      have e9 : vars (vs ++ [pool[j]]) = vars vs ++ [.var pool[j]] := by simp
      rw [e9]
      exact ((((hts.ext (k5.te' d3)).ext t6).ext (Te.of' s7)).ext t8).snoc (tr_mk_var (t8.seq (SqT.of upd_same)))
  · rintro σ H3 ⟨x5, pool, vs, acc, rfl, k3, d3, hp3, ho3, hts, hnd, hvl, hpl3, hlt⟩
    refine ⟨_, rfl, ol, acc, rfl, .inl ⟨SqL.of ho3, fun tp htp => ?_⟩⟩
    have s4 := same_new htp (HO.tup acc)
    exact q tp acc vs _ (k3.trans (Kp.same s4)) (d3.same s4) (SqT.of upd_same) (hts.ext (Te.of' s4)) (List.nodup_append.mp hnd).1 (by omega) fun v hv => hlt v (List.mem_append_left _ hv)
end
end KP

/-! sketch -/
namespace KP
open PySem PyProof.Rows L2 LamX NdefX KL KM KD
/-- all but what is at p and a stands -/
def Kq (p a : Addr) (H H' : Hp) : Prop := ∀ x o, H x = some o → x ≠ p → x ≠ a → H' x = some o
theorem Kq.refl {p a : Addr} {H : Hp} : Kq p a H H := fun _ _ e _ _ => e
theorem Kq.trans {p a : Addr} {H H1 H2 : Hp} (x : Kq p a H H1) (y : Kq p a H1 H2) : Kq p a H H2 := fun b o e n m => y b o (x b o e n m) n m
theorem Kp.kq {p a : Addr} {H H' : Hp} (k : Kp p H H') : Kq p a H H' := fun b o e n _ => k b o e n
theorem Kq.same {p a : Addr} {H H' : Hp} (k : Same H H') : Kq p a H H' := fun b o e _ _ => k b o e
theorem Kq.upd {p a : Addr} {H : Hp} {o : HO} : Kq p a H (L2.upd H a o) := fun b u e _ m => by rw [upd_ne m]; exact e
theorem nd_pos (h : Bool) {r : Int} (h2 : ¬ r < 2) : 1 ≤ nd h r := by
  unfold nd
  rw [if_neg h2]
  repeat' split
  all_goals omega
theorem nd_le (h : Bool) {r l : Int} (h2 : l ≤ r) : nd h l ≤ nd h r := by
  unfold nd
  repeat' split
  all_goals omega
theorem pt_more {hs hs' : List (Int × Nat)} (h : ∀ x ∈ hs, x ∈ hs') {d w : Nat} {t : Tm} (g : Pt hs d w t) : Pt hs' d w t := by
  induction g with
  | var h => exact .var h
  | atom => exact .atom
  | hole h1 h2 h3 h4 => exact .hole (h _ h1) h2 h3 h4
  | node h1 h2 _ ih => exact .node h1 h2 ih
theorem pt_up {hs : List (Int × Nat)} {d w : Nat} {t : Tm} (g : Pt hs d w t) : ∀ {d' : Nat}, d ≤ d' → Pt hs d' w t := by
  induction g with
  | var h => intro d' _; exact .var h
  | atom => intro d' _; exact .atom
  | hole h1 h2 h3 h4 => intro d' hd; obtain ⟨m, rfl⟩ : ∃ m, d' = m + 1 := ⟨d' - 1, by omega⟩; exact .hole h1 h2 h3 h4
  | node h1 h2 _ ih => intro d' hd; obtain ⟨m, rfl⟩ : ∃ m, d' = m + 1 := ⟨d' - 1, by omega⟩; exact .node h1 h2 fun j p hp => ih j p hp (by omega)
theorem pt_dle {hs : List (Int × Nat)} {d w : Nat} {t : Tm} (g : Pt hs d w t) : dle d t := by
  induction g with
  | var h => exact dle_var _ _
  | atom => exact dle_atom _ _ _
  | hole h1 h2 h3 h4 => exact ⟨by show _ ≤ 24; rw [List.length_map]; omega, fun p hp => by obtain ⟨v, _, rfl⟩ := List.mem_map.mp hp; exact dle_var _ _⟩
  | node h1 h2 _ ih =>
    refine ⟨h2, fun p hp => ?_⟩
    obtain ⟨j, hj⟩ := List.mem_iff_getElem?.mp hp
    exact ih j p hj
/-- the list of the holes while a pattern is drawn -/
structure SkS (K : PySem.W.Frag) (p b a : Addr) (hs : List (Int × Nat)) (us : List V) (H : Hp) : Prop where
  dr : DrOk H p b
  la : H a = some (.lst us)
  lt : TpAll K H us (hs.map encH)
  ap : a ≠ p
  ab : a ≠ b
structure Hk (hs : List (Int × Nat)) : Prop where
  nd : (hs.map (·.1)).Nodup
  ok : ∀ x ∈ hs, (0 ≤ x.1 ∧ x.1 < 200) ∧ x.2 ≤ 3
  le : hs.length ≤ 6
section
variable {K : PySem.W.Frag} {p b a : Addr} {hs : List (Int × Nat)} {us : List V} {H H' : Hp}
theorem SkS.te (l : SkS K p b a hs us H) (k : Kq p a H H') : Te H H' := fun c ys r => by
  obtain ⟨xs, hx⟩ := l.dr.lst
  have n1 : c ≠ p := fun e => by subst e; rcases r with r | ⟨o, r⟩ <;> (rw [hx] at r; cases r)
  have n2 : c ≠ a := fun e => by subst e; rcases r with r | ⟨o, r⟩ <;> (rw [l.la] at r; cases r)
  rcases r with r | ⟨o, r⟩
  · exact .inl (k c _ r n1 n2)
  · exact .inr ⟨o, k c _ r n1 n2⟩
theorem SkS.kp (l : SkS K p b a hs us H) (k : Kp p H H') (d : DrOk H' p b) : SkS K p b a hs us H' := ⟨d, k _ _ l.la l.ap, tpA_ext (l.te k.kq) _ _ l.lt, l.ap, l.ab⟩
theorem SkS.same (l : SkS K p b a hs us H) (k : Same H H') : SkS K p b a hs us H' := l.kp (Kp.same k) (l.dr.same k)
theorem SkS.len (l : SkS K p b a hs us H) : us.length = hs.length := by rw [tpA_len l.lt, List.length_map]
theorem SkS.get (l : SkS K p b a hs us H) {i : Nat} {x : Int × Nat} (h : hs[i]? = some x) : ∃ tp, us[i]? = some (.ref tp) ∧ SqT K H tp [.int x.1, .int (x.2 : Nat)] := by
  obtain ⟨v, hv, tv⟩ := tpA_get (i := i) (d := encH x) l.lt (by rw [List.getElem?_map, h]; rfl)
  cases tv with
  | tup h1 h2 => cases h2 with | cons a1 a2 => cases a1; cases a2 with | cons a3 a4 => cases a3; cases a4; exact ⟨_, hv, h1⟩
theorem SkS.push (l : SkS K p b a hs us H) {v : V} {x : Int × Nat} (h : Tp K H v (encH x)) : SkS K p b a (hs ++ [x]) (us ++ [v]) (L2.upd H a (.lst (us ++ [v]))) := by
  have t := Te.lst (o := HO.lst (us ++ [v])) l.la
  refine ⟨l.dr.upd l.ap l.ab, upd_same, ?_, l.ap, l.ab⟩
  rw [List.map_append]
  exact tpA_snoc (tpA_ext t _ _ l.lt) (tp_ext t _ _ h)
end
theorem Hk.push {hs : List (Int × Nat)} (h : Hk hs) (hl : hs.length < 6) {n : Int} {ar : Nat} (hn : n ∉ hs.map (·.1)) (h0 : 0 ≤ n ∧ n < 200) (ha : ar ≤ 3) : Hk (hs ++ [(n, ar)]) := by
  refine ⟨?_, fun x hx => ?_, by simp; omega⟩
  · rw [List.map_append]
    refine List.nodup_append.mpr ⟨h.nd, by simp, fun x hx y hy e => ?_⟩
    have hy : y = n := by simpa using hy
    subst e hy
    exact hn hx
  · rcases List.mem_append.mp hx with hx | hx
    · exact h.ok x hx
    · rw [List.mem_singleton.mp hx]; exact ⟨h0, ha⟩
section
variable {P : Program} {w : World} {K : PySem.W.Frag} {mg : Str → Option Value} {base : Heap} {T : List (Addr × Str)}
def spSketch (K : PySem.W.Frag) (n : Nat) : Sp := fun vs H Q _ => ∃ (d : Nat) (p b a : Addr) (wd most : Nat) (r : Int) (hd : Bool) (us : List V) (hs : List (Int × Nat)), vs = [.ref p, .int wd, .int r, .ref a, .int (most : Nat), .bl hd] ∧ d < n ∧ SkS K p b a hs us H ∧ Hk hs ∧ most ≤ 6 ∧ wd + d ≤ 90 ∧ r ≤ 22 ∧ nd (decide (most ≠ 0)) r ≤ d ∧
  ∀ v H' t us' hs2, Kq p a H H' → SkS K p b a (hs ++ hs2) us' H' → Hk (hs ++ hs2) → Tr K H' v t → Pt (hs ++ hs2) d wd t → All ph0 pa0 t → (most = 0 → hs2 = [] ∧ H0 t) → Q v H'
abbrev nSketch : List Str := ["_law_draw_here", "_law_wide", "_law_room", "_law_holes", "_law_most", "_law_head", "_law_way", "_law_fits", "_law_one_here", "_law_number", "_law_arity", "_law_tag", "_law_less", "_law_first", "_law_second"]
abbrev aSketch : List Str := ["_law_draw_here", "_law_wide", "_law_room", "_law_holes", "_law_most", "_law_head"]
theorem scSketch : FnScope nSketch aSketch (defScope sSketch) := ⟨rfl, rfl, rfl, by decide +kernel, rfl, by decide +kernel, by decide +kernel⟩
theorem ok_sketch {f fp fl fo ff fs : Addr} {fd fdp fdl fdo fdf fds : FuncData} (F : Fun K "_law_sketch" "_law_sketch" sSketch f fd) (mf : mg "_law_sketch" = some (.ref f)) (bf : L2.Binds K fd aSketch []) (ml : mg "len" = none) (mn : mg "min" = none)
    (CP : Cl P w K mg base 1 "_law_pick" fp fdp ["_law_draw_here", "_law_many"] spPick) (CL : Cl P w K mg base 3 "_law_leaf" fl fdl ["_law_draw_here", "_law_wide"] (spLeaf K)) (CO : Cl P w K mg base 2 "_law_one" fo fdo ["_law_draw_here", "_law_row"] (spOne K))
    (CF : Cl P w K mg base 2 "_law_fresh" ff fdf ["_law_draw_here", "_law_taken"] spFresh) (CS : Cl P w K mg base 2 "_law_some" fs fds ["_law_draw_here", "_law_wide", "_law_many"] (spSome K)) : ∀ n, Cl P w K mg base (n + 3) "_law_sketch" f fd aSketch (spSketch K n)
  | 0 => by
    refine ⟨?_, mf, F.kp, bf⟩
    refine F.ok scSketch (fun vs H Q E h => ?_) (fun cdv A outer s H vs Q E hr h => ?_)
    · obtain ⟨d, p, b, a, wd, most, r, hd, us, hs, rfl, _⟩ := h; rfl
    · obtain ⟨d, p, b, a, wd, most, r, hd, us, hs, rfl, h, _⟩ := h
      exact absurd h (Nat.not_lt_zero _)
  | n + 1 => by
    have ih := ok_sketch F mf bf ml mn CP CL CO CF CS n
    refine ⟨?_, mf, F.kp, bf⟩
    refine F.ok scSketch (fun vs H Q E h => ?_) (fun cdv A outer s H vs Q E hr h => ?_)
    · obtain ⟨d, p, b, a, wd, most, r, hd, us, hs, rfl, _⟩ := h; rfl
    obtain ⟨d, p, b, a, wd, most, r, hd, us, hs, rfl, hdn, l0, hk, hm6, hwd, hr22, hnd, q⟩ := h
    have hr1 := hr.mono (show 1 ≤ n + 3 by omega)
    have hr2 := hr.mono (show 2 ≤ n + 3 by omega)
    have hr3 := hr.mono (show 3 ≤ n + 3 by omega)
    refine ⟨_, pss_cons (ps_set (i := 6) scSketch.nd rfl (.inl rfl) (pe_cl CP hr1 (pa_cons (pv 0) (pa_cons pe_int pa_nil))))
      (Evl.pss_cut (ps_setLc (own := [("_law_one_here", 8)]) (i := 7) (g := gName 8) rfl scSketch.nd rfl rfl (sw_true rfl rfl rfl (by decide +kernel)) (pi_list (pv 3)) (blkOk_by (N := nSketch) (sc := defScope sSketch) (by decide +kernel)) (fun _ _ _ _ _ => pg_name (i := 8) scSketch.nd rfl (.inl rfl))
          (fun _ _ _ _ _ => pts_one (pt_cmpR op_le (pe_ix (r := rIxT K) ix_tup (pv 8) pe_int (fun _ _ => rfl)) (pv 1) (nomark _))) (fun _ _ _ _ _ => pv 8))
      (Evl.pss_cut (ps_if (PW.pt (pw_and (pt_truth (pv 4) (by intro _; rfl)) (pw_and (pt_not (pt_truth (pv 5) (by intro _; rfl))) (pw_and (pt_cmpR op_lt (pv 6) pe_int (nomark _)) (pw_and1 (pt_truth (pv 7) (by intro _; rfl)))))))
          (pss_cons (ps_asg (pe_cl CO hr2 (pa_cons (pv 0) (pa_cons (pv 7) pa_nil))) (pg_tup rfl (pgs_cons (pg_name (i := 9) scSketch.nd rfl (.inl rfl)) (pgs_cons (pg_name (i := 10) scSketch.nd rfl (.inl rfl)) pgs_nil))))
          (pss_one (ps_ret (pe_tup (pa_cons pe_str (pa_cons (pv 9) (pa_cons (pe_cl CS hr2 (pa_cons (pv 0) (pa_cons (pv 1) (pa_cons (pv 10) pa_nil)))) pa_nil))))))) pss_nil)
      (Evl.pss_cut (ps_if (PW.pt (pw_and (pt_truth (pv 4) (by intro _; rfl)) (pw_and (pt_not (pt_truth (pv 5) (by intro _; rfl))) (pw_and (pt_cmpR op_lt (pv 6) pe_int (nomark _)) (pw_and1 (pt_cmpR op_lt (pe_callB call_len_seq rfl ml PySem.boot_len (pa_cons (pv 3) pa_nil)) (pv 4) (nomark _)))))))
          (pss_cons (ps_par (i := 9) (j := 10) rfl scSketch.nd rfl rfl (by decide) rfl rfl (pa_cons (pe_cl CF hr2 (pa_cons (pv 0) (pa_cons (pe_lc (own := [("_law_one_here", 8)]) (g := gName 8) (tt := tYes) rfl scSketch.nd (pi_list (pv 3)) (blkOk_by (N := nSketch) (sc := defScope sSketch) (by decide +kernel)) (fun _ _ _ _ _ => pg_name (i := 8) scSketch.nd rfl (.inl rfl)) (fun _ _ _ _ _ => pts_nil)
              (fun _ _ _ _ _ => pe_ix (r := rIxT K) ix_tup (pv 8) pe_int (fun _ _ => rfl))) pa_nil))) (pa_cons (pe_callB (call_min2 rfl) rfl mn (by decide +kernel) (pa_cons (pv 1) (pa_cons (pe_cl CP hr1 (pa_cons (pv 0) (pa_cons pe_int pa_nil))) pa_nil))) pa_nil)) (by rfl))
          (pss_cons (ps_expr (pe_bm PySem.F.plainAttrs_list PySem.F.slot_list_append PySem.F.type_list_append mt_append (pv 3) (pa_cons (pe_tup (pa_cons (pv 9) (pa_cons (pv 10) pa_nil))) pa_nil)))
          (pss_one (ps_ret (pe_tup (pa_cons pe_str (pa_cons (pv 9) (pa_cons (pe_cl CS hr2 (pa_cons (pv 0) (pa_cons (pv 1) (pa_cons (pv 10) pa_nil)))) pa_nil)))))))) pss_nil)
      (Evl.pss_cut (ps_if (PW.pt (pw_or (pt_cmpR op_lt (pv 2) pe_int (nomark _)) (pw_or1 (pt_cmpR op_eq (pv 6) pe_int (nomark _))))) (pss_one (ps_ret (pe_cl CL hr3 (pa_cons (pv 0) (pa_cons (pv 1) pa_nil))))) pss_nil)
      (pss_cons (ps_par (i := 11) (j := 12) rfl scSketch.nd rfl rfl (by decide) rfl rfl (pa_cons (pe_ix ix_list (pe_lst (pa_cons pe_str (pa_cons pe_str (pa_cons pe_str (pa_cons pe_str (pa_cons pe_str (pa_cons pe_str pa_nil))))))) (pe_cl CP hr1 (pa_cons (pv 0) (pa_cons pe_int pa_nil))) (fun _ _ => rfl)) (pa_cons (pe_op op_fdiv (pe_op op_sub (pv 2) pe_int) pe_int) pa_nil)) (by rfl))
      (pss_cons (ps_set (i := 13) scSketch.nd rfl (.inl rfl) (pe_cl ih hr (pa_cons (pv 0) (pa_cons (pv 1) (pa_cons (pv 12) (pa_cons (pv 3) (pa_cons (pv 4) (pa_cons (pe_cmpR op_eq (pv 11) pe_str (nomark _)) pa_nil))))))))
      (pss_cons (ps_if (pt_cmpR op_eq (pv 11) pe_str (nomark _))
          (pss_cons (ps_set (i := 14) scSketch.nd rfl (.inl rfl) (pe_cl ih hr (pa_cons (pv 0) (pa_cons (pv 1) (pa_cons (pe_op op_fdiv (pv 12) pe_int) (pa_cons (pv 3) (pa_cons (pv 4) (pa_cons pe_bl pa_nil))))))))
          (pss_one (ps_ret (pe_tup (pa_cons pe_str (pa_cons (pv 13) (pa_cons (pv 14) (pa_cons (pe_cl ih hr (pa_cons (pv 0) (pa_cons (pe_op op_add (pv 1) pe_int) (pa_cons (pv 12) (pa_cons (pv 3) (pa_cons (pv 4) (pa_cons pe_bl pa_nil))))))) pa_nil)))))))) pss_nil)
      (pss_one (ps_ret (pe_tup (pa_cons (pv 11) (pa_cons (pv 13) (pa_cons (pe_cl ih hr (pa_cons (pv 0) (pa_cons (pe_op op_add (pv 1) (pe_ifExp (pt_cmpR op_eq (pv 11) pe_str (nomark _)) pe_int pe_int)) (pa_cons (pv 12) (pa_cons (pv 3) (pa_cons (pv 4) (pa_cons pe_bl pa_nil))))))) pa_nil))))))))))))), ?_⟩
    refine ⟨_, rfl, p, b, 9, rfl, l0.dr, by decide, fun way H1 _ _ k1 d1 => ?_⟩
    have l1 := l0.kp k1 d1
    have hul := l1.len
    have hle6 := hk.le
    refine ⟨fun σ H' => ∃ (fl : Addr) (us7 : List V) (hs7 : List (Int × Nat)), σ = [some (.ref p), some (.int (wd : Nat)), some (.int r), some (.ref a), some (.int (most : Nat)), some (.bl hd), some (.int way), some (.ref fl), none, none, none, none, none, none, none] ∧ Same H1 H' ∧ H' fl = some (.lst us7) ∧ fl ≠ p ∧ TpAll K H' us7 (hs7.map encH) ∧ (∀ x ∈ hs7, x ∈ hs ∧ x.2 ≤ wd) ∧ us7.length ≤ 100, ?_, ?_⟩
    · refine ⟨_, rfl, a, rfl, ⟨us, SqL.of l1.la⟩, fun Dl hDl => ?_⟩
      have nDp : Dl ≠ p := fun e => by subst e; obtain ⟨xs, hx⟩ := l1.dr.lst; rw [hDl] at hx; cases hx
      refine lc_it (walk_list (xs := us)) (fun i H' => Same H1 H' ∧ ∃ (us7 : List V) (hs7 : List (Int × Nat)), H' Dl = some (.lst us7) ∧ TpAll K H' us7 (hs7.map encH) ∧ (∀ x ∈ hs7, x ∈ hs ∧ x.2 ≤ wd) ∧ us7.length ≤ i) ?_ ?_ ?_ ?_
      · exact ⟨same_new hDl _, [], [], upd_same, .nil, (fun x h => by cases h), Nat.le_refl _⟩
      · rintro i H' _ ⟨s5, _⟩
        exact SqL.of (s5 _ _ l1.la)
      · rintro i y H3 H4 hi ⟨s3, us7, hs7, h3, t3, a3, e3⟩ ⟨rfl, hy⟩
        have hil : i < hs.length := by omega
        obtain ⟨tp, e1, e2⟩ := l1.get (i := i) (x := hs[i]) (List.getElem?_eq_getElem hil)
        rw [hy] at e1
        cases e1
        refine ⟨rfl, _, rfl, tp, _, 1, _, rfl, rfl, sqT_same s3 e2, at1, _, rfl, _, _, rfl, rfl, _, rfl, ?_⟩
        refine ite2 (fun le => ?_) (fun _ => ⟨s3, us7, hs7, h3, t3, a3, by omega⟩)
        have le : ((hs[i].2 : Nat) : Int) ≤ ((wd : Nat) : Int) := of_decide_eq_true le
        have t6 := Te.lst (o := HO.lst (us7 ++ [V.ref tp])) h3
        refine ⟨_, rfl, us7, h3, small1000 (by omega), same_mut s3 hDl, us7 ++ [.ref tp], hs7 ++ [hs[i]], upd_same, ?_, fun x hx => ?_, by simp; omega⟩
        · rw [List.map_append]
          exact tpA_snoc (tpA_ext t6 _ _ t3) (.tup (t6.seq (sqT_same s3 e2)) (.cons (.int _) (.cons (.int _) .nil)))
        · rcases List.mem_append.mp hx with hx | hx
          · exact a3 x hx
          · rw [List.mem_singleton.mp hx]; exact ⟨List.getElem_mem hil, by omega⟩
      · rintro H3 ⟨s3, us7, hs7, h3, t3, a3, e3⟩
        exact ⟨Dl, us7, hs7, rfl, s3, h3, nDp, t3, a3, by omega⟩
    rintro σ H2 ⟨fl, us7, hs7, rfl, s2, hfl, nfp, t7, a7, e7⟩
    have l2 := l1.same s2
    have kq2 : Kq p a H H2 := (k1.trans (Kp.same s2)).kq
    have hd1 : most ≠ 0 → 1 ≤ d := fun z => by
      unfold nd at hnd
      rw [if_pos (decide_eq_true z)] at hnd
      omega
    refine ⟨fun σ H' => σ = [some (.ref p), some (.int (wd : Nat)), some (.int r), some (.ref a), some (.int (most : Nat)), some (.bl hd), some (.int way), some (.ref fl), none, none, none, none, none, none, none] ∧ H2 = H', ?_, ?_⟩
    · refine ⟨_, rfl, _, rfl, ite2 (fun z1 => ?_) (fun _ => iteF ⟨rfl, rfl⟩)⟩
      refine ⟨_, rfl, _, rfl, ite2 (fun _ => ?_) (fun _ => iteF ⟨rfl, rfl⟩)⟩
      refine ⟨_, rfl, _, _, rfl, rfl, _, rfl, ite2 (fun _ => ?_) (fun _ => iteF ⟨rfl, rfl⟩)⟩
      refine ⟨_, rfl, _, .inl ⟨_, SqL.of hfl, rfl⟩, ite2 (fun ne => ?_) (fun _ => ⟨rfl, rfl⟩)⟩
      have m0 : most ≠ 0 := fun z => by subst z; cases z1
      obtain ⟨d', rfl⟩ : ∃ z, d = z + 1 := ⟨d - 1, by have := hd1 m0; omega⟩
      have h1 : 1 ≤ us7.length := by
        cases us7 with
        | nil => cases ne
        | cons x xs => simp
      refine ⟨_, rfl, _, rfl, p, b, fl, us7, rfl, l2.dr, hfl, nfp, h1, by omega, fun j x H3 hx k3 d3 => ?_⟩
      have hj : j < hs7.length := by
        have := tpA_len t7
        rw [List.length_map] at this
        have := (List.getElem?_eq_some_iff.mp hx).1
        omega
      obtain ⟨v, hv, tv⟩ := tpA_get (i := j) (d := encH hs7[j]) t7 (by rw [List.getElem?_map, List.getElem?_eq_getElem hj]; rfl)
      rw [hx] at hv
      cases hv
      obtain ⟨hmem, har⟩ := a7 _ (List.getElem_mem hj)
      generalize hs7[j] = hx7 at tv hmem har
      obtain ⟨num, ar⟩ := hx7
      have har : ar ≤ wd := har
      have l3 := l2.kp k3 d3
      have tv3 := tp_ext (k3.te' l2.dr) _ _ tv
      obtain ⟨tp, rfl, hq⟩ : ∃ tp, x = .ref tp ∧ SqT K H3 tp [.int num, .int (ar : Nat)] := by
        cases tv3 with
        | tup h1 h2 => cases h2 with | cons a1 a2 => cases a1; cases a2 with | cons a3 a4 => cases a3; cases a4; exact ⟨_, rfl, h1⟩
      refine ⟨tp, _, rfl, hq, rfl, _, _, rfl, _, _, rfl, rfl, ?_⟩
      refine ⟨_, rfl, _, rfl, _, rfl, _, rfl, p, b, wd, ar, rfl, l3.dr, har, by omega, fun g ws vs H4 k4 d4 hg hws hnd4 hl4 hlt4 => ?_⟩
      have l4 := l3.kp k4 d4
      refine ⟨le_line (by simp), fun tq htq => ?_⟩
      have s5 := same_new htq (HO.tup [V.str "hole", V.int num, V.ref g])
      have l5 := l4.same s5
      have okx := hk.ok _ hmem
      refine q _ _ (.node (.hole num) (vars vs)) us [] (((kq2.trans k3.kq).trans k4.kq).trans (Kq.same s5)) (by rw [List.append_nil]; exact l5) (by rw [List.append_nil]; exact hk) (tr_mk_hole (SqT.of upd_same) (sqT_same s5 hg) (hws.ext (Te.of' s5))) ?_ ?_ (fun z => (m0 z).elim)
      · rw [List.append_nil]
        exact .hole (by rw [hl4]; exact hmem) hnd4 hlt4 (by rw [hl4]; exact okx.2)
      · refine all_node.mpr ⟨fun h hh => by rw [List.mem_singleton.mp hh]; exact okx.1, fun y hy => ?_⟩
        obtain ⟨v, _, rfl⟩ := List.mem_map.mp hy
        exact all_var
    rintro σ _ ⟨rfl, rfl⟩
    refine ⟨fun σ H' => σ = [some (.ref p), some (.int (wd : Nat)), some (.int r), some (.ref a), some (.int (most : Nat)), some (.bl hd), some (.int way), some (.ref fl), none, none, none, none, none, none, none] ∧ H2 = H', ?_, ?_⟩
    · refine ⟨_, rfl, _, rfl, ite2 (fun z1 => ?_) (fun _ => iteF ⟨rfl, rfl⟩)⟩
      refine ⟨_, rfl, _, rfl, ite2 (fun _ => ?_) (fun _ => iteF ⟨rfl, rfl⟩)⟩
      refine ⟨_, rfl, _, _, rfl, rfl, _, rfl, ite2 (fun _ => ?_) (fun _ => iteF ⟨rfl, rfl⟩)⟩
      refine ⟨_, rfl, a, _, rfl, .inl (SqL.of l2.la), _, rfl, _, _, rfl, rfl, _, rfl, ite2 (fun lt => ?_) (fun _ => ⟨rfl, rfl⟩)⟩
      have lt : ((us.length : Nat) : Int) < ((most : Nat) : Int) := of_decide_eq_true lt
      have m0 : most ≠ 0 := fun z => by subst z; cases z1
      obtain ⟨d', rfl⟩ : ∃ z, d = z + 1 := ⟨d - 1, by have := hd1 m0; omega⟩
      have hul2 := l2.len
      refine ⟨_, rfl, _, rfl, a, rfl, ⟨us, SqL.of l2.la⟩, fun Dl hDl => ?_⟩
      have nDp : Dl ≠ p := fun e => by subst e; obtain ⟨xs, hx⟩ := l2.dr.lst; rw [hDl] at hx; cases hx
      refine lc_it (walk_list (xs := us)) (fun j H' => Same H2 H' ∧ H' Dl = some (.lst (((hs.take j).map (·.1)).map V.int))) ?_ ?_ ?_ ?_
      · exact ⟨same_new hDl _, upd_same⟩
      · rintro j H' _ ⟨s5, _⟩
        exact SqL.of (s5 _ _ l2.la)
      · rintro j y H6 H7 hj ⟨s6, h6⟩ ⟨rfl, hy⟩
        have hjl : j < hs.length := by omega
        obtain ⟨tp, e1, e2⟩ := l2.get (i := j) (x := hs[j]) (List.getElem?_eq_getElem hjl)
        rw [hy] at e1
        cases e1
        refine ⟨rfl, _, rfl, tp, _, 0, _, rfl, rfl, sqT_same s6 e2, at0, _, h6, small1000 (by simp; omega), same_mut s6 hDl, ?_⟩
        rw [upd_same, List.take_add_one, List.getElem?_eq_getElem hjl, List.map_append, List.map_append]
        rfl
      · rintro H3 ⟨s3, h3⟩
        rw [List.take_of_length_le (by omega)] at h3
        have l3 := l2.same s3
        refine ⟨p, b, Dl, hs.map (·.1), rfl, l3.dr, h3, nDp, by rw [List.length_map]; omega, fun num H4 n0 n1 nn k4 d4 => ?_⟩
        have l4 := l3.kp k4 d4
        refine ⟨_, rfl, _, rfl, p, b, 4, rfl, l4.dr, by decide, fun x H5 x0 x1 k5 d5 => ?_⟩
        have l5 := l4.kp k5 d5
        obtain ⟨ar, har, har3, harw⟩ : ∃ ar : Nat, (if x < ((wd : Nat) : Int) then x else ((wd : Nat) : Int)) = (ar : Nat) ∧ ar ≤ 3 ∧ ar ≤ wd := by
          by_cases z : x < ((wd : Nat) : Int)
          · exact ⟨x.toNat, by rw [if_pos z]; omega, by omega, by omega⟩
          · exact ⟨wd, by rw [if_neg z], by omega, Nat.le_refl _⟩
        refine ⟨_, _, rfl, _, _, rfl, ?_⟩
        rw [har]
        refine ⟨_, rfl, .inl ⟨rfl, _, SqL.of l5.la⟩, _, rfl, _, rfl, le_line (by simp), fun tp htp => ?_⟩
        have s6 := same_new htp (HO.tup [V.int num, V.int (ar : Nat)])
        have l6 := l5.same s6
        have l7 := l6.push (v := .ref tp) (x := (num, ar)) (.tup (SqT.of upd_same) (.cons (.int _) (.cons (.int _) .nil)))
        have hk7 := hk.push (by omega) (n := num) (ar := ar) nn ⟨n0, n1⟩ har3
        refine ⟨a, us, .ref tp, rfl, rfl, l6.la, small1000 (by omega), ?_⟩
        refine ⟨_, rfl, _, rfl, _, rfl, _, rfl, p, b, wd, ar, rfl, l7.dr, harw, by omega, fun g ws vs H8 k8 d8 hg hws hnd8 hl8 hlt8 => ?_⟩
        have l8 := l7.kp k8 d8
        refine ⟨le_line (by simp), fun tq htq => ?_⟩
        have s9 := same_new htq (HO.tup [V.str "hole", V.int num, V.ref g])
        refine q _ _ (.node (.hole num) (vars vs)) _ [(num, ar)] (((((((kq2.trans (Kq.same s3)).trans k4.kq).trans k5.kq).trans (Kq.same s6)).trans Kq.upd).trans k8.kq).trans (Kq.same s9)) (l8.same s9) hk7 (tr_mk_hole (SqT.of upd_same) (sqT_same s9 hg) (hws.ext (Te.of' s9))) ?_ ?_ (fun z => (m0 z).elim)
        · exact .hole (by rw [hl8]; exact List.mem_append_right _ (List.mem_singleton.mpr rfl)) hnd8 hlt8 (by rw [hl8]; exact har3)
        · refine all_node.mpr ⟨fun h hh => by rw [List.mem_singleton.mp hh]; exact ⟨n0, n1⟩, fun y hy => ?_⟩
          obtain ⟨v, _, rfl⟩ := List.mem_map.mp hy
          exact all_var
    rintro σ _ ⟨rfl, rfl⟩
    refine ⟨fun σ H' => σ = [some (.ref p), some (.int (wd : Nat)), some (.int r), some (.ref a), some (.int (most : Nat)), some (.bl hd), some (.int way), some (.ref fl), none, none, none, none, none, none, none] ∧ H2 = H' ∧ ¬ r < 2, ?_, ?_⟩
    · have lf : tCall (spLeaf K) [] E0 (tCons (tVar 0) (tCons (tVar 1) tNil)) [some (.ref p), some (.int (wd : Nat)), some (.int r), some (.ref a), some (.int (most : Nat)), some (.bl hd), some (.int way), some (.ref fl), none, none, none, none, none, none, none] H2 Q := by
        refine ⟨_, rfl, _, rfl, p, b, wd, rfl, l2.dr, by omega, fun v H3 t k3 d3 ht hg => ?_⟩
        have hg0 := hg [] 0
        refine q v H3 t us [] (kq2.trans k3.kq) (by rw [List.append_nil]; exact l2.kp k3 d3) (by rw [List.append_nil]; exact hk) ht ?_ ?_ (fun _ => ⟨rfl, ?_⟩)
        · cases hg0 with
          | var h => exact .var h
          | atom h => exact .atom
        · cases hg0 with
          | var h => exact all_var
          | atom h => exact all_atom.mpr h
        · cases hg0 with
          | var h => exact all_var
          | atom h => exact all_atom.mpr h
      refine ⟨_, rfl, _, _, rfl, rfl, _, rfl, ?_⟩
      refine ite2 (fun _ => iteT lf) (fun e => ?_)
      have e : ¬ r < 2 := fun z => e (decide_eq_true z)
      refine ⟨_, rfl, rfl, _, rfl, ?_⟩
      refine ite2 (fun _ => lf) (fun _ => ⟨rfl, rfl, e⟩)
    rintro σ _ ⟨rfl, rfl, hr2'⟩
    obtain ⟨d', rfl⟩ : ∃ z, d = z + 1 := ⟨d - 1, by have := nd_pos (decide (most ≠ 0)) hr2'; omega⟩
    refine ⟨le_line (by simp), fun g hg => ?_⟩
    have s3 := same_new hg (HO.lst [V.str "app", V.str "app", V.str "app", V.str "pi", V.str "fun", V.str "let"])
    have l3 := l2.same s3
    have gp : g ≠ p := fun e => by subst e; obtain ⟨xs, hx⟩ := l2.dr.lst; rw [hg] at hx; cases hx
    refine ⟨_, rfl, p, b, 6, rfl, l3.dr, by decide, fun x H4 x0 x1 k4 d4 => ?_⟩
    obtain ⟨j, rfl⟩ : ∃ j : Nat, x = (j : Int) := ⟨x.toNat, by omega⟩
    have hj : j < ([V.str "app", V.str "app", V.str "app", V.str "pi", V.str "fun", V.str "let"] : List V).length := by
      show j < 6
      omega
    obtain ⟨k, hkk, ek⟩ := tagK j _ (List.getElem?_eq_getElem hj)
    have l4 := l3.kp k4 d4
    refine ⟨g, _, (j : Int), _, rfl, rfl, SqL.of (k4 _ _ upd_same gp), atI_nat (List.getElem?_eq_getElem hj), ?_⟩
    rw [ek]
    refine ⟨_, rfl, _, _, rfl, rfl, _, _, rfl, rfl, ⟨by decide, by decide⟩, _, _, rfl, ?_⟩
    have kB : Kq p a H H4 := (kq2.trans (Kq.same s3)).trans k4.kq
    refine ⟨_, rfl, _, rfl, _, rfl, _, rfl, _, rfl, _, rfl, rfl, d', p, b, a, wd, most, (r - 1) / 2, _, us, hs, rfl, by omega, l4, hk, hm6, by omega, by omega, nd_half hr2' hr22 hnd, fun v1 H5 t1 us3 h3 k5 l5 hk5 ht5 hp5 ha5 h05 => ?_⟩
    have kA := kB.trans k5
    refine ⟨_, rfl, rfl, _, rfl, ?_⟩
    cases k with
    | hole n => exact (hkk n rfl).elim
    | app =>
        refine iteEqF (by decide +kernel) ?_
        refine ⟨_, rfl, _, rfl, _, rfl, _, rfl, _, rfl, rfl, _, rfl, iteEqT (by decide +kernel) ⟨_, _, rfl, rfl, _, rfl, _, rfl, _, rfl, d', p, b, a, wd + bnd .app 1, most, (r - 1) / 2, false, us3, hs ++ h3, rfl, by omega, l5, hk5, hm6, by have := bnd_le .app 1; omega, by omega, nd_half hr2' hr22 hnd, fun v2 H6 t2 us4 h4 k6 l6 hk6 ht6 hp6 ha6 h06 => ?_⟩⟩
        refine ⟨le_line (by simp), fun hq hh => ?_⟩
        have s7 := same_new hh (HO.tup [V.str "app", v1, v2])
        have tA := (l5.te k6).trans (Te.of' s7)
        refine q _ _ (.node .app [t1, t2]) us4 (h3 ++ h4) ((kA.trans k6).trans (Kq.same s7)) (by rw [← List.append_assoc]; exact l6.same s7) (by rw [← List.append_assoc]; exact hk6) (tr_mk_node (by intro n z; cases z) (SqT.of upd_same) (.cons (ht5.ext tA) (.cons (ht6.ext (Te.of' s7)) .nil))) ?_ ?_ (fun z => ?_)
        · rw [← List.append_assoc]
          exact .node (by intro n z; cases z) rfl fun j p hp => by
            match j, hp with
            | 0, hp => cases hp; exact pt_more (fun x hx => List.mem_append_left _ hx) hp5
            | 1, hp => cases hp; exact hp6
            | j + 2, hp => simp at hp
        · refine all_node.mpr ⟨(fun h hh => by cases hh), fun y hy => ?_⟩
          rcases List.mem_cons.mp hy with rfl | hy
          · exact ha5
          · rw [List.mem_singleton.mp hy]; exact ha6
        · obtain ⟨x1, x2⟩ := h05 z
          obtain ⟨x3, x4⟩ := h06 z
          refine ⟨by rw [x1, x3]; rfl, all_node.mpr ⟨(fun h hh => by cases hh), fun y hy => ?_⟩⟩
          rcases List.mem_cons.mp hy with rfl | hy
          · exact x2
          · rw [List.mem_singleton.mp hy]; exact x4
    | pi =>
        refine iteEqF (by decide +kernel) ?_
        refine ⟨_, rfl, _, rfl, _, rfl, _, rfl, _, rfl, rfl, _, rfl, iteEqF (by decide +kernel) ⟨_, _, rfl, rfl, _, rfl, _, rfl, _, rfl, d', p, b, a, wd + bnd .pi 1, most, (r - 1) / 2, false, us3, hs ++ h3, rfl, by omega, l5, hk5, hm6, by have := bnd_le .pi 1; omega, by omega, nd_half hr2' hr22 hnd, fun v2 H6 t2 us4 h4 k6 l6 hk6 ht6 hp6 ha6 h06 => ?_⟩⟩
        refine ⟨le_line (by simp), fun hq hh => ?_⟩
        have s7 := same_new hh (HO.tup [V.str "pi", v1, v2])
        have tA := (l5.te k6).trans (Te.of' s7)
        refine q _ _ (.node .pi [t1, t2]) us4 (h3 ++ h4) ((kA.trans k6).trans (Kq.same s7)) (by rw [← List.append_assoc]; exact l6.same s7) (by rw [← List.append_assoc]; exact hk6) (tr_mk_node (by intro n z; cases z) (SqT.of upd_same) (.cons (ht5.ext tA) (.cons (ht6.ext (Te.of' s7)) .nil))) ?_ ?_ (fun z => ?_)
        · rw [← List.append_assoc]
          exact .node (by intro n z; cases z) rfl fun j p hp => by
            match j, hp with
            | 0, hp => cases hp; exact pt_more (fun x hx => List.mem_append_left _ hx) hp5
            | 1, hp => cases hp; exact hp6
            | j + 2, hp => simp at hp
        · refine all_node.mpr ⟨(fun h hh => by cases hh), fun y hy => ?_⟩
          rcases List.mem_cons.mp hy with rfl | hy
          · exact ha5
          · rw [List.mem_singleton.mp hy]; exact ha6
        · obtain ⟨x1, x2⟩ := h05 z
          obtain ⟨x3, x4⟩ := h06 z
          refine ⟨by rw [x1, x3]; rfl, all_node.mpr ⟨(fun h hh => by cases hh), fun y hy => ?_⟩⟩
          rcases List.mem_cons.mp hy with rfl | hy
          · exact x2
          · rw [List.mem_singleton.mp hy]; exact x4
    | fn =>
        refine iteEqF (by decide +kernel) ?_
        refine ⟨_, rfl, _, rfl, _, rfl, _, rfl, _, rfl, rfl, _, rfl, iteEqF (by decide +kernel) ⟨_, _, rfl, rfl, _, rfl, _, rfl, _, rfl, d', p, b, a, wd + bnd .fn 1, most, (r - 1) / 2, false, us3, hs ++ h3, rfl, by omega, l5, hk5, hm6, by have := bnd_le .fn 1; omega, by omega, nd_half hr2' hr22 hnd, fun v2 H6 t2 us4 h4 k6 l6 hk6 ht6 hp6 ha6 h06 => ?_⟩⟩
        refine ⟨le_line (by simp), fun hq hh => ?_⟩
        have s7 := same_new hh (HO.tup [V.str "fun", v1, v2])
        have tA := (l5.te k6).trans (Te.of' s7)
        refine q _ _ (.node .fn [t1, t2]) us4 (h3 ++ h4) ((kA.trans k6).trans (Kq.same s7)) (by rw [← List.append_assoc]; exact l6.same s7) (by rw [← List.append_assoc]; exact hk6) (tr_mk_node (by intro n z; cases z) (SqT.of upd_same) (.cons (ht5.ext tA) (.cons (ht6.ext (Te.of' s7)) .nil))) ?_ ?_ (fun z => ?_)
        · rw [← List.append_assoc]
          exact .node (by intro n z; cases z) rfl fun j p hp => by
            match j, hp with
            | 0, hp => cases hp; exact pt_more (fun x hx => List.mem_append_left _ hx) hp5
            | 1, hp => cases hp; exact hp6
            | j + 2, hp => simp at hp
        · refine all_node.mpr ⟨(fun h hh => by cases hh), fun y hy => ?_⟩
          rcases List.mem_cons.mp hy with rfl | hy
          · exact ha5
          · rw [List.mem_singleton.mp hy]; exact ha6
        · obtain ⟨x1, x2⟩ := h05 z
          obtain ⟨x3, x4⟩ := h06 z
          refine ⟨by rw [x1, x3]; rfl, all_node.mpr ⟨(fun h hh => by cases hh), fun y hy => ?_⟩⟩
          rcases List.mem_cons.mp hy with rfl | hy
          · exact x2
          · rw [List.mem_singleton.mp hy]; exact x4
    | lt =>
      refine iteEqT (by decide +kernel) ?_
      have hnd2 : nd (decide (most ≠ 0)) ((r - 1) / 2 / 2) ≤ d' := Nat.le_trans (nd_le _ (by omega)) (nd_half hr2' hr22 hnd)
      refine ⟨_, rfl, _, rfl, _, rfl, _, _, rfl, rfl, ⟨by decide, by decide⟩, _, rfl, _, rfl, d', p, b, a, wd, most, (r - 1) / 2 / 2, false, us3, hs ++ h3, rfl, by omega, l5, hk5, hm6, by omega, by omega, hnd2, fun v2 H6 t2 us4 h4 k6 l6 hk6 ht6 hp6 ha6 h06 => ?_⟩
      refine ⟨_, rfl, _, rfl, _, rfl, _, rfl, _, _, rfl, rfl, _, rfl, _, rfl, _, rfl, d', p, b, a, wd + 1, most, (r - 1) / 2, false, us4, hs ++ h3 ++ h4, rfl, by omega, l6, hk6, hm6, by omega, by omega, nd_half hr2' hr22 hnd, fun v3 H7 t3 us5 h5 k7 l7 hk7 ht7 hp7 ha7 h07 => ?_⟩
      refine ⟨le_line (by simp), fun hq hh => ?_⟩
      have s8 := same_new hh (HO.tup [V.str "let", v1, v2, v3])
      have tB := (l6.te k7).trans (Te.of' s8)
      have eA : hs ++ (h3 ++ (h4 ++ h5)) = hs ++ h3 ++ h4 ++ h5 := by simp
      refine q _ _ (.node .lt [t1, t2, t3]) us5 (h3 ++ (h4 ++ h5)) (((kA.trans k6).trans k7).trans (Kq.same s8)) (by rw [eA]; exact l7.same s8) (by rw [eA]; exact hk7) (tr_mk_node (by intro n z; cases z) (SqT.of upd_same) (.cons (ht5.ext ((l5.te k6).trans tB)) (.cons (ht6.ext tB) (.cons (ht7.ext (Te.of' s8)) .nil)))) ?_ ?_ (fun z => ?_)
      · rw [eA]
        exact .node (by intro n z; cases z) rfl fun j p hp => by
          match j, hp with
          | 0, hp => cases hp; exact pt_more (fun x hx => List.mem_append_left _ (List.mem_append_left _ hx)) hp5
          | 1, hp => cases hp; exact pt_more (fun x hx => List.mem_append_left _ hx) hp6
          | 2, hp => cases hp; exact hp7
          | j + 3, hp => simp at hp
      · refine all_node.mpr ⟨(fun h hh => by cases hh), fun y hy => ?_⟩
        rcases List.mem_cons.mp hy with rfl | hy
        · exact ha5
        · rcases List.mem_cons.mp hy with rfl | hy
          · exact ha6
          · rw [List.mem_singleton.mp hy]; exact ha7
      · obtain ⟨x1, x2⟩ := h05 z
        obtain ⟨x3, x4⟩ := h06 z
        obtain ⟨x5, x6⟩ := h07 z
        refine ⟨by rw [x1, x3, x5]; rfl, all_node.mpr ⟨(fun h hh => by cases hh), fun y hy => ?_⟩⟩
        rcases List.mem_cons.mp hy with rfl | hy
        · exact x2
        · rcases List.mem_cons.mp hy with rfl | hy
          · exact x4
          · rw [List.mem_singleton.mp hy]; exact x6
end
end KP

/-! frees -/
namespace KP
open PySem PyProof.Rows L2 LamX NdefX KL KM KD
abbrev sFrees : Stmt := top 35
theorem fre_len (t : Tm) : ∀ d, (fre d t).length ≤ sz t := by
  refine Tm.ind (P := fun t => ∀ d, (fre d t).length ≤ sz t) ?_ ?_ ?_ t
  · intro i d; rw [fre_var, sz_var]; split <;> simp
  · intro u xs d; rw [fre_atom, sz_atom]; simp
  · intro k ps ih d
    rw [fre_node, sz_node]
    have : ∀ (ps' : List Tm) (j : Nat), (∀ p ∈ ps', p ∈ ps) → (freL k d j ps').length ≤ szL ps' := by
      intro ps'
      induction ps' with
      | nil => intro j _; rw [freL_nil]; simp [szL]
      | cons p ps' ih2 =>
        intro j h
        rw [freL_cons, List.length_append]
        have a := ih p (h p List.mem_cons_self) (d + bnd k j)
        have b := ih2 (j + 1) fun q hq => h q (List.mem_cons_of_mem _ hq)
        simp only [szL]
        omega
    have z := this ps 0 fun _ h => h
    omega
/-- the free variables of the first i parts -/
def freTo (t : Tm) (d i : Nat) : List Nat := match t with
  | .node k ps => freL k d 0 (ps.take i)
  | _ => []
theorem freTo_node {k : Kd} {ps : List Tm} {d i : Nat} : freTo (.node k ps) d i = freL k d 0 (ps.take i) := rfl
theorem freL_app (k : Kd) (d : Nat) : ∀ (ps qs : List Tm) (j : Nat), freL k d j (ps ++ qs) = freL k d j ps ++ freL k d (j + ps.length) qs
  | [], qs, j => by simp [freL_nil]
  | p :: ps, qs, j => by
    rw [List.cons_append, freL_cons, freL_cons, freL_app k d ps qs (j + 1), List.append_assoc, List.length_cons]
    rw [show j + 1 + ps.length = j + (ps.length + 1) by omega]
theorem freTo_succ {k : Kd} {ps : List Tm} {d i : Nat} {p : Tm} (h : ps[i]? = some p) : freTo (.node k ps) d (i + 1) = freTo (.node k ps) d i ++ fre (d + bnd k i) p := by
  have hl := (List.getElem?_eq_some_iff.mp h).1
  rw [freTo_node, freTo_node, List.take_add_one, h]
  show freL k d 0 (ps.take i ++ [p]) = _
  rw [freL_app, freL_cons, freL_nil, List.append_nil, List.length_take, Nat.min_eq_left (by omega), Nat.zero_add]
section
variable {P : Program} {w : World} {K : PySem.W.Frag} {mg : Str → Option Value} {base : Heap} {T : List (Addr × Str)}
abbrev intsN (xs : List Nat) : List V := xs.map fun x => V.int ((x : Nat) : Int)
def spFrees (K : PySem.W.Frag) (n : Nat) : Sp := fun us H Q _ => ∃ (v : V) (t : Tm) (d m : Nat), us = [v, .int (d : Nat)] ∧ m < n ∧ Tr K H v t ∧ dle m t ∧ sz t ≤ 1000000 ∧ ∀ g H', Same H H' → H' g = some (.lst (intsN (fre d t))) → Q (.ref g) H'
abbrev nFrees : List Str := ["_law_term", "_law_under_here", "_law_out", "_law_k", "_law_part"]
theorem scFrees : FnScope nFrees ["_law_term", "_law_under_here"] (defScope sFrees) := ⟨rfl, rfl, rfl, by decide +kernel, rfl, by decide +kernel, by decide +kernel⟩
theorem ok_frees {f fb fu : Addr} {fd fdb fdu : FuncData} (F : Fun K "_law_frees" "_law_frees" sFrees f fd) (mf : mg "_law_frees" = some (.ref f)) (bf : L2.Binds K fd ["_law_term", "_law_under_here"] []) (me : mg "enumerate" = none)
    (CB : Cl P w K mg base 1 "_law_bits" fb fdb ["_law_node_here"] (spParts K)) (CU : Cl P w K mg base 1 "_law_under" fu fdu ["_law_node_here", "_law_k"] (spLUnd K)) : ∀ n, Cl P w K mg base (n + 1) "_law_frees" f fd ["_law_term", "_law_under_here"] (spFrees K n)
  | 0 => by
    refine ⟨?_, mf, F.kp, bf⟩
    refine F.ok scFrees (fun vs H Q E h => ?_) (fun cdv A outer s H vs Q E hr h => ?_)
    · obtain ⟨v, t, d, m, rfl, _⟩ := h; rfl
    · obtain ⟨v, t, d, m, rfl, h, _⟩ := h
      exact absurd h (Nat.not_lt_zero _)
  | n + 1 => by
    have ih := ok_frees F mf bf me CB CU n
    refine ⟨?_, mf, F.kp, bf⟩
    refine F.ok scFrees (fun vs H Q E h => ?_) (fun cdv A outer s H vs Q E hr h => ?_)
    · obtain ⟨v, t, d, m, rfl, _⟩ := h; rfl
    obtain ⟨v, t, d, m, rfl, hm, ht, hd, hz, q⟩ := h
    have hr1 := hr.mono (show 1 ≤ n + 1 by omega)
    refine ⟨_, pss_cons (ps_if (pt_cmpR op_eq (pe_ix ix_tup (pv 0) pe_int (fun _ _ => rfl)) pe_str (nomark _))
        (pss_one (ps_ret (pe_ifExp (pt_cmpR op_ge (pe_ix ix_tup (pv 0) pe_int (fun _ _ => rfl)) (pv 1) (nomark _)) (pe_lst (pa_cons (pe_op op_sub (pe_ix ix_tup (pv 0) pe_int (fun _ _ => rfl)) (pv 1)) pa_nil)) (pe_lst pa_nil)))) pss_nil)
      (pss_cons (ps_set (i := 2) scFrees.nd rfl (.inl rfl) (pe_lst pa_nil))
      (pss_cons (ps_for PassesOwn.never rfl (pi_enumT rfl me (pa_cons (pe_cl CB hr1 (pa_cons (pv 0) pa_nil)) pa_nil)) (pg_tup rfl (pgs_cons (pg_name (i := 3) scFrees.nd rfl (.inl rfl)) (pgs_cons (pg_name (i := 4) scFrees.nd rfl (.inl rfl)) pgs_nil)))
        (pss_one (ps_set (i := 2) scFrees.nd rfl (.inl rfl) (pe_op op_cat (pv 2) (pe_cl ih hr (pa_cons (pv 4) (pa_cons (pe_op op_add (pv 1) (pe_cl CU hr1 (pa_cons (pv 0) (pa_cons (pv 3) pa_nil)))) pa_nil)))))))
      (pss_one (ps_ret (pv 2))))), ?_⟩
    by_cases hv : ∃ i, t = .var i
    · obtain ⟨i, rfl⟩ := hv
      obtain ⟨a, rfl, hs⟩ := tr_var ht
      refine ⟨_, rfl, a, _, 0, _, rfl, rfl, hs, at0, rfl, _, rfl, iteEqT (by decide +kernel) ?_⟩
      refine ⟨_, rfl, a, _, 1, _, rfl, rfl, hs, at1, _, rfl, _, _, rfl, rfl, _, rfl, ite2 (fun e => ?_) (fun e => ?_)⟩
      · have e : (d : Int) ≤ (i : Int) := of_decide_eq_true e
        refine ⟨_, rfl, a, _, 1, _, rfl, rfl, hs, at1, _, rfl, _, _, rfl, rfl, le_line (by simp), fun g hg => q g _ (same_new hg _) ?_⟩
        rw [upd_same, fre_var, if_pos (by omega)]
        have ei : ((i : Int) - (d : Int)) = ((i - d : Nat) : Int) := by omega
        exact congrArg (fun z => some (HO.lst [V.int z])) ei
      · have e : ¬ (d : Int) ≤ (i : Int) := fun z => e (decide_eq_true z)
        refine ⟨le_line (by simp), fun g hg => q g _ (same_new hg _) ?_⟩
        rw [upd_same, fre_var, if_neg (by omega)]
        rfl
    · obtain ⟨a, ys, rfl, hs⟩ := tr_tag ht
      have hnv : ¬ tagOf t = "var" := tag_nev fun i e => hv ⟨i, e⟩
      refine ⟨_, rfl, a, _, 0, _, rfl, rfl, hs, at0, rfl, _, rfl, iteEqF hnv ?_⟩
      obtain ⟨hp24, hpd⟩ := parts_dle hd
      refine ⟨le_line (by simp), fun Bl hBl => ?_⟩
      have s1 := same_new hBl (HO.lst [])
      refine ⟨_, rfl, _, t, rfl, ht.ext (Te.of' s1), by omega, fun p H2 ws s2 h2 hws => ?_⟩
      refine ⟨p, ws, rfl, h2, ?_⟩
      have hfull : freTo t d ws.length = fre d t := by
        have hl : ws.length = (partsT t).length := hws.len
        cases t with
        | var i => exact (hv ⟨i, rfl⟩).elim
        | atom u xs => rw [fre_atom]; rfl
        | node k ps => rw [fre_node, freTo_node, List.take_of_length_le (by rw [hl]; exact Nat.le_refl _)]
      have hmono : ∀ i, (freTo t d i).length ≤ 1000000 := fun i => by
        have z := fre_len t d
        cases t with
        | var i => exact Nat.zero_le _
        | atom u xs => exact Nat.zero_le _
        | node k ps =>
          rw [fre_node] at z
          have e : freL k d 0 ps = freTo (.node k ps) d i ++ freL k d (0 + (ps.take i).length) (ps.drop i) := by
            rw [freTo_node, ← freL_app, List.take_append_drop]
          rw [e, List.length_append] at z
          omega
      refine for_it (walk_enumT (xs := ws)) (fun i σ H' => ∃ (x3 x4 : Option V) (l : Addr), σ = [some (.ref a), some (.int (d : Nat)), some (.ref l), x3, x4] ∧ Same H H' ∧ SqT K H' p ws ∧ Ts K H' ws (partsT t) ∧ H' l = some (.lst (intsN (freTo t d i)))) ?_ ?_ ?_ ?_
      · refine ⟨_, _, Bl, rfl, s1.trans s2, h2, hws, ?_⟩
        rw [s2 _ _ upd_same]
        cases t with
        | node k ps => rw [freTo_node, List.take_zero, freL_nil]; rfl
        | _ => rfl
      · rintro i σ H' _ ⟨_, _, _, _, _, h3, _⟩
        exact h3
      · rintro i x σ H3 H4 hi ⟨x3, x4, l, rfl, s3, h3, hws3, hl3⟩ ⟨A1, x', y, rfl, hA1, rfl, ex, hy⟩
        cases ex
        have hpi : i < (partsT t).length := by rw [← hws.len]; exact hi
        have hpe : (partsT t)[i]? = some (partsT t)[i] := List.getElem?_eq_getElem hpi
        obtain ⟨y', hy', hty⟩ := hws3.get (i := i) (t := (partsT t)[i]) hpe
        have hy : ws[i]? = some y := hy
        rw [hy] at hy'
        cases hy'
        obtain ⟨mj, hmj, hdj⟩ := hpd _ (List.getElem_mem hpi)
        have hzj := sz_part (List.getElem_mem hpi)
        obtain ⟨k, ps, rfl⟩ : ∃ k ps, t = .node k ps := by
          cases t with
          | node k ps => exact ⟨k, ps, rfl⟩
          | _ => exact (Nat.not_lt_zero _ hpi).elim
        have hpe' : ps[i]? = some ps[i] := hpe
        have har : arOk k ps.length := by
          cases m with
          | zero => exact hd.elim
          | succ m => exact hd.1
        have s4 := same_new hA1 (HO.tup [.int (i : Nat), y])
        have s34 := s3.trans s4
        refine ⟨A1, _, rfl, SqT.of upd_same, rfl, _, _, rfl, _, _, rfl, rfl, ?_⟩
        refine ⟨_, rfl, _, rfl, _, rfl, _, rfl, _, rfl, _, k, ps, i, rfl, ht.ext (Te.of' s34), har, fun H5 s5 => ?_⟩
        refine ⟨_, _, rfl, rfl, y, ps[i], d + bnd k i, mj, ?_, by omega, hty.ext (Te.of' (s4.trans s5)), hdj, Nat.le_trans hzj hz, fun g H6 s6 h6 => ?_⟩
        · show [y, V.int ((d : Int) + ((bnd k i : Nat) : Int))] = [y, V.int ((d + bnd k i : Nat) : Int)]
          rw [Int.natCast_add]
        · have hl6 := s6 _ _ (s5 _ _ (s4 _ _ hl3))
          have hlen := hmono (i + 1)
          rw [freTo_succ hpe', List.length_append] at hlen
          refine ⟨l, g, _, _, rfl, rfl, hl6, h6, ?_, fun g2 hg2 => ?_⟩
          · rw [List.length_map, List.length_map]
            exact Nat.le_trans hlen (by decide)
          · have s7 := same_new hg2 (HO.lst (intsN (freTo (.node k ps) d i) ++ intsN (fre (d + bnd k i) ps[i])))
            have sA := ((s4.trans s5).trans s6).trans s7
            refine ⟨_, _, g2, rfl, s3.trans sA, sqT_same sA h3, hws3.ext (Te.of' sA), ?_⟩
            rw [upd_same, freTo_succ hpe']
            show _ = some (HO.lst (List.map _ _))
            rw [List.map_append]
      · rintro σ H3 ⟨x3, x4, l, rfl, s3, h3, hws3, hl3⟩
        rw [hfull] at hl3
        exact ⟨_, rfl, q l H3 s3 hl3⟩
end
end KP

/-! get -/
namespace KP
open PySem PyProof.Rows L2 LamX NdefX KL KM KD
abbrev sGet : Stmt := top 34
def getN : Tm → List Nat → Option Tm
  | t, [] => some t
  | t, k :: ks => match (partsT t)[k]? with
    | none => none
    | some p => getN p ks
section
variable {P : Program} {w : World} {K : PySem.W.Frag} {mg : Str → Option Value} {base : Heap} {T : List (Addr × Str)}
def spGet (K : PySem.W.Frag) : Sp := fun us H Q _ => ∃ (v : V) (t : Tm) (a : Addr) (ks : List Nat), us = [v, .ref a] ∧ Tr K H v t ∧ (∃ m, dle m t) ∧ SqT K H a (intsN ks) ∧
  (∀ v' t' H', Same H H' → getN t ks = some t' → Tr K H' v' t' → Q v' H') ∧ (∀ H', Same H H' → getN t ks = none → Q .non H')
theorem scGet : FnScope ["_law_term", "_law_place", "_law_k"] ["_law_term", "_law_place"] (defScope sGet) := ⟨rfl, rfl, rfl, by decide +kernel, rfl, by decide +kernel, by decide +kernel⟩
theorem ok_get {f fb : Addr} {fd fdb : FuncData} (F : Fun K "_law_get" "_law_get" sGet f fd) (ml : mg "len" = none) (CB : Cl P w K mg base 1 "_law_bits" fb fdb ["_law_node_here"] (spParts K)) : FnOk P w K mg base CX0 2 f fd ["_law_term", "_law_place"] (spGet K) := by
  refine F.ok scGet (fun vs H Q E h => ?_) (fun cdv A outer s H vs Q E hr h => ?_)
  · obtain ⟨v, t, a, ks, rfl, _⟩ := h; rfl
  obtain ⟨v, t, a, ks, rfl, ht, ⟨m, hd⟩, ha, q1, q2⟩ := h
  refine ⟨_, pss_cons (ps_for PassesOwn.never rfl (pi_tup (pv 1)) (pg_name (i := 2) scGet.nd rfl (.inl rfl))
      (pss_cons (ps_if (pt_cmpR op_ge (pv 2) (pe_callB call_len_seq rfl ml PySem.boot_len (pa_cons (pe_cl CB hr (pa_cons (pv 0) pa_nil)) pa_nil)) (nomark _)) (pss_one (ps_ret pe_non)) pss_nil)
      (pss_one (ps_set (i := 0) scGet.nd rfl (.inl rfl) (pe_ix ix_tup (pe_cl CB hr (pa_cons (pv 0) pa_nil)) (pv 2) (fun _ _ => rfl))))))
    (pss_one (ps_ret (pv 0))), ?_⟩
  refine ⟨_, rfl, a, rfl, ⟨_, ha⟩, ?_⟩
  refine for_it (walk_tup (xs := intsN ks)) (fun i σ H' => ∃ (v' : V) (t' : Tm) (x2 : Option V), σ = [some v', some (.ref a), x2] ∧ Same H H' ∧ Tr K H' v' t' ∧ (∃ m, dle m t') ∧ getN t ks = getN t' (ks.drop i)) ?_ ?_ ?_ ?_
  · exact ⟨v, t, _, rfl, Same.refl H, ht, ⟨m, hd⟩, by rw [List.drop_zero]⟩
  · rintro i σ H' _ ⟨_, _, _, _, s3, _⟩
    exact sqT_same s3 ha
  · rintro i x σ H3 H4 hi ⟨v', t', x2, rfl, s3, ht3, ⟨m', hd3⟩, eg⟩ ⟨rfl, hx⟩
    have hik : i < ks.length := by have := hi; rw [List.length_map] at this; exact this
    have ex : x = V.int ((ks[i] : Nat) : Int) := by
      rw [List.getElem?_map, List.getElem?_eq_getElem hik] at hx
      exact (Option.some.inj hx).symm
    subst ex
    rw [List.drop_eq_getElem_cons hik] at eg
    obtain ⟨hp24, hpd⟩ := parts_dle hd3
    refine ⟨_, rfl, _, rfl, v', t', rfl, ht3, by omega, fun p H5 ws s5 h5 hws => ?_⟩
    have hl : ws.length = (partsT t').length := hws.len
    refine ⟨p, _, rfl, .inr h5, _, _, rfl, rfl, _, rfl, ite2 (fun e => ?_) (fun e => ?_)⟩
    · have e : ((ks[i] : Nat) : Int) ≥ ((ws.length : Nat) : Int) := of_decide_eq_true e
      refine q2 H5 (s3.trans s5) ?_
      rw [eg]
      show (match (partsT t')[ks[i]]? with | none => none | some p => getN p _) = none
      rw [List.getElem?_eq_none (by omega)]
    · have e : ¬ ((ks[i] : Nat) : Int) ≥ ((ws.length : Nat) : Int) := fun z => e (decide_eq_true z)
      have hkp : ks[i] < (partsT t').length := by omega
      have hpe : (partsT t')[ks[i]]? = some (partsT t')[ks[i]] := List.getElem?_eq_getElem hkp
      refine ⟨_, rfl, v', t', rfl, ht3.ext (Te.of' s5), by omega, fun p6 H6 ws6 s6 h6 hws6 => ?_⟩
      obtain ⟨y, hy, hty⟩ := hws6.get hpe
      refine ⟨_, rfl, p6, ws6, _, y, rfl, rfl, h6, atI_nat hy, ?_⟩
      obtain ⟨mj, _, hdj⟩ := hpd _ (List.getElem_mem hkp)
      refine ⟨y, (partsT t')[ks[i]], _, rfl, (s3.trans s5).trans s6, hty, ⟨mj, hdj⟩, ?_⟩
      rw [eg]
      show (match (partsT t')[ks[i]]? with | none => none | some p => getN p _) = _
      rw [hpe]
  · rintro σ H3 ⟨v', t', x2, rfl, s3, ht3, _, eg⟩
    rw [List.drop_of_length_le (by rw [List.length_map]; exact Nat.le_refl _)] at eg
    exact ⟨_, rfl, q1 v' t' H3 s3 eg ht3⟩
end
end KP

/-! set -/
namespace KP
open PySem PyProof.Rows L2 LamX NdefX KL KM KD
abbrev sSet : Stmt := top 33
def setN : Tm → List Nat → Tm → Tm
  | _, [], q => q
  | .node k ps, i :: ks, q => match ps[i]? with
    | none => .node k ps
    | some p => .node k (ps.set i (setN p ks q))
  | t, _ :: _, _ => t
theorem ts_set {K : PySem.W.Frag} {H : Hp} : ∀ {vs : List V} {ts : List Tm} {i : Nat} {v : V} {t : Tm}, Ts K H vs ts → Tr K H v t → Ts K H (vs.set i v) (ts.set i t)
  | _, [], _, _, _, h, _ => by cases h; exact .nil
  | _, _ :: _, 0, _, _, h, k => by
    cases h with
    | cons h1 h2 => exact .cons k h2
  | _, _ :: _, i + 1, _, _, h, k => by
    cases h with
    | cons h1 h2 => exact .cons h1 (ts_set (i := i) h2 k)
theorem ixN_nat {n i : Nat} (h : i < n) : ixN n (i : Int) = some i := by
  unfold ixN
  rw [if_pos (by omega), if_pos (by omega)]
  simp
section
variable {P : Program} {w : World} {K : PySem.W.Frag} {mg : Str → Option Value} {base : Heap} {T : List (Addr × Str)}
def spSet (K : PySem.W.Frag) (n : Nat) : Sp := fun us H Q _ => ∃ (v : V) (t : Tm) (a : Addr) (ks : List Nat) (vq : V) (qt : Tm), us = [v, .ref a, vq] ∧ ks.length < n ∧ Tr K H v t ∧ (∃ m, dle m t) ∧ SqT K H a (intsN ks) ∧ (∃ u, getN t ks = some u) ∧ Tr K H vq qt ∧
  ∀ v' H', Same H H' → Tr K H' v' (setN t ks qt) → Q v' H'
abbrev nSet : List Str := ["_law_term", "_law_place", "_law_part", "_law_bits_here"]
theorem scSet : FnScope nSet ["_law_term", "_law_place", "_law_part"] (defScope sSet) := ⟨rfl, rfl, rfl, by decide +kernel, rfl, by decide +kernel, by decide +kernel⟩
theorem ok_set {f fb fn : Addr} {fd fdb fdn : FuncData} (F : Fun K "_law_set" "_law_set" sSet f fd) (mf : mg "_law_set" = some (.ref f)) (bf : L2.Binds K fd ["_law_term", "_law_place", "_law_part"] []) (mi : mg "list" = none)
    (CB : Cl P w K mg base 1 "_law_bits" fb fdb ["_law_node_here"] (spParts K)) (CN : Cl P w K mg base 1 "_law_node" fn fdn ["_law_node_here", "_law_bits_here"] (spNode K)) : ∀ n, Cl P w K mg base (n + 1) "_law_set" f fd ["_law_term", "_law_place", "_law_part"] (spSet K n)
  | 0 => by
    refine ⟨?_, mf, F.kp, bf⟩
    refine F.ok scSet (fun vs H Q E h => ?_) (fun cdv A outer s H vs Q E hr h => ?_)
    · obtain ⟨v, t, a, ks, vq, qt, rfl, _⟩ := h; rfl
    · obtain ⟨v, t, a, ks, vq, qt, rfl, h, _⟩ := h
      exact absurd h (Nat.not_lt_zero _)
  | n + 1 => by
    have ih := ok_set F mf bf mi CB CN n
    refine ⟨?_, mf, F.kp, bf⟩
    refine F.ok scSet (fun vs H Q E h => ?_) (fun cdv A outer s H vs Q E hr h => ?_)
    · obtain ⟨v, t, a, ks, vq, qt, rfl, _⟩ := h; rfl
    obtain ⟨v, t, a, ks, vq, qt, rfl, hn, ht, ⟨m, hd⟩, ha, ⟨u, hg⟩, hq, q⟩ := h
    have hr1 := hr.mono (show 1 ≤ n + 1 by omega)
    refine ⟨_, pss_cons (ps_if (pt_cmpR (op_eqE hr.units0) (pv 1) (pe_tup pa_nil) (nomark _)) (pss_one (ps_ret (pv 2))) pss_nil)
      (pss_cons (ps_set (i := 3) scSet.nd rfl (.inl rfl) (pe_callTy call_list_of rfl mi (by decide +kernel) (pa_cons (pe_cl CB hr1 (pa_cons (pv 0) pa_nil)) pa_nil)))
      (pss_cons (ps_asg (pe_cl ih hr (pa_cons (pe_ix ix_list (pv 3) (pe_ix ix_tup (pv 1) pe_int (fun _ _ => rfl)) (fun _ _ => rfl)) (pa_cons (pe_slice sl_tup (pv 1) (po_some pe_int) po_none) (pa_cons (pv 2) pa_nil)))) (pg_sub (pv 3) (pe_ix ix_tup (pv 1) pe_int (fun _ _ => rfl)) set_list))
      (pss_one (ps_ret (pe_cl CN hr1 (pa_cons (pv 0) (pa_cons (pv 3) pa_nil))))))), ?_⟩
    refine ⟨_, rfl, le_line (by simp), fun e0 he0 => ⟨a, e0, _, rfl, rfl, sqT_same (same_new he0 _) ha, SqT.of upd_same, _, rfl, ?_⟩⟩
    have s0 := same_new he0 (HO.tup [])
    cases ks with
    | nil =>
      refine iteT ⟨_, rfl, q _ _ s0 ?_⟩
      have e : setN t [] qt = qt := by cases t <;> rfl
      rw [e]
      exact hq.ext (Te.of' s0)
    | cons i ks =>
      refine iteF ?_
      obtain ⟨hp24, hpd⟩ := parts_dle hd
      have hgi : ∃ p, (partsT t)[i]? = some p ∧ getN p ks = some u := by
        have hg : (match (partsT t)[i]? with | none => none | some p => getN p ks) = some u := hg
        cases e : (partsT t)[i]? with
        | none => rw [e] at hg; cases hg
        | some p => rw [e] at hg; exact ⟨p, rfl, hg⟩
      obtain ⟨p, hpe, hgp⟩ := hgi
      have hil := (List.getElem?_eq_some_iff.mp hpe).1
      obtain ⟨k, ps, rfl⟩ : ∃ k ps, t = .node k ps := by
        cases t with
        | node k ps => exact ⟨k, ps, rfl⟩
        | _ => exact (Nat.not_lt_zero _ hil).elim
      have hpe : ps[i]? = some p := hpe
      have eset : setN (.node k ps) (i :: ks) qt = .node k (ps.set i (setN p ks qt)) := by
        show (match ps[i]? with | none => _ | some p => _) = _
        rw [hpe]
      rw [eset] at q
      refine ⟨_, rfl, v, _, rfl, ht.ext (Te.of' s0), by omega, fun p1 H1 ws s1 h1 hws => ⟨p1, ws, rfl, .inr h1, fun bl hbl => ?_⟩⟩
      have s2 := same_new hbl (HO.lst ws)
      have sA := (s0.trans s1).trans s2
      have haA := sqT_same sA ha
      obtain ⟨y, hy, hty⟩ := hws.get (i := i) (t := p) hpe
      refine ⟨_, rfl, _, rfl, a, _, 0, _, rfl, rfl, haA, at0, bl, ws, (i : Int), y, rfl, rfl, SqL.of upd_same, atI_nat hy, ?_⟩
      refine ⟨_, rfl, 1, rfl, a, _, rfl, haA, cut1_not _ _, fun sl hsl => ?_⟩
      have s3 := same_new hsl (HO.tup (cutV (intsN (i :: ks)) (some 1) none))
      have sB := sA.trans s3
      have hlk : ks.length < n := by have := hn; simp only [List.length_cons] at this; omega
      refine ⟨_, rfl, y, p, sl, ks, vq, qt, rfl, hlk, hty.ext (Te.of' (s2.trans s3)), ?_, SqT.of (by rw [upd_same]; exact congrArg (fun z => some (HO.tup z)) (cut1 _ _)), ⟨u, hgp⟩, hq.ext (Te.of' sB), fun v5 H5 s5 h5 => ?_⟩
      · obtain ⟨mj, _, hdj⟩ := hpd p (List.mem_of_getElem? hpe)
        exact ⟨mj, hdj⟩
      · have hbl5 := s5 _ _ (s3 _ _ (show upd H1 bl (.lst ws) bl = some (.lst ws) from upd_same))
        have hwl : ws.length = ps.length := hws.len
        have hil : i < ps.length := hil
        refine ⟨_, rfl, _, rfl, a, _, 0, _, rfl, rfl, sqT_same s5 (sqT_same s3 haA), at0, bl, ws, (i : Int), i, rfl, rfl, hbl5, ixN_nat (by omega), ?_⟩
        have t6 : Te H5 (upd H5 bl (.lst (ws.set i v5))) := Te.lst hbl5
        have tS := (Te.of' ((s2.trans s3).trans s5)).trans t6
        have hp24 : ps.length ≤ 24 := hp24
        have hbl0 : H bl = none := (s0.trans s1).free hbl
        refine ⟨_, rfl, _, rfl, v, bl, ws.set i v5, .node k ps, ps.set i (setN p ks qt), _, rfl, (ht.ext (Te.of' (sB.trans s5))).ext t6, upd_same, ts_set (hws.ext tS) (h5.ext t6), by rw [List.length_set]; omega, ⟨rfl, fun _ e => ?_⟩, fun v' H' s' h' => q v' H' ((same_mut (sB.trans s5) hbl0).trans s') h'⟩
        have z := congrArg List.length e
        rw [List.length_set] at z
        have : ps.length = 0 := z
        omega
end
end KP

/-! spots -/
namespace KP
open PySem PyProof.Rows L2 LamX NdefX KL KM KD
abbrev sSpots : Stmt := top 32
abbrev Sp4 := List Nat × Tm × Nat × Bool
def kids : Tm → List Tm
  | .node (.hole _) _ => []
  | .node _ ps => ps
  | _ => []
def isApp : Tm → Bool
  | .node .app _ => true
  | _ => false
def bn0 : Tm → Nat → Nat
  | .node k _, j => bnd k j
  | _, _ => 0
mutual
/-- the places of a term, from the left, not below holes -/
def spt : Tm → Nat → Bool → List Sp4
  | .var i, w, h => [([], .var i, w, h)]
  | .atom u xs, w, h => [([], .atom u xs, w, h)]
  | .node (.hole n) ps, w, h => [([], .node (.hole n) ps, w, h)]
  | .node .app ps, w, h => ([], .node .app ps, w, h) :: sptL .app ps 0 w
  | .node .pi ps, w, h => ([], .node .pi ps, w, h) :: sptL .pi ps 0 w
  | .node .fn ps, w, h => ([], .node .fn ps, w, h) :: sptL .fn ps 0 w
  | .node .lt ps, w, h => ([], .node .lt ps, w, h) :: sptL .lt ps 0 w
def sptL (k : Kd) : List Tm → Nat → Nat → List Sp4
  | [], _, _ => []
  | p :: ps, j, w => (spt p (w + bnd k j) (decide (k = .app) && decide (j = 0))).map (fun x => (j :: x.1, x.2)) ++ sptL k ps (j + 1) w
end
theorem sptL_nil {k : Kd} {j w : Nat} : sptL k [] j w = [] := by simp [sptL]
theorem sptL_cons {k : Kd} {p : Tm} {ps : List Tm} {j w : Nat} : sptL k (p :: ps) j w = (spt p (w + bnd k j) (decide (k = .app) && decide (j = 0))).map (fun x => (j :: x.1, x.2)) ++ sptL k ps (j + 1) w := by simp [sptL]
theorem spt_node {k : Kd} {ps : List Tm} {w : Nat} {h : Bool} (hk : ∀ n, k ≠ .hole n) : spt (.node k ps) w h = ([], .node k ps, w, h) :: sptL k ps 0 w := by
  cases k with
  | hole n => exact (hk n rfl).elim
  | _ => simp [spt]
theorem spt_leaf {t : Tm} {w : Nat} {h : Bool} (hl : kids t = []) (hn : ∀ k ps, t = .node k ps → ∃ n, k = .hole n) : spt t w h = [([], t, w, h)] := by
  cases t with
  | var i => simp [spt]
  | atom u xs => simp [spt]
  | node k ps => obtain ⟨n, rfl⟩ := hn k ps rfl; simp [spt]
theorem sptL_app {k : Kd} {w : Nat} : ∀ (ps qs : List Tm) (j : Nat), sptL k (ps ++ qs) j w = sptL k ps j w ++ sptL k qs (j + ps.length) w
  | [], qs, j => by simp [sptL_nil]
  | p :: ps, qs, j => by
    rw [List.cons_append, sptL_cons, sptL_cons, sptL_app ps qs (j + 1), List.append_assoc, List.length_cons, show j + 1 + ps.length = j + (ps.length + 1) by omega]
theorem spt_len (t : Tm) : ∀ w h, (spt t w h).length ≤ sz t := by
  refine Tm.ind (P := fun t => ∀ w h, (spt t w h).length ≤ sz t) ?_ ?_ ?_ t
  · intro i w h; rw [sz_var]; simp [spt]
  · intro u xs w h; rw [sz_atom]; simp [spt]
  · intro k ps ih w h
    rw [sz_node]
    by_cases hk : ∃ n, k = .hole n
    · obtain ⟨n, rfl⟩ := hk; simp [spt]
    · rw [spt_node fun n e => hk ⟨n, e⟩, List.length_cons]
      have : ∀ (ps' : List Tm) (j : Nat), (∀ p ∈ ps', p ∈ ps) → (sptL k ps' j w).length ≤ szL ps' := by
        intro ps'
        induction ps' with
        | nil => intro j _; rw [sptL_nil]; simp [szL]
        | cons p ps' ih2 =>
          intro j hm
          rw [sptL_cons, List.length_append, List.length_map]
          have a := ih p (hm p List.mem_cons_self) (w + bnd k j) (decide (k = .app) && decide (j = 0))
          have b := ih2 (j + 1) fun q hq => hm q (List.mem_cons_of_mem _ hq)
          simp only [szL]
          omega
      have z := this ps 0 fun _ h => h
      omega
theorem spt_pl (t : Tm) : ∀ w h, ∀ x ∈ spt t w h, x.1.length < sz t := by
  refine Tm.ind (P := fun t => ∀ w h, ∀ x ∈ spt t w h, x.1.length < sz t) ?_ ?_ ?_ t
  · intro i w h x hx
    rw [sz_var]
    simp [spt] at hx
    subst hx
    simp
  · intro u xs w h x hx
    rw [sz_atom]
    simp [spt] at hx
    subst hx
    simp
  · intro k ps ih w h x hx
    rw [sz_node]
    by_cases hk : ∃ n, k = .hole n
    · obtain ⟨n, rfl⟩ := hk
      simp [spt] at hx
      subst hx
      simp; omega
    · rw [spt_node fun n e => hk ⟨n, e⟩] at hx
      rcases List.mem_cons.mp hx with rfl | hx
      · simp; omega
      · have : ∀ (ps' : List Tm) (j : Nat), (∀ p ∈ ps', p ∈ ps) → ∀ x ∈ sptL k ps' j w, x.1.length ≤ szL ps' := by
          intro ps'
          induction ps' with
          | nil => intro j _ x hx; rw [sptL_nil] at hx; cases hx
          | cons p ps' ih2 =>
            intro j hm x hx
            rw [sptL_cons] at hx
            simp only [szL]
            rcases List.mem_append.mp hx with hx | hx
            · obtain ⟨y, hy, rfl⟩ := List.mem_map.mp hx
              have a := ih p (hm p List.mem_cons_self) _ _ y hy
              simp only [List.length_cons]
              omega
            · have b := ih2 (j + 1) (fun q hq => hm q (List.mem_cons_of_mem _ hq)) x hx
              omega
        have z := this ps 0 (fun _ h => h) x hx
        omega
theorem tpA_app {K : PySem.W.Frag} {H : Hp} : ∀ {vs us : List V} {ds es : List PyData}, TpAll K H vs ds → TpAll K H us es → TpAll K H (vs ++ us) (ds ++ es)
  | _, _, [], _, h, k => by cases h; exact k
  | _, _, _ :: _, _, h, k => by
    cases h with
    | cons h1 h2 => exact .cons h1 (tpA_app h2 k)
def encS (x : Sp4) : PyData := .tuple [.tuple (x.1.map fun n => .int ((n : Nat) : Int)), enc x.2.1, .int ((x.2.2.1 : Nat) : Int), .bool x.2.2.2]
section
variable {P : Program} {w : World} {K : PySem.W.Frag} {mg : Str → Option Value} {base : Heap} {T : List (Addr × Str)}
theorem tp_ints {H : Hp} {a : Addr} {ks : List Nat} (h : SqT K H a (intsN ks)) : Tp K H (.ref a) (.tuple (ks.map fun n => .int ((n : Nat) : Int))) := by
  refine .tup h ?_
  clear h
  induction ks with
  | nil => exact .nil
  | cons k ks ih => exact .cons (.int _) ih
theorem ints_tp {H : Hp} {v : V} {ks : List Nat} (h : Tp K H v (.tuple (ks.map fun n => .int ((n : Nat) : Int)))) : ∃ a, v = .ref a ∧ SqT K H a (intsN ks) := by
  cases h with
  | @tup a xs _ hs ha =>
    refine ⟨a, rfl, ?_⟩
    have : xs = intsN ks := by
      clear hs
      induction ks generalizing xs with
      | nil => cases ha; rfl
      | cons k ks ih =>
        cases ha with
        | cons h1 h2 => cases h1; rw [ih h2]; rfl
    rw [← this]; exact hs
/-- a spot read -/
theorem spot_tp {H : Hp} {v : V} {x : Sp4} (h : Tp K H v (encS x)) : ∃ a b y, v = .ref a ∧ SqT K H a [.ref b, y, .int ((x.2.2.1 : Nat) : Int), .bl x.2.2.2] ∧ SqT K H b (intsN x.1) ∧ Tr K H y x.2.1 := by
  cases h with
  | tup hs ha =>
    cases ha with
    | cons h1 h2 =>
      obtain ⟨b, rfl, hb⟩ := ints_tp h1
      cases h2 with
      | cons h3 h4 =>
        cases h4 with
        | cons h5 h6 =>
          cases h5
          cases h6 with
          | cons h7 h8 => cases h7; cases h8; exact ⟨_, b, _, rfl, hs, hb, h3⟩
def spSpots (K : PySem.W.Frag) (n : Nat) : Sp := fun us H Q _ => ∃ (v : V) (t : Tm) (wd : Nat) (h : Bool) (m : Nat), us = [v, .int (wd : Nat), .bl h] ∧ m < n ∧ Tr K H v t ∧ dle m t ∧ sz t ≤ 1000000 ∧ ∀ g xs H', Same H H' → H g = none → H' g = some (.lst xs) → TpAll K H' xs ((spt t wd h).map encS) → Q (.ref g) H'
abbrev nSpots : List Str := ["_law_term", "_law_wide", "_law_head", "_law_out", "_law_k", "_law_part", "_law_inner", "_law_place", "_law_node_here", "_law_deep", "_law_front"]
theorem scSpots : FnScope nSpots ["_law_term", "_law_wide", "_law_head"] (defScope sSpots) := ⟨rfl, rfl, rfl, by decide +kernel, rfl, by decide +kernel, by decide +kernel⟩
/-- the spots of t itself and of its first i parts -/
def sTo (t : Tm) (wd : Nat) (h : Bool) (i : Nat) : List Sp4 := ([], t, wd, h) :: (match t with
  | .node k ps => if (kids (.node k ps)).isEmpty then [] else sptL k (ps.take i) 0 wd
  | _ => [])
theorem sTo_node {k : Kd} {ps : List Tm} {wd : Nat} {h : Bool} {i : Nat} : sTo (.node k ps) wd h i = ([], .node k ps, wd, h) :: (if (kids (.node k ps)).isEmpty then [] else sptL k (ps.take i) 0 wd) := rfl
theorem sTo_succ {k : Kd} {ps : List Tm} {wd : Nat} {h : Bool} {i : Nat} {p : Tm} (hk : ∀ n, k ≠ .hole n) (hp : ps[i]? = some p) : sTo (.node k ps) wd h (i + 1) = sTo (.node k ps) wd h i ++ (spt p (wd + bnd k i) (decide (k = .app) && decide (i = 0))).map (fun x => (i :: x.1, x.2)) := by
  have hl := (List.getElem?_eq_some_iff.mp hp).1
  have hkd : (kids (.node k ps)).isEmpty = false := by
    have : kids (.node k ps) = ps := by
      cases k with
      | hole n => exact (hk n rfl).elim
      | _ => rfl
    rw [this]
    cases ps with
    | nil => simp at hl
    | cons x xs => rfl
  show ([], Tm.node k ps, wd, h) :: (if (kids (.node k ps)).isEmpty then [] else sptL k (ps.take (i + 1)) 0 wd) = (([], Tm.node k ps, wd, h) :: (if (kids (.node k ps)).isEmpty then [] else sptL k (ps.take i) 0 wd)) ++ _
  rw [hkd]
  simp only [Bool.false_eq_true, if_false]
  rw [List.take_add_one, hp]
  show _ :: sptL k (ps.take i ++ [p]) 0 wd = _
  rw [sptL_app, sptL_cons, sptL_nil, List.append_nil, List.length_take, Nat.min_eq_left (by omega), Nat.zero_add]
  rfl
theorem sTo_len (t : Tm) (wd : Nat) (h : Bool) (i : Nat) : (sTo t wd h i).length ≤ sz t := by
  have z := spt_len t wd h
  cases t with
  | var i => rw [sz_var]; simp [sTo]
  | atom u xs => rw [sz_atom]; simp [sTo]
  | node k ps =>
    by_cases hk : ∃ n, k = .hole n
    · obtain ⟨n, rfl⟩ := hk
      rw [sz_node, sTo_node]
      simp [kids]
    · have hk : ∀ n, k ≠ .hole n := fun n e => hk ⟨n, e⟩
      rw [spt_node hk, List.length_cons] at z
      rw [sTo_node, List.length_cons]
      have e : sptL k ps 0 wd = sptL k (ps.take i) 0 wd ++ sptL k (ps.drop i) (0 + (ps.take i).length) wd := by rw [← sptL_app, List.take_append_drop]
      rw [e, List.length_append] at z
      split
      · simp; omega
      · omega
/-- the parts that are gone through -/
def tKids (K : PySem.W.Frag) : TE := fun σ H Q => ∃ v t, σ[0]? = some (some v) ∧ Tr K H v t ∧ (partsT t).length ≤ 1000 ∧ ∀ p H' ws, Same H H' → SqT K H' p ws → Ts K H' ws (kids t) → Q (.ref p) H'
def tHd (K : PySem.W.Frag) : TE := fun σ H Q => ∃ (v : V) (t : Tm) (i : Nat), σ[0]? = some (some v) ∧ σ[4]? = some (some (.int (i : Nat))) ∧ Tr K H v t ∧ Q (.bl (decide (tagOf t = "app") && decide (i = 0))) H
theorem ok_spots {f fb fu : Addr} {fd fdb fdu : FuncData} (F : Fun K "_law_spots" "_law_spots" sSpots f fd) (mf : mg "_law_spots" = some (.ref f)) (bf : L2.Binds K fd ["_law_term", "_law_wide", "_law_head"] []) (me : mg "enumerate" = none)
    (CB : Cl P w K mg base 1 "_law_bits" fb fdb ["_law_node_here"] (spParts K)) (CU : Cl P w K mg base 1 "_law_under" fu fdu ["_law_node_here", "_law_k"] (spLUnd K)) : ∀ n, Cl P w K mg base (n + 1) "_law_spots" f fd ["_law_term", "_law_wide", "_law_head"] (spSpots K n)
  | 0 => by
    refine ⟨?_, mf, F.kp, bf⟩
    refine F.ok scSpots (fun vs H Q E h => ?_) (fun cdv A outer s H vs Q E hr h => ?_)
    · obtain ⟨v, t, wd, h, m, rfl, _⟩ := h; rfl
    · obtain ⟨v, t, wd, h, m, rfl, hm, _⟩ := h
      exact absurd hm (Nat.not_lt_zero _)
  | n + 1 => by
    have ih := ok_spots F mf bf me CB CU n
    refine ⟨?_, mf, F.kp, bf⟩
    refine F.ok scSpots (fun vs H Q E h => ?_) (fun cdv A outer s H vs Q E hr h => ?_)
    · obtain ⟨v, t, wd, h, m, rfl, _⟩ := h; rfl
    obtain ⟨v, t, wd, h, m, rfl, hm, ht, hd, hz, q⟩ := h
    have hr1 := hr.mono (show 1 ≤ n + 1 by omega)
    refine ⟨_, pss_cons (ps_set (i := 3) scSpots.nd rfl (.inl rfl) (pe_lst (pa_cons (pe_tup (pa_cons (pe_tup pa_nil) (pa_cons (pv 0) (pa_cons (pv 1) (pa_cons (pv 2) pa_nil))))) pa_nil)))
      (pss_cons (ps_for PassesOwn.never rfl (pi_enumT rfl me (pa_cons (PE.weak (t' := tKids K) (pe_ifExp (pt_cmpR op_eq (pe_ix ix_tup (pv 0) pe_int (fun _ _ => rfl)) pe_str (nomark _)) (pe_tup pa_nil) (pe_cl CB hr1 (pa_cons (pv 0) pa_nil))) (fun σ H Q hh => by
          obtain ⟨v, t, h0, ht, hl, hq⟩ := hh
          obtain ⟨a, ys, rfl, hs⟩ := tr_tag ht
          refine ⟨_, h0, a, _, 0, _, rfl, rfl, hs, at0, rfl, _, rfl, ?_⟩
          by_cases hh : ∃ x as, t = .node (.hole x) as
          · obtain ⟨x, as, rfl⟩ := hh
            exact iteEqT rfl ⟨le_line (by simp), fun p hp => hq p _ [] (same_new hp _) (SqT.of upd_same) TpAll.nil⟩
          · refine iteEqF (tag_ne fun x as e => hh ⟨x, as, e⟩) ⟨_, h0, _, t, rfl, ht, hl, fun p H' ws s1 h1 h2 => hq p H' ws s1 h1 ?_⟩
            have : kids t = partsT t := by
              cases t with
              | node k ps =>
                cases k with
                | hole x => exact (hh ⟨x, ps, rfl⟩).elim
                | _ => rfl
              | _ => rfl
            rw [this]; exact h2)) pa_nil)) (pg_tup rfl (pgs_cons (pg_name (i := 4) scSpots.nd rfl (.inr rfl)) (pgs_cons (pg_name (i := 5) scSpots.nd rfl (.inl rfl)) pgs_nil)))
        (pss_cons (ps_set (i := 6) scSpots.nd rfl (.inl rfl) (pe_cl ih hr (pa_cons (pv 5) (pa_cons (pe_op op_add (pv 1) (pe_cl CU hr1 (pa_cons (pv 0) (pa_cons (pv 4) pa_nil)))) (pa_cons (PE.weak (t' := tHd K) (pe_and (pe_cmpR op_eq (pe_ix ix_tup (pv 0) pe_int (fun _ _ => rfl)) pe_str (nomark _)) (pe_one (pe_cmpR op_eq (pv 4) pe_int (nomark _)))) (fun σ H Q hh => by
          obtain ⟨v, t, i, h0, h4, ht, hq⟩ := hh
          obtain ⟨a, ys, rfl, hs⟩ := tr_tag ht
          refine ⟨_, h0, a, _, 0, _, rfl, rfl, hs, at0, rfl, _, rfl, ?_⟩
          by_cases e : tagOf t = "app"
          · refine iteEqT e ⟨_, h4, rfl, ?_⟩
            have e2 : decide (V.int ((i : Nat) : Int) = V.int 0) = (decide (tagOf t = "app") && decide (i = 0)) := by
              rw [decide_eq_true e, Bool.true_and]
              by_cases z : i = 0
              · subst z; rfl
              · rw [decide_eq_false z, decide_eq_false (fun q => z (by have q := V.int.inj q; omega))]
            rw [e2]; exact hq
          · refine iteEqF e ?_
            have e2 : false = (decide (tagOf t = "app") && decide (i = 0)) := by rw [decide_eq_false e, Bool.false_and]
            rw [e2]; exact hq)) pa_nil)))))
        (pss_one (ps_set (i := 3) scSpots.nd rfl (.inl rfl) (pe_op op_cat (pv 3) (pe_lc (own := [("_law_place", 7), ("_law_node_here", 8), ("_law_deep", 9), ("_law_front", 10)]) (g := gTup K 4 (gCons (gName 7) (gCons (gName 8) (gCons (gName 9) (gCons (gName 10) gNil))))) (tt := tYes) rfl scSpots.nd (pi_list (pv 6)) (blkOk_by (N := nSpots) (sc := defScope sSpots) (by decide +kernel))
          (fun _ _ _ _ _ => pg_tup rfl (pgs_cons (pg_name (i := 7) scSpots.nd rfl (.inl rfl)) (pgs_cons (pg_name (i := 8) scSpots.nd rfl (.inl rfl)) (pgs_cons (pg_name (i := 9) scSpots.nd rfl (.inl rfl)) (pgs_cons (pg_name (i := 10) scSpots.nd rfl (.inl rfl)) pgs_nil))))) (fun _ _ _ _ _ => pts_nil)
          (fun _ _ _ _ _ => pe_tup (pa_cons (pe_op (r := rCatT K) op_catT (pe_tup (pa_cons (pv 4) pa_nil)) (pv 7)) (pa_cons (pv 8) (pa_cons (pv 9) (pa_cons (pv 10) pa_nil)))))))))))
      (pss_one (ps_ret (pv 3)))), ?_⟩
    obtain ⟨hp24, hpd⟩ := parts_dle hd
    refine ⟨le_line (by simp), fun p1 hp1 => ⟨_, rfl, _, rfl, _, rfl, le_line (by simp), fun p2 hp2 => ⟨le_line (by simp), fun Bl hBl => ?_⟩⟩⟩
    have s1 := same_new hp1 (HO.tup [])
    have s2 := s1.trans (same_new hp2 (HO.tup [V.ref p1, v, V.int (wd : Nat), V.bl h]))
    have s3 := s2.trans (same_new hBl (HO.lst [V.ref p2]))
    refine ⟨v, t, rfl, ht.ext (Te.of' s3), by omega, fun p H2 ws s4 h4 hws => ⟨p, ws, rfl, h4, ?_⟩⟩
    have s24 := s3.trans s4
    have first : Tp K H2 (.ref p2) (encS ([], t, wd, h)) := by
      have n12 : p1 ≠ p2 := fun e => by subst e; rw [upd_same] at hp2; cases hp2
      have e1 : SqT K (L2.upd (L2.upd H p1 (HO.tup [])) p2 (HO.tup [V.ref p1, v, V.int (wd : Nat), V.bl h])) p1 (intsN []) := SqT.of (by rw [upd_ne n12, upd_same]; rfl)
      have e2 : Tp K (L2.upd (L2.upd H p1 (HO.tup [])) p2 (HO.tup [V.ref p1, v, V.int (wd : Nat), V.bl h])) (.ref p2) (encS ([], t, wd, h)) := .tup (SqT.of upd_same) (.cons (tp_ints (ks := []) e1) (.cons (ht.ext (Te.of' s2)) (.cons (.int _) (.cons (.bl _) .nil))))
      exact tp_ext (Te.of' ((same_new hBl (HO.lst [V.ref p2])).trans s4)) _ _ e2
    refine for_it (walk_enumT (xs := ws)) (fun i σ H' => ∃ (x4 x5 x6 : Option V) (l : Addr) (xs : List V), σ = [some v, some (.int (wd : Nat)), some (.bl h), some (.ref l), x4, x5, x6, none, none, none, none] ∧ Same H H' ∧ SqT K H' p ws ∧ Ts K H' ws (kids t) ∧ H l = none ∧ H' l = some (.lst xs) ∧ TpAll K H' xs ((sTo t wd h i).map encS)) ?_ ?_ ?_ ?_
    · refine ⟨_, _, _, Bl, _, rfl, s24, h4, hws, s2.free hBl, s4 _ _ upd_same, ?_⟩
      have e0 : sTo t wd h 0 = [([], t, wd, h)] := by
        cases t with
        | node k ps => rw [sTo_node, List.take_zero, sptL_nil]; simp
        | _ => rfl
      rw [e0]
      exact .cons first .nil
    · rintro i σ H' _ ⟨_, _, _, _, _, _, _, h5, _⟩
      exact h5
    · rintro i x σ H3 H4 hi ⟨x4, x5, x6, l, xs, rfl, s5, h5, hws5, hl0, hl5, hx5⟩ ⟨A1, x', y, rfl, hA1, rfl, ex, hy⟩
      cases ex
      have hpi : i < (kids t).length := by rw [← hws.len]; exact hi
      obtain ⟨k, ps, rfl, hk⟩ : ∃ k ps, t = .node k ps ∧ ∀ n, k ≠ .hole n := by
        cases t with
        | node k ps =>
          refine ⟨k, ps, rfl, fun n e => ?_⟩
          subst e
          exact Nat.not_lt_zero _ hpi
        | _ => exact (Nat.not_lt_zero _ hpi).elim
      have ek : kids (.node k ps) = ps := by
        cases k with
        | hole n => exact (hk n rfl).elim
        | _ => rfl
      rw [ek] at hpi hws5
      have hpe : ps[i]? = some ps[i] := List.getElem?_eq_getElem hpi
      obtain ⟨y', hy', hty⟩ := hws5.get hpe
      have hy : ws[i]? = some y := hy
      rw [hy] at hy'
      cases hy'
      obtain ⟨mj, hmj, hdj⟩ := hpd _ (List.getElem_mem hpi)
      have hzj : sz ps[i] ≤ 1000000 := Nat.le_trans (sz_part (t := .node k ps) (List.getElem_mem hpi)) hz
      have har : arOk k ps.length := by
        cases m with
        | zero => exact hd.elim
        | succ m => exact hd.1
      have s6 := same_new hA1 (HO.tup [.int (i : Nat), y])
      have s56 := s5.trans s6
      obtain ⟨a, ys, rfl, hs⟩ := tr_tag ht
      refine ⟨A1, _, rfl, SqT.of upd_same, rfl, _, _, rfl, _, _, rfl, rfl, ?_⟩
      refine ⟨_, rfl, _, rfl, _, rfl, _, rfl, _, k, ps, i, rfl, ht.ext (Te.of' s56), har, fun H5 s7 => ?_⟩
      refine ⟨_, _, rfl, rfl, ?_⟩
      have hs7 := sqT_same (s56.trans s7) hs
      have tagApp : Kd.tag k = "app" ↔ k = .app := by
        constructor
        · intro e
          cases k with
          | hole n => exact (hk n rfl).elim
          | app => rfl
          | pi => exact absurd e (show ¬ ("pi" : Str) = "app" by decide +kernel)
          | fn => exact absurd e (show ¬ ("fun" : Str) = "app" by decide +kernel)
          | lt => exact absurd e (show ¬ ("let" : Str) = "app" by decide +kernel)
        · rintro rfl; rfl
      have ebl : (decide (tagOf (.node k ps) = "app") && decide (i = 0)) = (decide (k = .app) && decide (i = 0)) := by
        congr 1
        exact decide_eq_decide.mpr tagApp
      refine ⟨_, .node k ps, i, rfl, rfl, ht.ext (Te.of' (s56.trans s7)), ?_⟩
      rw [ebl]
      refine ⟨y, ps[i], wd + bnd k i, (decide (k = .app) && decide (i = 0)), mj, by show [y, V.int ((wd : Int) + ((bnd k i : Nat) : Int)), _] = [y, V.int ((wd + bnd k i : Nat) : Int), _]; rw [Int.natCast_add], by omega, hty.ext (Te.of' (s6.trans s7)), hdj, hzj, fun g6 xs6 H6 s8 _ h6 hx6 => ?_⟩
      have sA := (s6.trans s7).trans s8
      have hl6 := sA _ _ hl5
      refine ⟨_, rfl, _, rfl, g6, rfl, ⟨xs6, SqL.of h6⟩, fun Dl hDl => ?_⟩
      have hxl : xs6.length = (spt ps[i] (wd + bnd k i) (decide (k = .app) && decide (i = 0))).length := by rw [tpA_len hx6, List.length_map]
      have hsl := spt_len ps[i] (wd + bnd k i) (decide (k = .app) && decide (i = 0))
      generalize hS : spt ps[i] (wd + bnd k i) (decide (k = .app) && decide (i = 0)) = S at hx6 hxl hsl
      refine lc_it (walk_list (xs := xs6)) (fun j H' => Same H6 H' ∧ ∃ acc, H' Dl = some (.lst acc) ∧ TpAll K H' acc (((S.take j).map fun x => (i :: x.1, x.2)).map encS)) ?_ ?_ ?_ ?_
      · exact ⟨same_new hDl _, [], upd_same, .nil⟩
      · rintro j H' _ ⟨s9, _⟩
        exact SqL.of (s9 _ _ h6)
      · rintro j z H8 H7 hj ⟨s9, acc, hacc, hta⟩ ⟨rfl, hz'⟩
        have hjS : j < S.length := by omega
        obtain ⟨v9, hv9, tv9⟩ := tpA_get (i := j) (d := encS S[j]) hx6 (by rw [List.getElem?_map, List.getElem?_eq_getElem hjS]; rfl)
        rw [hz'] at hv9
        cases hv9
        obtain ⟨sa, sb, sy, rfl, e1, e2, e3⟩ := spot_tp (tp_ext (Te.of' s9) _ _ tv9)
        refine ⟨sa, _, rfl, e1, rfl, _, _, rfl, _, _, rfl, _, _, rfl, _, _, rfl, rfl, rfl, ?_⟩
        have hpl7 := spt_pl ps[i] (wd + bnd k i) (decide (k = .app) && decide (i = 0)) S[j] (by rw [hS]; exact List.getElem_mem hjS)
        have hal : acc.length = j := by
          have z := tpA_len hta
          rw [List.length_map, List.length_map, List.length_take] at z
          omega
        have fin : ∀ Hx g, Same H7 Hx → SqT K Hx g (intsN (i :: S[j].1)) → ∀ p9, Hx p9 = none → ∃ acc', upd Hx p9 (.tup [.ref g, sy, .int ((S[j].2.2.1 : Nat) : Int), .bl S[j].2.2.2]) Dl = some (.lst acc') ∧ acc'.length < sizeLine ∧
            (Same H6 (upd (upd Hx p9 (.tup [.ref g, sy, .int ((S[j].2.2.1 : Nat) : Int), .bl S[j].2.2.2])) Dl (.lst (acc' ++ [V.ref p9]))) ∧ ∃ acc, (upd (upd Hx p9 (.tup [.ref g, sy, .int ((S[j].2.2.1 : Nat) : Int), .bl S[j].2.2.2])) Dl (.lst (acc' ++ [V.ref p9]))) Dl = some (.lst acc) ∧
              TpAll K (upd (upd Hx p9 (.tup [.ref g, sy, .int ((S[j].2.2.1 : Nat) : Int), .bl S[j].2.2.2])) Dl (.lst (acc' ++ [V.ref p9]))) acc (((S.take (j + 1)).map fun x => (i :: x.1, x.2)).map encS)) := by
          intro Hx g sx hg p9 hp9
          have s10 := same_new hp9 (HO.tup [.ref g, sy, .int ((S[j].2.2.1 : Nat) : Int), .bl S[j].2.2.2])
          have hacc10 := s10 _ _ (sx _ _ hacc)
          have t11 : Te (upd Hx p9 (.tup [.ref g, sy, .int ((S[j].2.2.1 : Nat) : Int), .bl S[j].2.2.2])) (upd (upd Hx p9 (.tup [.ref g, sy, .int ((S[j].2.2.1 : Nat) : Int), .bl S[j].2.2.2])) Dl (.lst (acc ++ [V.ref p9]))) := Te.lst hacc10
          refine ⟨acc, hacc10, ?_, same_mut ((s9.trans sx).trans s10) hDl, acc ++ [.ref p9], upd_same, ?_⟩
          · rw [hal]
            exact Nat.lt_of_lt_of_le hjS (by rw [sizeLine_eq]; omega)
          · rw [List.take_add_one, List.getElem?_eq_getElem hjS, List.map_append, List.map_append]
            refine tpA_snoc (tpA_ext ((Te.of' (sx.trans s10)).trans t11) _ _ hta) ?_
            exact .tup (t11.seq (SqT.of upd_same)) (.cons (tp_ext t11 _ _ (tp_ints (sqT_same s10 hg))) (.cons (e3.ext ((Te.of' (sx.trans s10)).trans t11)) (.cons (.int _) (.cons (.bl _) .nil))))
        refine ⟨_, rfl, le_line (by simp), fun p7 hp7 => ⟨_, rfl, p7, sb, _, _, rfl, rfl, SqT.of upd_same, sqT_same (same_new hp7 _) e2, by simp, ?_, fun en => ?_, fun _ p8 hp8 => ?_⟩⟩
        · simp only [List.length_cons, List.length_nil, List.length_map]
          rw [sizeLine_eq]
          omega
        · have en : S[j].1 = [] := by simpa using en
          refine ⟨_, rfl, _, rfl, _, rfl, le_line (by simp), fun p9 hp9 => ?_⟩
          refine fin _ p7 (same_new hp7 _) ?_ p9 hp9
          rw [en]
          exact SqT.of upd_same
        · refine ⟨_, rfl, _, rfl, _, rfl, le_line (by simp), fun p9 hp9 => ?_⟩
          exact fin _ p8 ((same_new hp7 _).trans (same_new hp8 _)) (SqT.of upd_same) p9 hp9
      · rintro H7 ⟨s9, acc, hacc, hta⟩
        rw [List.take_of_length_le (by omega)] at hta
        have sB := sA.trans s9
        refine ⟨l, Dl, xs, acc, rfl, rfl, s9 _ _ hl6, hacc, ?_, fun g7 hg7 => ?_⟩
        · have z1 := tpA_len hx5
          have z2 := tpA_len hta
          have z3 := sTo_len (.node k ps) wd h (i + 1)
          rw [sTo_succ hk hpe, hS, List.length_append] at z3
          rw [List.length_map] at z1 z2
          rw [z1, z2, sizeLine_eq]
          omega
        · have s10 := same_new hg7 (HO.lst (xs ++ acc))
          refine ⟨_, _, _, g7, _, rfl, s5.trans (sB.trans s10), sqT_same (sB.trans s10) h5, ?_, (s5.trans sB).free hg7, upd_same, ?_⟩
          · rw [ek]
            exact hws5.ext (Te.of' (sB.trans s10))
          · rw [sTo_succ hk hpe, List.map_append, hS]
            exact tpA_app (tpA_ext (Te.of' (sB.trans s10)) _ _ hx5) (tpA_ext (Te.of' s10) _ _ hta)
    · rintro σ H3 ⟨x4, x5, x6, l, xs, rfl, s5, h5, hws5, hl0, hl5, hx5⟩
      refine ⟨_, rfl, q l xs H3 s5 hl0 hl5 ?_⟩
      have hl : ws.length = (kids t).length := hws.len
      have e1 : sTo t wd h ws.length = spt t wd h := by
        cases t with
        | var i => simp [sTo, spt]
        | atom u xs => simp [sTo, spt]
        | node k ps =>
          by_cases hk : ∃ n, k = .hole n
          · obtain ⟨n, rfl⟩ := hk
            rw [spt_leaf rfl (fun k ps e => by injection e with e1 _; exact ⟨n, e1.symm⟩)]
            rfl
          · have hk : ∀ n, k ≠ .hole n := fun n e => hk ⟨n, e⟩
            have ek : kids (.node k ps) = ps := by
              cases k with
              | hole n => exact (hk n rfl).elim
              | _ => rfl
            rw [spt_node hk, sTo_node, hl, ek, List.take_of_length_le (Nat.le_refl _)]
            cases ps with
            | nil => simp [sptL_nil]
            | cons x xs => simp
      rw [← e1]
      exact hx5
end
end KP

/-! body -/
namespace KM
open PySem
/-- levels from m on -/
def lvs (m e : Nat) : List Ent := (List.range e).map fun i => .lvl (m + i)
theorem lvs_succ (m e : Nat) : lvs m (e + 1) = lvs m e ++ [.lvl (m + e)] := by
  unfold lvs
  rw [List.range_succ, List.map_append]
  rfl
/-- what show tells of a part under levels -/
theorem show_ren {vs : List Nat} {env : List Ent} {wd : Nat} (hw : env.length = wd) (hv : ∀ v ∈ vs, v < wd ∧ env[wd - 1 - v]? = some (.lvl (vs.idxOf v))) (t : Tm) :
    ∀ n e, dle n t → Hf t → Fr (· ∈ vs) e t → Sh (fE []) (n + 1) t (env ++ lvs vs.length e) (vs.length + e) (ren (spo vs) e t) := by
  refine Tm.ind (P := fun t => ∀ n e, dle n t → Hf t → Fr (· ∈ vs) e t → Sh (fE []) (n + 1) t (env ++ lvs vs.length e) (vs.length + e) (ren (spo vs) e t)) ?_ ?_ ?_ t
  · intro i n e _ _ hf
    rw [ren_var]
    have hl : (env ++ lvs vs.length e).length = wd + e := by simp [lvs, hw]
    by_cases z : i < e
    · rw [if_pos z]
      have q : Sh (fE []) (n + 1) (.var i) (env ++ lvs vs.length e) (vs.length + e) (.var (vs.length + e - 1 - (vs.length + (e - 1 - i)))) := by
        refine .lvl (by rw [hl]; omega) ?_ (by omega)
        rw [hl, List.getElem?_append_right (by omega)]
        have e1 : wd + e - 1 - i - env.length = e - 1 - i := by omega
        rw [e1]
        unfold lvs
        rw [List.getElem?_map, List.getElem?_range (by omega)]
        rfl
      have e2 : vs.length + e - 1 - (vs.length + (e - 1 - i)) = i := by omega
      rw [e2] at q
      exact q
    · rw [if_neg z]
      have hm := fr_var.mp hf (by omega)
      obtain ⟨h1, h2⟩ := hv _ hm
      have hx : vs.idxOf (i - e) < vs.length := List.idxOf_lt_length_iff.mpr hm
      have q : Sh (fE []) (n + 1) (.var i) (env ++ lvs vs.length e) (vs.length + e) (.var (vs.length + e - 1 - vs.idxOf (i - e))) := by
        refine .lvl (by rw [hl]; omega) ?_ (by omega)
        rw [hl, List.getElem?_append_left (by omega)]
        have e1 : wd + e - 1 - i = wd - 1 - (i - e) := by omega
        rw [e1]
        exact h2
      have e2 : vs.length + e - 1 - vs.idxOf (i - e) = spo vs (i - e) + e := by unfold spo; omega
      rw [e2] at q
      exact q
  · intro u xs n e _ _ _
    unfold ren
    rw [trav_atom]
    exact .atom
  · intro k ps ih n e hd hh hf
    cases n with
    | zero => exact hd.elim
    | succ n =>
      obtain ⟨h1, h2⟩ := hf_node hh
      unfold ren
      rw [trav_node]
      refine .miss (hit_of h1) (by rw [mapI_len]) fun j p u hp hu => ?_
      rw [mapI_get, hp] at hu
      simp only [Option.map_some, Option.some.injEq, Nat.zero_add] at hu
      subst hu
      have hm := List.mem_of_getElem? hp
      have z := ih p hm n (e + bnd k j) (hd.2 p hm) (h2 p hm) (fr_node.mp hf j p hp)
      have hb := bnd_le k j
      by_cases hb1 : bnd k j = 1
      · rw [if_pos hb1, List.append_assoc, ← lvs_succ]
        rw [hb1] at z ⊢
        exact z
      · have hb0 : bnd k j = 0 := by omega
        rw [if_neg hb1]
        rw [hb0] at z ⊢
        exact z
end KM
namespace KP
open PySem PyProof.Rows L2 LamX NdefX KL KM KD
abbrev sBody : Stmt := top 36
section
variable {P : Program} {w : World} {K : PySem.W.Frag} {mg : Str → Option Value} {base : Heap} {T : List (Addr × Str)}
def spBody (K : PySem.W.Frag) (n : Nat) : Sp := fun us H Q _ => ∃ (v : V) (a : Addr) (t : Tm) (ws : List V) (vs : List Nat) (wd m : Nat), us = [v, .ref a, .int (wd : Nat)] ∧ m < n ∧ Tr K H v t ∧ dle m t ∧ sz t ≤ 1000000 ∧ H0 t ∧ SqT K H a ws ∧ Ts K H ws (vars vs) ∧ vs.Nodup ∧ vs.length ≤ 24 ∧ (∀ v ∈ vs, v < wd) ∧ wd ≤ 300 ∧
  (∀ v' b H', Same H H' → bodyO vs t = some b → Tr K H' v' b → Q v' H') ∧ (∀ H', Same H H' → bodyO vs t = none → Q .non H')
theorem repl_flat (v : V) : ∀ n : Nat, (List.replicate n [v]).flatten = List.replicate n v
  | 0 => rfl
  | n + 1 => by rw [List.replicate_succ, List.replicate_succ, List.flatten_cons, repl_flat v n]; rfl
theorem inV_nat (c : Nat) (ns : List Nat) : inV (.int (c : Nat)) (intsN ns) = decide (c ∈ ns) := by
  have e : intsN ns = (ns.map fun x => ((x : Nat) : Int)).map V.int := by rw [List.map_map]; rfl
  rw [e, inV_int]
  refine decide_eq_decide.mpr ?_
  rw [List.mem_map]
  exact ⟨fun ⟨x, hx, e⟩ => by have : x = c := by omega
                              exact this ▸ hx, fun h => ⟨c, h, rfl⟩⟩
theorem flat_ints (ns : List Nat) : (intsN ns).all flatV = true := by
  rw [List.all_eq_true]
  intro x hx
  obtain ⟨n, _, rfl⟩ := List.mem_map.mp hx
  rfl
abbrev nBody : List Str := ["_law_part", "_law_args", "_law_deep", "_law_spots_here", "_law_one_here", "_law_v", "_law_env", "_law_j"]
theorem scBody : FnScope nBody ["_law_part", "_law_args", "_law_deep"] (defScope sBody) := ⟨rfl, rfl, rfl, by decide +kernel, rfl, by decide +kernel, by decide +kernel⟩
theorem ok_body {n N L : Nat} {f ff fs : Addr} {fd fdf fds : FuncData} (F : Fun K "_law_body" "_law_body" sBody f fd) (ml : mg "len" = none) (me : mg "enumerate" = none) (hN : n ≤ N) (hN2 : N ≤ 500)
    (CF : Cl P w K mg base L "_law_frees" ff fdf ["_law_term", "_law_under_here"] (spFrees K n)) (CS : Cl P w K mg base L "_law_show" fs fds ["_law_term", "_law_env", "_law_deep", "_law_filling"] (spShow K N)) : FnOk P w K mg base CX0 (L + 1) f fd ["_law_part", "_law_args", "_law_deep"] (spBody K n) := by
  refine F.ok scBody (fun vs H Q E h => ?_) (fun cdv A outer s H vs Q E hr h => ?_)
  · obtain ⟨v, a, t, ws, vs, wd, m, rfl, _⟩ := h; rfl
  obtain ⟨v, a, t, ws, vs, wd, m, rfl, hm, ht, hd, hz, h0, ha, hws, hnd, hvl, hvw, hwd, q1, q2⟩ := h
  refine ⟨_, Evl.pss_cut (ps_set (i := 3) scBody.nd rfl (.inr rfl) (pe_lc (own := [("_law_one_here", 4)]) (g := gName 4) (tt := tYes) rfl scBody.nd (pi_tup (pv 1)) (blkOk_by (N := nBody) (sc := defScope sBody) (by decide +kernel)) (fun _ _ _ _ _ => pg_name (i := 4) scBody.nd rfl (.inl rfl)) (fun _ _ _ _ _ => pts_nil) (fun _ _ _ _ _ => pe_ix (r := rIxT K) ix_tup (pv 4) pe_int (fun _ _ => rfl))))
    (Evl.pss_cut (ps_if (pt_truth (pe_lc (own := [("_law_v", 5)]) (g := gName 5) rfl scBody.nd (pi_list (pe_cl CF hr (pa_cons (pv 0) (pa_cons pe_int pa_nil)))) (blkOk_by (N := nBody) (sc := defScope sBody) (by decide +kernel)) (fun _ _ _ _ _ => pg_name (i := 5) scBody.nd rfl (.inl rfl)) (fun _ _ _ _ _ => pts_one (pt_cmpR (r := rIn K true) op_notIn_seq (pv 5) (pv 3) rfl)) (fun _ _ _ _ _ => pv 5)) (by intro _; rfl)) (pss_one (ps_ret pe_non)) pss_nil)
    (pss_cons (ps_set (i := 6) scBody.nd rfl (.inl rfl) (pe_op op_rep (pe_lst (pa_cons pe_int pa_nil)) (pv 2)))
    (Evl.pss_cut (ps_for PassesOwn.never rfl (pi_enum rfl me (pa_cons (pv 3) pa_nil)) (pg_tup rfl (pgs_cons (pg_name (i := 7) scBody.nd rfl (.inl rfl)) (pgs_cons (pg_name (i := 5) scBody.nd rfl (.inl rfl)) pgs_nil)))
       (pss_one (ps_asg (pv 7) (pg_sub (pv 6) (pe_op op_sub (pe_op op_sub (pv 2) pe_int) (pv 5)) set_list))))
    (pss_one (ps_ret (pe_cl CS hr (pa_cons (pv 0) (pa_cons (pv 6) (pa_cons (pe_callB call_len_seq rfl ml PySem.boot_len (pa_cons (pv 1) pa_nil)) (pa_cons pe_dnewK pa_nil)))))))))), ?_⟩
  have hwl : ws.length = vs.length := by rw [hws.len, List.length_map]
  refine ⟨fun σ H' => ∃ l, σ = [some v, some (.ref a), some (.int (wd : Nat)), some (.ref l), none, none, none, none] ∧ Same H H' ∧ H' l = some (.lst (intsN vs)), ?_, ?_⟩
  · refine ⟨_, rfl, a, rfl, ⟨ws, ha⟩, fun Dl hDl => ?_⟩
    refine lc_tup (xs := ws) (fun i H' => Same H H' ∧ H' Dl = some (.lst (intsN (vs.take i)))) ?_ ?_ ?_ ?_
    · exact ⟨same_new hDl _, upd_same⟩
    · rintro i H' _ ⟨s1, _⟩
      exact sqT_same s1 ha
    · rintro i x H1 hx ⟨s1, h1⟩
      have hiv : i < vs.length := by rw [← hwl]; exact (List.getElem?_eq_some_iff.mp hx).1
      obtain ⟨y', hy', hty⟩ := hws.get (i := i) (t := .var vs[i]) (by rw [List.getElem?_map, List.getElem?_eq_getElem hiv]; rfl)
      rw [hx] at hy'
      cases hy'
      obtain ⟨g, rfl, hg⟩ := tr_var hty
      refine ⟨rfl, _, rfl, g, _, 1, _, rfl, rfl, sqT_same s1 hg, at1, _, h1, small1000 (by simp; omega), same_mut s1 hDl, ?_⟩
      rw [upd_same, List.take_add_one, List.getElem?_eq_getElem hiv]
      show _ = some (HO.lst (List.map _ _))
      rw [List.map_append]
      rfl
    · rintro H1 ⟨s1, h1⟩
      rw [List.take_of_length_le (by omega)] at h1
      exact ⟨Dl, rfl, s1, h1⟩
  rintro σ H1 ⟨l, rfl, s1, hl⟩
  refine ⟨fun σ H' => σ = [some v, some (.ref a), some (.int (wd : Nat)), some (.ref l), none, none, none, none] ∧ Same H H' ∧ H' l = some (.lst (intsN vs)) ∧ Fr (· ∈ vs) 0 t, ?_, ?_⟩
  · refine ⟨_, rfl, v, t, 0, m, rfl, hm, ht.ext (Te.of' s1), hd, hz, fun g H2 s2 h2 => ?_⟩
    have hfl := fre_len t 0
    refine ⟨g, rfl, ⟨_, SqL.of h2⟩, fun Dl hDl => ?_⟩
    refine lc_it (walk_list (xs := intsN (fre 0 t))) (fun i H' => Same H2 H' ∧ ∃ acc, H' Dl = some (.lst acc) ∧ acc.length ≤ i ∧ (acc.isEmpty = true ↔ ∀ v ∈ (fre 0 t).take i, v ∈ vs)) ?_ ?_ ?_ ?_
    · exact ⟨same_new hDl _, [], upd_same, Nat.le_refl _, by simp⟩
    · rintro i H' _ ⟨s3, _⟩
      exact SqL.of (s3 _ _ h2)
    · rintro i x H4 H3 hi ⟨s3, acc, hacc, hal, hiff⟩ ⟨rfl, hx⟩
      rw [List.length_map] at hi
      have ex : x = V.int (((fre 0 t)[i] : Nat) : Int) := by
        rw [List.getElem?_map, List.getElem?_eq_getElem hi] at hx
        exact (Option.some.inj hx).symm
      subst ex
      have hl3 := s3 _ _ (s2 _ _ hl)
      have hin : inV (V.int (((fre 0 t)[i] : Nat) : Int)) (intsN vs) = decide ((fre 0 t)[i] ∈ vs) := inV_nat _ _
      have htk : (fre 0 t).take (i + 1) = (fre 0 t).take i ++ [(fre 0 t)[i]] := by rw [List.take_add_one, List.getElem?_eq_getElem hi]; rfl
      refine ⟨rfl, _, rfl, _, rfl, l, _, rfl, .inl (SqL.of hl3), rfl, flat_ints vs, _, rfl, ?_⟩
      rw [hin]
      by_cases hv : (fre 0 t)[i] ∈ vs
      · rw [decide_eq_true hv]
        refine iteF ⟨s3, acc, hacc, by omega, ?_⟩
        rw [hiff, htk]
        simp only [List.mem_append, List.mem_singleton]
        exact ⟨fun h v hv' => hv'.elim (h v) (fun e => e ▸ hv), fun h v hv' => h v (.inl hv')⟩
      · rw [decide_eq_false hv]
        refine iteT ⟨_, rfl, acc, hacc, Nat.lt_of_le_of_lt hal (by rw [sizeLine_eq]; omega), same_mut s3 hDl, _, upd_same, by simp; omega, ?_⟩
        rw [htk]
        constructor
        · intro z; simp at z
        · intro z; exact (hv (z _ (List.mem_append_right _ (List.mem_singleton.mpr rfl)))).elim
    · rintro H3 ⟨s3, acc, hacc, hal, hiff⟩
      rw [List.take_of_length_le (by rw [List.length_map]; exact Nat.le_refl _)] at hiff
      refine ⟨_, .inl ⟨acc, SqL.of hacc, rfl⟩, ?_⟩
      have sA := s1.trans (s2.trans s3)
      by_cases hfr : Fr (· ∈ vs) 0 t
      · have e : acc.isEmpty = true := hiff.mpr hfr
        rw [e]
        exact iteF ⟨rfl, sA, s3 _ _ (s2 _ _ hl), hfr⟩
      · have e : acc.isEmpty = false := by
          cases z : acc.isEmpty with
          | false => rfl
          | true => exact (hfr (hiff.mp z)).elim
        rw [e]
        exact iteT (q2 H3 sA (by unfold bodyO; rw [if_neg hfr]))
  rintro σ H2 ⟨rfl, s2, hl2, hfr⟩
  refine ⟨le_line (by simp), fun g0 hg0 => ⟨_, rfl, g0, _, _, rfl, rfl, upd_same, by omega, by omega, le_line (by simp; omega), fun g1 hg1 => ?_⟩⟩
  have s3 := (same_new hg0 (HO.lst [V.int 0])).trans (same_new hg1 (HO.lst ((List.replicate ((wd : Nat) : Int).toNat [V.int 0]).flatten)))
  have sA := s2.trans s3
  have hg10 : H g1 = none := (s2.trans (same_new hg0 (HO.lst [V.int 0]))).free hg1
  have er : (List.replicate ((wd : Nat) : Int).toNat [V.int 0]).flatten = List.replicate wd (V.int 0) := by
    rw [show ((wd : Nat) : Int).toNat = wd by omega]
    exact repl_flat _ _
  have ngl : l ≠ g1 := ne_of_none ((same_new hg0 _) _ _ hl2) hg1
  refine ⟨fun σ H' => ∃ x5 x7 ns, σ = [some v, some (.ref a), some (.int (wd : Nat)), some (.ref l), none, x5, some (.ref g1), x7] ∧ Same H H' ∧ H' g1 = some (.lst (intsN ns)) ∧ ns.length = wd ∧ ∀ (j : Nat) u, vs[j]? = some u → ns[wd - 1 - u]? = some j, ?_, ?_⟩
  · refine ⟨_, rfl, l, _, rfl, SqL.of (s3 _ _ hl2), ?_⟩
    refine for_it (walk_enum (xs := intsN vs)) (fun i σ H' => ∃ x5 x7 ns, σ = [some v, some (.ref a), some (.int (wd : Nat)), some (.ref l), none, x5, some (.ref g1), x7] ∧ Same H H' ∧ H' l = some (.lst (intsN vs)) ∧ H' g1 = some (.lst (intsN ns)) ∧ ns.length = wd ∧ ∀ (j : Nat) u, j < i → vs[j]? = some u → ns[wd - 1 - u]? = some j) ?_ ?_ ?_ ?_
    · exact ⟨_, _, List.replicate wd 0, rfl, sA, s3 _ _ hl2, by rw [upd_same, er, intsN, List.map_replicate]; rfl, by simp, fun j u hj => by omega⟩
    · rintro i σ H' _ ⟨_, _, _, _, _, h5, _⟩
      exact SqL.of h5
    · rintro i x σ H4 H5 hi ⟨x5, x7, ns, rfl, s4, hl4, hg4, hel, henv⟩ ⟨A1, x', y, rfl, hA1, rfl, ex, hy⟩
      cases ex
      rw [List.length_map] at hi
      have ey : y = V.int ((vs[i] : Nat) : Int) := by
        have hy : (intsN vs)[i]? = some y := hy
        rw [List.getElem?_map, List.getElem?_eq_getElem hi] at hy
        exact (Option.some.inj hy).symm
      subst ey
      have hvi := hvw _ (List.getElem_mem hi)
      have s5 := same_new hA1 (HO.tup [.int (i : Nat), V.int ((vs[i] : Nat) : Int)])
      have hg5 := s5 _ _ hg4
      have eix : ((wd : Nat) : Int) - 1 - ((vs[i] : Nat) : Int) = ((wd - 1 - vs[i] : Nat) : Int) := by omega
      refine ⟨A1, _, rfl, SqT.of upd_same, rfl, _, _, rfl, _, _, rfl, rfl, ?_⟩
      refine ⟨_, rfl, _, rfl, _, rfl, _, _, rfl, rfl, _, rfl, _, _, rfl, rfl, g1, intsN ns, _, wd - 1 - vs[i], rfl, rfl, hg5, by rw [eix]; exact ixN_nat (by rw [List.length_map]; omega), ?_⟩
      refine ⟨_, _, ns.set (wd - 1 - vs[i]) i, rfl, same_mut (s4.trans s5) hg10, ?_, ?_, by rw [List.length_set]; exact hel, fun j u hj hu => ?_⟩
      · rw [upd_ne ngl]
        exact s5 _ _ hl4
      · rw [upd_same]
        unfold intsN
        rw [List.map_set]
      · by_cases hji : j = i
        · subst hji
          rw [List.getElem?_eq_getElem hi] at hu
          cases hu
          rw [List.getElem?_set_self (by omega)]
        · have hne : wd - 1 - vs[i] ≠ wd - 1 - u := fun e => by
            have hjl := (List.getElem?_eq_some_iff.mp hu).1
            have e1 : vs[j] = u := (List.getElem?_eq_some_iff.mp hu).2
            have := hvw _ (List.getElem_mem hjl)
            exact hji ((List.getElem_inj hnd).mp (by omega))
          rw [List.getElem?_set_ne hne]
          exact henv j u (by omega) hu
    · rintro σ H4 ⟨x5, x7, ns, rfl, s4, hl4, hg4, hel, henv⟩
      refine ⟨x5, x7, ns, rfl, s4, hg4, hel, fun j u hu => henv j u ?_ hu⟩
      have := (List.getElem?_eq_some_iff.mp hu).1
      rw [List.length_map]
      exact this
  rintro σ H3 ⟨x5, x7, ns, rfl, s4, hg4, hel, henv⟩
  refine ⟨_, rfl, _, rfl, _, rfl, a, _, rfl, .inr (sqT_same s4 ha), fun Dn hDn => ?_⟩
  have s5 := same_new hDn (HO.dK [])
  have hEnv : ∀ u ∈ vs, u < wd ∧ (ns.map Ent.lvl)[wd - 1 - u]? = some (.lvl (vs.idxOf u)) := fun u hu => by
    have hx : vs.idxOf u < vs.length := List.idxOf_lt_length_iff.mpr hu
    have e1 : vs[vs.idxOf u]? = some u := by rw [List.getElem?_eq_getElem hx, List.getElem_idxOf hx]
    exact ⟨hvw u hu, by rw [List.getElem?_map, henv _ _ e1]; rfl⟩
  have sh := show_ren (vs := vs) (env := ns.map Ent.lvl) (wd := wd) (by rw [List.length_map]; exact hel) hEnv t m 0 hd h0.hf hfr
  have hers : ∀ (ns : List Nat), ERs K (upd H3 Dn (HO.dK [])) N (intsN ns) (ns.map Ent.lvl) := by
    intro ns
    induction ns with
    | nil => exact .nil
    | cons k ns ih => exact .cons (.lvl k) ih
  rw [show lvs vs.length 0 = [] from rfl, List.append_nil] at sh
  refine ⟨v, g1, Dn, t, intsN ns, ns.map Ent.lvl, fE [], vs.length, ren (spo vs) 0 t, ?_, ht.ext (Te.of' (s4.trans s5)), ⟨m, hd⟩, s5 _ _ hg4, hers ns, by rw [List.length_map]; omega, hN2, sh.mono (by omega), ⟨[], .inl upd_same, FlL.nil.flK⟩, (fun k ar b e => by cases e), fun v' H' s' h' => ?_⟩
  · rw [hwl]; rfl
  · exact q1 v' _ H' ((s4.trans s5).trans s') (by unfold bodyO; rw [if_pos hfr]) h'
end
end KP

/-! match -/
namespace KP
open PySem PyProof.Rows L2 LamX NdefX KL KM KD
abbrev sMatch : Stmt := top 37
/-! ### the law's reading by spots, plainly -/
noncomputable def stp (ot : Option Tm) (x : Tm) (E : Ens) : Option Ens := match x with
  | .node (.hole n) as => lm (.node (.hole n) as) ot E
  | _ => some E
theorem stp_hole {ot : Option Tm} {n : Int} {as : List Tm} {E : Ens} : stp ot (.node (.hole n) as) E = lm (.node (.hole n) as) ot E := rfl
theorem stp_not {ot : Option Tm} {x : Tm} {E : Ens} (h : ∀ n as, x ≠ .node (.hole n) as) : stp ot x E = some E := by
  unfold stp
  split
  · rename_i n as; exact (h n as rfl).elim
  · rfl
noncomputable def lmF (t : Tm) (pl : List Nat) : List Sp4 → Ens → Option Ens
  | [], E => some E
  | x :: xs, E => match stp (getN t (pl ++ x.1)) x.2.1 E with
    | none => none
    | some E1 => lmF t pl xs E1
theorem lmF_app (t : Tm) (pl : List Nat) : ∀ (xs ys : List Sp4) (E : Ens), lmF t pl (xs ++ ys) E = match lmF t pl xs E with
    | none => none
    | some E1 => lmF t pl ys E1
  | [], ys, E => rfl
  | x :: xs, ys, E => by
    show (match stp (getN t (pl ++ x.1)) x.2.1 E with | none => none | some E1 => lmF t pl (xs ++ ys) E1) = match (match stp (getN t (pl ++ x.1)) x.2.1 E with | none => none | some E1 => lmF t pl xs E1) with | none => none | some E1 => lmF t pl ys E1
    cases stp (getN t (pl ++ x.1)) x.2.1 E with
    | none => rfl
    | some E1 => exact lmF_app t pl xs ys E1
theorem lmF_map (t : Tm) (pl : List Nat) (j : Nat) : ∀ (xs : List Sp4) (E : Ens), lmF t pl (xs.map fun x => (j :: x.1, x.2)) E = lmF t (pl ++ [j]) xs E
  | [], E => rfl
  | x :: xs, E => by
    show (match stp (getN t (pl ++ j :: x.1)) x.2.1 E with | none => none | some E1 => lmF t pl (xs.map fun x => (j :: x.1, x.2)) E1) = match stp (getN t ((pl ++ [j]) ++ x.1)) x.2.1 E with | none => none | some E1 => lmF t (pl ++ [j]) xs E1
    rw [List.append_assoc]
    show (match stp (getN t (pl ++ j :: x.1)) x.2.1 E with | none => none | some E1 => lmF t pl (xs.map fun x => (j :: x.1, x.2)) E1) = match stp (getN t (pl ++ j :: x.1)) x.2.1 E with | none => none | some E1 => lmF t (pl ++ [j]) xs E1
    cases stp (getN t (pl ++ j :: x.1)) x.2.1 E with
    | none => rfl
    | some E1 => exact lmF_map t pl j xs E1
theorem lmF_at (t : Tm) (pl : List Nat) {i : Nat} {xs : List Sp4} {x : Sp4} {E E1 : Ens} (hx : xs[i]? = some x) (h : lmF t pl (xs.take i) E = some E1) :
    lmF t pl (xs.take (i + 1)) E = stp (getN t (pl ++ x.1)) x.2.1 E1 ∧ (stp (getN t (pl ++ x.1)) x.2.1 E1 = none → lmF t pl xs E = none) := by
  have e1 : lmF t pl (xs.take (i + 1)) E = stp (getN t (pl ++ x.1)) x.2.1 E1 := by
    rw [List.take_add_one, hx, lmF_app, h]
    show (match stp (getN t (pl ++ x.1)) x.2.1 E1 with | none => none | some E1 => some E1) = _
    cases stp (getN t (pl ++ x.1)) x.2.1 E1 <;> rfl
  refine ⟨e1, fun hn => ?_⟩
  have e2 : xs = xs.take (i + 1) ++ xs.drop (i + 1) := (List.take_append_drop _ _).symm
  rw [e2, lmF_app, e1, hn]
theorem partsTM (t : Tm) : partsT t = partsM t := by cases t <;> rfl
theorem getN_snoc (j : Nat) : ∀ (pl : List Nat) (t : Tm), getN t (pl ++ [j]) = (getN t pl).bind fun u => (partsM u)[j]?
  | [], t => by
    show (match (partsT t)[j]? with | none => none | some p => getN p []) = (partsM t)[j]?
    rw [partsTM]
    cases (partsM t)[j]? with
    | none => rfl
    | some p => cases p <;> rfl
  | k :: pl, t => by
    show (match (partsT t)[k]? with | none => none | some p => getN p (pl ++ [j])) = (match (partsT t)[k]? with | none => none | some p => getN p pl).bind _
    cases (partsT t)[k]? with
    | none => rfl
    | some p => exact getN_snoc j pl p
theorem getN_nil (t : Tm) : getN t [] = some t := by cases t <;> rfl
theorem lmF_spt (t : Tm) (p : Tm) : ∀ w h pl E, lmF t pl (spt p w h) E = lm p (getN t pl) E := by
  refine Tm.ind (P := fun p => ∀ w h pl E, lmF t pl (spt p w h) E = lm p (getN t pl) E) ?_ ?_ ?_ p
  · intro i w h pl E
    rw [lm_var]
    simp [spt, lmF, stp]
  · intro u xs w h pl E
    rw [lm_atom]
    simp [spt, lmF, stp]
  · intro k ps ih w h pl E
    by_cases hk : ∃ n, k = .hole n
    · obtain ⟨n, rfl⟩ := hk
      have e : spt (.node (.hole n) ps) w h = [([], .node (.hole n) ps, w, h)] := by simp [spt]
      rw [e]
      show (match stp (getN t (pl ++ [])) (.node (.hole n) ps) E with | none => none | some E1 => some E1) = _
      rw [List.append_nil, stp_hole]
      cases lm (.node (.hole n) ps) (getN t pl) E <;> rfl
    · have hk : ∀ n, k ≠ .hole n := fun n e => hk ⟨n, e⟩
      rw [spt_node hk, lm_node hk]
      show (match stp (getN t (pl ++ [])) (.node k ps) E with | none => none | some E1 => lmF t pl (sptL k ps 0 w) E1) = _
      rw [stp_not (fun n as e => hk n (by injection e))]
      have go : ∀ (ps' : List Tm) (j : Nat) (E : Ens), (∀ p ∈ ps', p ∈ ps) → lmF t pl (sptL k ps' j w) E = lmL ps' j (getN t pl) E := by
        intro ps'
        induction ps' with
        | nil => intro j E _; rw [sptL_nil, lmL_nil]; rfl
        | cons p ps' ih2 =>
          intro j E hm
          rw [sptL_cons, lmF_app, lmF_map, ih p (hm p List.mem_cons_self), getN_snoc, lmL_cons]
          cases lm p ((getN t pl).bind fun u => (partsM u)[j]?) E with
          | none => rfl
          | some E1 => exact ih2 (j + 1) E1 fun q hq => hm q (List.mem_cons_of_mem _ hq)
      exact go ps 0 E fun _ h => h
theorem mem_sptL {k : Kd} {w : Nat} {x : Sp4} : ∀ {ps : List Tm} {j : Nat}, x ∈ sptL k ps j w → ∃ (i : Nat) (p : Tm) (h : Bool) (y : Sp4), ps[i]? = some p ∧ y ∈ spt p (w + bnd k (j + i)) h ∧ x = ((j + i) :: y.1, y.2)
  | [], j, h => by rw [sptL_nil] at h; cases h
  | p :: ps, j, h => by
    rw [sptL_cons] at h
    rcases List.mem_append.mp h with h | h
    · obtain ⟨y, hy, rfl⟩ := List.mem_map.mp h
      exact ⟨0, p, _, y, rfl, hy, rfl⟩
    · obtain ⟨i, q, h', y, e1, e2, e3⟩ := mem_sptL h
      refine ⟨i + 1, q, h', y, by simpa using e1, ?_, ?_⟩
      · rw [show j + (i + 1) = j + 1 + i by omega]; exact e2
      · rw [show j + (i + 1) = j + 1 + i by omega]; exact e3
theorem spt_facts {hs : List (Int × Nat)} : ∀ {d w : Nat} {p : Tm}, Pt hs d w p → ∀ h, ∀ x ∈ spt p w h, x.2.2.1 ≤ w + d ∧ ∃ d', Pt hs d' x.2.2.1 x.2.1 := by
  intro d w p hp
  induction hp with
  | @var d w i h =>
    intro hb x hx
    simp [spt] at hx
    subst hx
    exact ⟨Nat.le_add_right _ _, 0, .var h⟩
  | @atom d w u xs =>
    intro hb x hx
    simp [spt] at hx
    subst hx
    exact ⟨Nat.le_add_right _ _, 0, .atom⟩
  | @hole d w n vs h1 h2 h3 h4 =>
    intro hb x hx
    simp [spt] at hx
    subst hx
    exact ⟨Nat.le_add_right _ _, d + 1, .hole h1 h2 h3 h4⟩
  | @node d w k ps h1 h2 h3 ih =>
    intro hb x hx
    rw [spt_node h1] at hx
    rcases List.mem_cons.mp hx with rfl | hx
    · exact ⟨Nat.le_add_right _ _, d + 1, .node h1 h2 h3⟩
    · obtain ⟨i, p, h', y, e1, e2, rfl⟩ := mem_sptL hx
      rw [Nat.zero_add] at e2
      obtain ⟨a, b⟩ := ih i p e1 h' y e2
      have := bnd_le k i
      exact ⟨by show y.2.2.1 ≤ w + (d + 1); omega, b⟩
theorem getN_parts {t u : Tm} {k : Nat} {ks : List Nat} (h : getN t (k :: ks) = some u) : ∃ p, (partsT t)[k]? = some p ∧ getN p ks = some u := by
  have h : (match (partsT t)[k]? with | none => none | some p => getN p ks) = some u := h
  cases e : (partsT t)[k]? with
  | none => rw [e] at h; cases h
  | some p => rw [e] at h; exact ⟨p, rfl, h⟩
theorem getN_facts : ∀ (pl : List Nat) {t u : Tm} {D : Nat}, getN t pl = some u → H0 t → dle D t → H0 u ∧ dle D u ∧ sz u ≤ sz t ∧ pl.length ≤ D
  | [], t, u, D, h, h0, hd => by
    rw [getN_nil] at h
    cases h
    exact ⟨h0, hd, Nat.le_refl _, Nat.zero_le _⟩
  | k :: pl, t, u, D, h, h0, hd => by
    obtain ⟨p, hp, hg⟩ := getN_parts h
    have hm := List.mem_of_getElem? hp
    obtain ⟨k', ps, rfl⟩ : ∃ k ps, t = .node k ps := by
      cases t with
      | node k ps => exact ⟨k, ps, rfl⟩
      | _ => cases hm
    cases D with
    | zero => exact hd.elim
    | succ D =>
      obtain ⟨a1, a2, a3, a4⟩ := getN_facts pl hg ((all_node.mp h0).2 p hm) (hd.2 p hm)
      exact ⟨a1, dle_mono a2 (Nat.le_succ D), Nat.le_trans a3 (sz_part hm), by simp only [List.length_cons]; omega⟩
section
variable {P : Program} {w : World} {K : PySem.W.Frag} {mg : Str → Option Value} {base : Heap} {T : List (Addr × Str)}
def spMatch (K : PySem.W.Frag) (hs : List (Int × Nat)) (d D : Nat) : Sp := fun us H Q _ => ∃ (e q : Addr) (vp vt : V) (p t : Tm) (wd : Nat), us = [.ref e] ∧ SqL K H e [.ref q] ∧ SqT K H q [vp, vt, .int (wd : Nat)] ∧ Tr K H vp p ∧ Tr K H vt t ∧ Pt hs d wd p ∧ (∃ ph, All ph pa0 p) ∧ sz p ≤ 1000000 ∧ wd ≤ 100 ∧ H0 t ∧ dle D t ∧ sz t ≤ 1000000 ∧
  (∀ g kvs E H', Same H H' → H g = none → lm p (some t) [] = some E → fillN (fE E) (d + D) p = t → H' g = some (.dK kvs) → FlL K H' kvs E → (∀ e ∈ E, H0 e.2.2) → Q (.ref g) H') ∧
  (∀ H', Same H H' → (∀ E, lm p (some t) [] = some E → fillN (fE E) (d + D) p ≠ t) → Q .non H')
abbrev nMatch : List Str := ["_law_pairs", "_law_found", "_law_pattern", "_law_term", "_law_wide", "_law_place", "_law_node_here", "_law_deep", "_law_head", "_law_part", "_law_body_here"]
theorem scMatch : FnScope nMatch ["_law_pairs"] (defScope sMatch) := ⟨rfl, rfl, rfl, by decide +kernel, rfl, by decide +kernel, by decide +kernel⟩
open Classical in
theorem ok_match {hs : List (Int × Nat)} {d D L : Nat} {f fs fg fb fd' : Addr} {fd fds fdg fdb fdd : FuncData} (hn : (hs.map (·.1)).Nodup) (hl : hs.length ≤ 50) (hd : d ≤ 20) (hD : 2 * (d + D) + 5 ≤ 64)
    (F : Fun K "_law_match" "_law_match" sMatch f fd) (ml : mg "len" = none)
    (CS : Cl P w K mg base L "_law_spots" fs fds ["_law_term", "_law_wide", "_law_head"] (spSpots K (d + 1))) (CG : Cl P w K mg base L "_law_get" fg fdg ["_law_term", "_law_place"] (spGet K))
    (CB : Cl P w K mg base L "_law_body" fb fdb ["_law_part", "_law_args", "_law_deep"] (spBody K (D + 1))) (CD : Cl P w K mg base L "_law_done" fd' fdd ["_law_term", "_law_wide", "_law_filling"] (spDone K (d + D + 2))) :
    FnOk P w K mg base CX0 (L + 1) f fd ["_law_pairs"] (spMatch K hs d D) := by
  refine F.ok scMatch (fun vs H Q E h => ?_) (fun cdv A outer s H vs Q E hr h => ?_)
  · obtain ⟨e, q, vp, vt, p, t, wd, rfl, _⟩ := h; rfl
  obtain ⟨e, qa, vp, vt, p, t, wd, rfl, he, hq, hp, ht, hpt, ⟨php, hap⟩, hsp, hwd, h0, hdt, hst, q1, q2⟩ := h
  have hu := hu_of hr
  have hu64 := hr.units
  refine ⟨_, pss_cons (ps_set (i := 1) scMatch.nd rfl (.inl rfl) pe_dnewK)
    (Evl.pss_cut (ps_for PassesOwn.never rfl (pi_list (pv 0)) (pg_tup rfl (pgs_cons (pg_name (i := 2) scMatch.nd rfl (.inl rfl)) (pgs_cons (pg_name (i := 3) scMatch.nd rfl (.inl rfl)) (pgs_cons (pg_name (i := 4) scMatch.nd rfl (.inl rfl)) pgs_nil))))
      (pss_one (ps_for PassesOwn.never rfl (pi_list (pe_cl CS hr (pa_cons (pv 2) (pa_cons (pv 4) (pa_cons pe_bl pa_nil))))) (pg_tup rfl (pgs_cons (pg_name (i := 5) scMatch.nd rfl (.inl rfl)) (pgs_cons (pg_name (i := 6) scMatch.nd rfl (.inl rfl)) (pgs_cons (pg_name (i := 7) scMatch.nd rfl (.inl rfl)) (pgs_cons (pg_name (i := 8) scMatch.nd rfl (.inl rfl)) pgs_nil)))))
        (pss_one (ps_if (PW.pt (pw_and (pt_cmpR op_eq (pe_ix ix_tup (pv 6) pe_int (fun _ _ => rfl)) pe_str (nomark _)) (pw_and1 (pt_cmp (pc_dnotin hu (pe_ix ix_tup (pv 6) pe_int (fun _ _ => rfl)) (pv 1))))))
          (pss_cons (ps_set (i := 9) scMatch.nd rfl (.inl rfl) (pe_cl CG hr (pa_cons (pv 3) (pa_cons (pv 5) pa_nil))))
          (pss_cons (ps_set (i := 10) scMatch.nd rfl (.inl rfl) (pe_ifExp (pt_cmpR op_isN (pv 9) pe_non (nomark _)) pe_non (pe_cl CB hr (pa_cons (pv 9) (pa_cons (pe_ix ix_tup (pv 6) pe_int (fun _ _ => rfl)) (pa_cons (pv 7) pa_nil))))))
          (pss_cons (ps_if (pt_cmpR op_isN (pv 10) pe_non (nomark _)) (pss_one (ps_ret pe_non)) pss_nil)
          (pss_one (ps_dput hu (pv 1) (pe_ix ix_tup (pv 6) pe_int (fun _ _ => rfl)) (pe_tup (pa_cons (pe_callB call_len_seq rfl ml PySem.boot_len (pa_cons (pe_ix ix_tup (pv 6) pe_int (fun _ _ => rfl)) pa_nil)) (pa_cons (pv 10) pa_nil))) rfl))))) pss_nil)))))
    (pss_cons (ps_for PassesOwn.never rfl (pi_list (pv 0)) (pg_tup rfl (pgs_cons (pg_name (i := 2) scMatch.nd rfl (.inl rfl)) (pgs_cons (pg_name (i := 3) scMatch.nd rfl (.inl rfl)) (pgs_cons (pg_name (i := 4) scMatch.nd rfl (.inl rfl)) pgs_nil))))
      (pss_one (ps_if (pt_cmpR (op_neD hu64) (pe_cl CD hr (pa_cons (pv 2) (pa_cons (pv 4) (pa_cons (pv 1) pa_nil)))) (pv 3) (nomark _)) (pss_one (ps_ret pe_non)) pss_nil)))
    (pss_one (ps_ret (pv 1))))), ?_⟩
  intro Df hDf
  have s1 := same_new hDf (HO.dK [])
  have hlm := lmF_spt t p wd false [] []
  rw [getN_nil] at hlm
  refine ⟨fun σ H' => ∃ x2 x3 x4 x5 x6 x7 x8 x9 x10 kvs E, σ = [some (.ref e), some (.ref Df), x2, x3, x4, x5, x6, x7, x8, x9, x10] ∧ Same H H' ∧ H' Df = some (.dK kvs) ∧ FlL K H' kvs E ∧ lm p (some t) [] = some E ∧ GE hs D E ∧ ∀ e ∈ E, H0 e.2.2, ?_, ?_⟩
  · refine ⟨_, rfl, e, rfl, ⟨_, sqL_ext (ExtN.of s1) he⟩, ?_⟩
    refine for_it (walk_list (xs := [V.ref qa])) (fun i σ H' => (i = 0 ∧ σ = [some (.ref e), some (.ref Df), none, none, none, none, none, none, none, none, none] ∧ H' = upd H Df (.dK [])) ∨ (i = 1 ∧ ∃ x2 x3 x4 x5 x6 x7 x8 x9 x10 kvs E, σ = [some (.ref e), some (.ref Df), x2, x3, x4, x5, x6, x7, x8, x9, x10] ∧ Same H H' ∧ H' Df = some (.dK kvs) ∧ FlL K H' kvs E ∧ lm p (some t) [] = some E ∧ GE hs D E ∧ ∀ e ∈ E, H0 e.2.2)) ?_ ?_ ?_ ?_
    · exact .inl ⟨rfl, rfl, rfl⟩
    · rintro i σ H' _ (⟨_, _, rfl⟩ | ⟨_, _, _, _, _, _, _, _, _, _, _, _, _, s2, _⟩)
      · exact sqL_ext (ExtN.of s1) he
      · exact sqL_ext (ExtN.of s2) he
    · rintro i x σ H1 H2 hi (⟨rfl, rfl, rfl⟩ | ⟨rfl, _⟩) ⟨rfl, hx⟩
      · cases hx
        refine ⟨qa, _, rfl, sqT_same s1 hq, rfl, _, _, rfl, _, _, rfl, _, _, rfl, rfl, ?_⟩
        refine ⟨_, rfl, _, rfl, vp, p, wd, false, d, rfl, Nat.lt_succ_self d, hp.ext (Te.of' s1), pt_dle hpt, hsp, fun g xs H2 s2 _ hg hxs => ⟨g, rfl, ⟨_, SqL.of hg⟩, ?_⟩⟩
        have hxl : xs.length = (spt p wd false).length := by rw [tpA_len hxs, List.length_map]
        refine for_it (walk_list (xs := xs)) (fun i σ H' => ∃ x5 x6 x7 x8 x9 x10 kvs E, σ = [some (.ref e), some (.ref Df), some vp, some vt, some (.int (wd : Nat)), x5, x6, x7, x8, x9, x10] ∧ Same H H' ∧ H' g = some (.lst xs) ∧ TpAll K H' xs ((spt p wd false).map encS) ∧ H' Df = some (.dK kvs) ∧ FlL K H' kvs E ∧ lmF t [] ((spt p wd false).take i) [] = some E ∧ GE hs D E ∧ ∀ e ∈ E, H0 e.2.2) ?_ ?_ ?_ ?_
        · exact ⟨_, _, _, _, _, _, [], [], rfl, s1.trans s2, hg, hxs, s2 _ _ upd_same, .nil, rfl, ⟨List.nodup_nil, fun e h => by cases h⟩, fun e h => by cases h⟩
        · rintro i σ H' _ ⟨_, _, _, _, _, _, _, _, _, _, h5, _⟩
          exact SqL.of h5
        · rintro i x σ H3' H3 hi ⟨x5, x6, x7, x8, x9, x10, kvs, E, rfl, s3, hg3, hxs3, hDf3, hfl, hlF, hGE, hE0⟩ ⟨rfl, hx⟩
          have hiS : i < (spt p wd false).length := by omega
          obtain ⟨v', hv', tv⟩ := tpA_get (i := i) (d := encS (spt p wd false)[i]) hxs3 (by rw [List.getElem?_map, List.getElem?_eq_getElem hiS]; rfl)
          rw [hx] at hv'
          cases hv'
          obtain ⟨hdeep, d', hptx⟩ := spt_facts hpt false _ (List.getElem_mem hiS)
          obtain ⟨hstep, hnone⟩ := lmF_at t [] (List.getElem?_eq_getElem hiS) hlF
          generalize (spt p wd false)[i] = X at tv hdeep hptx hstep hnone
          obtain ⟨pl, node, deep, hdb⟩ := X
          rw [List.nil_append] at hstep hnone
          have hdeep : deep ≤ wd + d := hdeep
          have hptx : Pt hs d' deep node := hptx
          have hstep : lmF t [] ((spt p wd false).take (i + 1)) [] = stp (getN t pl) node E := hstep
          have hnone : stp (getN t pl) node E = none → lmF t [] (spt p wd false) [] = none := hnone
          obtain ⟨sa, sb, sy, rfl, e1, e2, e3⟩ := spot_tp tv
          have e2 : SqT K H3 sb (intsN pl) := e2
          have e3 : Tr K H3 sy node := e3
          refine ⟨sa, _, rfl, e1, rfl, _, _, rfl, _, _, rfl, _, _, rfl, _, _, rfl, rfl, ?_⟩
          by_cases hh : ∃ n as, node = .node (.hole n) as
          · obtain ⟨n, as, rfl⟩ := hh
            obtain ⟨vs, rfl, hnd, hvl, hmem, hvlt⟩ : ∃ vs, as = vars vs ∧ vs.Nodup ∧ vs.length ≤ 3 ∧ (n, vs.length) ∈ hs ∧ ∀ v ∈ vs, v < deep := by
              cases hptx with
              | hole h1 h2 h3 h4 => exact ⟨_, rfl, h2, h4, h1, h3⟩
              | node h1 _ _ => exact (h1 n rfl).elim
            obtain ⟨a1, b1, ws1, rfl, k1, k2, k3⟩ := tr_hole e3
            rw [stp_hole, lm_hole, argv_vars] at hstep hnone
            have retN : ∀ H', Same H H' → lmF t [] (spt p wd false) [] = none → Q .non H' := fun H' s' e' => q2 H' s' fun E' he' => by rw [← hlm, e'] at he'; cases he'
            refine ⟨_, rfl, a1, _, 0, _, rfl, rfl, k1, at0, rfl, _, rfl, iteEqT (by decide +kernel) ?_⟩
            refine ⟨_, rfl, a1, _, 1, _, rfl, rfl, k1, at1, _, rfl, Df, _, rfl, .inl ⟨kvs, .inl n, .inl hDf3, rfl, rfl⟩, _, rfl, ?_⟩
            obtain ⟨z1, z2⟩ := flL_look hfl n
            cases eL : E.lookup n with
            | some y =>
              obtain ⟨ar, b'⟩ := y
              obtain ⟨aa, vb, e4, _, _⟩ := z2 ar b' eL
              rw [e4]
              rw [eL] at hstep
              exact iteF ⟨_, _, _, _, _, _, kvs, E, rfl, s3, hg3, hxs3, hDf3, hfl, hstep, hGE, hE0⟩
            | none =>
              rw [z1 eL]
              rw [eL] at hstep hnone
              refine iteT ?_
              refine ⟨_, rfl, _, rfl, vt, t, sb, pl, rfl, ht.ext (Te.of' s3), ⟨D, hdt⟩, e2, fun v9 t9 H4 s4 g4 h4 => ?_, fun H4 s4 g4 => ?_⟩
              · obtain ⟨f1, f2, f3, f4⟩ := getN_facts pl g4 h0 hdt
                obtain ⟨a9, ys9, rfl, hs9⟩ := tr_tag h4
                rw [g4] at hstep hnone
                have k14 := sqT_same s4 k1
                refine ⟨_, rfl, rfl, _, rfl, iteF ?_⟩
                refine ⟨_, rfl, _, rfl, a1, _, 2, _, rfl, rfl, k14, at2, _, rfl, .ref a9, b1, t9, ws1, vs, deep, D, rfl, Nat.lt_succ_self D, h4, f2, Nat.le_trans f3 hst, f1, sqT_same s4 k2, k3.ext (Te.of' s4), hnd, by omega, hvlt, by omega, fun v10 b10 H5 s5 eb h5 => ?_, fun H5 s5 eb => ?_⟩
                · obtain ⟨a10, ys10, rfl, hs10⟩ := tr_tag h5
                  refine ⟨_, rfl, rfl, _, rfl, iteF ?_⟩
                  have s45 := s4.trans s5
                  have k15 := sqT_same s45 k1
                  refine ⟨_, rfl, a1, _, 2, _, rfl, rfl, k15, at2, b1, _, rfl, .inr (sqT_same s45 k2), _, rfl, le_line (by simp), fun tp htp => ?_⟩
                  have s6 := same_new htp (HO.tup [V.int (ws1.length : Nat), V.ref a10])
                  have hDf6 := (s45.trans s6) _ _ hDf3
                  have hkl := hfl.len
                  have hel := ge_len hGE
                  refine ⟨_, rfl, _, rfl, a1, _, 1, _, rfl, rfl, sqT_same s6 k15, at1, Df, _, rfl, DPut.k (k := Sum.inl n) hDf6 (small1000 (by omega)), ?_⟩
                  rw [putK_new _ (z1 eL)]
                  have t7 : Te _ (upd _ Df (.dK (kvs ++ [(Sum.inl n, V.ref tp)]))) := Te.dK hDf6
                  have tA := (Te.of' (s45.trans s6)).trans t7
                  have ngD : g ≠ Df := fun e => by subst e; rw [hDf3] at hg3; cases hg3
                  have hbd : H0 b10 ∧ dle D b10 ∧ sc vs.length b10 := by
                    unfold bodyO at eb
                    by_cases hf : Fr (· ∈ vs) 0 t9
                    · rw [if_pos hf] at eb; cases eb
                      exact ⟨all_ren f1, dle_ren f2, sc_ren hf⟩
                    · rw [if_neg hf] at eb; cases eb
                  have wl : ws1.length = vs.length := by rw [k3.len, List.length_map]
                  refine ⟨_, _, _, _, _, _, _, E ++ [(n, vs.length, b10)], rfl, same_mut ((s3.trans s45).trans s6) hDf, by rw [upd_ne ngD]; exact (s45.trans s6) _ _ hg3, tpA_ext tA _ _ hxs3, upd_same, ?_, ?_, hGE.snoc eL hmem hbd.1.hf hbd.2.1 hbd.2.2, fun e' he' => ?_⟩
                  · refine (hfl.te tA).snoc ⟨rfl, tp, .ref a10, rfl, t7.seq (SqT.of ?_), (h5.ext (Te.of' s6)).ext t7⟩
                    rw [upd_same, wl]
                  · rw [hstep]
                    simp only [eb, List.length_map]
                  · rcases List.mem_append.mp he' with he' | he'
                    · exact hE0 _ he'
                    · rw [List.mem_singleton.mp he']; exact hbd.1
                · refine ⟨_, rfl, rfl, _, rfl, iteT ?_⟩
                  exact retN H5 ((s3.trans s4).trans s5) (hnone (by simp only [eb]))
              · rw [g4] at hnone
                refine ⟨_, rfl, rfl, _, rfl, iteT ?_⟩
                refine ⟨_, rfl, rfl, _, rfl, iteT ?_⟩
                exact retN H4 (s3.trans s4) (hnone rfl)
          · obtain ⟨a1, ys, rfl, hs1⟩ := tr_tag e3
            refine ⟨_, rfl, a1, _, 0, _, rfl, rfl, hs1, at0, rfl, _, rfl, iteEqF (tag_ne fun x as e => hh ⟨x, as, e⟩) ?_⟩
            rw [stp_not fun x as e => hh ⟨x, as, e⟩] at hstep
            exact ⟨_, _, _, _, _, _, kvs, E, rfl, s3, hg3, hxs3, hDf3, hfl, hstep, hGE, hE0⟩
        · rintro σ H3 ⟨x5, x6, x7, x8, x9, x10, kvs, E, rfl, s3, hg3, hxs3, hDf3, hfl, hlF, hGE, hE0⟩
          rw [List.take_of_length_le (by omega), hlm] at hlF
          exact .inr ⟨rfl, _, _, _, _, _, _, _, _, _, kvs, E, rfl, s3, hDf3, hfl, hlF, hGE, hE0⟩
      · exact absurd hi (Nat.lt_irrefl 1)
    · rintro σ H1 (⟨z, _⟩ | ⟨_, h⟩)
      · cases z
      · exact h
  rintro σ H2 ⟨x2, x3, x4, x5, x6, x7, x8, x9, x10, kvs, E, rfl, s2, hDf2, hfl, hlE, hGE, hE0⟩
  obtain ⟨_, _, g3'⟩ := lm_ok hpt (ot := some t) (E := []) (fun t' e => by cases e; exact ⟨h0.hf, hdt⟩) ⟨List.nodup_nil, fun e h => by cases h⟩ hlE
  have hφ : ∀ x ∈ nums p, ∃ ar b, fE E x = some (ar, b) ∧ (x, ar) ∈ hs ∧ Hf b ∧ dle D b ∧ sc ar b := fun x hx => by
    obtain ⟨⟨ar, b⟩, hy⟩ := g3' x hx
    obtain ⟨o1, o2, o3, o4⟩ := hGE.ok _ (look_in hy)
    exact ⟨ar, b, hy, o1, o2, o3, o4⟩
  obtain ⟨f1, f2, f3, f4, f5⟩ := pt_fill hn hpt hφ
  have hall : All (fun _ => True) pa0 (fillN (fE E) (d + D) p) := all_fill (ph := php) (ph' := fun _ => True) (fun _ _ _ => trivial) (fun h ar b e => all_mono (fun _ z => z.elim) (hE0 _ (look_in e))) f1 hap
  have sa := enc_shaped pa0_ok hall f3 hD
  have sb := enc_shaped pa0_ok h0 hdt (by omega)
  refine ⟨_, rfl, e, rfl, ⟨_, sqL_ext (ExtN.of s2) he⟩, ?_⟩
  refine for_it (walk_list (xs := [V.ref qa])) (fun i σ H' => (i = 0 ∧ σ = [some (.ref e), some (.ref Df), x2, x3, x4, x5, x6, x7, x8, x9, x10] ∧ H' = H2) ∨ (i = 1 ∧ ∃ x2 x3 x4, σ = [some (.ref e), some (.ref Df), x2, x3, x4, x5, x6, x7, x8, x9, x10] ∧ Same H2 H' ∧ fillN (fE E) (d + D) p = t)) ?_ ?_ ?_ ?_
  · exact .inl ⟨rfl, rfl, rfl⟩
  · rintro i σ H' _ (⟨_, _, rfl⟩ | ⟨_, _, _, _, _, s3, _⟩)
    · exact sqL_ext (ExtN.of s2) he
    · exact sqL_ext (ExtN.of (s2.trans s3)) he
  · rintro i x σ H3' H3 hi (⟨rfl, rfl, rfl⟩ | ⟨rfl, _⟩) ⟨rfl, hx⟩
    · cases hx
      refine ⟨qa, _, rfl, sqT_same s2 hq, rfl, _, _, rfl, _, _, rfl, _, _, rfl, rfl, ?_⟩
      refine ⟨_, rfl, _, rfl, _, rfl, vp, Df, p, wd, fE E, d + D, rfl, hp.ext (Te.of' s2), ⟨d, pt_dle hpt⟩, by omega, by omega, f1, f2, ⟨kvs, .inl hDf2, hfl.flK⟩, (fun k ar b e => ⟨D, (hGE.ok _ (look_in e)).2.2.1⟩), fun v' H3 s3 h3 => ?_⟩
      refine ⟨_, rfl, _, _, Tp.dp _ _ h3, Tp.dp _ _ (ht.ext (Te.of' (s2.trans s3))), sa, sb, _, rfl, ?_⟩
      rw [eqv_enc hall h0 sa]
      by_cases z : fillN (fE E) (d + D) p = t
      · rw [decide_eq_true z]
        exact iteF (.inr ⟨rfl, _, _, _, rfl, s3, z⟩)
      · rw [decide_eq_false z]
        refine iteT (q2 H3 (s2.trans s3) fun E' he' => ?_)
        rw [hlE] at he'
        cases he'
        exact z
    · exact absurd hi (Nat.lt_irrefl 1)
  · rintro σ H3 (⟨z, _⟩ | ⟨_, x2, x3, x4, rfl, s3, z⟩)
    · cases z
    · exact ⟨_, rfl, q1 Df kvs E H3 (s2.trans s3) hDf hlE z (s3 _ _ hDf2) (hfl.te (Te.of' s3)) hE0⟩
end
end KP

/-! spoilt -/
namespace KP
open PySem PyProof.Rows L2 LamX NdefX KL KM KD
abbrev sSpoilt : Stmt := top 39
theorem eqv_nil (ds : List PyData) : PyData.eqv (.list ds) (.list []) = ds.isEmpty := by
  cases ds <;> simp [PyData.eqv, PyData.eqvAll]
theorem shaped_intsL (ns : List Int) : SeqAt.shaped (.list (ns.map PyData.int)) = true := by
  have h : PyData.canLayAll0 (ns.map PyData.int) = true ∧ PyData.depthAll (ns.map PyData.int) = 0 := by
    induction ns with
    | nil => exact ⟨rfl, rfl⟩
    | cons n ns ih =>
      simp only [List.map_cons, PyData.canLayAll0, PyData.depthAll, PyData.canLay0, PyData.depth]
      exact ⟨by rw [ih.1]; rfl, by rw [ih.2]; rfl⟩
  have h2 : (PyData.list (ns.map PyData.int)).depth ≤ 64 := by simp only [PyData.depth]; omega
  have h1 : (PyData.list (ns.map PyData.int)).canLay0 = true := by simp only [PyData.canLay0]; exact h.1
  exact Bool.and_eq_true_iff.mpr ⟨h1, decide_eq_true h2⟩
theorem dpL_ints {K : PySem.W.Frag} {H : Hp} {p : Addr} {ns : List Int} (h : SqL K H p (ns.map V.int)) : Dp K H (.ref p) (.list (ns.map PyData.int)) := by
  refine .lst h ?_
  clear h
  induction ns with
  | nil => exact .nil
  | cons n ns ih => exact .cons (.int n) ih
theorem szL_set : ∀ {ps : List Tm} {i : Nat} {p x : Tm}, ps[i]? = some p → szL (ps.set i x) + sz p = szL ps + sz x
  | [], _, _, _, h => by simp at h
  | q :: ps, 0, p, x, h => by
    simp at h
    subst h
    simp only [List.set_cons_zero, szL]
    omega
  | q :: ps, i + 1, p, x, h => by
    have z := szL_set (ps := ps) (i := i) (p := p) (x := x) (by simpa using h)
    simp only [List.set_cons_succ, szL]
    omega
theorem set_facts : ∀ (pl : List Nat) {t u q : Tm} {a b : Nat}, getN t pl = some u → H0 t → dle a t → H0 q → dle b q → H0 (setN t pl q) ∧ dle (a + b) (setN t pl q) ∧ sz (setN t pl q) ≤ sz t + sz q
  | [], t, u, q, a, b, h, h0, hd, h1, h2 => by
    have e : setN t [] q = q := by cases t <;> rfl
    rw [e]
    exact ⟨h1, dle_mono h2 (Nat.le_add_left _ _), Nat.le_add_left _ _⟩
  | k :: pl, t, u, q, a, b, h, h0, hd, h1, h2 => by
    obtain ⟨p, hp, hg⟩ := getN_parts h
    have hm := List.mem_of_getElem? hp
    obtain ⟨k', ps, rfl⟩ : ∃ k ps, t = .node k ps := by
      cases t with
      | node k ps => exact ⟨k, ps, rfl⟩
      | _ => cases hm
    have hp : ps[k]? = some p := hp
    have hm : p ∈ ps := hm
    cases a with
    | zero => exact hd.elim
    | succ a =>
      obtain ⟨g1, g2⟩ := all_node.mp h0
      obtain ⟨a1, a2, a3⟩ := set_facts pl hg (g2 p hm) (hd.2 p hm) h1 h2
      have e : setN (.node k' ps) (k :: pl) q = .node k' (ps.set k (setN p pl q)) := by
        show (match ps[k]? with | none => _ | some p => _) = _
        rw [hp]
      rw [e]
      refine ⟨all_node.mpr ⟨g1, fun y hy => ?_⟩, ?_, ?_⟩
      · rcases List.mem_or_eq_of_mem_set hy with hy | rfl
        · exact g2 y hy
        · exact a1
      · rw [show a + 1 + b = (a + b) + 1 by omega]
        refine ⟨by rw [List.length_set]; exact hd.1, fun y hy => ?_⟩
        rcases List.mem_or_eq_of_mem_set hy with hy | rfl
        · exact dle_mono (hd.2 y hy) (Nat.le_add_right _ _)
        · exact a2
      · rw [sz_node, sz_node]
        have z := szL_set (x := setN p pl q) hp
        omega
theorem spt_in : ∀ {m : Nat} {t : Tm}, dle m t → ∀ w h, ∀ x ∈ spt t w h, getN t x.1 = some x.2.1 ∧ x.2.2.1 ≤ w + m := by
  intro m t
  refine Tm.ind (P := fun t => ∀ m, dle m t → ∀ w h, ∀ x ∈ spt t w h, getN t x.1 = some x.2.1 ∧ x.2.2.1 ≤ w + m) ?_ ?_ ?_ t m
  · intro i m _ w h x hx
    simp [spt] at hx
    subst hx
    exact ⟨getN_nil _, Nat.le_add_right _ _⟩
  · intro u xs m _ w h x hx
    simp [spt] at hx
    subst hx
    exact ⟨getN_nil _, Nat.le_add_right _ _⟩
  · intro k ps ih m hd w h x hx
    by_cases hk : ∃ n, k = .hole n
    · obtain ⟨n, rfl⟩ := hk
      simp [spt] at hx
      subst hx
      exact ⟨getN_nil _, Nat.le_add_right _ _⟩
    · have hk : ∀ n, k ≠ .hole n := fun n e => hk ⟨n, e⟩
      rw [spt_node hk] at hx
      rcases List.mem_cons.mp hx with rfl | hx
      · exact ⟨getN_nil _, Nat.le_add_right _ _⟩
      · obtain ⟨i, p, h', y, e1, e2, rfl⟩ := mem_sptL hx
        rw [Nat.zero_add] at e2
        cases m with
        | zero => exact hd.elim
        | succ m =>
          obtain ⟨a, b⟩ := ih p (List.mem_of_getElem? e1) m (hd.2 p (List.mem_of_getElem? e1)) _ h' y e2
          have := bnd_le k i
          refine ⟨?_, by show y.2.2.1 ≤ w + (m + 1); omega⟩
          show (match ps[0 + i]? with | none => none | some p => getN p y.1) = _
          rw [Nat.zero_add, e1]
          exact a
theorem spt_ne (t : Tm) (w : Nat) (h : Bool) : 1 ≤ (spt t w h).length := by
  cases t with
  | var i => simp [spt]
  | atom u xs => simp [spt]
  | node k ps => cases k <;> simp [spt]
section
variable {P : Program} {w : World} {K : PySem.W.Frag} {mg : Str → Option Value} {base : Heap} {T : List (Addr × Str)}
def spSpoilt (K : PySem.W.Frag) (m : Nat) : Sp := fun us H Q _ => ∃ (p b pl : Addr) (v : V) (t : Tm) (wd : Nat) (xs : List V) (ts : List Tm), us = [.ref p, v, .int (wd : Nat), .ref pl] ∧ DrOk H p b ∧ Tr K H v t ∧ H0 t ∧ dle m t ∧ sz t ≤ 100000 ∧ wd ≤ 100 ∧ H pl = some (.lst xs) ∧ pl ≠ p ∧ TpAll K H xs (ts.map enc) ∧ xs.length ≤ 100000 ∧ (∀ q ∈ ts, H0 q ∧ dle m q ∧ sz q ≤ 100000) ∧
  ∀ v' t' H', Kp p H H' → DrOk H' p b → Tr K H' v' t' → H0 t' → dle (m + m) t' → sz t' ≤ 1000000 → Q v' H'
abbrev nSpoilt : List Str := ["_law_draw_here", "_law_term", "_law_wide", "_law_parts", "_law_place", "_law_node_here", "_law_deep", "_law_head", "_law_fits", "_law_part", "_law_v"]
theorem scSpoilt : FnScope nSpoilt ["_law_draw_here", "_law_term", "_law_wide", "_law_parts"] (defScope sSpoilt) := ⟨rfl, rfl, rfl, by decide +kernel, rfl, by decide +kernel, by decide +kernel⟩
theorem ok_spoilt {m L : Nat} {f fs fo ff fp fl ft : Addr} {fd fds fdo fdf fdp fdl fdt : FuncData} (hm : m ≤ 20) (F : Fun K "_law_spoilt" "_law_spoilt" sSpoilt f fd)
    (CS : Cl P w K mg base L "_law_spots" fs fds ["_law_term", "_law_wide", "_law_head"] (spSpots K (m + 1))) (CO : Cl P w K mg base L "_law_one" fo fdo ["_law_draw_here", "_law_row"] (spOne K))
    (CF : Cl P w K mg base L "_law_frees" ff fdf ["_law_term", "_law_under_here"] (spFrees K (m + 1))) (CP : Cl P w K mg base L "_law_pick" fp fdp ["_law_draw_here", "_law_many"] spPick)
    (CL : Cl P w K mg base L "_law_leaf" fl fdl ["_law_draw_here", "_law_wide"] (spLeaf K)) (CT : Cl P w K mg base L "_law_set" ft fdt ["_law_term", "_law_place", "_law_part"] (spSet K (m + 1))) :
    FnOk P w K mg base CX0 (L + 1) f fd ["_law_draw_here", "_law_term", "_law_wide", "_law_parts"] (spSpoilt K m) := by
  refine F.ok scSpoilt (fun vs H Q E h => ?_) (fun cdv A outer s H vs Q E hr h => ?_)
  · obtain ⟨p, b, pl, v, t, wd, xs, ts, rfl, _⟩ := h; rfl
  obtain ⟨p, b, pl, v, t, wd, xs, ts, rfl, d0, ht, h0, hd, hz, hwd, hpl, npl, hts, hxl, hall, q⟩ := h
  have hu64 := hr.units
  refine ⟨_, pss_cons (ps_asg (pe_cl CO hr (pa_cons (pv 0) (pa_cons (pe_cl CS hr (pa_cons (pv 1) (pa_cons (pv 2) (pa_cons pe_bl pa_nil)))) pa_nil))) (pg_tup rfl (pgs_cons (pg_name (i := 4) scSpoilt.nd rfl (.inl rfl)) (pgs_cons (pg_name (i := 5) scSpoilt.nd rfl (.inl rfl)) (pgs_cons (pg_name (i := 6) scSpoilt.nd rfl (.inr rfl)) (pgs_cons (pg_name (i := 7) scSpoilt.nd rfl (.inl rfl)) pgs_nil))))))
    (Evl.pss_cut (ps_setLc (own := [("_law_part", 9)]) (i := 8) (g := gName 9) rfl scSpoilt.nd rfl rfl (sw_true rfl rfl rfl (by decide +kernel)) (pi_list (pv 3)) (blkOk_by (N := nSpoilt) (sc := defScope sSpoilt) (by decide +kernel)) (fun _ _ _ _ _ => pg_name (i := 9) scSpoilt.nd rfl (.inl rfl))
        (fun _ _ _ _ _ => pts_one (pt_cmpR (r := rEqD K) (op_eqD hu64) (pe_lc (wi := iList K _) (own := [("_law_v", 10)]) (g := gName 10) rfl scSpoilt.nd (pi_list (pe_cl CF hr (pa_cons (pv 9) (pa_cons pe_int pa_nil)))) (by refine blkOk_by ?_; rfl) (fun _ _ _ _ _ => pg_name (i := 10) scSpoilt.nd rfl (.inl rfl)) (fun _ _ _ _ _ => pts_one (pt_cmpR op_ge (pv 10) (pv 6) (nomark _))) (fun _ _ _ _ _ => pv 10)) (pe_lst pa_nil) (nomark _))) (fun _ _ _ _ _ => pv 9))
    (pss_cons (ps_if (PW.pt (pw_and (pt_truth (pv 8) (by intro _; rfl)) (pw_and1 (pt_truth (pe_cl CP hr (pa_cons (pv 0) (pa_cons pe_int pa_nil))) (by intro _; rfl)))))
        (pss_one (ps_ret (pe_cl CT hr (pa_cons (pv 1) (pa_cons (pv 4) (pa_cons (pe_cl CO hr (pa_cons (pv 0) (pa_cons (pv 8) pa_nil))) pa_nil)))))) pss_nil)
    (pss_one (ps_ret (pe_cl CT hr (pa_cons (pv 1) (pa_cons (pv 4) (pa_cons (pe_cl CL hr (pa_cons (pv 0) (pa_cons (pv 6) pa_nil))) pa_nil)))))))), ?_⟩
  have ne : ∀ {g : Addr}, H g = none → g ≠ p := fun hg e => by subst e; obtain ⟨xs, hx⟩ := d0.lst; rw [hg] at hx; cases hx
  have hsl := spt_len t wd false
  refine ⟨_, rfl, _, rfl, _, rfl, v, t, wd, false, m, rfl, Nat.lt_succ_self m, ht, hd, by omega, fun g xsp H1 s1 hg0 hg hxs => ?_⟩
  have hxsl : xsp.length = (spt t wd false).length := by rw [tpA_len hxs, List.length_map]
  have d1 := d0.same s1
  refine ⟨p, b, g, xsp, rfl, d1, hg, ne hg0, by rw [hxsl]; exact spt_ne _ _ _, by omega, fun r x H2 hx k2 d2 => ?_⟩
  have hrl : r < (spt t wd false).length := by rw [← hxsl]; exact (List.getElem?_eq_some_iff.mp hx).1
  obtain ⟨v', hv', tv⟩ := tpA_get (i := r) (d := encS (spt t wd false)[r]) hxs (by rw [List.getElem?_map, List.getElem?_eq_getElem hrl]; rfl)
  rw [hx] at hv'
  cases hv'
  obtain ⟨hget, hdeep⟩ := spt_in hd wd false _ (List.getElem_mem hrl)
  have tv2 := tp_ext (k2.te' d1) _ _ tv
  generalize (spt t wd false)[r] = X at tv2 hget hdeep
  obtain ⟨pp, node, deep, hb⟩ := X
  have hget : getN t pp = some node := hget
  have hdeep : deep ≤ wd + m := hdeep
  obtain ⟨sa, sb, sy, rfl, e1, e2, e3⟩ := spot_tp tv2
  have e2 : SqT K H2 sb (intsN pp) := e2
  have kA : Kp p H H2 := (Kp.same s1).trans k2
  have hpl2 := kA _ _ hpl npl
  have hts2 := tpA_ext (kA.te' d0) _ _ hts
  have hxt : xs.length = ts.length := by rw [tpA_len hts, List.length_map]
  obtain ⟨_, _, _, hpll⟩ := getN_facts pp hget h0 hd
  refine ⟨sa, _, rfl, e1, rfl, _, _, rfl, _, _, rfl, _, _, rfl, _, _, rfl, rfl, ?_⟩
  refine ⟨fun σ H' => ∃ (fl : Addr) (us : List V) (fs : List Tm), σ = [some (.ref p), some v, some (.int (wd : Nat)), some (.ref pl), some (.ref sb), some sy, some (.int (deep : Nat)), some (.bl hb), some (.ref fl), none, none] ∧ Same H2 H' ∧ H' fl = some (.lst us) ∧ fl ≠ p ∧ TpAll K H' us (fs.map enc) ∧ (∀ q ∈ fs, q ∈ ts) ∧ us.length ≤ 100000, ?_, ?_⟩
  · refine ⟨_, rfl, pl, rfl, ⟨_, SqL.of hpl2⟩, fun Dl hDl => ?_⟩
    have nDp : Dl ≠ p := fun e => by subst e; obtain ⟨xs, hx⟩ := d2.lst; rw [hDl] at hx; cases hx
    refine lc_it (walk_list (xs := xs)) (fun i H' => Same H2 H' ∧ ∃ (us : List V) (fs : List Tm), H' Dl = some (.lst us) ∧ TpAll K H' us (fs.map enc) ∧ (∀ q ∈ fs, q ∈ ts) ∧ us.length ≤ i) ?_ ?_ ?_ ?_
    · exact ⟨same_new hDl _, [], [], upd_same, .nil, (fun q h => by cases h), Nat.le_refl _⟩
    · rintro i H' _ ⟨s3, _⟩
      exact SqL.of (s3 _ _ hpl2)
    · rintro i x H3' H3 hi ⟨s3, us, fs, hDl3, hus, hfs, hul⟩ ⟨rfl, hx⟩
      have hit : i < ts.length := by omega
      obtain ⟨v', hv', tv⟩ := tpA_get (i := i) (d := enc ts[i]) hts2 (by rw [List.getElem?_map, List.getElem?_eq_getElem hit]; rfl)
      rw [hx] at hv'
      cases hv'
      obtain ⟨a1, a2, a3⟩ := hall _ (List.getElem_mem hit)
      have hfr := fre_len ts[i] 0
      refine ⟨rfl, _, rfl, x, ts[i], 0, m, rfl, Nat.lt_succ_self m, tp_ext (Te.of' s3) _ _ tv, a2, by omega, fun g3 H4 s4 h4 => ⟨g3, rfl, ⟨_, SqL.of h4⟩, fun D2 hD2 => ?_⟩⟩
      refine lc_it (walk_list (xs := intsN (fre 0 ts[i]))) (fun j H' => Same H4 H' ∧ ∃ ns : List Int, H' D2 = some (.lst (ns.map V.int)) ∧ ns.length ≤ j) ?_ ?_ ?_ ?_
      · exact ⟨same_new hD2 _, [], upd_same, Nat.le_refl _⟩
      · rintro j H' _ ⟨s5, _⟩
        exact SqL.of (s5 _ _ h4)
      · rintro j y H5' H5 hj ⟨s5, ns, hns, hnl⟩ ⟨rfl, hy⟩
        rw [List.length_map] at hj
        have ey : y = V.int (((fre 0 ts[i])[j] : Nat) : Int) := by
          rw [List.getElem?_map, List.getElem?_eq_getElem hj] at hy
          exact (Option.some.inj hy).symm
        subst ey
        refine ⟨rfl, _, rfl, _, rfl, _, _, rfl, rfl, _, rfl, ?_⟩
        refine ite2 (fun _ => ?_) (fun _ => ⟨s5, ns, hns, by omega⟩)
        refine ⟨_, rfl, _, hns, by rw [List.length_map, sizeLine_eq]; omega, same_mut s5 hD2, ns ++ [(((fre 0 ts[i])[j] : Nat) : Int)], ?_, by simp; omega⟩
        rw [upd_same, List.map_append]
        rfl
      · rintro H5 ⟨s5, ns, hns, hnl⟩
        refine ⟨le_line (by simp), fun e0 he0 => ?_⟩
        have s6 := same_new he0 (HO.lst [])
        have s46 := (s4.trans s5).trans s6
        refine ⟨_, _, dpL_ints (SqL.of (s6 _ _ hns)), .lst (SqL.of upd_same) .nil, shaped_intsL ns, by decide, _, rfl, ?_⟩
        have hD6 := s46 _ _ hDl3
        refine ite2 (fun _ => ?_) (fun _ => ⟨s3.trans s46, us, fs, hD6, tpA_ext (Te.of' s46) _ _ hus, hfs, by omega⟩)
        have t7 : Te _ (upd _ Dl (.lst (us ++ [x]))) := Te.lst hD6
        refine ⟨_, rfl, us, hD6, by rw [sizeLine_eq]; omega, same_mut (s3.trans s46) hDl, us ++ [x], fs ++ [ts[i]], upd_same, ?_, fun q hq => ?_, by simp; omega⟩
        · rw [List.map_append]
          exact tpA_snoc (tpA_ext ((Te.of' s46).trans t7) _ _ hus) (tp_ext ((Te.of' (s3.trans s46)).trans t7) _ _ tv)
        · rcases List.mem_append.mp hq with hq | hq
          · exact hfs q hq
          · rw [List.mem_singleton.mp hq]; exact List.getElem_mem hit
    · rintro H3 ⟨s3, us, fs, hDl3, hus, hfs, hul⟩
      exact ⟨Dl, us, fs, rfl, s3, hDl3, nDp, hus, hfs, by omega⟩
  rintro σ H3 ⟨fl, us, fs, rfl, s3, hfl, nfp, hus, hfs, hul⟩
  have d3 := d2.same s3
  have kB : Kp p H H3 := kA.trans (Kp.same s3)
  have leafC : ∀ H4, Kp p H3 H4 → DrOk H4 p b → ∀ v5 H5 t5, Kp p H4 H5 → DrOk H5 p b → Tr K H5 v5 t5 → H0 t5 → dle m t5 → sz t5 ≤ 100000 → spSet K (m + 1) [v, .ref sb, v5] H5 Q E := by
    intro H4 k4 d4 v5 H5 t5 k5 d5 ht5 h05 hd5 hz5
    have kC := kB.trans (k4.trans k5)
    obtain ⟨g1, g2, g3⟩ := set_facts pp hget h0 hd h05 hd5
    exact ⟨v, t, sb, pp, v5, t5, rfl, by omega, ht.ext (kC.te' d0), ⟨m, hd⟩, (((Kp.same s3).trans (k4.trans k5)).te' d2).seq e2, ⟨_, hget⟩, ht5, fun v6 H6 s6 h6 => q v6 _ H6 (kC.trans (Kp.same s6)) (d5.same s6) h6 g1 g2 (by omega)⟩
  have leafD : ∀ H4, Kp p H3 H4 → DrOk H4 p b → spLeaf K [.ref p, .int (deep : Nat)] H4 (fun v5 H5 => spSet K (m + 1) [v, .ref sb, v5] H5 Q E) E := by
    intro H4 k4 d4
    refine ⟨p, b, deep, rfl, d4, by omega, fun v5 H5 t5 k5 d5 ht5 hg5 => ?_⟩
    have hg0 := hg5 [] 0
    have h05 : H0 t5 ∧ dle m t5 ∧ sz t5 ≤ 100000 := by
      cases hg0 with
      | var h => exact ⟨all_var, dle_var _ _, by rw [sz_var]; decide⟩
      | atom h => exact ⟨all_atom.mpr h, dle_atom _ _ _, by rw [sz_atom]; decide⟩
    exact leafC H4 k4 d4 v5 H5 t5 k5 d5 ht5 h05.1 h05.2.1 h05.2.2
  refine ⟨_, rfl, _, .inl ⟨_, SqL.of hfl, rfl⟩, ite2 (fun nev => ?_) (fun _ => ?_)⟩
  · refine ⟨_, rfl, p, b, 2, rfl, d3, by decide, fun c H4 _ _ k4 d4 => ⟨_, rfl, ite2 (fun _ => ?_) (fun _ => ?_)⟩⟩
    · have h1 : 1 ≤ us.length := by
        cases us with
        | nil => cases nev
        | cons x xs => simp
      refine ⟨_, rfl, _, rfl, _, rfl, _, rfl, p, b, fl, us, rfl, d4, k4 _ _ hfl nfp, nfp, h1, hul, fun r x H5 hx k5 d5 => ?_⟩
      have hrl : r < fs.length := by
        have := tpA_len hus
        rw [List.length_map] at this
        have := (List.getElem?_eq_some_iff.mp hx).1
        omega
      obtain ⟨v', hv', tv⟩ := tpA_get (i := r) (d := enc fs[r]) hus (by rw [List.getElem?_map, List.getElem?_eq_getElem hrl]; rfl)
      rw [hx] at hv'
      cases hv'
      obtain ⟨a1, a2, a3⟩ := hall _ (hfs _ (List.getElem_mem hrl))
      exact leafC H4 k4 d4 x H5 fs[r] k5 d5 (tp_ext ((k4.trans k5).te' d3) _ _ tv) a1 a2 a3
    · exact ⟨_, rfl, _, rfl, _, rfl, _, rfl, leafD H4 k4 d4⟩
  · exact ⟨_, rfl, _, rfl, _, rfl, _, rfl, leafD H3 Kp.refl d3⟩
end
end KP

/-! Plain facts for the law. -/
namespace KM
open PySem Classical
theorem szL_le3 {n : Nat} : ∀ {ps : List Tm}, (∀ p ∈ ps, sz p ≤ n) → szL ps ≤ ps.length * n
  | [], _ => by simp [szL]
  | p :: ps, h => by
    have a := h p List.mem_cons_self
    have b := szL_le3 (n := n) fun q hq => h q (List.mem_cons_of_mem _ hq)
    simp only [szL, List.length_cons]
    rw [Nat.add_mul, Nat.one_mul]
    omega
theorem four_node {m s n : Nat} (h1 : m ≤ 3) (h2 : s ≤ m * 4 ^ n) : 1 + s ≤ 4 ^ (n + 1) := by
  have h3 : m * 4 ^ n ≤ 3 * 4 ^ n := Nat.mul_le_mul_right _ h1
  have h4 : 1 ≤ 4 ^ n := Nat.one_le_pow _ _ (by decide)
  rw [Nat.pow_succ]
  omega
theorem ar3 {k : Kd} {m : Nat} (hk : ∀ n, k ≠ .hole n) (h : arOk k m) : m ≤ 3 := by
  cases k with
  | hole n => exact (hk n rfl).elim
  | app => have h : m = 2 := h; omega
  | pi => have h : m = 2 := h; omega
  | fn => have h : m = 2 := h; omega
  | lt => have h : m = 3 := h; omega
theorem sz_pt {hs : List (Int × Nat)} {d w : Nat} {p : Tm} (hp : Pt hs d w p) : sz p ≤ 4 ^ d := by
  induction hp with
  | var h => rw [sz_var]; exact Nat.one_le_pow _ _ (by decide)
  | atom => rw [sz_atom]; exact Nat.one_le_pow _ _ (by decide)
  | @hole d w n vs h1 h2 h3 h4 =>
    rw [sz_node]
    refine four_node (m := (vars vs).length) (by simpa using h4) (szL_le3 fun p hp => ?_)
    obtain ⟨v, _, rfl⟩ := List.mem_map.mp hp
    rw [sz_var]; exact Nat.one_le_pow _ _ (by decide)
  | @node d w k ps h1 h2 h3 ih =>
    rw [sz_node]
    refine four_node (m := ps.length) (ar3 h1 h2) (szL_le3 fun p hp => ?_)
    obtain ⟨j, hj⟩ := List.mem_iff_getElem?.mp hp
    exact ih j p hj
theorem sz_hf : ∀ {n : Nat} {t : Tm}, Hf t → dle n t → sz t ≤ 4 ^ n
  | n, .var i, _, _ => by rw [sz_var]; exact Nat.one_le_pow _ _ (by decide)
  | n, .atom u xs, _, _ => by rw [sz_atom]; exact Nat.one_le_pow _ _ (by decide)
  | 0, .node _ _, _, h => h.elim
  | n + 1, .node k ps, h, hd => by
    obtain ⟨h1, h2⟩ := hf_node h
    rw [sz_node]
    exact four_node (m := ps.length) (ar3 h1 hd.1) (szL_le3 fun p hp => sz_hf (h2 p hp) (hd.2 p hp))
theorem pt_sc {hs : List (Int × Nat)} {d w : Nat} {p : Tm} (hp : Pt hs d w p) : sc w p := by
  induction hp with
  | var h => exact sc_var.mpr h
  | atom => exact sc_atom
  | @hole d w n vs h1 h2 h3 h4 =>
    rw [sc_node]
    intro j p hp
    obtain ⟨v, hv, rfl⟩ := List.mem_map.mp (List.mem_of_getElem? hp)
    exact sc_var.mpr (Nat.lt_of_lt_of_le (h3 v hv) (Nat.le_add_right _ _))
  | @node d w k ps h1 h2 h3 ih =>
    rw [sc_node]
    exact fun j p hp => ih j p hp
theorem all_and {ph ph' : Int → Prop} {pa pa' : Bool → List PyData → Prop} {t : Tm} : All ph pa' t → All ph' pa t → All ph pa t := by
  refine Tm.ind (P := fun t => All ph pa' t → All ph' pa t → All ph pa t) (fun _ _ _ => all_var) (fun _ _ _ b => all_atom.mpr (all_atom.mp b)) (fun k ps ih a b => ?_) t
  obtain ⟨a1, a2⟩ := all_node.mp a
  obtain ⟨b1, b2⟩ := all_node.mp b
  exact all_node.mpr ⟨a1, fun p hp => ih p hp (a2 p hp) (b2 p hp)⟩
theorem hf_pt {hs : List (Int × Nat)} : ∀ {n w : Nat} {t : Tm}, Hf t → dle n t → sc w t → Pt hs n w t
  | n, w, .var i, _, _, s => .var (sc_var.mp s)
  | n, w, .atom u xs, _, _, _ => .atom
  | 0, w, .node _ _, _, h, _ => h.elim
  | n + 1, w, .node k ps, h, hd, s => by
    obtain ⟨h1, h2⟩ := hf_node h
    exact .node h1 hd.1 fun j p hp => hf_pt (h2 p (List.mem_of_getElem? hp)) (hd.2 p (List.mem_of_getElem? hp)) (sc_node.mp s j p hp)
theorem GE.nil {hs : List (Int × Nat)} {D : Nat} : GE hs D [] := ⟨List.nodup_nil, fun e h => by cases h⟩
theorem hf_nums {t : Tm} (h : Hf t) : ∀ x, x ∉ nums t := fun x hx => all_nums h x hx
/-- a term without holes is matched by itself alone -/
theorem mt_hf {d D w : Nat} {p t : Tm} (hp : Hf p) (hd : dle d p) (hs : sc w p) (ht : Hf t) (hD : dle D t) (hDp : dle D p) : (t = p → mt p t [] = some []) ∧ (t ≠ p → mt p t [] = none) := by
  have pt : Pt [] d w p := hf_pt hp hd hs
  have nf : ∀ φ : Fl, (∀ x, φ x = none) → fillN φ (d + D) p = p := fun φ h => none_fill (all_mono (fun n z => z.elim) hp) (dle_mono hd (Nat.le_add_right _ _))
  constructor
  · rintro rfl
    obtain ⟨E', h1, h2⟩ := mt_tot (hs := []) (D := D) List.nodup_nil (φ := fun _ => none) pt (fun x hx => (hf_nums hp x hx).elim) (E := []) (fun k x z => by cases z) (by rw [nf _ fun _ => rfl]; exact hp) (by rw [nf _ fun _ => rfl]; exact hDp) GE.nil
    rw [nf _ fun _ => rfl] at h1
    cases E' with
    | nil => exact h1
    | cons e E' =>
      obtain ⟨k, x⟩ := e
      have z := h2 k x (by simp)
      cases z
  · intro ne
    cases h : mt p t [] with
    | none => rfl
    | some E' =>
      obtain ⟨_, _, _, _, _, a6⟩ := mt_ok (hs := []) List.nodup_nil pt ht hD GE.nil h
      have z := a6 (fE E') (fun _ _ z => z)
      rw [none_fill (all_mono (fun n z => z.elim) hp) (dle_mono hd (Nat.le_add_right _ _))] at z
      exact (ne z.symm).elim
/-- what the law wants is what matches says -/
theorem want_some {hs : List (Int × Nat)} {d D w : Nat} {p t : Tm} {E : Ens} (hn : (hs.map (·.1)).Nodup) (hp : Pt hs d w p) (ht : Hf t) (hD : dle D t) (h : lm p (some t) [] = some E) (hf : fillN (fE E) (d + D) p = t) : mt p t [] = some E :=
  lm_mt hn hp ht hD GE.nil h (fun _ _ z => z) hf
theorem want_none {hs : List (Int × Nat)} {d D w : Nat} {p t : Tm} (hn : (hs.map (·.1)).Nodup) (hp : Pt hs d w p) (ht : Hf t) (hD : dle D t) (h : ∀ E, lm p (some t) [] = some E → fillN (fE E) (d + D) p ≠ t) : mt p t [] = none := by
  cases e : mt p t [] with
  | none => rfl
  | some E =>
    obtain ⟨a1, _, _, _, _, a6⟩ := mt_ok hn hp ht hD GE.nil e
    exact (h E a1 (a6 _ fun _ _ z => z)).elim
theorem look_of {E : Ens} (hn : (E.map (·.1)).Nodup) : ∀ {e : Int × Nat × Tm}, e ∈ E → E.lookup e.1 = some e.2 := by
  induction E with
  | nil => intro e h; cases h
  | cons q E ih =>
    intro e he
    rw [List.map_cons, List.nodup_cons] at hn
    rw [List.lookup_cons]
    rcases List.mem_cons.mp he with rfl | he
    · simp
    · have ne : e.1 ≠ q.1 := fun z => hn.1 (by rw [← z]; exact List.mem_map_of_mem he)
      rw [show (e.1 == q.1) = false from by simpa using ne]
      exact ih hn.2 he
theorem look_len {E E' : Ens} (h1 : (E.map (·.1)).Nodup) (h2 : (E'.map (·.1)).Nodup) (h : ∀ x, E.lookup x = E'.lookup x) : E.length = E'.length := by
  have sub : ∀ {A B : Ens}, (A.map (·.1)).Nodup → (∀ x, A.lookup x = B.lookup x) → ∀ x ∈ A.map (·.1), x ∈ B.map (·.1) := fun {A B} hA hl x hx => by
    obtain ⟨e, he, rfl⟩ := List.mem_map.mp hx
    have z := look_of hA he
    rw [hl] at z
    exact List.mem_map.mpr ⟨_, look_in z, rfl⟩
  have a := KP.nodup_len h1 (sub h1 h)
  have b := KP.nodup_len h2 (sub h2 fun x => (h x).symm)
  rw [List.length_map, List.length_map] at a b
  omega
end KM
namespace KP
open PySem PyProof.Rows L2 LamX NdefX KL KM KD
theorem flL_pair2 {K : PySem.W.Frag} {H : Hp} {ks ls : List (Key × V)} {E E' : Ens} (h1 : FlL K H ks E) (h2 : FlL K H ls E') (n1 : (E.map (·.1)).Nodup) (n2 : (E'.map (·.1)).Nodup) (hl : ∀ x, E.lookup x = E'.lookup x) (hs : ∀ e ∈ E, SeqAt.shaped (.tuple [.int (e.2.1 : Nat), enc e.2.2]) = true) :
    ks.length = ls.length ∧ ∀ p ∈ ks, ∃ u d, valV ls p.1 = some u ∧ Dp K H p.2 d ∧ Dp K H u d ∧ SeqAt.shaped d = true := by
  refine ⟨by rw [h1.len, h2.len]; exact look_len n1 n2 hl, fun p hp => ?_⟩
  obtain ⟨i, hi⟩ := List.mem_iff_getElem?.mp hp
  obtain ⟨e, he, h3⟩ := h1.get hi
  have hm := List.mem_of_getElem? he
  have z := look_of n1 hm
  rw [hl] at z
  obtain ⟨n, ar, b⟩ := e
  obtain ⟨a, vb, e1, e2, e3⟩ := (flL_look h2 n).2 ar b z
  refine ⟨.ref a, _, ?_, fl_dp h3, Tp.dp _ _ (.tup e2 (.cons (.int _) (.cons e3 .nil))), hs _ hm⟩
  rw [h3.1]
  exact e1
theorem tabs_kq {K : PySem.W.Frag} {T : List (Addr × Str)} {H H' : Hp} {p a : Addr} {xs us : List V} (t : Tabs T H) (h : H p = some (.lst xs)) (h2 : H a = some (.lst us)) (k : Kq p a H H') : Tabs T H' := fun q hq => by
  obtain ⟨ps, a1, a2, a3⟩ := t q hq
  refine ⟨ps, k _ _ a1 (fun e => by rw [e, h] at a1; cases a1) (fun e => by rw [e, h2] at a1; cases a1), a2, fun pos cv hcv => ?_⟩
  obtain ⟨c, e1, e2⟩ := a3 pos cv hcv
  exact ⟨c, e1, k _ _ e2 (fun e => by rw [e, h] at e2; exact lst_code _ _ (Option.some.inj e2)) (fun e => by rw [e, h2] at e2; exact lst_code _ _ (Option.some.inj e2))⟩
theorem FnOk.exP {ι : Type} {P' : ι → Prop} {P : Program} {w : World} {K : PySem.W.Frag} {mg : Str → Option Value} {base : Heap} {k : Nat} {x : Str} {f : Addr} {fd : FuncData} {ps : List Str} {sp : ι → Sp} (i0 : ι) (h0 : P' i0) (C : ∀ i, P' i → Cl P w K mg base k x f fd ps (sp i)) : Cl P w K mg base k x f fd ps (fun vs H Q E => ∃ i, P' i ∧ sp i vs H Q E) := by
  have C0 := C i0 h0
  refine ⟨⟨fun vs H Q E h => ?_, fun A outer s H args us vs Q E a b c d h => ?_⟩, C0.mg, C0.kp, C0.b⟩
  · obtain ⟨i, hi, h⟩ := h
    exact (C i hi).ok.len vs H Q E h
  · obtain ⟨i, hi, h⟩ := h
    exact (C i hi).ok.run A outer s H args us vs Q E a b c d h
end KP

/-! law -/
namespace KP
open PySem PyProof.Rows L2 LamX NdefX KL KM KD
abbrev sLaw : Stmt := top 40
theorem nd4 (h : Bool) (r : Int) : nd h r ≤ 4 := by
  unfold nd
  repeat' split
  all_goals omega
theorem shaped_encH (hs : List (Int × Nat)) : SeqAt.shaped (.list (hs.map encH)) = true := by
  have h : PyData.canLayAll0 (hs.map encH) = true ∧ PyData.depthAll (hs.map encH) ≤ 1 := by
    induction hs with
    | nil => exact ⟨rfl, by decide⟩
    | cons x hs ih =>
      have e1 : (encH x).canLay0 = true := by simp [encH, PyData.canLay0, PyData.canLayAll0]
      have e2 : (encH x).depth ≤ 1 := by simp [encH, PyData.depth, PyData.depthAll]
      simp only [List.map_cons, PyData.canLayAll0, PyData.depthAll, e1, ih.1]
      exact ⟨rfl, by have := ih.2; omega⟩
  have h2 : (PyData.list (hs.map encH)).depth ≤ 64 := by have := h.2; simp only [PyData.depth]; omega
  have h1 : (PyData.list (hs.map encH)).canLay0 = true := by simp only [PyData.canLay0]; exact h.1
  exact Bool.and_eq_true_iff.mpr ⟨h1, decide_eq_true h2⟩
section
variable {K : PySem.W.Frag} {T : List (Addr × Str)} {p b a D : Addr} {hs hs' : List (Int × Nat)} {us us' : List V} {kvs : List (Key × V)} {es : Ens} {H H' : Hp}
theorem LS.sk (l : LS K T p b a D hs us kvs es H) : SkS K p b a hs us H := ⟨l.dr, l.la, l.lt, l.ap, l.ab⟩
theorem LS.da (l : LS K T p b a D hs us kvs es H) : D ≠ a := fun e => by
  have z := l.dk
  rw [e, l.la] at z
  cases z
theorem LS.kq (l : LS K T p b a D hs us kvs es H) (k : Kq p a H H') (s : SkS K p b a hs' us' H') : LS K T p b a D hs' us' kvs es H' := by
  obtain ⟨xs, hx⟩ := l.dr.lst
  exact ⟨s.dr, s.la, s.lt, s.ap, s.ab, k _ _ l.dk l.dp.1 l.da, l.fl.te (l.sk.te k), tabs_kq (K := K) l.tb hx l.la k⟩
theorem LS.kqF {a2 : Addr} {ys : List V} (l : LS K T p b a D hs us kvs es H) (k : Kq p a2 H H') (d : DrOk H' p b) (h2 : H a2 = some (.lst ys)) (na : a ≠ a2) (nD : D ≠ a2) : LS K T p b a D hs us kvs es H' := by
  obtain ⟨xs, hx⟩ := l.dr.lst
  have te : Te H H' := fun c zs r => by
    have n1 : c ≠ p := fun e => by subst e; rcases r with r | ⟨o, r⟩ <;> (rw [hx] at r; cases r)
    have n2 : c ≠ a2 := fun e => by subst e; rcases r with r | ⟨o, r⟩ <;> (rw [h2] at r; cases r)
    rcases r with r | ⟨o, r⟩
    · exact .inl (k c _ r n1 n2)
    · exact .inr ⟨o, k c _ r n1 n2⟩
  exact ⟨d, k _ _ l.la l.ap na, tpA_ext te _ _ l.lt, l.ap, l.ab, k _ _ l.dk l.dp.1 nD, l.fl.te te, tabs_kq (K := K) l.tb hx h2 k⟩
theorem kqF_te {a2 : Addr} {ys : List V} (l : LS K T p b a D hs us kvs es H) (k : Kq p a2 H H') (h2 : H a2 = some (.lst ys)) : Te H H' := by
  obtain ⟨xs, hx⟩ := l.dr.lst
  exact fun c zs r => by
    have n1 : c ≠ p := fun e => by subst e; rcases r with r | ⟨o, r⟩ <;> (rw [hx] at r; cases r)
    have n2 : c ≠ a2 := fun e => by subst e; rcases r with r | ⟨o, r⟩ <;> (rw [h2] at r; cases r)
    rcases r with r | ⟨o, r⟩
    · exact .inl (k c _ r n1 n2)
    · exact .inr ⟨o, k c _ r n1 n2⟩
theorem pt_nums {d w : Nat} {p : Tm} (h : Pt hs d w p) : ∀ x ∈ nums p, ∃ ar, (x, ar) ∈ hs := by
  induction h with
  | var h => intro x hx; rw [nums_var] at hx; cases hx
  | atom => intro x hx; rw [nums_atom] at hx; cases hx
  | @hole d w n vs h1 h2 h3 h4 => intro x hx; rw [(nums_hole n vs x).mp hx]; exact ⟨_, h1⟩
  | @node d w k ps h1 h2 h3 ih =>
    intro x hx
    rcases mem_nums_node.mp hx with z | ⟨q, hq, z⟩
    · rw [hd_of h1] at z; cases z
    · obtain ⟨j, hj⟩ := List.mem_iff_getElem?.mp hq
      exact ih j q hj x z
theorem flat_intsI (ns : List Int) : (ns.map V.int).all flatV = true := by
  rw [List.all_eq_true]
  intro x hx
  obtain ⟨n, _, rfl⟩ := List.mem_map.mp hx
  rfl
theorem GE.mono {D D' : Nat} {E : Ens} (g : GE hs D E) (h : D ≤ D') : GE hs D' E := ⟨g.nd, fun e he => ⟨(g.ok e he).1, (g.ok e he).2.1, dle_mono (g.ok e he).2.2.1 h, (g.ok e he).2.2.2⟩⟩
theorem LS.lst (l : LS K T p b a D hs us kvs es H) : ∃ xs, H p = some (.lst xs) := l.dr.lst
end
section
variable {P : Program} {w : World} {K : PySem.W.Frag} {mg : Str → Option Value} {base : Heap} {T : List (Addr × Str)}
/-- what stands while the spoilt terms are asked -/
structure TS (K : PySem.W.Frag) (T : List (Addr × Str)) (p b a D pl : Addr) (hs : List (Int × Nat)) (us : List V) (kvs : List (Key × V)) (es : Ens) (v5 v9 : V) (pt tt : Tm) (xs : List V) (ts : List Tm) (H : Hp) : Prop where
  ls : LS K T p b a D hs us kvs es H
  h5 : Tr K H v5 pt
  h9 : Tr K H v9 tt
  lp : H pl = some (.lst xs)
  np : pl ≠ p
  tp : TpAll K H xs (ts.map enc)
section
variable {p b a D pl : Addr} {hs : List (Int × Nat)} {us : List V} {kvs : List (Key × V)} {es : Ens} {v5 v9 : V} {pt tt : Tm} {xs : List V} {ts : List Tm} {H H' : Hp}
theorem TS.gr (t : TS K T p b a D pl hs us kvs es v5 v9 pt tt xs ts H) (g : Gr T H H') : TS K T p b a D pl hs us kvs es v5 v9 pt tt xs ts H' :=
  ⟨t.ls.gr g, t.h5.ext g.te, t.h9.ext g.te, g.ext _ _ t.lp (fun ps z => by cases z), t.np, tpA_ext g.te _ _ t.tp⟩
theorem TS.kp (t : TS K T p b a D pl hs us kvs es v5 v9 pt tt xs ts H) (k : Kp p H H') (d : DrOk H' p b) : TS K T p b a D pl hs us kvs es v5 v9 pt tt xs ts H' :=
  ⟨t.ls.kp k d, t.h5.ext (k.te' t.ls.dr), t.h9.ext (k.te' t.ls.dr), k _ _ t.lp t.np, t.np, tpA_ext (k.te' t.ls.dr) _ _ t.tp⟩
end
/-- what the law wants of a spoilt term -/
inductive Wt (K : PySem.W.Frag) (hs : List (Int × Nat)) (pt t : Tm) (H : Hp) : V → Option Ens → Prop
  | no : Wt K hs pt t H .non none
  | yes {g : Addr} {kv : List (Key × V)} {E : Ens} : H g = some (.dK kv) → FlL K H kv E → (∀ e ∈ E, H0 e.2.2) → GE hs 14 E → (∀ x ∈ nums pt, ∃ y, E.lookup x = some y) → fillN (fE E) 19 pt = t → Wt K hs pt t H (.ref g) (some E)
theorem Wt.gr {hs : List (Int × Nat)} {pt t : Tm} {H H' : Hp} {v : V} {o : Option Ens} (w : Wt K hs pt t H v o) (g : Gr T H H') : Wt K hs pt t H' v o := by
  cases w with
  | no => exact .no
  | yes h1 h2 h3 h4 h5 h6 => exact .yes (g.ext _ _ h1 (fun ps z => by cases z)) (h2.te g.te) h3 h4 h5 h6
def spLaw (K : PySem.W.Frag) (T : List (Addr × Str)) : Sp := fun vs H Q _ => ∃ (a : Addr) (ns : List Int), vs = [.ref a] ∧ SqL K H a (ns.map V.int) ∧ ns.length ≤ 63 ∧ Tabs T H ∧ ∀ H', Q (.bl true) H'
def okHs (hs : List (Int × Nat)) : Prop := (hs.map (·.1)).Nodup ∧ hs.length ≤ 50
def spMatdA (K : PySem.W.Frag) : Sp := fun vs H Q E => ∃ hs, okHs hs ∧ spMatd K hs 14 20 vs H Q E
def spMatchA (K : PySem.W.Frag) : Sp := fun vs H Q E => ∃ hs, okHs hs ∧ spMatch K hs 5 14 vs H Q E
abbrev nLaw : List Str := ["_law_script", "_law_draw_here", "_law_wide", "_law_holes", "_law_bodies", "_law_pattern", "_law_used", "_law_number", "_law_arity", "_law_term", "_law_told", "_law_parts", "_law_place", "_law_node_here", "_law_deep", "_law_head", "_law_body_here", "_law_k", "_law_spoilt_here", "_law_want"]
theorem scLaw : FnScope nLaw ["_law_script"] (defScope sLaw) := ⟨rfl, rfl, rfl, by decide +kernel, rfl, by decide +kernel, by decide +kernel⟩
open Classical in
theorem ok_law {L : Nat} {f f1 f2 f3 f4 f5 f6 f7 f8 f9 fa fb fc : Addr} {dd d1 d2 d3 d4 d5 d6 d7 d8 d9 da db dc : FuncData} (F : Fun K "law" "law" sLaw f dd) (mr : mg "range" = none) (mn : mg "min" = none) (mi : mg "isinstance" = none) (mj : mg "dict" = none)
    (CD : Cl P w K mg base L "_law_draw" f1 d1 ["_law_script"] (spDraw K)) (CP : Cl P w K mg base L "_law_pick" f2 d2 ["_law_draw_here", "_law_many"] spPick) (CK : Cl P w K mg base L "_law_sketch" f3 d3 aSketch (spSketch K 5))
    (CSm : Cl P w K mg base L "_law_some" f4 d4 ["_law_draw_here", "_law_wide", "_law_many"] (spSome K)) (CN : Cl P w K mg base L "_law_numbers" f5 d5 ["_law_term"] (spNums K 6)) (CDn : Cl P w K mg base L "_law_done" f6 d6 ["_law_term", "_law_wide", "_law_filling"] (spDone K 21))
    (CM : Cl P w K mg base L "matched" f7 d7 ["pattern", "term"] (spMatdA K)) (CSy : Cl P w K mg base L "_law_says" f8 d8 ["_law_told", "_law_want"] spSays) (CSo : Cl P w K mg base L "solves" f9 d9 ["equations", "filling"] (spSolves K T 19 19))
    (CSp : Cl P w K mg base L "_law_spots" fa da ["_law_term", "_law_wide", "_law_head"] (spSpots K 8)) (CS : Cl P w K mg base L "_law_spoilt" fb db ["_law_draw_here", "_law_term", "_law_wide", "_law_parts"] (spSpoilt K 7)) (CMt : Cl P w K mg base L "_law_match" fc dc ["_law_pairs"] (spMatchA K)) :
    FnOk P w K mg base CX0 (L + 1) f dd ["_law_script"] (spLaw K T) := by
  refine F.ok scLaw (fun vs H Q E h => ?_) (fun cdv A outer s H vs Q E hr h => ?_)
  · obtain ⟨a, ns, rfl, _⟩ := h; rfl
  obtain ⟨a, ns, rfl, hS, h63, hT, q⟩ := h
  have hu := hu_of hr
  have hu64 := hr.units
  have hu65 : (A.deeper (envOfC "law" (defScope sLaw) s.heap.objs.size f cdv)).units + 65 < cLine := by have := hr.un; omega
  refine ⟨_, pss_cons (ps_set (i := 1) scLaw.nd rfl (.inl rfl) (pe_cl CD hr (pa_cons (pv 0) pa_nil)))
    (pss_cons (ps_asg (pe_tup (pa_cons (pe_cl CP hr (pa_cons (pv 1) (pa_cons pe_int pa_nil))) (pa_cons (pe_lst pa_nil) (pa_cons pe_dnewK pa_nil)))) (pg_tup rfl (pgs_cons (pg_name (i := 2) scLaw.nd rfl (.inl rfl)) (pgs_cons (pg_name (i := 3) scLaw.nd rfl (.inl rfl)) (pgs_cons (pg_name (i := 4) scLaw.nd rfl (.inr rfl)) pgs_nil)))))
    (pss_cons (ps_set (i := 5) scLaw.nd rfl (.inl rfl) (pe_cl CK hr (pa_cons (pv 1) (pa_cons (pv 2) (pa_cons (pe_op op_add pe_int (pe_cl CP hr (pa_cons (pv 1) (pa_cons pe_int pa_nil)))) (pa_cons (pv 3) (pa_cons (pe_cl CP hr (pa_cons (pv 1) (pa_cons pe_int pa_nil))) (pa_cons pe_bl pa_nil))))))))
    (Evl.pss_cut (ps_if (PW.pt (pw_and (pt_cmpR (op_eqD hu64) (pv 3) (pe_lst pa_nil) (nomark _)) (pw_and1 (pt_truth (pe_cl CP hr (pa_cons (pv 1) (pa_cons pe_int pa_nil))) (by intro _; rfl)))))
        (pss_cons (ps_expr (pe_bm PySem.F.plainAttrs_list PySem.F.slot_list_append PySem.F.type_list_append mt_append (pv 3) (pa_cons (pe_tup (pa_cons (pe_cl CP hr (pa_cons (pv 1) (pa_cons pe_int pa_nil))) (pa_cons (pe_callB (call_min2 rfl) rfl mn (by decide +kernel) (pa_cons (pv 2) (pa_cons pe_int pa_nil))) pa_nil))) pa_nil)))
        (pss_one (ps_set (i := 5) scLaw.nd rfl (.inl rfl) (pe_tup (pa_cons pe_str (pa_cons (pv 5) (pa_cons (pe_tup (pa_cons pe_str (pa_cons (pe_ix ix_tup (pe_ix ix_list (pv 3) pe_int (fun _ _ => rfl)) pe_int (fun _ _ => rfl)) (pa_cons (pe_cl CSm hr (pa_cons (pv 1) (pa_cons (pv 2) (pa_cons (pe_callB (call_min2 rfl) rfl mn (by decide +kernel) (pa_cons (pv 2) (pa_cons pe_int pa_nil))) pa_nil)))) pa_nil)))) pa_nil))))))) pss_nil)
    (pss_cons (ps_set (i := 6) scLaw.nd rfl (.inl rfl) (pe_cl CN hr (pa_cons (pv 5) pa_nil)))
    (Evl.pss_cut (ps_for PassesOwn.never rfl (pi_list (pv 3)) (pg_tup rfl (pgs_cons (pg_name (i := 7) scLaw.nd rfl (.inl rfl)) (pgs_cons (pg_name (i := 8) scLaw.nd rfl (.inl rfl)) pgs_nil)))
        (pss_one (ps_if (pt_cmpR op_in_seq (pv 7) (pv 6) rfl)
          (pss_one (ps_dput hu (pv 4) (pv 7) (pe_tup (pa_cons (pv 8) (pa_cons (pe_cl CK hr (pa_cons (pv 1) (pa_cons (pv 8) (pa_cons (pe_op op_add pe_int (pe_cl CP hr (pa_cons (pv 1) (pa_cons pe_int pa_nil)))) (pa_cons (pe_lst pa_nil) (pa_cons pe_int (pa_cons pe_bl pa_nil))))))) pa_nil))) rfl)) pss_nil)))
    (pss_cons (ps_set (i := 9) scLaw.nd rfl (.inl rfl) (pe_cl CDn hr (pa_cons (pv 5) (pa_cons (pv 2) (pa_cons (pv 4) pa_nil)))))
    (pss_cons (ps_set (i := 10) scLaw.nd rfl (.inl rfl) (pe_cl CM hr (pa_cons (pv 5) (pa_cons (pv 9) pa_nil))))
    (Evl.pss_cut (ps_if (PW.pt (pw_or (pt_not (pt_truth (pe_callB call_isi rfl mi (by decide +kernel) (pa_cons (pv 10) (pa_cons (pe_bltn (x := "dict") (v := .ty "dict") rfl mj (by decide +kernel) rfl) pa_nil))) (by intro _; rfl)))
        (pw_or (pt_cmpR (op_neDD hu65) (pv 10) (pv 4) (nomark _)) (pw_or1 (pt_not (pt_truth (pe_cl CSy hr (pa_cons (pe_cl CSo hr (pa_cons (pe_lst (pa_cons (pe_tup (pa_cons (pv 2) (pa_cons (pv 5) (pa_cons (pv 9) pa_nil)))) pa_nil)) (pa_cons (pv 10) pa_nil))) (pa_cons pe_bl pa_nil))) (by intro _; rfl)))))))
        pss_never pss_nil)
    (Evl.pss_cut (ps_lock (ps_for PassesOwn.never rfl (pi_keys (pv 4)) (pg_name (i := 7) scLaw.nd rfl (.inl rfl))
        (pss_one (ps_dput hu (pv 10) (pv 7) (pe_tup (pa_cons pe_int (pa_cons (pe_tup (pa_cons pe_str (pa_cons (pe_tup (pa_cons pe_int (pa_cons (pe_tup pa_nil) pa_nil))) pa_nil))) pa_nil))) rfl))))
    (Evl.pss_cut (ps_if (pt_cmpR (op_neDD hu65) (pe_cl CM hr (pa_cons (pv 5) (pa_cons (pv 9) pa_nil))) (pv 4) (nomark _)) pss_never pss_nil)
    (Evl.pss_cut (ps_setLc (own := [("_law_place", 12), ("_law_node_here", 13), ("_law_deep", 14), ("_law_head", 15)]) (i := 11) (g := gTup K 4 (gCons (gName 12) (gCons (gName 13) (gCons (gName 14) (gCons (gName 15) gNil))))) rfl scLaw.nd rfl rfl (sw_true rfl rfl rfl (by decide +kernel)) (pi_list (pe_cl CSp hr (pa_cons (pv 9) (pa_cons (pv 2) (pa_cons pe_bl pa_nil))))) (blkOk_by (N := nLaw) (sc := defScope sLaw) (by decide +kernel))
        (fun _ _ _ _ _ => pg_tup rfl (pgs_cons (pg_name (i := 12) scLaw.nd rfl (.inl rfl)) (pgs_cons (pg_name (i := 13) scLaw.nd rfl (.inl rfl)) (pgs_cons (pg_name (i := 14) scLaw.nd rfl (.inl rfl)) (pgs_cons (pg_name (i := 15) scLaw.nd rfl (.inl rfl)) pgs_nil))))) (fun _ _ _ _ _ => pts_nil) (fun _ _ _ _ _ => pv 13))
    (Evl.pss_cut (ps_set (i := 11) scLaw.nd rfl (.inl rfl) (pe_op op_cat (pv 11) (pe_lc (own := [("_law_arity", 8), ("_law_body_here", 16)]) (g := gTup K 2 (gCons (gName 8) (gCons (gName 16) gNil))) (tt := tYes) rfl scLaw.nd
          (pi_list (pe_lock (pe_lc (own := [("_law_number", 7)]) (g := gName 7) (tt := tYes) rfl scLaw.nd (pi_keys (pv 4)) (blkOk_by (N := nLaw) (sc := defScope sLaw) (by decide +kernel)) (fun _ _ _ _ _ => pg_name (i := 7) scLaw.nd rfl (.inl rfl)) (fun _ _ _ _ _ => pts_nil) (fun _ _ _ _ _ => pe_dget hu (pv 4) (pv 7) (fun _ _ => rfl)))))
          (blkOk_by (N := nLaw) (sc := defScope sLaw) (by decide +kernel)) (fun _ _ _ _ _ => pg_tup rfl (pgs_cons (pg_name (i := 8) scLaw.nd rfl (.inl rfl)) (pgs_cons (pg_name (i := 16) scLaw.nd rfl (.inl rfl)) pgs_nil))) (fun _ _ _ _ _ => pts_nil) (fun _ _ _ _ _ => pv 16))))
    (Evl.pss_cut (ps_for PassesOwn.never rfl (pi_range1 rfl mr (pa_cons pe_int pa_nil)) (pg_name (i := 17) scLaw.nd rfl (.inl rfl))
        (pss_cons (ps_set (i := 18) scLaw.nd rfl (.inl rfl) (pe_cl CS hr (pa_cons (pv 1) (pa_cons (pv 9) (pa_cons (pv 2) (pa_cons (pv 11) pa_nil))))))
        (Evl.pss_cut (ps_set (i := 19) scLaw.nd rfl (.inl rfl) (pe_cl CMt hr (pa_cons (pe_lst (pa_cons (pe_tup (pa_cons (pv 5) (pa_cons (pv 18) (pa_cons (pv 2) pa_nil)))) pa_nil)) pa_nil)))
        (Evl.pss_cut (ps_if (pt_cmpR (OpR.or (op_neDD hu65) op_ne) (pe_cl CM hr (pa_cons (pv 5) (pa_cons (pv 18) pa_nil))) (pv 19) (nomark _)) pss_never pss_nil)
        (Evl.pss_cut (ps_if (pt_not (pt_truth (pe_cl CSy hr (pa_cons (pe_cl CSo hr (pa_cons (pe_lst (pa_cons (pe_tup (pa_cons (pv 2) (pa_cons (pv 5) (pa_cons (pv 18) pa_nil)))) pa_nil)) (pa_cons (pv 4) pa_nil))) (pa_cons (pe_cmpR (op_eqD hu64) (pv 18) (pv 9) (nomark _)) pa_nil))) (by intro _; rfl))) pss_never pss_nil)
        (Evl.pss_cut (ps_if (PW.pt (pw_and (pt_cmpR op_notN (pv 19) pe_non (nomark _)) (pw_and1 (pt_not (pt_truth (pe_cl CSy hr (pa_cons (pe_cl CSo hr (pa_cons (pe_tup (pa_cons (pe_tup (pa_cons (pv 2) (pa_cons (pv 18) (pa_cons (pv 5) pa_nil)))) pa_nil)) (pa_cons (pv 19) pa_nil))) (pa_cons pe_bl pa_nil))) (by intro _; rfl)))))) pss_never pss_nil)
        (pss_one (ps_if (pt_cmpR (OpR.or (op_neDD hu65) op_ne) (pe_cl CM hr (pa_cons (pv 9) (pa_cons (pv 18) pa_nil))) (pe_ifExp (pt_cmpR (op_eqD hu64) (pv 18) (pv 9) (nomark _)) pe_dnewK pe_non) (nomark _)) pss_never pss_nil))))))))
    (pss_one (ps_ret pe_bl))))))))))))))), ?_⟩
  refine ⟨_, rfl, a, ns, rfl, hS, h63, fun p b H1 s1 hp0 hb0 d1 => ?_⟩
  refine ⟨_, rfl, p, b, 5, rfl, d1, by decide, fun wi H2 w0 w1 k2 d2 => ⟨le_line (by simp), fun al hal => fun D hD => ⟨le_line (by simp), fun tp htp => ?_⟩⟩⟩
  obtain ⟨wd, rfl⟩ : ∃ wd : Nat, wi = (wd : Int) := ⟨wi.toNat, by omega⟩
  have hwd : wd < 5 := by omega
  have ne2 : ∀ {g : Addr}, H2 g = none → g ≠ p ∧ g ≠ b := fun {g} hg => by
    obtain ⟨ns, i, x, y, z, c, s, e1, e2, e3⟩ := d2
    exact ⟨(fun e => by subst e; rw [e1] at hg; cases hg), (fun e => by subst e; rw [e2] at hg; cases hg)⟩
  have sa := same_new hal (HO.lst [])
  have sb := sa.trans (same_new hD (HO.dK []))
  have sc := sb.trans (same_new htp (HO.tup [V.int (wd : Nat), V.ref al, V.ref D]))
  have nDa : al ≠ D := fun e => by subst e; rw [upd_same] at hD; cases hD
  have l0 : LS K T p b al D [] [] [] [] (upd (upd (upd H2 al (.lst [])) D (.dK [])) tp (.tup [V.int (wd : Nat), V.ref al, V.ref D])) := by
    obtain ⟨xs, hx⟩ := d1.lst
    refine ⟨d2.same sc, (same_new htp _) _ _ (by rw [upd_ne nDa, upd_same]), .nil, (ne2 hal).1, (ne2 hal).2, (same_new htp _) _ _ upd_same, .nil, ?_⟩
    exact (tabs_kp (hT.ext fun x o e => s1 x o e) hx k2).ext fun x o e => sc x o e
  refine ⟨tp, _, rfl, SqT.of upd_same, rfl, _, _, rfl, _, _, rfl, _, _, rfl, rfl, ?_⟩
  refine ⟨_, rfl, _, rfl, _, rfl, p, b, 13, rfl, l0.dr, by decide, fun r H3 r0 r1 k3 d3 => ⟨_, _, rfl, rfl, _, rfl, _, rfl, p, b, 7, rfl, d3, by decide, fun mo H4 m0 m1 k4 d4 => ?_⟩⟩
  obtain ⟨most, rfl⟩ : ∃ most : Nat, mo = (most : Int) := ⟨mo.toNat, by omega⟩
  have l4 := (l0.kp k3 d3).kp k4 d4
  refine ⟨4, p, b, al, wd, most, 2 + r, false, [], [], rfl, by decide, l4.sk, ⟨List.nodup_nil, (fun x h => by cases h), Nat.zero_le _⟩, by omega, by omega, by omega, nd4 _ _, fun v5 H5 pt1 us hs k5 l5 hk5 ht5 hp5 ha5 h05 => ?_⟩
  rw [List.nil_append] at l5 hk5 hp5
  have l5' := l4.kq k5 l5
  refine ⟨fun σ H' => ∃ v5 pt hs us, σ = [some (.ref a), some (.ref p), some (.int (wd : Nat)), some (.ref al), some (.ref D), some v5, none, none, none, none, none, none, none, none, none, none, none, none, none, none] ∧ LS K T p b al D hs us [] [] H' ∧ Hk hs ∧ Tr K H' v5 pt ∧ Pt hs 5 wd pt ∧ All ph0 pa0 pt, ?_, ?_⟩
  · have stay : ∀ H', Kp p H5 H' → DrOk H' p b → ∃ v5' pt hs us, ([some (.ref a), some (.ref p), some (.int (wd : Nat)), some (.ref al), some (.ref D), some v5, none, none, none, none, none, none, none, none, none, none, none, none, none, none] : List (Option V)) = [some (.ref a), some (.ref p), some (.int (wd : Nat)), some (.ref al), some (.ref D), some v5', none, none, none, none, none, none, none, none, none, none, none, none, none, none] ∧ LS K T p b al D hs us [] [] H' ∧ Hk hs ∧ Tr K H' v5' pt ∧ Pt hs 5 wd pt ∧ All ph0 pa0 pt := fun H' k' d' =>
      ⟨v5, pt1, hs, us, rfl, l5'.kp k' d', hk5, ht5.ext (k'.te' l5'.dr), pt_up hp5 (by decide), ha5⟩
    refine ⟨_, rfl, le_line (by simp), fun e0 he0 => ?_⟩
    have s6 := same_new he0 (HO.lst [])
    have l6 := l5'.same s6
    refine ⟨_, _, .lst (SqL.of l6.la) (Tp.dpA _ _ l6.lt), .lst (SqL.of upd_same) .nil, shaped_encH hs, by decide, _, rfl, ?_⟩
    rw [eqv_nil]
    refine ite2 (fun emp => ?_) (fun _ => stay _ (Kp.same s6) l6.dr)
    have ehs : hs = [] := by simpa using emp
    subst ehs
    have eus : us = [] := List.eq_nil_of_length_eq_zero l6.len
    subst eus
    refine ⟨_, rfl, p, b, 8, rfl, l6.dr, by decide, fun c H7 _ _ k7 d7 => ⟨_, rfl, ite2 (fun _ => ?_) (fun _ => stay _ ((Kp.same s6).trans k7) d7)⟩⟩
    have l7 := l6.kp k7 d7
    obtain ⟨ar, har, har2, harw⟩ : ∃ ar : Nat, (if (2 : Int) < ((wd : Nat) : Int) then 2 else ((wd : Nat) : Int)) = (ar : Nat) ∧ ar ≤ 2 ∧ ar ≤ wd := by
      by_cases z : (2 : Int) < ((wd : Nat) : Int)
      · exact ⟨2, by rw [if_pos z]; rfl, by omega, by omega⟩
      · exact ⟨wd, by rw [if_neg z], by omega, Nat.le_refl _⟩
    refine ⟨_, rfl, .inl ⟨rfl, _, SqL.of l7.la⟩, _, rfl, p, b, 200, rfl, d7, by decide, fun num H8 n0 n1 k8 d8 => ?_⟩
    refine ⟨_, rfl, _, _, rfl, ?_⟩
    rw [har]
    have l8 := l7.kp k8 d8
    refine ⟨le_line (by simp), fun tq htq => ?_⟩
    have s9 := same_new htq (HO.tup [V.int num, V.int (ar : Nat)])
    have l9 := l8.same s9
    refine ⟨al, [], .ref tq, rfl, rfl, l9.la, small1000 (by decide), ?_⟩
    have l10 := l9.push (v := .ref tq) (x := (num, ar)) (.tup (SqT.of upd_same) (.cons (.int _) (.cons (.int _) .nil)))
    have hk10 : Hk ([] ++ [(num, ar)]) := hk5.push (by decide) (by simp) ⟨n0, by omega⟩ (by omega)
    have t10 : Te _ (upd (upd H8 tq (HO.tup [V.int num, V.int (ar : Nat)])) al (.lst ([] ++ [V.ref tq]))) := Te.lst l9.la
    have htq10 := t10.seq (SqT.of (K := K) (upd_same (H := H8) (a := tq) (o := HO.tup [V.int num, V.int (ar : Nat)])))
    have ht10 : Tr K (upd (upd H8 tq (HO.tup [V.int num, V.int (ar : Nat)])) al (.lst ([] ++ [V.ref tq]))) v5 pt1 := (ht5.ext ((((Kp.same s6).trans k7).trans (k8.trans (Kp.same s9))).te' l5'.dr)).ext t10
    refine ⟨_, rfl, _, rfl, al, _, 0, _, rfl, rfl, SqL.of l10.la, at0, tq, _, 0, _, rfl, rfl, htq10, at0, _, rfl, _, rfl, _, rfl, _, _, rfl, ?_⟩
    rw [har]
    refine ⟨p, b, wd, ar, rfl, l10.dr, harw, by omega, fun g ws vs H11 k11 d11 hg hws hnd hvl hvlt => ?_⟩
    have l11 := l10.kp k11 d11
    refine ⟨le_line (by simp), fun g1 hg1 => ⟨le_line (by simp), fun g2 hg2 => ?_⟩⟩
    have s11 := same_new hg1 (HO.tup [V.str "hole", V.int num, V.ref g])
    have s12 := s11.trans (same_new hg2 (HO.tup [V.str "app", v5, V.ref g1]))
    have l12 := l11.same s12
    have hole : Tr K (upd H11 g1 (HO.tup [V.str "hole", V.int num, V.ref g])) (.ref g1) (.node (.hole num) (vars vs)) := tr_mk_hole (SqT.of upd_same) (sqT_same s11 hg) (hws.ext (Te.of' s11))
    have hole2 := hole.ext (Te.of' (same_new hg2 (HO.tup [V.str "app", v5, V.ref g1])))
    have ht12 := (ht10.ext (k11.te' l10.dr)).ext (Te.of' s12)
    refine ⟨_, .node .app [pt1, .node (.hole num) (vars vs)], _, _, rfl, l12, hk10, tr_mk_node (by intro n z; cases z) (SqT.of upd_same) (.cons ht12 (.cons hole2 .nil)), ?_, ?_⟩
    · refine .node (by intro n z; cases z) rfl fun j q hq => ?_
      match j, hq with
      | 0, hq => cases hq; exact pt_more (fun x hx => by cases hx) hp5
      | 1, hq => cases hq; exact .hole (by rw [hvl]; exact List.mem_singleton.mpr rfl) hnd hvlt (by omega)
      | j + 2, hq => simp at hq
    · refine all_node.mpr ⟨(fun h hh => by cases hh), fun y hy => ?_⟩
      rcases List.mem_cons.mp hy with rfl | hy
      · exact ha5
      · rw [List.mem_singleton.mp hy]
        refine all_node.mpr ⟨fun h hh => by rw [List.mem_singleton.mp hh]; exact ⟨n0, by omega⟩, fun y hy => ?_⟩
        obtain ⟨v, _, rfl⟩ := List.mem_map.mp hy
        exact all_var
  rintro σ H6 ⟨v5, pt, hs, us, rfl, l6, hk, ht6, hp6, ha6⟩
  have hszp : sz pt ≤ 1024 := sz_pt hp6
  refine ⟨_, rfl, v5, pt, 5, rfl, by decide, ht6, pt_dle hp6, by omega, fun nl H7 s7 hnl => ?_⟩
  have l7 := l6.same s7
  have ht7 := ht6.ext (Te.of' s7)
  have nlp : nl ≠ p := fun e => by
    subst e
    obtain ⟨ns, i, x, y, z, c, s, e1, e2, e3⟩ := l7.dr
    rw [hnl] at e1
    cases hz : nums pt with
    | nil => rw [hz] at e1; cases e1
    | cons m ms => rw [hz] at e1; cases e1
  have nlD : nl ≠ D := fun e => by subst e; have z := l7.dk; rw [hnl] at z; cases z
  have hul : us.length = hs.length := l7.len
  have hle6 := hk.le
  refine ⟨fun σ H' => ∃ x7 x8 kvs es, σ = [some (.ref a), some (.ref p), some (.int (wd : Nat)), some (.ref al), some (.ref D), some v5, some (.ref nl), x7, x8, none, none, none, none, none, none, none, none, none, none, none] ∧ LS K T p b al D hs us kvs es H' ∧ Tr K H' v5 pt ∧ GE hs 2 es ∧ (∀ e ∈ es, H0 e.2.2) ∧ (∀ x ∈ nums pt, ∃ y, es.lookup x = some y) ∧ (∀ x y, es.lookup x = some y → x ∈ nums pt), ?_, ?_⟩
  · refine ⟨_, rfl, al, rfl, ⟨us, SqL.of l7.la⟩, ?_⟩
    refine for_it (walk_list (xs := us)) (fun i σ H' => ∃ x7 x8 kvs es, σ = [some (.ref a), some (.ref p), some (.int (wd : Nat)), some (.ref al), some (.ref D), some v5, some (.ref nl), x7, x8, none, none, none, none, none, none, none, none, none, none, none] ∧ LS K T p b al D hs us kvs es H' ∧ H' nl = some (.lst ((nums pt).map V.int)) ∧ Tr K H' v5 pt ∧ GE hs 2 es ∧ (∀ e ∈ es, H0 e.2.2) ∧ (∀ (j : Nat) x, j < i → hs[j]? = some x → x.1 ∈ nums pt → ∃ y, es.lookup x.1 = some y) ∧ ∀ e ∈ es, e.1 ∈ nums pt ∧ ∃ j, j < i ∧ hs[j]? = some (e.1, e.2.1)) ?_ ?_ ?_ ?_
    · exact ⟨_, _, [], [], rfl, l7, hnl, ht7, GE.nil, (fun e h => by cases h), (fun j x h => by omega), fun e h => by cases h⟩
    · rintro i σ H' _ ⟨_, _, _, _, _, l, _⟩
      exact SqL.of l.la
    · rintro i x σ H8' H8 hi ⟨x7, x8, kvs, es, rfl, l8, hnl8, ht8, hGE, hE0, hcomp, hsnd⟩ ⟨rfl, hx⟩
      have hil : i < hs.length := by omega
      have hat : hs[i]? = some hs[i] := List.getElem?_eq_getElem hil
      obtain ⟨tp, e1, e2⟩ := l8.get hat
      rw [hx] at e1
      cases e1
      obtain ⟨hok1, hok2⟩ := hk.ok _ (List.getElem_mem hil)
      have hmem : hs[i] ∈ hs := List.getElem_mem hil
      generalize hs[i] = hx8 at e2 hok1 hok2 hat hmem
      obtain ⟨num, ar⟩ := hx8
      have hok2 : ar ≤ 3 := hok2
      refine ⟨tp, _, rfl, e2, rfl, _, _, rfl, _, _, rfl, rfl, ?_⟩
      refine ⟨_, rfl, _, rfl, nl, _, rfl, .inl (SqL.of hnl8), rfl, flat_intsI _, _, rfl, ?_⟩
      show if (inV (.int num) ((nums pt).map V.int)) = true then _ else _
      rw [inV_int]
      have hnew : es.lookup num = none := by
        refine look_none fun h => ?_
        obtain ⟨e, he, e3⟩ := List.mem_map.mp h
        obtain ⟨_, j, hj, hj2⟩ := hsnd e he
        have x1 : (hs.map (·.1))[j]? = some num := by rw [List.getElem?_map, hj2]; exact congrArg some e3
        have x2 : (hs.map (·.1))[i]? = some num := by rw [List.getElem?_map, hat]; rfl
        obtain ⟨l1, y1⟩ := List.getElem?_eq_some_iff.mp x1
        obtain ⟨l2, y2⟩ := List.getElem?_eq_some_iff.mp x2
        have := (List.getElem_inj hk.nd).mp (y1.trans y2.symm)
        omega
      refine ite2 (fun yes => ?_) (fun no => ?_)
      · have yes : num ∈ nums pt := of_decide_eq_true yes
        refine ⟨_, rfl, _, rfl, _, rfl, _, rfl, p, b, 6, rfl, l8.dr, by decide, fun r H9 r0 r1 k9 d9 => ⟨_, _, rfl, rfl, le_line (by simp), fun a2 ha2 => ?_⟩⟩
        have l9 := l8.kp k9 d9
        have s10 := same_new ha2 (HO.lst [])
        have l10 := l9.same s10
        have na2 : ∀ {c : Addr} {o : HO}, H9 c = some o → c ≠ a2 := fun h => ne_of_none h ha2
        obtain ⟨dns, di, dx, dy, dz, dc, ds, de1, de2, de3⟩ := d9
        have sk2 : SkS K p b a2 [] [] (upd H9 a2 (.lst [])) := ⟨l10.dr, upd_same, .nil, (na2 de1).symm, (na2 de2).symm⟩
        refine ⟨2, p, b, a2, ar, 0, 1 + r, false, [], [], rfl, by decide, sk2, ⟨List.nodup_nil, (fun x h => by cases h), Nat.zero_le _⟩, by decide, by omega, by omega, ?_, fun v11 H11 t11 us11 hs11 k11 m11 hk11 ht11 hp11 ha11 h011 => ?_⟩
        · unfold nd
          rw [if_neg (by decide)]
          repeat' split
          all_goals omega
        obtain ⟨rfl, h0t⟩ := h011 rfl
        have l11 := l10.kqF k11 m11.dr upd_same (na2 l9.la) (na2 l9.dk)
        have te11 := kqF_te l10 k11 upd_same
        refine ⟨le_line (by simp), fun pp hpp => ?_⟩
        have s12 := same_new hpp (HO.tup [V.int (ar : Nat), v11])
        have l12 := l11.same s12
        have hkl := l12.fl.len
        have hel := ge_len hGE
        refine ⟨_, rfl, _, rfl, D, _, rfl, DPut.k (k := Sum.inl num) l12.dk (small1000 (by omega)), ?_⟩
        rw [putK_new _ ((flL_look l12.fl num).1 hnew)]
        have t13 : Te _ (upd (upd H11 pp (HO.tup [V.int (ar : Nat), v11])) D (.dK (kvs ++ [(Sum.inl num, V.ref pp)]))) := Te.dK l12.dk
        have hnl9 : H9 nl = some (.lst ((nums pt).map V.int)) := k9 _ _ hnl8 nlp
        have hnl12 := s12 _ _ (k11 _ _ (s10 _ _ hnl9) nlp (na2 hnl9))
        have tA := ((((k9.te' l8.dr).trans (Te.of' s10)).trans te11).trans (Te.of' s12)).trans t13
        refine ⟨_, _, _, es ++ [(num, ar, t11)], rfl, l12.dict (l12.fl.snoc ⟨rfl, pp, v11, rfl, SqT.of upd_same, ht11.ext (Te.of' s12)⟩), by rw [upd_ne nlD]; exact hnl12, ht8.ext tA, hGE.snoc hnew hmem h0t.hf (pt_dle hp11) (pt_sc hp11), fun e he => ?_, fun j x hj hx hx2 => ?_, fun e he => ?_⟩
        · rcases List.mem_append.mp he with he | he
          · exact hE0 _ he
          · rw [List.mem_singleton.mp he]; exact h0t
        · rw [look_snoc hnew]
          by_cases ex : x.1 = num
          · rw [if_pos ex]; exact ⟨_, rfl⟩
          · rw [if_neg ex]
            have hji : j ≠ i := fun e => by rw [e, hat] at hx; cases hx; exact ex rfl
            exact hcomp j x (by omega) hx hx2
        · rcases List.mem_append.mp he with he | he
          · obtain ⟨q1, j, q2, q3⟩ := hsnd e he
            exact ⟨q1, j, by omega, q3⟩
          · rw [List.mem_singleton.mp he]
            exact ⟨yes, i, by omega, hat⟩
      · have no : ¬ num ∈ nums pt := fun z => no (decide_eq_true z)
        refine ⟨_, _, kvs, es, rfl, l8, hnl8, ht8, hGE, hE0, fun j x hj hx hx2 => ?_, fun e he => ?_⟩
        · have hji : j ≠ i := fun e => by rw [e, hat] at hx; cases hx; exact no hx2
          exact hcomp j x (by omega) hx hx2
        · obtain ⟨q1, j, q2, q3⟩ := hsnd e he
          exact ⟨q1, j, by omega, q3⟩
    · rintro σ H8 ⟨x7, x8, kvs, es, rfl, l8, hnl8, ht8, hGE, hE0, hcomp, hsnd⟩
      refine ⟨x7, x8, kvs, es, rfl, l8, ht8, hGE, hE0, fun x hx => ?_, fun x y hy => (hsnd _ (look_in hy)).1⟩
      obtain ⟨ar, har⟩ := pt_nums hp6 x hx
      obtain ⟨j, hj⟩ := List.mem_iff_getElem?.mp har
      have hjl := (List.getElem?_eq_some_iff.mp hj).1
      exact hcomp j _ (by omega) hj hx
  rintro σ H8 ⟨x7, x8, kvs, es, rfl, l8, ht8, hGE, hE0, hcomp, hsnd⟩
  have hn := hk.nd
  have hφ2 : ∀ x ∈ nums pt, ∃ ar b, fE es x = some (ar, b) ∧ (x, ar) ∈ hs ∧ Hf b ∧ dle 2 b ∧ KM.sc ar b := fun x hx => by
    obtain ⟨⟨ar, b⟩, hy⟩ := hcomp x hx
    obtain ⟨o1, o2, o3, o4⟩ := hGE.ok _ (look_in hy)
    exact ⟨ar, b, hy, o1, o2, o3, o4⟩
  have hφ14 : ∀ x ∈ nums pt, ∃ ar b, fE es x = some (ar, b) ∧ (x, ar) ∈ hs ∧ Hf b ∧ dle 14 b ∧ KM.sc ar b := fun x hx => by
    obtain ⟨ar, b, e1, e2, e3, e4, e5⟩ := hφ2 x hx
    exact ⟨ar, b, e1, e2, e3, dle_mono e4 (by decide), e5⟩
  obtain ⟨a1, a2, a3, a4, a5⟩ := pt_fill hn hp6 hφ2
  obtain ⟨b1, b2, b3, b4, b5⟩ := pt_fill hn hp6 hφ14
  have e7 : fillN (fE es) 19 pt = fillN (fE es) 7 pt := fillN_mono a1 (by decide)
  have hall : All (fun _ => True) pa0 (fillN (fE es) 19 pt) := all_fill (ph := ph0) (ph' := fun _ => True) (fun _ _ _ => trivial) (fun h ar b e => all_mono (fun _ z => z.elim) (hE0 _ (look_in e))) b1 ha6
  have h0t : H0 (fillN (fE es) 19 pt) := all_and b4 hall
  have d7t : dle 7 (fillN (fE es) 19 pt) := by rw [e7]; exact a3
  have sct : KM.sc wd (fillN (fE es) 19 pt) := sc_fill b1
  have szt : sz (fillN (fE es) 19 pt) ≤ 16384 := sz_hf h0t.hf d7t
  have sht : SeqAt.shaped (enc (fillN (fE es) 19 pt)) = true := enc_shaped pa0_ok h0t d7t (by decide)
  have fdt : KP.fdl (fE es) 19 19 19 pt := b5 19 (by decide)
  obtain ⟨E1, m1', m2⟩ := mt_tot hn (φ := fE es) hp6 hφ14 (E := []) (fun k x z => by cases z) b4 (dle_mono d7t (by decide)) GE.nil
  have m1' : KM.mt pt (fillN (fE es) 19 pt) [] = some E1 := m1'
  obtain ⟨m3, m4, m5, m6, m7, m8⟩ := mt_ok (D := 14) hn hp6 h0t.hf (dle_mono d7t (by decide)) GE.nil m1'
  have hlook : ∀ x, E1.lookup x = es.lookup x := fun x => by
    cases e : E1.lookup x with
    | some y => exact (m2 x y e).symm
    | none =>
      cases e2 : es.lookup x with
      | none => rfl
      | some y =>
        obtain ⟨y', hy'⟩ := m6 x (hsnd x y e2)
        rw [e] at hy'; cases hy'
  have efE : fE E1 = fE es := funext hlook
  have hee : ∀ e ∈ es, SeqAt.shaped (.tuple [.int (e.2.1 : Nat), enc e.2.2]) = true := fun e he => ent_shaped pa0_ok (hE0 e he) (hGE.ok e he).2.2.1 (by decide)
  have hee1 : ∀ e ∈ E1, SeqAt.shaped (.tuple [.int (e.2.1 : Nat), enc e.2.2]) = true := fun e he => by
    have z := look_of m4.nd he
    rw [hlook] at z
    exact hee _ (look_in z)
  have hel := ge_len hGE
  have hel1 := ge_len m4
  obtain ⟨tt, htt⟩ : ∃ tt, fillN (fE es) 19 pt = tt := ⟨_, rfl⟩
  rw [htt] at h0t d7t sct szt sht m1' hall
  refine ⟨_, rfl, _, rfl, _, rfl, v5, D, pt, wd, fE es, 19, rfl, ht8, ⟨5, pt_dle hp6⟩, by omega, by omega, b1, b2, ⟨kvs, .inl l8.dk, l8.fl.flK⟩, (fun k ar b e => ⟨2, (hGE.ok _ (look_in e)).2.2.1⟩), fun v9 H9 s9 h9 => ?_⟩
  rw [htt] at h9
  have l9 := l8.same s9
  have ht9 := ht8.ext (Te.of' s9)
  refine ⟨_, rfl, _, rfl, hs, ⟨hn, by omega⟩, v5, v9, pt, tt, 5, wd, rfl, by decide, ht9, h9, hp6, ⟨ph0, ha6⟩, pt_dle hp6, h0t, dle_mono d7t (by decide), fun g kt E2 H10 s10 hg0 em hg hfl hE2 => ?_, fun H10 s10 em => ?_⟩
  case refine_2 =>
    rw [m1'] at em
    cases em
  have eE : E1 = E2 := by rw [m1'] at em; exact Option.some.inj em
  subst eE
  have gp : g ≠ p := fun e => by subst e; obtain ⟨xs, hx⟩ := l9.lst; rw [hg0] at hx; cases hx
  refine ⟨fun σ H' => σ = [some (.ref a), some (.ref p), some (.int (wd : Nat)), some (.ref al), some (.ref D), some v5, some (.ref nl), x7, x8, some v9, some (.ref g), none, none, none, none, none, none, none, none, none] ∧ Gr T H9 H' ∧ ∃ kt, H' g = some (.dK kt) ∧ kt.length ≤ 6, ?_, ?_⟩
  · have l10 := l9.same s10
    refine ⟨_, rfl, _, _, _, _, true, rfl, .ty _, .base (.dK hg), rfl, _, rfl, ?_⟩
    refine iteF ?_
    obtain ⟨p1, p2⟩ := flL_pair2 hfl l10.fl m4.nd hGE.nd hlook hee1
    refine ⟨_, rfl, _, rfl, g, D, kt, kvs, rfl, rfl, hg, l10.dk, p1, p2, _, rfl, iteF ?_⟩
    refine ⟨_, rfl, _, rfl, _, rfl, le_line (by simp), fun q1 hq1 => ⟨le_line (by simp), fun q2 hq2 => ?_⟩⟩
    have s11 := (same_new hq1 (HO.tup [V.int (wd : Nat), v5, v9])).trans (same_new hq2 (HO.lst [V.ref q1]))
    have ne12 : q1 ≠ q2 := fun e => by subst e; rw [upd_same] at hq2; cases hq2
    have nf : fillN (fE E1) 19 tt = tt := none_fill (hf_none h0t.hf) (dle_mono d7t (by decide))
    refine ⟨_, rfl, q2, q1, g, .int (wd : Nat), v5, v9, pt, tt, fE E1, rfl, .inl (SqL.of upd_same), SqT.of (by rw [upd_ne ne12, upd_same]), ht9.ext (Te.of' (s10.trans s11)), h9.ext (Te.of' (s10.trans s11)), ⟨kt, .inl (s11 _ _ hg), (hfl.te (Te.of' s11)).flK⟩, l10.tb.ext fun x o e => s11 x o e, by rw [efE]; exact fdt, none_fdl (hf_none h0t.hf) (dle_mono d7t (by decide)), ⟨_, by rw [efE, htt]; exact hall⟩, ⟨_, by rw [nf]; exact h0t⟩, by rw [efE, htt]; exact sht, by rw [nf]; exact sht, fun c H12 g12 hc => ?_⟩
    have ec : c = true := hc.mpr (by rw [nf, efE, htt])
    subst ec
    refine ⟨true, true, rfl, _, rfl, iteF ?_⟩
    have g9 := (Gr.of (T := T) (s10.trans s11)).trans g12
    exact ⟨rfl, g9, kt, g12.ext _ _ (s11 _ _ hg) (fun ps z => by cases z), by rw [hfl.len]; omega⟩
  rintro σ H10 ⟨rfl, g10, kt, hg10, hkt⟩
  refine ⟨fun σ H' => ∃ x7, σ = [some (.ref a), some (.ref p), some (.int (wd : Nat)), some (.ref al), some (.ref D), some v5, some (.ref nl), x7, x8, some v9, some (.ref g), none, none, none, none, none, none, none, none, none] ∧ Gr T H9 H', ?_, ?_⟩
  · have dk10 := (l9.gr g10).dk
    have nw : Nw H9 g := .of hg0
    have gD : g ≠ D := by rintro rfl; rw [l9.dk] at hg0; cases hg0
    refine ⟨D, .dK kvs, dk10, trivial, fun od => ⟨_, rfl, D, od, rfl, .inl ⟨kvs, upd_same, ?_⟩⟩⟩
    refine for_it walk_keys (fun i σ H' => Lkd T H9 H' D od kvs ∧ ∃ x7 kt, σ = [some (.ref a), some (.ref p), some (.int (wd : Nat)), some (.ref al), some (.ref D), some v5, some (.ref nl), x7, x8, some v9, some (.ref g), none, none, none, none, none, none, none, none, none] ∧ H' g = some (.dK kt) ∧ kt.length ≤ 6 + i) ?_ ?_ ?_ ?_
    · exact ⟨Lkd.startG g10 l9.dk l9.tb, _, kt, rfl, by rw [upd_ne gD]; exact hg10, by omega⟩
    · rintro i σ H' _ ⟨L, _⟩
      exact L.at_
    · rintro i x σ H11 H11' hi ⟨L, x7, kt, rfl, hgt, hkl⟩ ⟨rfl, ky, vv, hkv, rfl⟩
      have hil : i < 6 := by have := l9.fl.len; omega
      obtain ⟨e, he, hfe⟩ := l9.fl.get hkv
      have e1 : ky = .inl e.1 := hfe.1
      subst e1
      refine ⟨le_line (by simp), fun p1 h1 => ⟨le_line (by simp), fun p2 h2 => ⟨le_line (by simp), fun p3 h3 => ⟨le_line (by simp), fun p4 h4 => ?_⟩⟩⟩⟩
      have s1 := same_new h1 (HO.tup [])
      have s2 := s1.trans (same_new h2 (HO.tup [V.int 9, V.ref p1]))
      have s3 := s2.trans (same_new h3 (HO.tup [V.str "univ", V.ref p2]))
      have s4 := s3.trans (same_new h4 (HO.tup [V.int 0, V.ref p3]))
      have hgt8 := s4 _ _ hgt
      refine ⟨_, rfl, _, rfl, g, _, rfl, DPut.k (k := Sum.inl e.1) hgt8 (small1000 (by omega)), ?_⟩
      refine ⟨(L.gr (Gr.of (T := T) s4)).mutN nw gD hgt8 (fun ps z => by cases z) dK_code, _, _, rfl, upd_same, ?_⟩
      have : (putK kt (.inl e.1) (.ref p4)).length ≤ kt.length + 1 := by
        unfold putK
        split
        · simp
        · simp
      omega
    · rintro σ H11 ⟨L, x7, kt, rfl, _, _⟩
      exact ⟨L.at_, x7, rfl, L.unlock l9.dk⟩
  rintro σ H11 ⟨x7, rfl, g11⟩
  refine ⟨fun σ H' => σ = [some (.ref a), some (.ref p), some (.int (wd : Nat)), some (.ref al), some (.ref D), some v5, some (.ref nl), x7, x8, some v9, some (.ref g), none, none, none, none, none, none, none, none, none] ∧ Gr T H9 H', ?_, ?_⟩
  · have l11 := l9.gr g11
    refine ⟨_, rfl, _, rfl, hs, ⟨hn, by omega⟩, v5, v9, pt, tt, 5, wd, rfl, by decide, ht9.ext g11.te, h9.ext g11.te, hp6, ⟨ph0, ha6⟩, pt_dle hp6, h0t, dle_mono d7t (by decide), fun g2 kt2 E2 H12 s12 _ em hg2 hfl2 hE2 => ?_, fun H12 s12 em => ?_⟩
    · have eE : E1 = E2 := by rw [m1'] at em; exact Option.some.inj em
      subst eE
      have l12 := l11.same s12
      obtain ⟨p1, p2⟩ := flL_pair2 hfl2 l12.fl m4.nd hGE.nd hlook hee1
      refine ⟨_, rfl, g2, D, kt2, kvs, rfl, rfl, hg2, l12.dk, p1, p2, _, rfl, iteF ?_⟩
      exact ⟨rfl, g11.trans (Gr.of s12)⟩
    · rw [m1'] at em
      cases em
  rintro σ H12 ⟨rfl, g12⟩
  refine ⟨fun σ H' => ∃ pl acc, σ = [some (.ref a), some (.ref p), some (.int (wd : Nat)), some (.ref al), some (.ref D), some v5, some (.ref nl), x7, x8, some v9, some (.ref g), some (.ref pl), none, none, none, none, none, none, none, none] ∧ Gr T H9 H' ∧ H' pl = some (.lst acc) ∧ TpAll K H' acc (((spt tt wd false).map fun x => x.2.1).map enc), ?_, ?_⟩
  · refine ⟨_, rfl, _, rfl, v9, tt, wd, false, 7, rfl, by decide, h9.ext g12.te, d7t, by omega, fun gs xs H13 s13 hgs0 hgs hxs => ⟨gs, rfl, ⟨_, SqL.of hgs⟩, fun Dl hDl => ?_⟩⟩
    have hxl : xs.length = (spt tt wd false).length := by rw [tpA_len hxs, List.length_map]
    have hsl := spt_len tt wd false
    generalize hS' : spt tt wd false = S at hxs hxl hsl
    refine lc_it (walk_list (xs := xs)) (fun i H' => Same H13 H' ∧ ∃ acc, H' Dl = some (.lst acc) ∧ TpAll K H' acc (((S.take i).map fun x => x.2.1).map enc)) ?_ ?_ ?_ ?_
    · exact ⟨same_new hDl _, [], upd_same, .nil⟩
    · rintro i H' _ ⟨s14, _⟩
      exact SqL.of (s14 _ _ hgs)
    · rintro i x H14' H14 hi ⟨s14, acc, hacc, hta⟩ ⟨rfl, hx⟩
      have hiS : i < S.length := by omega
      obtain ⟨v', hv', tv⟩ := tpA_get (i := i) (d := encS S[i]) hxs (by rw [List.getElem?_map, List.getElem?_eq_getElem hiS]; rfl)
      rw [hx] at hv'
      cases hv'
      obtain ⟨sa', sb', sy, rfl, e1, e2, e3⟩ := spot_tp (tp_ext (Te.of' s14) _ _ tv)
      refine ⟨sa', _, rfl, e1, rfl, _, _, rfl, _, _, rfl, _, _, rfl, _, _, rfl, rfl, rfl, _, rfl, acc, hacc, ?_, same_mut s14 hDl, acc ++ [sy], upd_same, ?_⟩
      · have z := tpA_len hta
        rw [List.length_map, List.length_map, List.length_take] at z
        rw [sizeLine_eq]; omega
      · have t15 := Te.lst (o := HO.lst (acc ++ [sy])) hacc
        rw [List.take_add_one, List.getElem?_eq_getElem hiS, List.map_append, List.map_append]
        exact tpA_snoc (tpA_ext t15 _ _ hta) (e3.ext t15)
    · rintro H14 ⟨s14, acc, hacc, hta⟩
      rw [List.take_of_length_le (by omega)] at hta
      exact ⟨Dl, acc, rfl, g12.trans (Gr.of (s13.trans s14)), hacc, hta⟩
  rintro σ H13 ⟨pl0, acc0, rfl, g13, hpl0, hta0⟩
  have hsl := spt_len tt wd false
  have hal0 : acc0.length ≤ 16384 := by
    have z := tpA_len hta0
    rw [List.length_map, List.length_map] at z
    omega
  refine ⟨fun σ H' => ∃ (pl : Addr) (xs : List V) (ts : List Tm), σ = [some (.ref a), some (.ref p), some (.int (wd : Nat)), some (.ref al), some (.ref D), some v5, some (.ref nl), x7, x8, some v9, some (.ref g), some (.ref pl), none, none, none, none, none, none, none, none] ∧ Gr T H9 H' ∧ H' pl = some (.lst xs) ∧ pl ≠ p ∧ TpAll K H' xs (ts.map enc) ∧ xs.length ≤ 100000 ∧ (∀ q ∈ ts, H0 q ∧ dle 7 q ∧ sz q ≤ 100000), ?_, ?_⟩
  · have l13 := l9.gr g13
    have nplD : pl0 ≠ D := fun e => by subst e; rw [l13.dk] at hpl0; cases hpl0
    refine ⟨_, rfl, D, .dK kvs, l13.dk, trivial, fun od => ⟨_, rfl, D, od, rfl, .inl ⟨kvs, upd_same, fun Dl hDl => ?_⟩⟩⟩
    have L0 := Lkd.startG (od := od) g13 l9.dk l9.tb
    have nDl : Dl ≠ D := by rintro rfl; rw [upd_same] at hDl; cases hDl
    have nwDl : Nw H9 Dl := nw_lk L0 hDl
    have npDl : pl0 ≠ Dl := fun e => by subst e; rw [upd_ne nplD, hpl0] at hDl; cases hDl
    have te0 : Te H13 (upd (upd H13 D (.frz od (.dK kvs))) Dl (.lst [])) := (Te.dK l13.dk).trans (Te.of' (same_new hDl _))
    refine lc_it walk_keys (fun i H' => Lkd T H9 H' D od kvs ∧ H' pl0 = some (.lst acc0) ∧ TpAll K H' acc0 (((spt tt wd false).map fun x => x.2.1).map enc) ∧ ∃ acc, H' Dl = some (.lst acc) ∧ TpAll K H' acc ((es.take i).map fun e => PyData.tuple [.int (e.2.1 : Nat), enc e.2.2])) ?_ ?_ ?_ ?_
    · exact ⟨L0.gr (Gr.new hDl), by rw [upd_ne npDl, upd_ne nplD]; exact hpl0, tpA_ext te0 _ _ hta0, [], upd_same, .nil⟩
    · rintro i H' _ ⟨L, _⟩
      exact L.at_
    · rintro i x H14 H14' hi ⟨L, hp14, ht14, acc, hacc, hta⟩ ⟨rfl, ky, vv, hkv, rfl⟩
      obtain ⟨e, he, hfe⟩ := l9.fl.get hkv
      have hv : valV kvs ky = some vv := val_nodup (by rw [l9.fl.keys]; exact nodup_inl hGE.nd) _ (List.mem_of_getElem? hkv)
      obtain ⟨n9, ar, bd⟩ := e
      obtain ⟨e1, a', vb, e2, e3, e4⟩ := hfe
      have e1 : ky = .inl n9 := e1
      have e2 : vv = .ref a' := e2
      subst e1 e2
      have te := (L.re l9.dk).te
      have t15 := Te.lst (o := HO.lst (acc ++ [V.ref a'])) hacc
      have hal : acc.length ≤ 50 := by
        have z := tpA_len hta
        rw [List.length_map, List.length_take] at z
        omega
      refine ⟨rfl, _, rfl, _, rfl, D, _, rfl, .inl ⟨kvs, .inl n9, .inr ⟨od, L.at_⟩, rfl, hv.symm⟩, acc, hacc, small1000 (by omega), L.mutN nwDl nDl hacc (fun ps z => by cases z) lst_code, by rw [upd_ne npDl]; exact hp14, tpA_ext t15 _ _ ht14, acc ++ [.ref a'], upd_same, ?_⟩
      rw [List.take_add_one, he, List.map_append]
      exact tpA_snoc (tpA_ext t15 _ _ hta) (.tup (t15.seq (te.seq e3)) (.cons (.int _) (.cons ((e4.ext te).ext t15) .nil)))
    · rintro H14 ⟨L, hp14, ht14, acc, hacc, hta⟩
      rw [List.take_of_length_le (by have := l9.fl.len; omega)] at hta
      have g15 := L.unlock l9.dk
      have te15 : Te H14 (upd H14 D (.dK kvs)) := te_unlock L.at_
      refine ⟨L.at_, Dl, rfl, ⟨acc, SqL.of (by rw [upd_ne nDl]; exact hacc)⟩, fun D2 hD2 => ?_⟩
      have nw2 : Nw H9 D2 := nw_gr g15 hD2
      have hp15 : upd H14 D (.dK kvs) pl0 = some (.lst acc0) := by rw [upd_ne nplD]; exact hp14
      have hacc15 : upd H14 D (.dK kvs) Dl = some (.lst acc) := by rw [upd_ne nDl]; exact hacc
      have np2 := ne_of_none hp15 hD2
      have nD2 := ne_of_none hacc15 hD2
      have hal : acc.length = es.length := by
        have z := tpA_len hta
        rw [List.length_map] at z
        exact z
      refine lc_it (walk_list (xs := acc)) (fun j H' => Gr T H9 H' ∧ H' pl0 = some (.lst acc0) ∧ TpAll K H' acc0 (((spt tt wd false).map fun x => x.2.1).map enc) ∧ H' Dl = some (.lst acc) ∧ TpAll K H' acc (es.map fun e => PyData.tuple [.int (e.2.1 : Nat), enc e.2.2]) ∧ ∃ acc2, H' D2 = some (.lst acc2) ∧ TpAll K H' acc2 ((es.take j).map fun e => enc e.2.2)) ?_ ?_ ?_ ?_
      · have s16 := same_new hD2 (HO.lst [])
        exact ⟨g15.trans (Gr.of s16), s16 _ _ hp15, tpA_ext (te15.trans (Te.of' s16)) _ _ ht14, s16 _ _ hacc15, tpA_ext (te15.trans (Te.of' s16)) _ _ hta, [], upd_same, .nil⟩
      · rintro j H' _ ⟨_, _, _, h, _⟩
        exact SqL.of h
      · rintro j x H16' H16 hj ⟨g16, hp16, ht16, hacc16, hta16, acc2, hacc2, hta2⟩ ⟨rfl, hx⟩
        have hje : j < es.length := by omega
        obtain ⟨v', hv', tv⟩ := tpA_get (i := j) (d := PyData.tuple [.int (es[j].2.1 : Nat), enc es[j].2.2]) hta16 (by rw [List.getElem?_map, List.getElem?_eq_getElem hje]; rfl)
        rw [hx] at hv'
        cases hv'
        cases tv with
        | @tup a' xs' _ h1 h2 =>
          cases h2 with
          | cons h3 h4 =>
            cases h3
            cases h4 with
            | @cons vb _ _ _ h5 h6 =>
              cases h6
              have t17 := Te.lst (o := HO.lst (acc2 ++ [vb])) hacc2
              have hal2 : acc2.length ≤ 50 := by
                have z := tpA_len hta2
                rw [List.length_map, List.length_take] at z
                omega
              refine ⟨a', _, rfl, h1, rfl, _, _, rfl, _, _, rfl, rfl, rfl, _, rfl, acc2, hacc2, small1000 (by omega), gr_mutN g16 nw2 hacc2 (fun ps z => by cases z) lst_code, by rw [upd_ne np2]; exact hp16, tpA_ext t17 _ _ ht16, by rw [upd_ne nD2]; exact hacc16, tpA_ext t17 _ _ hta16, acc2 ++ [vb], upd_same, ?_⟩
              rw [List.take_add_one, List.getElem?_eq_getElem hje, List.map_append]
              exact tpA_snoc (tpA_ext t17 _ _ hta2) (tp_ext t17 _ _ h5)
      · rintro H16 ⟨g16, hp16, ht16, hacc16, hta16, acc2, hacc2, hta2⟩
        rw [List.take_of_length_le (by omega)] at hta2
        have hal2 : acc2.length ≤ 50 := by
          have z := tpA_len hta2
          rw [List.length_map] at z
          omega
        refine ⟨pl0, D2, acc0, acc2, rfl, rfl, hp16, hacc2, by rw [sizeLine_eq]; omega, fun g3 hg3 => ?_⟩
        have s17 := same_new hg3 (HO.lst (acc0 ++ acc2))
        have ng3 : g3 ≠ p := fun e => by subst e; obtain ⟨xs, hx⟩ := (l9.gr g16).lst; rw [hg3] at hx; cases hx
        refine ⟨g3, acc0 ++ acc2, (spt tt wd false).map (fun x => x.2.1) ++ es.map (fun e => e.2.2), rfl, g16.trans (Gr.of s17), upd_same, ng3, ?_, by rw [List.length_append]; omega, fun q hq => ?_⟩
        · rw [List.map_append]
          refine tpA_app (tpA_ext (Te.of' s17) _ _ ht16) ?_
          rw [List.map_map]
          exact tpA_ext (Te.of' s17) _ _ hta2
        · rcases List.mem_append.mp hq with hq | hq
          · obtain ⟨x, hx, rfl⟩ := List.mem_map.mp hq
            obtain ⟨y1, y2⟩ := spt_in d7t wd false x hx
            obtain ⟨z1, z2, z3, _⟩ := getN_facts x.1 y1 h0t d7t
            exact ⟨z1, z2, by omega⟩
          · obtain ⟨e, he, rfl⟩ := List.mem_map.mp hq
            have z := (hGE.ok e he).2.2.1
            have z2 := sz_hf (hE0 e he).hf z
            exact ⟨hE0 e he, dle_mono z (by decide), by omega⟩
  rintro σ H14 ⟨pl, xs, ts, rfl, g14, hpl, npl, hts, hxl, hts2⟩
  have S0 : TS K T p b al D pl hs us kvs es v5 v9 pt tt xs ts H14 := ⟨l9.gr g14, ht9.ext g14.te, h9.ext g14.te, hpl, npl, hts⟩
  refine ⟨fun σ H' => True, ?_, fun σ H' _ => q H'⟩
  refine ⟨3, rfl, by decide, by decide, ?_⟩
  refine for_it walk_range (fun i σ H' => ∃ x17 x18 x19, σ = [some (.ref a), some (.ref p), some (.int (wd : Nat)), some (.ref al), some (.ref D), some v5, some (.ref nl), x7, x8, some v9, some (.ref g), some (.ref pl), none, none, none, none, none, x17, x18, x19] ∧ TS K T p b al D pl hs us kvs es v5 v9 pt tt xs ts H') ?_ ?_ ?_ ?_
  · exact ⟨_, _, _, rfl, S0⟩
  · intro _ _ _ _ _; trivial
  · rintro i x σ H15' H15 hi ⟨x17, x18, x19, rfl, S1⟩ ⟨rfl, rfl⟩
    refine ⟨_, rfl, _, rfl, _, rfl, _, rfl, p, b, pl, v9, tt, wd, xs, ts, rfl, S1.ls.dr, S1.h9, h0t, d7t, by omega, by omega, S1.lp, S1.np, S1.tp, hxl, hts2, fun v18 t' H16 k16 d16 ht' h0' d14 sz' => ?_⟩
    have S2 := S1.kp k16 d16
    have sht' : SeqAt.shaped (enc t') = true := enc_shaped pa0_ok h0' d14 (by decide)
    have nf : ∀ φ : Fl, fillN φ 19 t' = t' := fun φ => none_fill (hf_none h0'.hf) (dle_mono d14 (by decide))
    have nfd : ∀ φ : Fl, KP.fdl φ 19 19 19 t' := fun φ => none_fdl (hf_none h0'.hf) (dle_mono d14 (by decide))
    have shE : ∀ E : Ens, GE hs 14 E → (∀ e ∈ E, H0 e.2.2) → ∀ e ∈ E, SeqAt.shaped (.tuple [.int (e.2.1 : Nat), enc e.2.2]) = true := fun E hG hE e he => ent_shaped pa0_ok (hE e he) (hG.ok e he).2.2.1 (by decide)
    have dt14 : dle 14 tt := dle_mono d7t (by decide)
    refine ⟨fun σ H' => ∃ (vw : V) (oE : Option Ens), σ = [some (.ref a), some (.ref p), some (.int (wd : Nat)), some (.ref al), some (.ref D), some v5, some (.ref nl), x7, x8, some v9, some (.ref g), some (.ref pl), none, none, none, none, none, some (.int (0 + (i : Int))), some v18, some vw] ∧ TS K T p b al D pl hs us kvs es v5 v9 pt tt xs ts H' ∧ Tr K H' v18 t' ∧ Wt K hs pt t' H' vw oE ∧ KM.mt pt t' [] = oE, ?_, ?_⟩
    · refine ⟨_, rfl, _, rfl, _, rfl, le_line (by simp), fun q1 hq1 => ⟨le_line (by simp), fun q2 hq2 => ?_⟩⟩
      have s17 := (same_new hq1 (HO.tup [v5, v18, V.int (wd : Nat)])).trans (same_new hq2 (HO.lst [V.ref q1]))
      have ne12 : q1 ≠ q2 := fun e => by subst e; rw [upd_same] at hq2; cases hq2
      have S3 := S2.gr (Gr.of (T := T) s17)
      have ht3 := ht'.ext (Te.of' s17)
      refine ⟨hs, ⟨hn, by omega⟩, q2, q1, v5, v18, pt, t', wd, rfl, SqL.of upd_same, SqT.of (by rw [upd_ne ne12, upd_same]), S3.h5, ht3, hp6, ⟨ph0, ha6⟩, by omega, by omega, h0', d14, sz', fun g3 kv3 E3 H17 s18 hg30 elm efl hg3 hfl3 hE3 => ?_, fun H17 s18 hno => ?_⟩
      · obtain ⟨y1, _, y3⟩ := lm_ok (D := 14) hp6 (ot := some t') (E := []) (fun t'' e => by cases e; exact ⟨h0'.hf, d14⟩) GE.nil elm
        exact ⟨.ref g3, some E3, rfl, S3.gr (Gr.of s18), ht3.ext (Te.of' s18), .yes hg3 hfl3 hE3 y1 y3 efl, want_some (D := 14) hn hp6 h0'.hf d14 elm efl⟩
      · exact ⟨.non, none, rfl, S3.gr (Gr.of s18), ht3.ext (Te.of' s18), .no, want_none (D := 14) hn hp6 h0'.hf d14 hno⟩
    rintro σ H17 ⟨vw, oE, rfl, S3, ht3, hw, hmt⟩
    refine ⟨fun σ H' => σ = [some (.ref a), some (.ref p), some (.int (wd : Nat)), some (.ref al), some (.ref D), some v5, some (.ref nl), x7, x8, some v9, some (.ref g), some (.ref pl), none, none, none, none, none, some (.int (0 + (i : Int))), some v18, some vw] ∧ TS K T p b al D pl hs us kvs es v5 v9 pt tt xs ts H' ∧ Tr K H' v18 t' ∧ Wt K hs pt t' H' vw oE, ?_, ?_⟩
    · refine ⟨_, rfl, _, rfl, hs, ⟨hn, by omega⟩, v5, v18, pt, t', 5, wd, rfl, by decide, S3.h5, ht3, hp6, ⟨ph0, ha6⟩, pt_dle hp6, h0', d14, fun g4 kt4 E4 H18 s18 _ em hg4 hfl4 hE4 => ?_, fun H18 s18 em => ?_⟩
      · have w18 := hw.gr (T := T) (Gr.of s18)
        have S4 := S3.gr (Gr.of (T := T) s18)
        rw [em] at hmt
        subst hmt
        have w19 := w18
        cases w19 with
        | @yes g3 kv3 _ h1 h2 h3 h4 h5 h6 =>
          obtain ⟨p1, p2⟩ := flL_pair2 hfl4 h2 h4.nd h4.nd (fun _ => rfl) (shE _ h4 h3)
          refine ⟨_, rfl, .inl ⟨g4, g3, kt4, kv3, rfl, rfl, hg4, h1, p1, p2, _, rfl, iteF ?_⟩⟩
          exact ⟨rfl, S4, ht3.ext (Te.of' s18), w18⟩
      · have w18 := hw.gr (T := T) (Gr.of s18)
        have S4 := S3.gr (Gr.of (T := T) s18)
        rw [em] at hmt
        subst hmt
        have w19 := w18
        cases w19 with
        | no =>
          refine ⟨_, rfl, .inr ⟨rfl, _, rfl, iteF ?_⟩⟩
          exact ⟨rfl, S4, ht3.ext (Te.of' s18), w18⟩
    rintro σ H18 ⟨rfl, S4, ht4, hw4⟩
    refine ⟨fun σ H' => σ = [some (.ref a), some (.ref p), some (.int (wd : Nat)), some (.ref al), some (.ref D), some v5, some (.ref nl), x7, x8, some v9, some (.ref g), some (.ref pl), none, none, none, none, none, some (.int (0 + (i : Int))), some v18, some vw] ∧ TS K T p b al D pl hs us kvs es v5 v9 pt tt xs ts H' ∧ Tr K H' v18 t' ∧ Wt K hs pt t' H' vw oE, ?_, ?_⟩
    · refine ⟨_, rfl, _, rfl, _, rfl, le_line (by simp), fun q1 hq1 => ⟨le_line (by simp), fun q2 hq2 => ?_⟩⟩
      have s17 := (same_new hq1 (HO.tup [V.int (wd : Nat), v5, v18])).trans (same_new hq2 (HO.lst [V.ref q1]))
      have ne12 : q1 ≠ q2 := fun e => by subst e; rw [upd_same] at hq2; cases hq2
      have S5 := S4.gr (Gr.of (T := T) s17)
      refine ⟨_, rfl, q2, q1, D, .int (wd : Nat), v5, v18, pt, t', fE es, rfl, .inl (SqL.of upd_same), SqT.of (by rw [upd_ne ne12, upd_same]), S5.h5, ht4.ext (Te.of' s17), ⟨kvs, .inl S5.ls.dk, S5.ls.fl.flK⟩, S5.ls.tb, fdt, nfd _, ⟨_, by rw [htt]; exact hall⟩, ⟨_, by rw [nf]; exact h0'⟩, by rw [htt]; exact sht, by rw [nf]; exact sht', fun c H19 g19 hc => ?_⟩
      have S6 := S5.gr g19
      have ht6 := (ht4.ext (Te.of' s17)).ext g19.te
      refine ⟨_, rfl, _, rfl, _, _, Tp.dp _ _ ht6, Tp.dp _ _ S6.h9, sht', sht, ?_⟩
      rw [eqv_enc h0' h0t sht']
      have ec : (c == decide (t' = tt)) = true := by
        rw [nf, htt] at hc
        by_cases z : t' = tt
        · rw [hc.mpr z.symm, decide_eq_true z]; rfl
        · have : c = false := by
            cases c with
            | false => rfl
            | true => exact (z (hc.mp rfl).symm).elim
          rw [this, decide_eq_false z]; rfl
      refine ⟨c, decide (t' = tt), rfl, _, rfl, ?_⟩
      rw [ec]
      exact iteF ⟨rfl, S6, ht6, (hw4.gr (T := T) (Gr.of s17)).gr g19⟩
    rintro σ H19 ⟨rfl, S5, ht5', hw5⟩
    refine ⟨fun σ H' => σ = [some (.ref a), some (.ref p), some (.int (wd : Nat)), some (.ref al), some (.ref D), some v5, some (.ref nl), x7, x8, some v9, some (.ref g), some (.ref pl), none, none, none, none, none, some (.int (0 + (i : Int))), some v18, some vw] ∧ TS K T p b al D pl hs us kvs es v5 v9 pt tt xs ts H' ∧ Tr K H' v18 t', ?_, ?_⟩
    · refine ⟨_, rfl, rfl, _, rfl, ?_⟩
      cases hw5 with
      | no => exact iteF ⟨rfl, S5, ht5'⟩
      | @yes g3 kv3 E3 h1 h2 h3 h4 h5 h6 =>
        refine iteT ?_
        refine ⟨_, rfl, _, rfl, _, rfl, le_line (by simp), fun q1 hq1 => ⟨le_line (by simp), fun q2 hq2 => ?_⟩⟩
        have s17 := (same_new hq1 (HO.tup [V.int (wd : Nat), v18, v5])).trans (same_new hq2 (HO.tup [V.ref q1]))
        have ne12 : q1 ≠ q2 := fun e => by subst e; rw [upd_same] at hq2; cases hq2
        have S6 := S5.gr (Gr.of (T := T) s17)
        have hφ3 : ∀ x ∈ nums pt, ∃ ar b, fE E3 x = some (ar, b) ∧ (x, ar) ∈ hs ∧ Hf b ∧ dle 14 b ∧ KM.sc ar b := fun x hx => by
          obtain ⟨⟨ar, b⟩, hy⟩ := h5 x hx
          obtain ⟨o1, o2, o3, o4⟩ := h4.ok _ (look_in hy)
          exact ⟨ar, b, hy, o1, o2, o3, o4⟩
        obtain ⟨c1, c2, c3, c4, c5⟩ := pt_fill hn hp6 hφ3
        refine ⟨_, rfl, q2, q1, g3, .int (wd : Nat), v18, v5, t', pt, fE E3, rfl, .inr (SqT.of upd_same), SqT.of (by rw [upd_ne ne12, upd_same]), ht5'.ext (Te.of' s17), S6.h5, ⟨kv3, .inl (s17 _ _ h1), (h2.te (Te.of' s17)).flK⟩, S6.ls.tb, nfd _, c5 19 (by decide), ⟨_, by rw [nf]; exact h0'⟩, ⟨_, by rw [h6]; exact h0'⟩, by rw [nf]; exact sht', by rw [h6]; exact sht', fun c H20 g20 hc => ?_⟩
        have ec : c = true := hc.mpr (by rw [nf, h6])
        subst ec
        refine ⟨true, true, rfl, _, rfl, iteF ?_⟩
        exact ⟨rfl, S6.gr g20, (ht5'.ext (Te.of' s17)).ext g20.te⟩
    rintro σ H20 ⟨rfl, S6, ht6⟩
    obtain ⟨mh1, mh2⟩ := mt_hf (d := 7) (D := 14) h0t.hf d7t sct h0'.hf d14 dt14
    refine ⟨_, rfl, _, rfl, [], ⟨List.nodup_nil, by decide⟩, v9, v18, tt, t', 7, wd, rfl, by decide, S6.h9, ht6, hf_pt h0t.hf d7t sct, ⟨_, h0t⟩, d7t, h0', d14, fun g4 kt4 E4 H21 s21 _ em hg4 hfl4 hE4 => ?_, fun H21 s21 em => ?_⟩
    · have S7 := S6.gr (Gr.of (T := T) s21)
      have ht7' := ht6.ext (Te.of' s21)
      have ett : t' = tt := by
        by_cases z : t' = tt
        · exact z
        · rw [mh2 z] at em; cases em
      have e4 : E4 = [] := by
        have z := mh1 ett
        rw [em] at z
        exact Option.some.inj z
      subst e4
      refine ⟨_, rfl, _, rfl, _, _, Tp.dp _ _ ht7', Tp.dp _ _ S7.h9, sht', sht, _, rfl, ?_⟩
      rw [eqv_enc h0' h0t sht', decide_eq_true ett]
      refine iteT fun D2 hD2 => ?_
      have s22 := same_new hD2 (HO.dK [])
      obtain ⟨p1, p2⟩ := flL_pair2 (hfl4.te (Te.of' s22)) (FlL.nil (K := K) (H := upd H21 D2 (.dK []))) List.nodup_nil List.nodup_nil (fun _ => rfl) (fun e he => by cases he)
      refine .inl ⟨g4, D2, kt4, [], rfl, rfl, s22 _ _ hg4, upd_same, p1, p2, _, rfl, iteF ?_⟩
      exact ⟨_, _, _, rfl, S7.gr (Gr.of s22)⟩
    · have S7 := S6.gr (Gr.of (T := T) s21)
      have ht7' := ht6.ext (Te.of' s21)
      have ett : ¬ t' = tt := fun z => by rw [mh1 z] at em; cases em
      refine ⟨_, rfl, _, rfl, _, _, Tp.dp _ _ ht7', Tp.dp _ _ S7.h9, sht', sht, _, rfl, ?_⟩
      rw [eqv_enc h0' h0t sht', decide_eq_false ett]
      refine iteF ?_
      refine .inr ⟨rfl, _, rfl, iteF ?_⟩
      exact ⟨_, _, _, rfl, S7⟩
  · intro _ _ _; trivial
end
end KP

/-! The end: what the top has written. -/
namespace KP
open PySem PyProof.Rows L2 LamX NdefX KL KM KD
theorem tabX_at {base : Heap} {mg : Str → Option Value} {T : List (Addr × Str)} {c P : Addr} {q : Str} (hb : TabB base mg c P) (hm : (P, q) ∈ T) (hu : ∀ p ∈ T, p.1 = P → p.2 = q) : TabX base mg T c P q := ⟨hb, hm, hu⟩
theorem all_mk {l : PySem.W.OpenLaw} {w : World} {K : PySem.W.Frag} {h : Heap} {mg : Str → Option Value} {fa f1 f2 f3 f4 f5 f6 f7 f8 f9 f10 f11 f12 f13 f14 f15 f16 f17 f18 f19 f20 f21 f22 f23 f24 f25 f26 f27 f28 f29 f30 f31 f32 f33 f34 f35 f36 c1 c2 c3 P1 P2 P3 Td : Addr} {od1 an1 od2 an2 od3 an3 od4 an4 od5 an5 od6 an6 od7 an7 od8 an8 od9 an9 od10 an10 od11 an11 od12 an12 od13 an13 od14 an14 od15 an15 od16 an16 od17 an17 od18 an18 od19 an19 od20 an20 od21 an21 od22 an22 od23 an23 od24 an24 od25 an25 od26 an26 od27 an27 od28 an28 od29 an29 od30 an30 od31 an31 od32 an32 od33 an33 od34 an34 od35 an35 od36 an36 : Option Addr} {sl1 sl2 sl3 sl4 sl5 sl6 sl7 sl8 sl9 sl10 sl11 sl12 sl13 sl14 sl15 sl16 sl17 sl18 sl19 sl20 sl21 sl22 sl23 sl24 sl25 sl26 sl27 sl28 sl29 sl30 sl31 sl32 sl33 sl34 sl35 sl36 : Array (Option Value)} {oc1 kV1 dc1 pm1 ct1 cd1 oc2 kV2 dc2 pm2 ct2 cd2 oc3 kV3 dc3 pm3 ct3 cd3 oc4 kV4 dc4 pm4 ct4 cd4 oc5 kV5 dc5 pm5 ct5 cd5 oc6 kV6 dc6 pm6 ct6 oc7 kV7 dc7 pm7 ct7 oc8 kV8 dc8 pm8 ct8 cd8 oc9 kV9 dc9 pm9 ct9 oc10 kV10 dc10 pm10 ct10 cd10 oc11 kV11 dc11 pm11 ct11 cd11 oc12 kV12 dc12 pm12 ct12 cd12 oc13 kV13 dc13 pm13 ct13 cd13 oc14 kV14 dc14 pm14 ct14 cd14 oc15 kV15 dc15 pm15 ct15 cd15 oc16 kV16 dc16 pm16 ct16 cd16 oc17 kV17 dc17 pm17 ct17 cd17 oc18 kV18 dc18 pm18 ct18 cd18 oc19 kV19 dc19 pm19 ct19 cd19 oc20 kV20 dc20 pm20 ct20 cd20 oc21 kV21 dc21 pm21 ct21 cd21 oc22 kV22 dc22 pm22 ct22 cd22 oc23 kV23 dc23 pm23 ct23 cd23 oc24 kV24 dc24 pm24 ct24 cd24 oc25 kV25 dc25 pm25 ct25 cd25 oc26 kV26 dc26 pm26 ct26 cd26 oc27 kV27 dc27 pm27 ct27 cd27 oc28 kV28 dc28 pm28 ct28 cd28 oc29 kV29 dc29 pm29 ct29 cd29 oc30 kV30 dc30 pm30 ct30 cd30 oc31 kV31 dc31 pm31 ct31 cd31 oc32 kV32 dc32 pm32 ct32 cd32 oc33 kV33 dc33 pm33 ct33 cd33 oc34 kV34 dc34 pm34 ct34 cd34 oc35 kV35 dc35 pm35 ct35 cd35 oc36 kV36 dc36 pm36 ct36 cd36 : Value} {oT : Obj} {tkT : Tok} {nT : Nat} (X : K.In h) (G : h.Ns mainGlobals mg) (hfa : mg "law" = some (.ref fa))
    (a1 : PySem.W.nsIn K mainGlobals "parts_of" = some (some (.ref f1))) (l1 : K.lookup f1 = some ⟨oc1, od1, .func (PySem.W.fnOf "parts_of" "parts_of" (defArgs sParts) (defBody sParts) (defScope sParts) .none kV1 dc1 pm1 an1 cd1 ct1), sl1⟩) (d1 : PySem.W.codeIn K cd1 "parts_of" = true) (k1 : PySem.W.keepIn K (.ref f1) = true)
    (a2 : PySem.W.nsIn K mainGlobals "with_parts" = some (some (.ref f2))) (l2 : K.lookup f2 = some ⟨oc2, od2, .func (PySem.W.fnOf "with_parts" "with_parts" (defArgs sWith) (defBody sWith) (defScope sWith) .none kV2 dc2 pm2 an2 cd2 ct2), sl2⟩) (d2 : PySem.W.codeIn K cd2 "with_parts" = true) (k2 : PySem.W.keepIn K (.ref f2) = true)
    (a3 : PySem.W.nsIn K mainGlobals "binds" = some (some (.ref f3))) (l3 : K.lookup f3 = some ⟨oc3, od3, .func (PySem.W.fnOf "binds" "binds" (defArgs sBinds) (defBody sBinds) (defScope sBinds) .none kV3 dc3 pm3 an3 cd3 ct3), sl3⟩) (d3 : PySem.W.codeIn K cd3 "binds" = true) (k3 : PySem.W.keepIn K (.ref f3) = true)
    (a4 : PySem.W.nsIn K mainGlobals "same_node" = some (some (.ref f4))) (l4 : K.lookup f4 = some ⟨oc4, od4, .func (PySem.W.fnOf "same_node" "same_node" (defArgs sSame) (defBody sSame) (defScope sSame) .none kV4 dc4 pm4 an4 cd4 ct4), sl4⟩) (d4 : PySem.W.codeIn K cd4 "same_node" = true) (k4 : PySem.W.keepIn K (.ref f4) = true)
    (a5 : PySem.W.nsIn K mainGlobals "mapped" = some (some (.ref f5))) (l5 : K.lookup f5 = some ⟨oc5, od5, .func (PySem.W.fnOf "mapped" "mapped" (defArgs sMapped) (defBody sMapped) (defScope sMapped) .none kV5 dc5 pm5 an5 cd5 ct5), sl5⟩) (d5 : PySem.W.codeIn K cd5 "mapped" = true) (k5 : PySem.W.keepIn K (.ref f5) = true)
    (a6 : PySem.W.nsIn K mainGlobals "lifted" = some (some (.ref f6))) (l6 : K.lookup f6 = some ⟨oc6, od6, .func (PySem.W.fnOf "lifted" "lifted" (defArgs sLifted) (defBody sLifted) (defScope sLifted) (.ref Td) kV6 dc6 pm6 an6 (.ref c1) ct6), sl6⟩) (d6 : PySem.W.codeIn K (.ref c1) "lifted" = true) (k6 : PySem.W.keepIn K (.ref f6) = true)
    (a7 : PySem.W.nsIn K mainGlobals "filled_under" = some (some (.ref f7))) (l7 : K.lookup f7 = some ⟨oc7, od7, .func (PySem.W.fnOf "filled_under" "filled_under" (defArgs sUnder) (defBody sUnder) (defScope sUnder) .none kV7 dc7 pm7 an7 (.ref c2) ct7), sl7⟩) (d7 : PySem.W.codeIn K (.ref c2) "filled_under" = true) (k7 : PySem.W.keepIn K (.ref f7) = true)
    (a8 : PySem.W.nsIn K mainGlobals "filled" = some (some (.ref f8))) (l8 : K.lookup f8 = some ⟨oc8, od8, .func (PySem.W.fnOf "filled" "filled" (defArgs sFilled) (defBody sFilled) (defScope sFilled) .none kV8 dc8 pm8 an8 cd8 ct8), sl8⟩) (d8 : PySem.W.codeIn K cd8 "filled" = true) (k8 : PySem.W.keepIn K (.ref f8) = true)
    (a9 : PySem.W.nsIn K mainGlobals "fill" = some (some (.ref f9))) (l9 : K.lookup f9 = some ⟨oc9, od9, .func (PySem.W.fnOf "fill" "fill" (defArgs sFill) (defBody sFill) (defScope sFill) .none kV9 dc9 pm9 an9 (.ref c3) ct9), sl9⟩) (d9 : PySem.W.codeIn K (.ref c3) "fill" = true) (k9 : PySem.W.keepIn K (.ref f9) = true)
    (a10 : PySem.W.nsIn K mainGlobals "body_under" = some (some (.ref f10))) (l10 : K.lookup f10 = some ⟨oc10, od10, .func (PySem.W.fnOf "body_under" "body_under" (defArgs sBUnd) (defBody sBUnd) (defScope sBUnd) .none kV10 dc10 pm10 an10 cd10 ct10), sl10⟩) (d10 : PySem.W.codeIn K cd10 "body_under" = true) (k10 : PySem.W.keepIn K (.ref f10) = true)
    (a11 : PySem.W.nsIn K mainGlobals "body_over" = some (some (.ref f11))) (l11 : K.lookup f11 = some ⟨oc11, od11, .func (PySem.W.fnOf "body_over" "body_over" (defArgs sBOv) (defBody sBOv) (defScope sBOv) .none kV11 dc11 pm11 an11 cd11 ct11), sl11⟩) (d11 : PySem.W.codeIn K cd11 "body_over" = true) (k11 : PySem.W.keepIn K (.ref f11) = true)
    (a12 : PySem.W.nsIn K mainGlobals "solves" = some (some (.ref f12))) (l12 : K.lookup f12 = some ⟨oc12, od12, .func (PySem.W.fnOf "solves" "solves" (defArgs sSolves) (defBody sSolves) (defScope sSolves) .none kV12 dc12 pm12 an12 cd12 ct12), sl12⟩) (d12 : PySem.W.codeIn K cd12 "solves" = true) (k12 : PySem.W.keepIn K (.ref f12) = true)
    (a13 : PySem.W.nsIn K mainGlobals "matches" = some (some (.ref f13))) (l13 : K.lookup f13 = some ⟨oc13, od13, .func (PySem.W.fnOf "matches" "matches" (defArgs sMatches) (defBody sMatches) (defScope sMatches) .none kV13 dc13 pm13 an13 cd13 ct13), sl13⟩) (d13 : PySem.W.codeIn K cd13 "matches" = true) (k13 : PySem.W.keepIn K (.ref f13) = true)
    (a14 : PySem.W.nsIn K mainGlobals "matched" = some (some (.ref f14))) (l14 : K.lookup f14 = some ⟨oc14, od14, .func (PySem.W.fnOf "matched" "matched" (defArgs sMatched) (defBody sMatched) (defScope sMatched) .none kV14 dc14 pm14 an14 cd14 ct14), sl14⟩) (d14 : PySem.W.codeIn K cd14 "matched" = true) (k14 : PySem.W.keepIn K (.ref f14) = true)
    (a15 : PySem.W.nsIn K mainGlobals "_law_draw" = some (some (.ref f15))) (l15 : K.lookup f15 = some ⟨oc15, od15, .func (PySem.W.fnOf "_law_draw" "_law_draw" (defArgs sDraw) (defBody sDraw) (defScope sDraw) .none kV15 dc15 pm15 an15 cd15 ct15), sl15⟩) (d15 : PySem.W.codeIn K cd15 "_law_draw" = true) (k15 : PySem.W.keepIn K (.ref f15) = true)
    (a16 : PySem.W.nsIn K mainGlobals "_law_pick" = some (some (.ref f16))) (l16 : K.lookup f16 = some ⟨oc16, od16, .func (PySem.W.fnOf "_law_pick" "_law_pick" (defArgs sPick) (defBody sPick) (defScope sPick) .none kV16 dc16 pm16 an16 cd16 ct16), sl16⟩) (d16 : PySem.W.codeIn K cd16 "_law_pick" = true) (k16 : PySem.W.keepIn K (.ref f16) = true)
    (a17 : PySem.W.nsIn K mainGlobals "_law_one" = some (some (.ref f17))) (l17 : K.lookup f17 = some ⟨oc17, od17, .func (PySem.W.fnOf "_law_one" "_law_one" (defArgs sOne) (defBody sOne) (defScope sOne) .none kV17 dc17 pm17 an17 cd17 ct17), sl17⟩) (d17 : PySem.W.codeIn K cd17 "_law_one" = true) (k17 : PySem.W.keepIn K (.ref f17) = true)
    (a18 : PySem.W.nsIn K mainGlobals "_law_bits" = some (some (.ref f18))) (l18 : K.lookup f18 = some ⟨oc18, od18, .func (PySem.W.fnOf "_law_bits" "_law_bits" (defArgs sBits) (defBody sBits) (defScope sBits) .none kV18 dc18 pm18 an18 cd18 ct18), sl18⟩) (d18 : PySem.W.codeIn K cd18 "_law_bits" = true) (k18 : PySem.W.keepIn K (.ref f18) = true)
    (a19 : PySem.W.nsIn K mainGlobals "_law_under" = some (some (.ref f19))) (l19 : K.lookup f19 = some ⟨oc19, od19, .func (PySem.W.fnOf "_law_under" "_law_under" (defArgs sLUnd) (defBody sLUnd) (defScope sLUnd) .none kV19 dc19 pm19 an19 cd19 ct19), sl19⟩) (d19 : PySem.W.codeIn K cd19 "_law_under" = true) (k19 : PySem.W.keepIn K (.ref f19) = true)
    (a20 : PySem.W.nsIn K mainGlobals "_law_node" = some (some (.ref f20))) (l20 : K.lookup f20 = some ⟨oc20, od20, .func (PySem.W.fnOf "_law_node" "_law_node" (defArgs sNode) (defBody sNode) (defScope sNode) .none kV20 dc20 pm20 an20 cd20 ct20), sl20⟩) (d20 : PySem.W.codeIn K cd20 "_law_node" = true) (k20 : PySem.W.keepIn K (.ref f20) = true)
    (a21 : PySem.W.nsIn K mainGlobals "_law_show" = some (some (.ref f21))) (l21 : K.lookup f21 = some ⟨oc21, od21, .func (PySem.W.fnOf "_law_show" "_law_show" (defArgs sShow) (defBody sShow) (defScope sShow) .none kV21 dc21 pm21 an21 cd21 ct21), sl21⟩) (d21 : PySem.W.codeIn K cd21 "_law_show" = true) (k21 : PySem.W.keepIn K (.ref f21) = true)
    (a22 : PySem.W.nsIn K mainGlobals "_law_done" = some (some (.ref f22))) (l22 : K.lookup f22 = some ⟨oc22, od22, .func (PySem.W.fnOf "_law_done" "_law_done" (defArgs sDone) (defBody sDone) (defScope sDone) .none kV22 dc22 pm22 an22 cd22 ct22), sl22⟩) (d22 : PySem.W.codeIn K cd22 "_law_done" = true) (k22 : PySem.W.keepIn K (.ref f22) = true)
    (a23 : PySem.W.nsIn K mainGlobals "_law_numbers" = some (some (.ref f23))) (l23 : K.lookup f23 = some ⟨oc23, od23, .func (PySem.W.fnOf "_law_numbers" "_law_numbers" (defArgs sNums) (defBody sNums) (defScope sNums) .none kV23 dc23 pm23 an23 cd23 ct23), sl23⟩) (d23 : PySem.W.codeIn K cd23 "_law_numbers" = true) (k23 : PySem.W.keepIn K (.ref f23) = true)
    (a24 : PySem.W.nsIn K mainGlobals "_law_leaf" = some (some (.ref f24))) (l24 : K.lookup f24 = some ⟨oc24, od24, .func (PySem.W.fnOf "_law_leaf" "_law_leaf" (defArgs sLeaf) (defBody sLeaf) (defScope sLeaf) .none kV24 dc24 pm24 an24 cd24 ct24), sl24⟩) (d24 : PySem.W.codeIn K cd24 "_law_leaf" = true) (k24 : PySem.W.keepIn K (.ref f24) = true)
    (a25 : PySem.W.nsIn K mainGlobals "_law_fresh" = some (some (.ref f25))) (l25 : K.lookup f25 = some ⟨oc25, od25, .func (PySem.W.fnOf "_law_fresh" "_law_fresh" (defArgs sFresh) (defBody sFresh) (defScope sFresh) .none kV25 dc25 pm25 an25 cd25 ct25), sl25⟩) (d25 : PySem.W.codeIn K cd25 "_law_fresh" = true) (k25 : PySem.W.keepIn K (.ref f25) = true)
    (a26 : PySem.W.nsIn K mainGlobals "_law_some" = some (some (.ref f26))) (l26 : K.lookup f26 = some ⟨oc26, od26, .func (PySem.W.fnOf "_law_some" "_law_some" (defArgs sSome) (defBody sSome) (defScope sSome) .none kV26 dc26 pm26 an26 cd26 ct26), sl26⟩) (d26 : PySem.W.codeIn K cd26 "_law_some" = true) (k26 : PySem.W.keepIn K (.ref f26) = true)
    (a27 : PySem.W.nsIn K mainGlobals "_law_sketch" = some (some (.ref f27))) (l27 : K.lookup f27 = some ⟨oc27, od27, .func (PySem.W.fnOf "_law_sketch" "_law_sketch" (defArgs sSketch) (defBody sSketch) (defScope sSketch) .none kV27 dc27 pm27 an27 cd27 ct27), sl27⟩) (d27 : PySem.W.codeIn K cd27 "_law_sketch" = true) (k27 : PySem.W.keepIn K (.ref f27) = true)
    (a28 : PySem.W.nsIn K mainGlobals "_law_spots" = some (some (.ref f28))) (l28 : K.lookup f28 = some ⟨oc28, od28, .func (PySem.W.fnOf "_law_spots" "_law_spots" (defArgs sSpots) (defBody sSpots) (defScope sSpots) .none kV28 dc28 pm28 an28 cd28 ct28), sl28⟩) (d28 : PySem.W.codeIn K cd28 "_law_spots" = true) (k28 : PySem.W.keepIn K (.ref f28) = true)
    (a29 : PySem.W.nsIn K mainGlobals "_law_set" = some (some (.ref f29))) (l29 : K.lookup f29 = some ⟨oc29, od29, .func (PySem.W.fnOf "_law_set" "_law_set" (defArgs sSet) (defBody sSet) (defScope sSet) .none kV29 dc29 pm29 an29 cd29 ct29), sl29⟩) (d29 : PySem.W.codeIn K cd29 "_law_set" = true) (k29 : PySem.W.keepIn K (.ref f29) = true)
    (a30 : PySem.W.nsIn K mainGlobals "_law_get" = some (some (.ref f30))) (l30 : K.lookup f30 = some ⟨oc30, od30, .func (PySem.W.fnOf "_law_get" "_law_get" (defArgs sGet) (defBody sGet) (defScope sGet) .none kV30 dc30 pm30 an30 cd30 ct30), sl30⟩) (d30 : PySem.W.codeIn K cd30 "_law_get" = true) (k30 : PySem.W.keepIn K (.ref f30) = true)
    (a31 : PySem.W.nsIn K mainGlobals "_law_frees" = some (some (.ref f31))) (l31 : K.lookup f31 = some ⟨oc31, od31, .func (PySem.W.fnOf "_law_frees" "_law_frees" (defArgs sFrees) (defBody sFrees) (defScope sFrees) .none kV31 dc31 pm31 an31 cd31 ct31), sl31⟩) (d31 : PySem.W.codeIn K cd31 "_law_frees" = true) (k31 : PySem.W.keepIn K (.ref f31) = true)
    (a32 : PySem.W.nsIn K mainGlobals "_law_body" = some (some (.ref f32))) (l32 : K.lookup f32 = some ⟨oc32, od32, .func (PySem.W.fnOf "_law_body" "_law_body" (defArgs sBody) (defBody sBody) (defScope sBody) .none kV32 dc32 pm32 an32 cd32 ct32), sl32⟩) (d32 : PySem.W.codeIn K cd32 "_law_body" = true) (k32 : PySem.W.keepIn K (.ref f32) = true)
    (a33 : PySem.W.nsIn K mainGlobals "_law_match" = some (some (.ref f33))) (l33 : K.lookup f33 = some ⟨oc33, od33, .func (PySem.W.fnOf "_law_match" "_law_match" (defArgs sMatch) (defBody sMatch) (defScope sMatch) .none kV33 dc33 pm33 an33 cd33 ct33), sl33⟩) (d33 : PySem.W.codeIn K cd33 "_law_match" = true) (k33 : PySem.W.keepIn K (.ref f33) = true)
    (a34 : PySem.W.nsIn K mainGlobals "_law_says" = some (some (.ref f34))) (l34 : K.lookup f34 = some ⟨oc34, od34, .func (PySem.W.fnOf "_law_says" "_law_says" (defArgs sSays) (defBody sSays) (defScope sSays) .none kV34 dc34 pm34 an34 cd34 ct34), sl34⟩) (d34 : PySem.W.codeIn K cd34 "_law_says" = true) (k34 : PySem.W.keepIn K (.ref f34) = true)
    (a35 : PySem.W.nsIn K mainGlobals "_law_spoilt" = some (some (.ref f35))) (l35 : K.lookup f35 = some ⟨oc35, od35, .func (PySem.W.fnOf "_law_spoilt" "_law_spoilt" (defArgs sSpoilt) (defBody sSpoilt) (defScope sSpoilt) .none kV35 dc35 pm35 an35 cd35 ct35), sl35⟩) (d35 : PySem.W.codeIn K cd35 "_law_spoilt" = true) (k35 : PySem.W.keepIn K (.ref f35) = true)
    (a36 : PySem.W.nsIn K mainGlobals "law" = some (some (.ref f36))) (l36 : K.lookup f36 = some ⟨oc36, od36, .func (PySem.W.fnOf "law" "law" (defArgs sLaw) (defBody sLaw) (defScope sLaw) .none kV36 dc36 pm36 an36 cd36 ct36), sl36⟩) (d36 : PySem.W.codeIn K cd36 "law" = true) (k36 : PySem.W.keepIn K (.ref f36) = true)
    (lT : K.lookup Td = some oT) (dT : oT.data = .seq ([Value.int 0 tkT]).toArray nT)
    (z_len : PySem.W.nsIn K mainGlobals "len" = some none)
    (z_tuple : PySem.W.nsIn K mainGlobals "tuple" = some none)
    (z_enumerate : PySem.W.nsIn K mainGlobals "enumerate" = some none)
    (z_list : PySem.W.nsIn K mainGlobals "list" = some none)
    (z_sum : PySem.W.nsIn K mainGlobals "sum" = some none)
    (z_range : PySem.W.nsIn K mainGlobals "range" = some none)
    (z_int : PySem.W.nsIn K mainGlobals "int" = some none)
    (z_abs : PySem.W.nsIn K mainGlobals "abs" = some none)
    (z_isinstance : PySem.W.nsIn K mainGlobals "isinstance" = some none)
    (z_dict : PySem.W.nsIn K mainGlobals "dict" = some none)
    (z_min : PySem.W.nsIn K mainGlobals "min" = some none)
    (z_zip : PySem.W.nsIn K mainGlobals "zip" = some none)
    (z_bool : PySem.W.nsIn K mainGlobals "bool" = some none)
    (g1 : PySem.W.codeHdIn K c1 P1 = true) (t1 : h.get? P1 = some { cls := .none, data := .fields #[] }) (n1 : K.lookup P1 = none)
    (g2 : PySem.W.codeHdIn K c2 P2 = true) (t2 : h.get? P2 = some { cls := .none, data := .fields #[] }) (n2 : K.lookup P2 = none)
    (g3 : PySem.W.codeHdIn K c3 P3 = true) (t3 : h.get? P3 = some { cls := .none, data := .fields #[] }) (n3 : K.lookup P3 = none)
    (n1_2 : P1 ≠ P2) (n1_3 : P1 ≠ P3) (n2_3 : P2 ≠ P3) :
    LawAtS l w K CX0 201 63 "_law_script" mg fa h := by
  have e := hfa.symm.trans (PySem.W.mg_of X G a36)
  cases e
  have m_len := PySem.W.mg_none_of X G z_len
  have m_tuple := PySem.W.mg_none_of X G z_tuple
  have m_enumerate := PySem.W.mg_none_of X G z_enumerate
  have m_list := PySem.W.mg_none_of X G z_list
  have m_sum := PySem.W.mg_none_of X G z_sum
  have m_range := PySem.W.mg_none_of X G z_range
  have m_int := PySem.W.mg_none_of X G z_int
  have m_abs := PySem.W.mg_none_of X G z_abs
  have m_isinstance := PySem.W.mg_none_of X G z_isinstance
  have m_dict := PySem.W.mg_none_of X G z_dict
  have m_min := PySem.W.mg_none_of X G z_min
  have m_zip := PySem.W.mg_none_of X G z_zip
  have m_bool := PySem.W.mg_none_of X G z_bool
  have m1 := PySem.W.mg_of X G a1
  have F1 := fun_mk (st := sParts) l1 d1 k1
  have b1 := F1.binds (ps := ["node"]) fun _ _ _ _ _ _ us hl => match us, hl with | [_], _ => rfl
  have m2 := PySem.W.mg_of X G a2
  have F2 := fun_mk (st := sWith) l2 d2 k2
  have b2 := F2.binds (ps := ["node", "parts"]) fun _ _ _ _ _ _ us hl => match us, hl with | [_, _], _ => rfl
  have m3 := PySem.W.mg_of X G a3
  have F3 := fun_mk (st := sBinds) l3 d3 k3
  have b3 := F3.binds (ps := ["node", "k"]) fun _ _ _ _ _ _ us hl => match us, hl with | [_, _], _ => rfl
  have m4 := PySem.W.mg_of X G a4
  have F4 := fun_mk (st := sSame) l4 d4 k4
  have b4 := F4.binds (ps := ["one", "other"]) fun _ _ _ _ _ _ us hl => match us, hl with | [_, _], _ => rfl
  have m5 := PySem.W.mg_of X G a5
  have F5 := fun_mk (st := sMapped) l5 d5 k5
  have b5 := F5.binds (ps := ["node", "change", "depth"]) fun _ _ _ _ _ _ us hl => match us, hl with | [_, _, _], _ => rfl
  have m6 := PySem.W.mg_of X G a6
  have F6 : FunT K "lifted" "lifted" sLifted [.int 0] f6 c1 _ := ⟨⟨oc6, od6, _, kV6, dc6, pm6, an6, ct6, sl6, rfl, l6, d6⟩, k6⟩
  have FD : FunD K "lifted" "lifted" (defArgs sLifted) (defBody sLifted) (defScope sLifted) [.int 0] [] f6 (PySem.W.fnOf "lifted" "lifted" (defArgs sLifted) (defBody sLifted) (defScope sLifted) (.ref Td) kV6 dc6 pm6 an6 (.ref c1) ct6) := ⟨⟨oc6, od6, _, kV6, dc6, pm6, an6, _, ct6, sl6, rfl, l6, d6, .inr ⟨by simp, Td, oT, _, nT, rfl, lT, dT, .cons ⟨tkT, rfl⟩ .nil⟩, .inl rfl⟩, k6⟩
  have b6 : L2.Binds K (PySem.W.fnOf "lifted" "lifted" (defArgs sLifted) (defBody sLifted) (defScope sLifted) (.ref Td) kV6 dc6 pm6 an6 (.ref c1) ct6) ["term", "by", "at"] [] := by
    obtain ⟨ds, v, q⟩ := FD.binds1 (ps := ["term", "by", "at"]) 3 1 (by simp) rfl fun T kV doc pm an cdv ct us its hl hi => by
      match us, hl, its, hi with
      | [x, y, z], _, [i], _ => exact ⟨_, rfl, rfl⟩
    cases v
    exact q
  have bL : ∃ ds, Vals [.int 0] ds ∧ L2.Binds K (PySem.W.fnOf "lifted" "lifted" (defArgs sLifted) (defBody sLifted) (defScope sLifted) (.ref Td) kV6 dc6 pm6 an6 (.ref c1) ct6) ["term", "by", "at"] ds := FD.binds1 (ps := ["term", "by", "at"]) 2 0 (by simp) rfl fun T kV doc pm an cdv ct us its hl hi => by
    match us, hl, its, hi with
    | [x, y], _, [i], _ => exact ⟨_, rfl, rfl⟩
  have m7 := PySem.W.mg_of X G a7
  have F7 : FunT K "filled_under" "filled_under" sUnder [] f7 c2 _ := ⟨⟨oc7, od7, _, kV7, dc7, pm7, an7, ct7, sl7, rfl, l7, d7⟩, k7⟩
  have b7 := (fun_mk (st := sUnder) l7 d7 k7).binds (ps := ["term", "parts", "under"]) fun _ _ _ _ _ _ us hl => match us, hl with | [_, _, _], _ => rfl
  have m8 := PySem.W.mg_of X G a8
  have F8 := fun_mk (st := sFilled) l8 d8 k8
  have b8 := F8.binds (ps := ["term", "parts"]) fun _ _ _ _ _ _ us hl => match us, hl with | [_, _], _ => rfl
  have m9 := PySem.W.mg_of X G a9
  have F9 : FunT K "fill" "fill" sFill [] f9 c3 _ := ⟨⟨oc9, od9, _, kV9, dc9, pm9, an9, ct9, sl9, rfl, l9, d9⟩, k9⟩
  have b9 := (fun_mk (st := sFill) l9 d9 k9).binds (ps := ["term", "filling"]) fun _ _ _ _ _ _ us hl => match us, hl with | [_, _], _ => rfl
  have m10 := PySem.W.mg_of X G a10
  have F10 := fun_mk (st := sBUnd) l10 d10 k10
  have b10 := F10.binds (ps := ["term", "spots", "under"]) fun _ _ _ _ _ _ us hl => match us, hl with | [_, _, _], _ => rfl
  have m11 := PySem.W.mg_of X G a11
  have F11 := fun_mk (st := sBOv) l11 d11 k11
  have b11 := F11.binds (ps := ["term", "arguments"]) fun _ _ _ _ _ _ us hl => match us, hl with | [_, _], _ => rfl
  have m12 := PySem.W.mg_of X G a12
  have F12 := fun_mk (st := sSolves) l12 d12 k12
  have b12 := F12.binds (ps := ["equations", "filling"]) fun _ _ _ _ _ _ us hl => match us, hl with | [_, _], _ => rfl
  have m13 := PySem.W.mg_of X G a13
  have F13 := fun_mk (st := sMatches) l13 d13 k13
  have b13 := F13.binds (ps := ["pattern", "term", "found"]) fun _ _ _ _ _ _ us hl => match us, hl with | [_, _, _], _ => rfl
  have m14 := PySem.W.mg_of X G a14
  have F14 := fun_mk (st := sMatched) l14 d14 k14
  have b14 := F14.binds (ps := ["pattern", "term"]) fun _ _ _ _ _ _ us hl => match us, hl with | [_, _], _ => rfl
  have m15 := PySem.W.mg_of X G a15
  have F15 := fun_mk (st := sDraw) l15 d15 k15
  have b15 := F15.binds (ps := ["_law_script"]) fun _ _ _ _ _ _ us hl => match us, hl with | [_], _ => rfl
  have m16 := PySem.W.mg_of X G a16
  have F16 := fun_mk (st := sPick) l16 d16 k16
  have b16 := F16.binds (ps := ["_law_draw_here", "_law_many"]) fun _ _ _ _ _ _ us hl => match us, hl with | [_, _], _ => rfl
  have m17 := PySem.W.mg_of X G a17
  have F17 := fun_mk (st := sOne) l17 d17 k17
  have b17 := F17.binds (ps := ["_law_draw_here", "_law_row"]) fun _ _ _ _ _ _ us hl => match us, hl with | [_, _], _ => rfl
  have m18 := PySem.W.mg_of X G a18
  have F18 := fun_mk (st := sBits) l18 d18 k18
  have b18 := F18.binds (ps := ["_law_node_here"]) fun _ _ _ _ _ _ us hl => match us, hl with | [_], _ => rfl
  have m19 := PySem.W.mg_of X G a19
  have F19 := fun_mk (st := sLUnd) l19 d19 k19
  have b19 := F19.binds (ps := ["_law_node_here", "_law_k"]) fun _ _ _ _ _ _ us hl => match us, hl with | [_, _], _ => rfl
  have m20 := PySem.W.mg_of X G a20
  have F20 := fun_mk (st := sNode) l20 d20 k20
  have b20 := F20.binds (ps := ["_law_node_here", "_law_bits_here"]) fun _ _ _ _ _ _ us hl => match us, hl with | [_, _], _ => rfl
  have m21 := PySem.W.mg_of X G a21
  have F21 := fun_mk (st := sShow) l21 d21 k21
  have b21 := F21.binds (ps := ["_law_term", "_law_env", "_law_deep", "_law_filling"]) fun _ _ _ _ _ _ us hl => match us, hl with | [_, _, _, _], _ => rfl
  have m22 := PySem.W.mg_of X G a22
  have F22 := fun_mk (st := sDone) l22 d22 k22
  have b22 := F22.binds (ps := ["_law_term", "_law_wide", "_law_filling"]) fun _ _ _ _ _ _ us hl => match us, hl with | [_, _, _], _ => rfl
  have m23 := PySem.W.mg_of X G a23
  have F23 := fun_mk (st := sNums) l23 d23 k23
  have b23 := F23.binds (ps := ["_law_term"]) fun _ _ _ _ _ _ us hl => match us, hl with | [_], _ => rfl
  have m24 := PySem.W.mg_of X G a24
  have F24 := fun_mk (st := sLeaf) l24 d24 k24
  have b24 := F24.binds (ps := ["_law_draw_here", "_law_wide"]) fun _ _ _ _ _ _ us hl => match us, hl with | [_, _], _ => rfl
  have m25 := PySem.W.mg_of X G a25
  have F25 := fun_mk (st := sFresh) l25 d25 k25
  have b25 := F25.binds (ps := ["_law_draw_here", "_law_taken"]) fun _ _ _ _ _ _ us hl => match us, hl with | [_, _], _ => rfl
  have m26 := PySem.W.mg_of X G a26
  have F26 := fun_mk (st := sSome) l26 d26 k26
  have b26 := F26.binds (ps := ["_law_draw_here", "_law_wide", "_law_many"]) fun _ _ _ _ _ _ us hl => match us, hl with | [_, _, _], _ => rfl
  have m27 := PySem.W.mg_of X G a27
  have F27 := fun_mk (st := sSketch) l27 d27 k27
  have b27 := F27.binds (ps := ["_law_draw_here", "_law_wide", "_law_room", "_law_holes", "_law_most", "_law_head"]) fun _ _ _ _ _ _ us hl => match us, hl with | [_, _, _, _, _, _], _ => rfl
  have m28 := PySem.W.mg_of X G a28
  have F28 := fun_mk (st := sSpots) l28 d28 k28
  have b28 := F28.binds (ps := ["_law_term", "_law_wide", "_law_head"]) fun _ _ _ _ _ _ us hl => match us, hl with | [_, _, _], _ => rfl
  have m29 := PySem.W.mg_of X G a29
  have F29 := fun_mk (st := sSet) l29 d29 k29
  have b29 := F29.binds (ps := ["_law_term", "_law_place", "_law_part"]) fun _ _ _ _ _ _ us hl => match us, hl with | [_, _, _], _ => rfl
  have m30 := PySem.W.mg_of X G a30
  have F30 := fun_mk (st := sGet) l30 d30 k30
  have b30 := F30.binds (ps := ["_law_term", "_law_place"]) fun _ _ _ _ _ _ us hl => match us, hl with | [_, _], _ => rfl
  have m31 := PySem.W.mg_of X G a31
  have F31 := fun_mk (st := sFrees) l31 d31 k31
  have b31 := F31.binds (ps := ["_law_term", "_law_under_here"]) fun _ _ _ _ _ _ us hl => match us, hl with | [_, _], _ => rfl
  have m32 := PySem.W.mg_of X G a32
  have F32 := fun_mk (st := sBody) l32 d32 k32
  have b32 := F32.binds (ps := ["_law_part", "_law_args", "_law_deep"]) fun _ _ _ _ _ _ us hl => match us, hl with | [_, _, _], _ => rfl
  have m33 := PySem.W.mg_of X G a33
  have F33 := fun_mk (st := sMatch) l33 d33 k33
  have b33 := F33.binds (ps := ["_law_pairs"]) fun _ _ _ _ _ _ us hl => match us, hl with | [_], _ => rfl
  have m34 := PySem.W.mg_of X G a34
  have F34 := fun_mk (st := sSays) l34 d34 k34
  have b34 := F34.binds (ps := ["_law_told", "_law_want"]) fun _ _ _ _ _ _ us hl => match us, hl with | [_, _], _ => rfl
  have m35 := PySem.W.mg_of X G a35
  have F35 := fun_mk (st := sSpoilt) l35 d35 k35
  have b35 := F35.binds (ps := ["_law_draw_here", "_law_term", "_law_wide", "_law_parts"]) fun _ _ _ _ _ _ us hl => match us, hl with | [_, _, _, _], _ => rfl
  have m36 := PySem.W.mg_of X G a36
  have F36 := fun_mk (st := sLaw) l36 d36 k36
  refine ⟨PySem.W.fnOf "law" "law" (defArgs sLaw) (defBody sLaw) (defScope sLaw) .none kV36 dc36 pm36 an36 cd36 ct36, [(c1, P1), (c2, P2), (c3, P3)], spLaw K [(P1, (envOfC "lifted" (defScope sLifted) 0 f6 (.ref c1)).qual ++ "<lambda>"), (P2, (envOfC "filled_under" (defScope sUnder) 0 f7 (.ref c2)).qual ++ "<lambda>"), (P3, (envOfC "fill" (defScope sFill) 0 f9 (.ref c3)).qual ++ "<lambda>")], ?_, ?_, ?_, fun s v => .of_eq rfl, ?_, fun base _ _ tb => ?_⟩
  · intro p hp
    simp only [List.mem_cons, List.not_mem_nil, or_false] at hp
    rcases hp with rfl | rfl | rfl
    · exact t1
    · exact t2
    · exact t3
  · intro p hp
    simp only [List.mem_cons, List.not_mem_nil, or_false] at hp
    rcases hp with rfl | rfl | rfl
    · exact n1
    · exact n2
    · exact n3
  · intro p hp
    simp only [List.mem_cons, List.not_mem_nil, or_false] at hp
    rcases hp with rfl | rfl | rfl
    · exact PySem.W.codeHd_of_K X g1
    · exact PySem.W.codeHd_of_K X g2
    · exact PySem.W.codeHd_of_K X g3
  · intro H a ns hl _ hT hS
    refine ⟨a, ns, rfl, hS, hl, fun q hq => ?_, fun _ => rfl⟩
    simp only [List.mem_cons, List.not_mem_nil, or_false] at hq
    rcases hq with rfl | rfl | rfl
    · exact TabS.nil (hT (c1, P1) (by simp))
    · exact TabS.nil (hT (c2, P2) (by simp))
    · exact TabS.nil (hT (c3, P3) (by simp))
  · generalize eT : [(P1, (envOfC "lifted" (defScope sLifted) 0 f6 (.ref c1)).qual ++ "<lambda>"), (P2, (envOfC "filled_under" (defScope sUnder) 0 f7 (.ref c2)).qual ++ "<lambda>"), (P3, (envOfC "fill" (defScope sFill) 0 f9 (.ref c3)).qual ++ "<lambda>")] = T
    have T1 : TabX base mg T c1 P1 ((envOfC "lifted" (defScope sLifted) 0 f6 (.ref c1)).qual ++ "<lambda>") := by
      refine tabX_at (tb (c1, P1) (by simp)) (by rw [← eT]; simp) fun p hp e => ?_
      rw [← eT] at hp
      simp only [List.mem_cons, List.not_mem_nil, or_false] at hp
      rcases hp with rfl | rfl | rfl
      · rfl
      · exact (n1_2 e.symm).elim
      · exact (n1_3 e.symm).elim
    have T2 : TabX base mg T c2 P2 ((envOfC "filled_under" (defScope sUnder) 0 f7 (.ref c2)).qual ++ "<lambda>") := by
      refine tabX_at (tb (c2, P2) (by simp)) (by rw [← eT]; simp) fun p hp e => ?_
      rw [← eT] at hp
      simp only [List.mem_cons, List.not_mem_nil, or_false] at hp
      rcases hp with rfl | rfl | rfl
      · exact (n1_2 e).elim
      · rfl
      · exact (n2_3 e.symm).elim
    have T3 : TabX base mg T c3 P3 ((envOfC "fill" (defScope sFill) 0 f9 (.ref c3)).qual ++ "<lambda>") := by
      refine tabX_at (tb (c3, P3) (by simp)) (by rw [← eT]; simp) fun p hp e => ?_
      rw [← eT] at hp
      simp only [List.mem_cons, List.not_mem_nil, or_false] at hp
      rcases hp with rfl | rfl | rfl
      · exact (n1_3 e).elim
      · exact (n2_3 e).elim
      · rfl
    have C1 : Cl l.prog w K mg base 1 _ _ _ _ _ := ⟨ok_parts F1, m1, k1, b1⟩
    have C2 : Cl l.prog w K mg base 1 _ _ _ _ _ := ⟨ok_with F2 m_tuple, m2, k2, b2⟩
    have C3 : Cl l.prog w K mg base 1 _ _ _ _ _ := ⟨ok_binds F3, m3, k3, b3⟩
    have C4 : Cl l.prog w K mg base 1 _ _ _ _ _ := ⟨ok_same F4, m4, k4, b4⟩
    have C5 : ∀ kc, 1 ≤ kc → Cl l.prog w K mg base (kc + 1) "mapped" f5 _ ["node", "change", "depth"] (spMapped l.prog w K mg base T kc) := fun kc hk => ⟨ok_mapped F5 m_enumerate C1 C2 C3 hk, m5, k5, b5⟩
    have C6 := ok_lift F6 m6 b6 T1 C5
    have C7 := ok_under F7 m7 b7 m_len (C6 19) bL T2 C5 19
    have C8 : Cl l.prog w K mg base 117 _ _ _ _ _ := ⟨ok_filled F8 m_len C7, m8, k8, b8⟩
    have C9 := ok_fill F9 m9 b9 (by omega) C8 T3 C5
    have CWA := Cl.or2 C2 (ok_withL F2)
    have C10 := ok_bund F10 m10 b10 m_enumerate C1 CWA C3
    have C11 : Cl l.prog w K mg base 17 _ _ _ _ _ := ⟨ok_bov F11 m_len m_enumerate (C10 15), m11, k11, b11⟩
    have C12 : Cl l.prog w K mg base 178 _ _ _ _ _ := ⟨ok_solves F12 (C9 19), m12, k12, b12⟩
    have C13 : ∀ hs, okHs hs → _ := fun hs h => ok_mat (hs := hs) (D := 14) (L := 17) h.1 h.2 (by decide) (by decide) F13 m13 b13 m_len m_zip C11 C4 C1 20 (by decide)
    have C14 : Cl l.prog w K mg base 39 _ _ _ _ (spMatdA K) := FnOk.exP (P' := okHs) [] ⟨List.nodup_nil, by decide⟩ fun hs h => ⟨ok_matd F14 (C13 hs h), m14, k14, b14⟩
    have C15 : Cl l.prog w K mg base 1 _ _ _ _ _ := ⟨ok_draw F15 m_list m_sum, m15, k15, b15⟩
    have C16 : Cl l.prog w K mg base 1 _ _ _ _ _ := ⟨ok_pick F16 m_len m_int m_abs, m16, k16, b16⟩
    have C17 : Cl l.prog w K mg base 2 _ _ _ _ _ := ⟨ok_one F17 m_len C16, m17, k17, b17⟩
    have C18 : Cl l.prog w K mg base 1 _ _ _ _ _ := ⟨ok_bits F18, m18, k18, b18⟩
    have C19 : Cl l.prog w K mg base 1 _ _ _ _ _ := ⟨ok_lund F19 m_len, m19, k19, b19⟩
    have C20 : Cl l.prog w K mg base 1 _ _ _ _ _ := ⟨ok_node F20 m_tuple, m20, k20, b20⟩
    have C21 := ok_show F21 m21 b21 m_len m_enumerate m_isinstance m_int C18 C19 C20
    have C22 : Cl l.prog w K mg base 23 _ _ _ _ _ := ⟨ok_done F22 m_list m_range (C21 21), m22, k22, b22⟩
    have C23 := ok_nums F23 m23 b23 C18
    have C24 : Cl l.prog w K mg base 3 _ _ _ _ _ := ⟨ok_leaf F24 C16 C17, m24, k24, b24⟩
    have C25 : Cl l.prog w K mg base 2 _ _ _ _ _ := ⟨ok_fresh F25 m_len m_range m_int C16, m25, k25, b25⟩
    have C26 : Cl l.prog w K mg base 2 _ _ _ _ _ := ⟨ok_some F26 m_len m_range m_list m_tuple C16, m26, k26, b26⟩
    have C27 := ok_sketch F27 m27 b27 m_len m_min C16 C24 C17 C25 C26
    have C28 := ok_spots F28 m28 b28 m_enumerate C18 C19
    have C29 := ok_set F29 m29 b29 m_list C18 C20
    have C30 : Cl l.prog w K mg base 2 _ _ _ _ _ := ⟨ok_get F30 m_len C18, m30, k30, b30⟩
    have C31 := ok_frees F31 m31 b31 m_enumerate C18 C19
    have C32 : Cl l.prog w K mg base 17 _ _ _ _ _ := ⟨ok_body (n := 15) (N := 15) F32 m_len m_enumerate (by decide) (by decide) (C31 15) (C21 15), m32, k32, b32⟩
    have C33 : Cl l.prog w K mg base 24 _ _ _ _ (spMatchA K) := FnOk.exP (P' := okHs) [] ⟨List.nodup_nil, by decide⟩ fun hs h => ⟨ok_match (d := 5) (D := 14) (L := 23) h.1 h.2 (by decide) (by decide) F33 m_len ((C28 6).mono (by omega)) (C30.mono (by omega)) (C32.mono (by omega)) C22, m33, k33, b33⟩
    have C34 : Cl l.prog w K mg base 1 _ _ _ _ _ := ⟨ok_says F34 m_isinstance m_bool, m34, k34, b34⟩
    have C35 : Cl l.prog w K mg base 10 _ _ _ _ _ := ⟨ok_spoilt (m := 7) (L := 9) (by decide) F35 (C28 8) (C17.mono (by omega)) (C31 8) (C16.mono (by omega)) (C24.mono (by omega)) (C29 8), m35, k35, b35⟩
    exact ok_law (L := 200) F36 m_range m_min m_isinstance m_dict (C15.mono (by omega)) (C16.mono (by omega)) ((C27 5).mono (by omega)) (C26.mono (by omega)) ((C23 6).mono (by omega)) (C22.mono (by omega)) (C14.mono (by omega)) (C34.mono (by omega)) (C12.mono (by omega)) ((C28 8).mono (by omega)) (C35.mono (by omega)) (C33.mono (by omega))
end KP
open PySem PySem.W PyProof.Rows
set_option maxRecDepth 100000 in
set_option maxHeartbeats 0 in
theorem PySem.Challenge.cw_termwarrant_k66_matched_holds : PySem.Challenge.rw_termwarrant_k66_matched.Holds := by
  w_on; o_law; k_head; (case hw => w_witness2)
  k_fill
  refine LamX.walk_ofTs (l := PySem.Challenge.rw_termwarrant_k66_matched) (n := 63) (k := 201) (CX := fun _ => L2.CX0) (x := "_law_script") rfl (by decide) rfl ⟨rfl, by decide, by decide⟩ (fun w h Y => PySem.W.km_in_of Y) ?F (fun _ _ _ _ _ z => z)
  case F =>
    intro w mg fa h Y KX G hmg
    have tabs := PySem.W.km_tabs_of Y
    refine' KP.all_mk (P1 := 50) (P2 := 57) (P3 := 71) KX G hmg ?a1 ?l1 ?d1 ?k1 ?a2 ?l2 ?d2 ?k2 ?a3 ?l3 ?d3 ?k3 ?a4 ?l4 ?d4 ?k4 ?a5 ?l5 ?d5 ?k5 ?a6 ?l6 ?d6 ?k6 ?a7 ?l7 ?d7 ?k7 ?a8 ?l8 ?d8 ?k8 ?a9 ?l9 ?d9 ?k9 ?a10 ?l10 ?d10 ?k10 ?a11 ?l11 ?d11 ?k11 ?a12 ?l12 ?d12 ?k12 ?a13 ?l13 ?d13 ?k13 ?a14 ?l14 ?d14 ?k14 ?a15 ?l15 ?d15 ?k15 ?a16 ?l16 ?d16 ?k16 ?a17 ?l17 ?d17 ?k17 ?a18 ?l18 ?d18 ?k18 ?a19 ?l19 ?d19 ?k19 ?a20 ?l20 ?d20 ?k20 ?a21 ?l21 ?d21 ?k21 ?a22 ?l22 ?d22 ?k22 ?a23 ?l23 ?d23 ?k23 ?a24 ?l24 ?d24 ?k24 ?a25 ?l25 ?d25 ?k25 ?a26 ?l26 ?d26 ?k26 ?a27 ?l27 ?d27 ?k27 ?a28 ?l28 ?d28 ?k28 ?a29 ?l29 ?d29 ?k29 ?a30 ?l30 ?d30 ?k30 ?a31 ?l31 ?d31 ?k31 ?a32 ?l32 ?d32 ?k32 ?a33 ?l33 ?d33 ?k33 ?a34 ?l34 ?d34 ?k34 ?a35 ?l35 ?d35 ?k35 ?a36 ?l36 ?d36 ?k36 ?lT ?dT ?z_len ?z_tuple ?z_enumerate ?z_list ?z_sum ?z_range ?z_int ?z_abs ?z_isinstance ?z_dict ?z_min ?z_zip ?z_bool ?g1 ?t1 ?n1 ?g2 ?t2 ?n2 ?g3 ?t3 ?n3 ?n1_2 ?n1_3 ?n2_3
    (case a1 => k_is); (case l1 => k_is); (case d1 => k_is); (case k1 => k_is); (case a2 => k_is); (case l2 => k_is); (case d2 => k_is); (case k2 => k_is)
    (case a3 => k_is); (case l3 => k_is); (case d3 => k_is); (case k3 => k_is); (case a4 => k_is); (case l4 => k_is); (case d4 => k_is); (case k4 => k_is)
    (case a5 => k_is); (case l5 => k_is); (case d5 => k_is); (case k5 => k_is); (case a6 => k_is); (case l6 => k_is); (case d6 => k_is); (case k6 => k_is)
    (case a7 => k_is); (case l7 => k_is); (case d7 => k_is); (case k7 => k_is); (case a8 => k_is); (case l8 => k_is); (case d8 => k_is); (case k8 => k_is)
    (case a9 => k_is); (case l9 => k_is); (case d9 => k_is); (case k9 => k_is); (case a10 => k_is); (case l10 => k_is); (case d10 => k_is); (case k10 => k_is)
    (case a11 => k_is); (case l11 => k_is); (case d11 => k_is); (case k11 => k_is); (case a12 => k_is); (case l12 => k_is); (case d12 => k_is); (case k12 => k_is)
    (case a13 => k_is); (case l13 => k_is); (case d13 => k_is); (case k13 => k_is); (case a14 => k_is); (case l14 => k_is); (case d14 => k_is); (case k14 => k_is)
    (case a15 => k_is); (case l15 => k_is); (case d15 => k_is); (case k15 => k_is); (case a16 => k_is); (case l16 => k_is); (case d16 => k_is); (case k16 => k_is)
    (case a17 => k_is); (case l17 => k_is); (case d17 => k_is); (case k17 => k_is); (case a18 => k_is); (case l18 => k_is); (case d18 => k_is); (case k18 => k_is)
    (case a19 => k_is); (case l19 => k_is); (case d19 => k_is); (case k19 => k_is); (case a20 => k_is); (case l20 => k_is); (case d20 => k_is); (case k20 => k_is)
    (case a21 => k_is); (case l21 => k_is); (case d21 => k_is); (case k21 => k_is); (case a22 => k_is); (case l22 => k_is); (case d22 => k_is); (case k22 => k_is)
    (case a23 => k_is); (case l23 => k_is); (case d23 => k_is); (case k23 => k_is); (case a24 => k_is); (case l24 => k_is); (case d24 => k_is); (case k24 => k_is)
    (case a25 => k_is); (case l25 => k_is); (case d25 => k_is); (case k25 => k_is); (case a26 => k_is); (case l26 => k_is); (case d26 => k_is); (case k26 => k_is)
    (case a27 => k_is); (case l27 => k_is); (case d27 => k_is); (case k27 => k_is); (case a28 => k_is); (case l28 => k_is); (case d28 => k_is); (case k28 => k_is)
    (case a29 => k_is); (case l29 => k_is); (case d29 => k_is); (case k29 => k_is); (case a30 => k_is); (case l30 => k_is); (case d30 => k_is); (case k30 => k_is)
    (case a31 => k_is); (case l31 => k_is); (case d31 => k_is); (case k31 => k_is); (case a32 => k_is); (case l32 => k_is); (case d32 => k_is); (case k32 => k_is)
    (case a33 => k_is); (case l33 => k_is); (case d33 => k_is); (case k33 => k_is); (case a34 => k_is); (case l34 => k_is); (case d34 => k_is); (case k34 => k_is)
    (case a35 => k_is); (case l35 => k_is); (case d35 => k_is); (case k35 => k_is); (case a36 => k_is); (case l36 => k_is); (case d36 => k_is); (case k36 => k_is)
    (case lT => k_is); (case dT => rfl); (case z_len => k_is); (case z_tuple => k_is); (case z_enumerate => k_is); (case z_list => k_is); (case z_sum => k_is); (case z_range => k_is)
    (case z_int => k_is); (case z_abs => k_is); (case z_isinstance => k_is); (case z_dict => k_is); (case z_min => k_is); (case z_zip => k_is); (case z_bool => k_is); (case g1 => kernel_rfl)
    (case t1 => exact tabs _ (by decide)); (case n1 => kernel_rfl); (case g2 => kernel_rfl); (case t2 => exact tabs _ (by decide)); (case n2 => kernel_rfl); (case g3 => kernel_rfl); (case t3 => exact tabs _ (by decide)); (case n3 => kernel_rfl)
    (case n1_2 => decide); (case n1_3 => decide); (case n2_3 => decide)
