import PyProof.Rows.All
import Wide.All
import OpenK.AllK
import Wide.FinOn
import HandS.ForMost
import HandS.Nested
import HandS.EndTab
import HandS.Walk
import HandS.Evl
import HandS.More
import HandS.SortInts
import HandS.IsInst
import KE.GoesMore
import KE.GoesEnum
import PySem.PyData
import HandS.Conv
import HandS.Style
import HandS.Defaults
import PySem.Challenge.RW_termwarrant_k65_fillings
set_option Elab.async false
set_option maxRecDepth 100000
set_option maxHeartbeats 4000000
/-! Frozen cells, lambdas with parameters as values, enumerate of a tuple. -/
namespace KL
open PySem PySem.Spec PyProof.Rows L2 LamX NdefX

/-! ### frozen cells -/
def fzc (o : Obj) : HO := .frz o (.ext fun _ => True)
abbrev Cs := List (Addr × Obj)
def fz (cs : Cs) (H : Hp) : Hp := fun b => match cs.lookup b with
  | some o => some (fzc o)
  | none => H b
def er (cs : Cs) (H : Hp) : Hp := fun b => match cs.lookup b with
  | some _ => none
  | none => H b
section
variable {P : Program} {w : World} {cs : Cs} {H H' : Hp} {h h' : Heap} {b : Addr} {o : Obj} {u : HO} {fs : List Addr}
theorem fz_in (e : cs.lookup b = some o) : fz cs H b = some (fzc o) := by unfold fz; rw [e]
theorem fz_out (e : cs.lookup b = none) : fz cs H b = H b := by unfold fz; rw [e]
theorem er_in (e : cs.lookup b = some o) : er cs H b = none := by unfold er; rw [e]
theorem er_out (e : cs.lookup b = none) : er cs H b = H b := by unfold er; rw [e]
theorem er_some (e : er cs H b = some u) : cs.lookup b = none ∧ H b = some u := by
  cases q : cs.lookup b with
  | none => rw [er_out q] at e; exact ⟨rfl, e⟩
  | some o => rw [er_in q] at e; cases e
theorem objOk_fzc (e : h.get? b = some o) : ObjOk P w H h b (fzc o) := by
  refine ⟨e, trivial, ⟨o, e⟩, fun _ _ _ _ => trivial⟩
/-- the cells of cs are not tracked -/
def Bare (cs : Cs) (H : Hp) (h : Heap) : Prop := ∀ c o, cs.lookup c = some o → H c = none ∧ h.get? c = some o
/-- the cells of cs are frozen -/
def Cold (cs : Cs) (H : Hp) : Prop := ∀ c o, cs.lookup c = some o → H c = some (fzc o)
theorem Bare.out (B : Bare cs H h) (e : H b = some u) : cs.lookup b = none := by
  cases q : cs.lookup b with
  | none => rfl
  | some o => rw [(B b o q).1] at e; cases e
theorem cold_fz : Cold cs (fz cs H) := fun _ _ e => fz_in e
theorem Cold.out (B : Cold cs H) (e : H b = some u) (n : ∀ o, u ≠ fzc o) : cs.lookup b = none := by
  cases q : cs.lookup b with
  | none => rfl
  | some o => rw [B b o q] at e; cases e; exact (n o rfl).elim
theorem hok_fz (x : HOk P w H h) (B : Bare cs H h) : HOk P w (fz cs H) h := fun b u e => by
  cases q : cs.lookup b with
  | some o => rw [fz_in q] at e; cases e; exact objOk_fzc (B b o q).2
  | none =>
    rw [fz_out q] at e
    exact (x b u e).stay (fun _ _ _ z => z) (fun c z => by rw [fz_out (B.out z)]; exact z) fun c xs z => by rw [fz_out (B.out z)]; exact z
theorem hok_er (x : HOk P w H h) (B : Cold cs H) : HOk P w (er cs H) h := fun b u e => by
  obtain ⟨q, e⟩ := er_some e
  exact (x b u e).stay (fun _ _ _ z => z) (fun c z => by rw [er_out (B.out z (fun o => by unfold fzc; intro k; cases k))]; exact z)
    fun c xs z => by rw [er_out (B.out z (fun o => by unfold fzc; intro k; cases k))]; exact z
/-- behind a run over the frozen heap -/
theorem un_fz (B : Bare cs H h) (U : Un fs [] (fz cs H) H' h h') (x : HOk P w H' h') : Un fs [] H (er cs H') h h' := by
  have out : ∀ {b u}, H b = some u → cs.lookup b = none := fun e => B.out e
  refine ⟨fun b o e n hb hx => ?_, fun b o e n hb hx => ?_, fun b o e n hx => ?_, fun b o e hx => U.there b o e hx, fun b xs e => ?_, fun b o u e => ?_, fun b ps e => ?_⟩
  · cases q : cs.lookup b with
    | none => exact U.keep b o e (by rw [fz_out q]; exact n) hb hx
    | some ob =>
      have z := U.frzs b ob _ (fz_in q)
      obtain ⟨z1, _⟩ := x b _ z
      rw [(B b ob q).2] at e
      cases e
      exact z1
  · cases q : cs.lookup b with
    | none => exact U.slot b o e (by rw [fz_out q]; exact n) hb hx
    | some ob =>
      have z := U.frzs b ob _ (fz_in q)
      obtain ⟨z1, _⟩ := x b _ z
      rw [(B b ob q).2] at e
      cases e
      exact ⟨o.slots, z1⟩
  · cases q : cs.lookup b with
    | none => rw [er_out q]; exact U.free b o e (by rw [fz_out q]; exact n) hx
    | some ob => exact er_in q
  · rw [er_out (out e)]; exact U.tups b xs (by rw [fz_out (out e)]; exact e)
  · rw [er_out (out e)]; exact U.frzs b o u (by rw [fz_out (out e)]; exact e)
  · rw [er_out (out e)]; exact U.tbls b ps (by rw [fz_out (out e)]; exact e)
/-- behind a run over the heap without the cells -/
theorem un_er (B : Cold cs H) (U : Un fs [] (er cs H) H' h h') : Un fs [] H (fz cs H') h h' := by
  have out : ∀ {b u}, H b = some u → (∀ o, u ≠ fzc o) → cs.lookup b = none := fun e n => B.out e n
  have on : ∀ {b}, H b = none → cs.lookup b = none := fun {b} e => by
    cases q : cs.lookup b with
    | none => rfl
    | some o => rw [B b o q] at e; cases e
  refine ⟨fun b o e n hb hx => U.keep b o e (by rw [er_out (on n)]; exact n) hb hx, fun b o e n hb hx => U.slot b o e (by rw [er_out (on n)]; exact n) hb hx, fun b o e n hx => ?_, fun b o e hx => U.there b o e hx, fun b xs e => ?_, fun b o u e => ?_, fun b ps e => ?_⟩
  · rw [fz_out (on n)]; exact U.free b o e (by rw [er_out (on n)]; exact n) hx
  · have q := out e (fun o => by unfold fzc; intro k; cases k)
    rw [fz_out q]; exact U.tups b xs (by rw [er_out q]; exact e)
  · cases q : cs.lookup b with
    | none => rw [fz_out q]; exact U.frzs b o u (by rw [er_out q]; exact e)
    | some ob =>
      rw [B b ob q] at e
      rw [fz_in q]
      exact e
  · have q := out e (fun o => by unfold fzc; intro k; cases k)
    rw [fz_out q]; exact U.tbls b ps (by rw [er_out q]; exact e)
theorem hok_un_er (B : Cold cs H) (x0 : HOk P w H h) (nf : ∀ c o, cs.lookup c = some o → c ∉ fs) (U : Un fs [] (er cs H) H' h h') (x : HOk P w H' h') : HOk P w (fz cs H') h' := by
  refine hok_fz x fun c o q => ?_
  have e : h.get? c = some o := (x0 c _ (B c o q)).1
  exact ⟨U.free c o e (er_in q) (by simp), U.keep c o e (er_in q) (nf c o q) (by simp)⟩
end

/-! ### lambdas with parameters, as objects -/
abbrev lamD (F : NF) (body : Expr) (pm ctv : Value) : FuncData := PySem.W.kla_fn "<lambda>" F.qual F.params body F.scope F.cl pm (.ref F.c) ctv
def LamO (f : Addr) (F : NF) (body : Expr) : HO := .ext fun h => ∃ (od : Option Addr) (sl : Array (Option Value)) (pm ctv : Value), h.get? f = some (⟨.type "function", od, .func (lamD F body pm ctv), sl⟩ : Obj)
theorem lamO_tbl {f : Addr} {F : NF} {body : Expr} (ps : Array Value) : LamO f F body ≠ .tbl ps := fun z => by unfold LamO at z; cases z
theorem lamO_fzc {f : Addr} {F : NF} {body : Expr} (o : Obj) : LamO f F body ≠ fzc o := fun z => by unfold LamO fzc at z; cases z
theorem codeO_fzc {c : Addr} {q : Str} (o : Obj) : CodeO c q ≠ fzc o := fun z => by unfold CodeO fzc at z; cases z
theorem fzc_tbl {o : Obj} (ps : Array Value) : fzc o ≠ .tbl ps := fun z => by unfold fzc at z; cases z
theorem lamO_at {P : Program} {w : World} {H : Hp} {h : Heap} {f : Addr} {F : NF} {body : Expr} (hok : HOk P w H h) (e : H f = some (LamO f F body)) :
    ∃ (od : Option Addr) (sl : Array (Option Value)) (pm ctv : Value), h.get? f = some (⟨.type "function", od, .func (lamD F body pm ctv), sl⟩ : Obj) := by
  obtain ⟨z, _, _⟩ := hok f _ e
  exact z
theorem lam_fnAt {P : Program} {w : World} {H : Hp} {h : Heap} {f : Addr} {F : NF} {body : Expr} (hok : HOk P w H h) (e : H f = some (LamO f F body)) : PySem.W.FnAt f h := by
  obtain ⟨od, sl, pm, ctv, z⟩ := lamO_at hok e
  exact ⟨_, _, _, _, z⟩
section
variable {X : Cx} {pins : List (Addr × Obj)} {σ : L2.St} {H : Hp} {s : Shared}
theorem inv_lam {F : NF} {body : Expr} {o : Obj} {t' : Nat} {pm ctv : Value} (I : Inv X pins σ H s) (ho : o = { cls := .type "function", data := .func (lamD F body pm ctv) }) :
    Inv X pins σ (upd H s.heap.objs.size (LamO s.heap.objs.size F body)) { s with heap := s.heap.push o, toks := t' } := by
  subst ho
  have e : (s.heap.push ({ cls := .type "function", data := .func (lamD F body pm ctv) } : Obj)).get? s.heap.objs.size = some ({ cls := .type "function", data := .func (lamD F body pm ctv) } : Obj) := Heap.get?_push_size _ rfl
  exact I.laid (a := s.heap.objs.size) (fun b u q => Heap.get?_push_of_some _ q) (Nat.le_refl _) ⟨⟨_, _, pm, ctv, e⟩, ⟨_, e⟩, fun h1 h2 ⟨od, sl, p, t, z⟩ st => ⟨od, sl, p, t, st _ z⟩⟩
/-- the lambda's words -/
abbrev mkF (X : Cx) (params : Arguments) (scope : Scope) (c' : Addr) : NF := ⟨"<lambda>", X.env.qual ++ "<lambda>", params, [], scope, cloFrom X.env.cells scope.names [], c'⟩
/-- a lambda is made -/
theorem lam_make3 {T : List (Addr × Str)} {c P : Addr} {params : Arguments} {body : Expr} {scope : Scope} {pos : Pos} {E : Value → Shared → Prop} {Q : Value → Shared → Prop} (I : Inv X pins σ H s) (TB : TabB X.base X.mg c P) (hcode : X.env.code = .ref c)
    (hm : (P, X.env.qual ++ "<lambda>") ∈ T) (hu : ∀ p ∈ T, p.1 = P → p.2 = X.env.qual ++ "<lambda>") (hT : Tabs T H) (hdef : defaultsOf params X.env = ([], [])) (hfree : ∀ y ∈ scope.names, y.2 = .free → ∃ c, X.env.cells.lookup y.1 = some c)
    (h : ∀ (f c' : Addr) (H1 : Hp) (s' : Shared), Inv X pins σ H1 s' → ExtN H H1 → (∀ b, H1 b = none → H b = none) → Tabs T H1 → H f = none → H1 f = some (LamO f (mkF X params scope c') body) → H1 c' = some (CodeO c' (X.env.qual ++ "<lambda>")) → Q (.ref f) s') :
    wpAny (model X.prog X.w) X.A (eval (.Lambda params body scope pos) X.env) Q E s := by
  obtain ⟨ps, hP, ht, ha⟩ := hT _ hm
  refine PySem.W.kla_eval hdef ?_
  have bP := TB.bm.keeps I.bk
  have hP' : s.heap.get? P = some { cls := .none, data := .fields ps } := I.hok P _ hP
  cases hc : codeAmong pos ps.toList with
  | none =>
    refine PySem.W.kla_makeFunction (mg := X.mg) (c := c) (P := P) (ps := ps) (closure_ok hfree) I.ok.glob (I.mod.glob.keeps I.bk) hcode (TB.code.keeps I.bk) hP' ht hc TB.gP bP fun c' ctv h' tk hx hge hlt hrec htb => ?_
    obtain ⟨c2, oc, vs, t, e2, hoc, hd, hv⟩ := hrec
    obtain rfl : c' = c2 := Value.ref.inj e2
    have nC : H c' = none := I.hok.fresh hge
    have I1 := inv_table (t' := tk) (more := #[rawInt pos.line, rawInt pos.col, .ref c']) (h' := h') I hP (fun b o hb e => hx b o hb e) htb hge ⟨oc, vs, t, hoc, hd, hv⟩
    generalize hH1 : upd (upd H P (.tbl (ps ++ #[rawInt pos.line, rawInt pos.col, .ref c']))) c' (CodeO c' (X.env.qual ++ "<lambda>")) = H1 at I1
    have cC : H1 c' = some (CodeO c' (X.env.qual ++ "<lambda>")) := by rw [← hH1]; exact upd_same
    have hE : ExtN H H1 := fun b o e n => by
      rw [← hH1, upd_ne (ne_of_none e nC), upd_ne (fun z => n ps (Option.some.inj (e.symm.trans (by rw [z]; exact hP))))]
      exact e
    have hN : ∀ b, H1 b = none → H b = none := fun b e => by rw [← hH1] at e; exact upd_none (upd_none e)
    have eL : (ps ++ #[rawInt pos.line, rawInt pos.col, .ref c']).toList = ps.toList ++ [rawInt pos.line, rawInt pos.col, .ref c'] := by simp
    have T1 : Tabs T H1 := fun p hp => by
      by_cases hb : p.1 = P
      · have e1 := hu p hp hb
        obtain ⟨p1, p2⟩ := p
        obtain rfl : p1 = P := hb
        obtain rfl : p2 = _ := e1
        refine ⟨_, (by rw [← hH1, upd_ne (ne_of_none hP nC), upd_same]), by rw [eL]; exact PySem.TriplesOk_snoc _ _ _ _ ht, fun p' cv hcv => ?_⟩
        rw [eL] at hcv
        rcases among_app _ ht hcv with z | z
        · obtain ⟨c0, e1, e2⟩ := ha p' cv z
          exact ⟨c0, e1, hE _ _ e2 codeO_ne⟩
        · exact ⟨c', z, cC⟩
      · obtain ⟨ps', a1, a2, a3⟩ := hT p hp
        refine ⟨ps', (by rw [← hH1, upd_ne (ne_of_none a1 nC), upd_ne hb]; exact a1), a2, fun p' cv hcv => ?_⟩
        obtain ⟨c0, e1, e2⟩ := a3 p' cv hcv
        exact ⟨c0, e1, hE _ _ e2 codeO_ne⟩
    have nF := I1.hok.fresh (Nat.le_refl _)
    have I2 := inv_lam (F := mkF X params scope c') (body := body) (t' := tk) (pm := (X.mg "__name__").getD .none) (ctv := ctv) I1 rfl
    refine h h'.objs.size c' _ _ I2 (fun b o e n => ?_) (fun b e => hN b (upd_none e)) (T1.ext fun b o e => ?_) (I.hok.fresh (Nat.le_trans hge (Nat.le_of_lt hlt))) upd_same ?_
    · exact (upd_ne (ne_of_none (hE b o e n) nF)).trans (hE b o e n)
    · exact (upd_ne (ne_of_none e nF)).trans e
    · exact (upd_ne (Nat.ne_of_lt hlt)).trans cC
  | some cv =>
    obtain ⟨c', e, hco⟩ := ha pos cv hc
    subst e
    refine PySem.W.kla_makeFunctionHit (mg := X.mg) (c := c) (P := P) (ps := ps) (closure_ok hfree) I.ok.glob (I.mod.glob.keeps I.bk) hcode (TB.code.keeps I.bk) hP' ht hc bP fun ctv h' tk hx hsz => ?_
    have I1 : Inv X pins σ H { s with heap := h', toks := tk } := I.kept hx
    have nF : H h'.objs.size = none := I1.hok.fresh (Nat.le_refl _)
    have I2 := inv_lam (F := mkF X params scope c') (body := body) (t' := tk) (pm := (X.mg "__name__").getD .none) (ctv := ctv) I1 rfl
    refine h h'.objs.size c' _ _ I2 (fun b o e n => ?_) (fun b e => upd_none e) (hT.ext fun b o e => ?_) nF upd_same ?_
    · exact (upd_ne (ne_of_none e nF)).trans e
    · exact (upd_ne (ne_of_none e nF)).trans e
    · exact (upd_ne (ne_of_none hco nF)).trans hco
end
/-- what the making of a lambda asks and gives -/
def tLamV (T : List (Addr × Str)) (mk : Addr → NF) (body : Expr) : TE := fun _ H Q => Tabs T H ∧ ∀ (f c' : Addr) (H1 : Hp), ExtN H H1 → (∀ b, H1 b = none → H b = none) → Tabs T H1 → H f = none →
  H1 f = some (LamO f (mk c') body) → H1 c' = some (CodeO c' (mk c').qual) → Q (.ref f) H1
theorem pe_lamV {X : Cx} {T : List (Addr × Str)} {c P : Addr} {params : Arguments} {body : Expr} {scope : Scope} {pos : Pos} (TB : TabB X.base X.mg c P) (hcode : X.env.code = .ref c)
    (hm : (P, X.env.qual ++ "<lambda>") ∈ T) (hu : ∀ p ∈ T, p.1 = P → p.2 = X.env.qual ++ "<lambda>") (hdef : defaultsOf params X.env = ([], []))
    (hfree : ∀ y ∈ scope.names, y.2 = .free → X.env.scope.names.lookup y.1 = some .cell ∨ X.env.scope.names.lookup y.1 = some .free) : PE X (.Lambda params body scope pos) (tLamV T (mkF X params scope) body) := by
  refine ⟨fun pins s σ H Q I h => ?_⟩
  obtain ⟨hT, h⟩ := h
  refine lam_make3 I TB hcode hm hu hT hdef (fun y hy e => (hfree y hy e).elim (fun z => I.ok.has _ (.inl z)) fun z => I.ok.has _ (.inr z)) fun f c' H1 s' I1 e1 e2 e3 e4 e5 e6 => ?_
  exact ⟨.ref f, H1, I1, rfl, h f c' H1 e1 e2 e3 e4 e5 e6⟩

/-! ### a lambda called -/
/-- what the frozen cells hold -/
structure CellsF (cl : List (Str × Addr)) (fr : List Str) (ws : List (Option V)) (cs : Cs) : Prop where
  len : ws.length = fr.length
  all : ∀ y c, cl.lookup y = some c → ∃ o v, cs.lookup c = some o ∧ o.data = .cell v
  inj : ∀ x y c, cl.lookup x = some c → cl.lookup y = some c → x = y
  has : ∀ (i : Nat) (y : Str), fr[i]? = some y → ∃ c o, cl.lookup y = some c ∧ cs.lookup c = some o ∧ ∀ v, ws[i]? = some (some v) → ∃ u, L2.RelV v u ∧ o.data = .cell (some u)
abbrev SpL := List (Option V) → List V → Hp → VK → Prop
/-- the lambda F at f, its cells frozen, keeps the promise -/
structure LOk (P : Program) (w : World) (K : PySem.W.Frag) (mg : Str → Option Value) (base : Heap) (k : Nat) (f : Addr) (F : NF) (body : Expr) (ps fr : List Str) (sp : SpL) : Prop where
  run : ∀ (A : Around) (outer : List Env) (s : Shared) (H : Hp) (us : List Value) (vs : List V) (ws : List (Option V)) (cs : Cs) (Q : VK), Room k A → Env0 P w K mg base A outer s H → H f = some (LamO f F body) → H F.c = some (CodeO F.c F.qual) → Cold cs H →
    CellsF F.cl fr ws cs → Vals vs us → vs.length = ps.length → sp ws vs (er cs H) (fun v H' => (∀ c o, cs.lookup c = some o → H' c = none) → Q v (fz cs H')) → codeAny (model P w) A (.call (.ref f) ⟨us, []⟩) (CR CX0 outer P w H s Q E0) s
section
variable {P : Program} {w : World} {K : PySem.W.Frag} {mg : Str → Option Value} {base : Heap} {N ps fr : List Str} {F : NF} {body : Expr} {f : Addr} {k j : Nat} {sp : SpL}
theorem env0_er {A : Around} {outer : List Env} {s : Shared} {H : Hp} {cs : Cs} (e0 : Env0 P w K mg base A outer s H) (C : Cold cs H) : Env0 P w K mg base A outer s (er cs H) := by
  have no : ∀ b, H b = none → er cs H b = none := fun b e => by
    cases q : cs.lookup b with
    | none => rw [er_out q]; exact e
    | some o => exact er_in q
  exact ⟨e0.frames, e0.mod, fun b o e => ⟨(e0.bs b o e).1, no b (e0.bs b o e).2⟩, e0.bsz, e0.funs, fun b hb => no b (e0.frf b hb), hok_er e0.hok C, e0.bare⟩
theorem lok_of (S : NScope N ps fr F.scope) (hb : ∀ (pm ctv : Value) (us : List Value), us.length = ps.length → bindArgs (lamD F body pm ctv) ⟨us, []⟩ = pure (ps.zip us))
    (hbody : ∀ (A : Around) (outer : List Env) (s : Shared) (H : Hp) (vs : List V) (ws : List (Option V)) (Q : VK), Room k (A.deeper (envF F f s.heap.objs.size)) → ws.length = fr.length → vs.length = ps.length → sp ws vs H Q →
      ∃ t, PE (ncx CX0 P w K mg base N F f A outer s H E0).nox body t ∧ t (startF N vs ws) H Q) : LOk P w K mg base (k + 1) f F body ps fr sp := by
  refine ⟨fun A outer s H us vs ws cs Q hr e0 hf hc C Ce r hl hsp => ?_⟩
  have e1 := env0_er e0 C
  have lim := e0.mod.nolimit.keeps fun b o e => (e0.bs b o e).1
  obtain ⟨od, sl, pm, ctv, ho⟩ := lamO_at e0.hok hf
  have CA : CellsAt F.cl fr ws s.heap (er cs H) := by
    refine ⟨Ce.len, fun y c e => ?_, Ce.inj, fun i y e => ?_⟩
    · obtain ⟨o, v, q, d⟩ := Ce.all y c e
      exact ⟨er_in q, v, o, (e0.hok c _ (C c o q)).1, d⟩
    · obtain ⟨c, o, h1, h2, h3⟩ := Ce.has i y e
      refine ⟨c, h1, fun v ev => ?_⟩
      obtain ⟨u, ru, d⟩ := h3 v ev
      exact ⟨u, ru, o, (e0.hok c _ (C c o h2)).1, d⟩
  refine PySem.W.kla_callFunE hr.depth ho rfl S.co S.gen rfl (codeO_at e0.hok hc) ?_
  rw [hb pm ctv us (by rw [← r.length]; exact hl)]
  refine wpAny_pure (wpAny_newFunctionEnv S.nocell (fun ⟨n, _⟩ hy => S.par n (List.of_mem_zip hy).1) (fun h₁ hns hsb => ⟨lim.fresh _ hsb, ?_⟩) S.kind)
  show codeAny _ _ (.expr body (envF F f s.heap.objs.size)) _ _
  have kp : ∀ b o, s.heap.get? b = some o → h₁.get? b = some o := fun b o e => hsb.extBut b o (Nat.ne_of_lt (Heap.lt_size e)) (Heap.get?_push_of_some _ e)
  obtain ⟨t, ht, hq⟩ := hbody A outer s (er cs H) vs ws _ (hr.deeper _) Ce.len hl hsp
  have I : Inv (ncx CX0 P w K mg base N F f A outer s (er cs H) E0) [] (startF N vs ws) (er cs H) { s with heap := h₁, toks := s.toks + (ps.zip us).length } := inv_startN S hr.hd e1 hl r CA hns kp
  refine PySem.W.kla_codeExpr (wpAny_mono ((PE.nox ht).run [] _ _ _ _ I hq) (fun u s' hs => ?_) fun e s' hs => hs)
  obtain ⟨v, H', J, rv, q⟩ := hs
  have J' : Un (frs outer) [] (er cs H) H' s.heap s'.heap := J.base
  have nf : ∀ c o, cs.lookup c = some o → c ∉ frs outer := fun c o q hm => by
    have z := e0.frf c hm
    rw [C c o q] at z
    cases z
  refine ⟨v, fz cs H', J.os, J.bare, un_er C J', hok_un_er C e0.hok nf J' J.hok, rv, q fun c o e => ?_⟩
  exact J'.free c o (e0.hok c _ (C c o e)).1 (er_in e) (by simp)
end
/-- a function value: whoever calls it at a heap that goes on from H has the promise sp -/
structure FVal (P : Program) (w : World) (K : PySem.W.Frag) (mg : Str → Option Value) (base : Heap) (k : Nat) (f : Addr) (H : Hp) (sp : List V → Hp → VK → Prop) : Prop where
  obj : ∃ F body, H f = some (LamO f F body)
  run : ∀ (A : Around) (outer : List Env) (s : Shared) (H1 : Hp) (us : List Value) (vs : List V) (Q : VK), Room k A → Env0 P w K mg base A outer s H1 → ExtN H H1 → Vals vs us → sp vs H1 Q →
    codeAny (model P w) A (.call (.ref f) ⟨us, []⟩) (CR CX0 outer P w H1 s Q E0) s
theorem Cold.ext {cs : Cs} {H H' : Hp} (C : Cold cs H) (e : ExtN H H') : Cold cs H' := fun c o q => e _ _ (C c o q) fzc_tbl
theorem fval_of {P : Program} {w : World} {K : PySem.W.Frag} {mg : Str → Option Value} {base : Heap} {k : Nat} {f : Addr} {H : Hp} {F : NF} {body : Expr} {ps fr : List Str} {sp : SpL} {sp' : List V → Hp → VK → Prop} {ws : List (Option V)} {cs : Cs}
    (L : LOk P w K mg base k f F body ps fr sp) (hf : H f = some (LamO f F body)) (hc : H F.c = some (CodeO F.c F.qual)) (C : Cold cs H) (Ce : CellsF F.cl fr ws cs)
    (hsp : ∀ vs H1 Q, ExtN H H1 → sp' vs H1 Q → vs.length = ps.length ∧ sp ws vs (er cs H1) (fun v H' => (∀ c o, cs.lookup c = some o → H' c = none) → Q v (fz cs H'))) : FVal P w K mg base k f H sp' :=
  ⟨⟨F, body, hf⟩, fun A outer s H1 us vs Q hr e0 e r q => by
    obtain ⟨hl, q'⟩ := hsp vs H1 Q e q
    exact L.run A outer s H1 us vs ws cs Q hr e0 (e _ _ hf lamO_tbl) (e _ _ hc codeO_ne) (C.ext e) Ce r hl q'⟩
theorem FVal.ext {P : Program} {w : World} {K : PySem.W.Frag} {mg : Str → Option Value} {base : Heap} {k : Nat} {f : Addr} {H H' : Hp} {sp : List V → Hp → VK → Prop} (V : FVal P w K mg base k f H sp) (e : ExtN H H') : FVal P w K mg base k f H' sp := by
  obtain ⟨⟨F, body, hf⟩, run⟩ := V
  exact ⟨⟨F, body, e _ _ hf lamO_tbl⟩, fun A outer s H1 us vs Q hr e0 e1 => run A outer s H1 us vs Q hr e0 (e.trans e1)⟩
/-- f(e, ..), the i-th slot holds a function value -/
def tCallV (P : Program) (w : World) (K : PySem.W.Frag) (mg : Str → Option Value) (base : Heap) (k i : Nat) (t : TA) : TE := fun σ H Q => ∃ f sp, σ[i]? = some (some (.ref f)) ∧ FVal P w K mg base k f H sp ∧ t σ H fun vs H1 => ExtN H H1 ∧ sp vs H1 Q
theorem pe_callV {X : Cx} {i j k : Nat} {x : Str} {t : TA} {e : Expr} {es : List Expr} {p pos : Pos} (hr : Room j X.A) (hk : k ≤ j) (ha : PA X (e :: es) t) (hN : X.N[i]? = some x := by rfl) (hv : Vis X.env.scope x := by first | exact Or.inl rfl | exact Or.inr (Or.inl rfl) | exact Or.inr (Or.inr rfl))
    (hd : (x == ("__debug__" : Str)) = false := by decide) (hcd : (x == ("__classdict__" : Str)) = false := by decide)
    (he : starEach (e :: es) X.env = (false, eval e X.env) :: starEach es X.env := by rfl) (hpl : (backTo pos (starEach es X.env)).any (·.1) = false := by rfl) :
    PE X (.Call (.Name x p) (e :: es) [] pos) (tCallV X.prog X.w X.K X.mg X.base k i t) := by
  refine ⟨fun pins s σ H Q I h => ?_⟩
  obtain ⟨f, sp, hs, V, ht⟩ := h
  refine wpAny_Call_Name_kw (thn ((pe_var (pos := p) hN hv hd hcd).run pins s σ H (fun v H1 => v = .ref f ∧ H1 = H) I ⟨.ref f, hs, rfl, rfl⟩) fun u s1 ⟨v, H1, I1, r1, ev, eH⟩ => ?_)
  subst ev
  rw [eH] at I1
  obtain rfl : u = Value.ref f := r1
  obtain ⟨F, body, hf⟩ := V.obj
  refine PySem.W.callWith_F (first := []) (lam_fnAt I1.hok hf) (thn (ha.run pos pins s1 σ H _ I1 ht) fun us s2 ⟨vs, H2, I2, r, e2, q⟩ => ⟨lam_fnAt I2.hok (e2 _ _ hf lamO_tbl), ?_⟩) he hpl
  show wpAny _ _ (call (.ref f) us) _ _ _
  refine wpAny_call (codeAny_mono (V.run X.A X.stack s2 H2 us vs Q (hr.mono hk) I2.env0 e2 r q) fun r s' hq => ?_)
  cases r with
  | error e => exact False.elim hq
  | ok fl =>
    cases fl with
    | ret u => exact I2.after hq
    | next => exact False.elim hq
    | brk => exact False.elim hq
    | cont => exact False.elim hq
/-! ### a def called with the running frame's captured cells frozen -/
def cellsOf (cl : List (Str × Addr)) (h : Heap) : Cs := cl.map fun p => (p.2, (h.get? p.2).getD { cls := .none, data := .plain })
theorem look_cellsOf {h : Heap} : ∀ {cl : List (Str × Addr)} {c : Addr} {o : Obj}, (cellsOf cl h).lookup c = some o → ∃ y, (y, c) ∈ cl ∧ o = (h.get? c).getD { cls := .none, data := .plain }
  | [], _, _, e => by simp [cellsOf] at e
  | (y, d) :: r, c, o, e => by
    unfold cellsOf at e
    rw [List.map_cons, List.lookup_cons] at e
    by_cases q : c = d
    · subst q
      simp at e
      exact ⟨y, List.mem_cons_self, e.symm⟩
    · rw [show (c == d) = false from by simpa using q] at e
      obtain ⟨z, h1, h2⟩ := look_cellsOf (cl := r) e
      exact ⟨z, List.mem_cons_of_mem _ h1, h2⟩
theorem cellsOf_look {h : Heap} : ∀ {cl : List (Str × Addr)} {y : Str} {c : Addr}, (y, c) ∈ cl → (cellsOf cl h).lookup c = some ((h.get? c).getD { cls := .none, data := .plain })
  | (z, d) :: r, y, c, e => by
    unfold cellsOf
    rw [List.map_cons, List.lookup_cons]
    by_cases q : c = d
    · subst q; simp
    · rw [show (c == d) = false from by simpa using q]
      rcases List.mem_cons.mp e with e | e
      · cases e; exact (q rfl).elim
      · exact cellsOf_look (cl := r) e
/-- x(e, ..), the cells cl of the running frame frozen meanwhile; js: where the captured names stand -/
def tCallZ (cl : List (Str × Addr)) (fr : List Str) (js : List Nat) (sp : Sp) (t : TA) : TE := fun σ H Q => t σ H fun vs H1 => ∀ cs : Cs, CellsF cl fr (js.map (slotAt σ)) cs → (∀ c o, cs.lookup c = some o → H1 c = none) →
  sp vs (fz cs H1) (fun v H' => Cold cs H' → Q v (er cs H')) E0
theorem pe_callZ {X : Cx} {k : Nat} {f : Addr} {fd : FuncData} {ps fr : List Str} {js : List Nat} {sp : Sp} {x : Str} {p pos : Pos} {e : Expr} {es : List Expr} {t : TA} {scope : Scope} (F : FnOk X.prog X.w X.K X.mg X.base CX0 k f fd ps sp) (hr : Room k X.A) (hg : Gl X x) (hm : X.mg x = some (.ref f)) (hk : PySem.W.keepIn X.K (.ref f) = true) (hb : L2.Binds X.K fd ps [])
    (hfree : ∀ y ∈ scope.names, y.2 = .free → X.env.scope.names.lookup y.1 = some .cell ∨ X.env.scope.names.lookup y.1 = some .free) (hfr : ∀ y ∈ fr, (y, NameKind.free) ∈ scope.names) (hjs : js.map (fun j => X.N[j]?) = fr.map some) (hfn : ∀ y, X.fn y = true)
    (ha : PA X (e :: es) t) (hdb : (x == ("__debug__" : Str)) = false := by decide) (he : starEach (e :: es) X.env = (false, eval e X.env) :: starEach es X.env := by rfl) (hpl : (backTo pos (starEach es X.env)).any (·.1) = false := by rfl) :
    PE X (.Call (.Name x p) (e :: es) [] pos) (tCallZ (cloFrom X.env.cells scope.names []) fr js sp t) := by
  refine ⟨fun pins s σ H Q I h => ?_⟩
  refine wpAny_Call_Name_kw (ld_glob I hg hm ?_ hdb)
  refine PySem.W.callWith_K (h₀ := X.base) I.ok.mod.kin hk (thn (ha.run pos pins s σ H _ I h) fun us s1 ⟨vs, H1, I1, r, q⟩ => ⟨I1.kIn, ?_⟩) he hpl
  have hf : ∀ y ∈ scope.names, y.2 = .free → ∃ c, X.env.cells.lookup y.1 = some c := fun y hy e => (hfree y hy e).elim (fun z => I1.ok.has _ (.inl z)) fun z => I1.ok.has _ (.inr z)
  have mem : ∀ {y c}, (y, c) ∈ cloFrom X.env.cells scope.names [] → X.env.cells.lookup y = some c := fun {y c} hm => by
    rcases cloFrom_mem hm with z | ⟨h1, h2⟩
    · cases z
    · obtain ⟨c1, hc⟩ := hf _ h1 rfl
      have hc : X.env.cells.lookup y = some c1 := hc
      rw [h2, hc] <;> rfl
  have cells : CellsAt (cloFrom X.env.cells scope.names []) fr (js.map (slotAt σ)) s1.heap H1 := cells_of I1 (Caps.made I1.ok hfree hfr hjs)
  have there : ∀ {y c}, (y, c) ∈ cloFrom X.env.cells scope.names [] → ∃ o v, s1.heap.get? c = some o ∧ o.data = .cell v := fun hm => by
    obtain ⟨v, o, ho, hd⟩ := I1.cell _ _ (mem hm)
    exact ⟨o, v, ho, hd⟩
  have B : Bare (cellsOf (cloFrom X.env.cells scope.names []) s1.heap) H1 s1.heap := fun c o e => by
    obtain ⟨y, h1, h2⟩ := look_cellsOf e
    obtain ⟨o', v, h3, _⟩ := there h1
    rw [h3] at h2
    have h2 : o = o' := h2
    subst h2
    exact ⟨I1.freeC _ _ (mem h1), h3⟩
  have CF : CellsF (cloFrom X.env.cells scope.names []) fr (js.map (slotAt σ)) (cellsOf (cloFrom X.env.cells scope.names []) s1.heap) := by
    refine ⟨cells.len, fun y c e => ?_, cells.inj, fun i y e => ?_⟩
    · have hm := PySem.mem_of_lookup e
      obtain ⟨o, v, h3, h4⟩ := there hm
      refine ⟨o, v, ?_, h4⟩
      rw [cellsOf_look hm, h3] <;> rfl
    · obtain ⟨c, h1, h2⟩ := cells.has i y e
      have hm := PySem.mem_of_lookup h1
      obtain ⟨o, v, h3, h4⟩ := there hm
      refine ⟨c, o, h1, (by rw [cellsOf_look hm, h3] <;> rfl), fun v hv => ?_⟩
      obtain ⟨u, ru, o', ho', hd'⟩ := h2 v hv
      rw [h3] at ho'
      cases ho'
      exact ⟨u, ru, hd'⟩
  have far : ∀ c o, (cellsOf (cloFrom X.env.cells scope.names []) s1.heap).lookup c = some o → X.s_0.heap.objs.size ≤ c ∧ c ≠ X.env.locals := fun c o e => by
    obtain ⟨y, h1, _⟩ := look_cellsOf e
    exact ⟨I1.ok.cab y c (hfn y) (mem h1), I1.cne y c (mem h1)⟩
  generalize cellsOf (cloFrom X.env.cells scope.names []) s1.heap = cs at B CF far
  have hsp := q cs CF fun c o e => (B c o e).1
  have hl : us.length = ps.length := by rw [← r.length]; exact F.len _ _ _ _ hsp
  have e0 := I1.env0
  have nfr : ∀ b, H1 b = none → cs.lookup b = none → fz cs H1 b = none := fun b e1 e2 => (fz_out e2).trans e1
  have e1 : Env0 X.prog X.w X.K X.mg X.base X.A X.stack s1 (fz cs H1) := by
    refine ⟨e0.frames, e0.mod, fun b o e => ⟨(e0.bs b o e).1, nfr b (e0.bs b o e).2 ?_⟩, e0.bsz, e0.funs, fun b hb => nfr b (e0.frf b hb) ?_, hok_fz e0.hok B, e0.bare⟩
    · cases z : cs.lookup b with
      | none => rfl
      | some ob => exact absurd (Nat.lt_of_lt_of_le (Heap.lt_size e) (Nat.le_trans I1.ok.bsz (far b ob z).1)) (Nat.lt_irrefl _)
    · cases z : cs.lookup b with
      | none => rfl
      | some ob =>
        rcases List.mem_cons.mp (I1.stkSub b hb) with e | e
        · exact ((far b ob z).2 e).elim
        · obtain ⟨_, o, ho, _⟩ := I1.ok.funs.mem e
          exact absurd (Nat.lt_of_lt_of_le (Heap.lt_size ho) (far b ob z).1) (Nat.lt_irrefl _)
  refine wpAny_call (codeAny_mono (F.run X.A X.stack s1 (fz cs H1) ⟨us, []⟩ us vs _ E0 hr e1 (by have z := hb s1 us I1.kIn (by rw [List.append_nil]; exact hl); rw [List.append_nil] at z; exact z) r hsp) fun r s' hq => ?_)
  cases r with
  | error e => exact False.elim hq
  | ok fl =>
    cases fl with
    | next => exact False.elim hq
    | brk => exact False.elim hq
    | cont => exact False.elim hq
    | ret u =>
      obtain ⟨v, H', os, bare, un, hok, rv, q'⟩ := hq
      have C : Cold cs H' := fun c o e => un.frzs c o _ (fz_in e)
      exact I1.after ⟨v, er cs H', os, bare, un_fz B un hok, hok_er hok C, rv, q' C⟩
end KL

/-! enumerate of a tuple. -/
namespace KL
open PySem PySem.Spec PyProof.Rows L2
theorem newEnumB {v : Value} {o : Obj} {H : Heap → Prop} (B : Begins v o H) :
    Meets (Builtin.«enumerate.__new__» ⟨[.type "enumerate", v], []⟩) (fun _ R s => H s.heap ∧
      R (.ok (.ret (.ref (s.heap.push o).objs.size))) { s with heap := (s.heap.push o).push { cls := .type "enumerate", data := .fields #[.none, .bool false, .ref s.heap.objs.size, rawInt 0, .none, .none] } }) :=
  .of_wp fun prog w A R s h => by
    obtain ⟨hp, g, d, tk, os⟩ := s
    obtain ⟨h1, h⟩ := h
    have hsub := sub_enumerate
    have q1 : ∀ {A' : Around} {E : Value → Shared → Prop} {Q : Value → Shared → Prop}, Q (.ref hp.objs.size) ⟨hp.push o, g, d, tk, os⟩ → wpAny (model prog w) A' (pyIter v) Q E ⟨hp, g, d, tk, os⟩ :=
      fun q => B.iter prog w _ _ _ _ h1 q
    wp_walk using q1
    refine wpAny_stack_any fun st => wpAny_pure ?_
    split
    · rename_i c _ _ _ _ _
      cases (c == Value.type "enumerate") <;> (wp_walk using q1; exact ⟨_, rfl, h⟩)
    · wp_walk using q1
      exact ⟨_, rfl, h⟩
theorem enumB {prog : Program} {w : World} {A : Around} {E : Value → Shared → Prop} {s : Shared} {v : Value} {o : Obj} {H : Heap → Prop} {Q : Value → Shared → Prop} (B : Begins v o H) (h1 : H s.heap)
    (h : ∀ h', IsEnum h' (s.heap.objs.size + 1) s.heap.objs.size 0 .none → h'.get? s.heap.objs.size = some o → h'.objs.size = s.heap.objs.size + 2 → (∀ b o, s.heap.get? b = some o → h'.get? b = some o) → Q (.ref (s.heap.objs.size + 1)) { s with heap := h' }) :
    wpAny (model prog w) A (call (.type "enumerate") [v]) Q E s := by
  refine callType_new F.called_enumerate (by decide) (F.typeCall_enumerate_1 _) (F.newCall_enumerate_1 _) (fun obj => F.args_object_init_2 obj _) F.entry_enumerate_new (newEnumB B) ⟨h1, ?_⟩
  have hz : (s.heap.push o).objs.size = s.heap.objs.size + 1 := Heap.size_push ..
  show _ ∧ _
  have he := Heap.get?_push_size (s.heap.push o) (o := { cls := .type "enumerate", data := .fields #[.none, .bool false, .ref s.heap.objs.size, rawInt 0, .none, .none] }) rfl
  rw [hz] at he ⊢
  exact ⟨⟨_, he, rfl⟩, h _ he (Heap.get?_push_of_some _ (Heap.get?_push_size _ B.free)) (by rw [Heap.size_push, hz]) fun b o x => Heap.get?_push_of_some _ (Heap.get?_push_of_some _ x)⟩

/-- the tuple at a, each item in a new pair with its number -/
def IteT (K : PySem.W.Frag) (a : Addr) : It :=
  ⟨fun i H => ∃ (xs : List V) (x : V), SqT K H a xs ∧ xs[i]? = some x, fun i H v H' => ∃ T x, v = .ref T ∧ H T = none ∧ H' = upd H T (.tup [.int (i : Nat), x]) ∧ ∀ xs, SqT K H a xs → xs[i]? = some x, fun i H => ∃ xs : List V, SqT K H a xs ∧ xs.length = i⟩
theorem turn_enumT {P : Program} {w : World} {K : PySem.W.Frag} {elts : List Expr} {kk : Nat} {tpos : Pos} (a e it : Addr) (hta : a ≠ it) (hea : a ≠ e) :
    Turn P w K (.Tuple elts kk tpos) (IteT K a) [e, it] e (fun i h => (∃ old, IsEnum h e it ((i : Nat) : Int) old) ∧ h.IsTupleIter it a i ∧ e ≠ it) where
  mem := by simp
  obj := fun i h st b hb => by
    obtain ⟨⟨old, he⟩, ⟨o, ho, hc, hd⟩, _⟩ := st
    rcases (show b = e ∨ b = it by simpa using hb) with z | z
    · rw [z]; exact ⟨_, he, fun v q => nomatch q⟩
    · rw [z]; exact ⟨o, ho, fun v q => by rw [hd] at q; cases q⟩
  keep := fun i h h' st k => by
    obtain ⟨⟨old, he⟩, hi, hne⟩ := st
    exact ⟨⟨old, k e (by simp) _ he⟩, hi.at fun o q => k it (by simp) o q, hne⟩
  item := by
    intro X hP hw hK hc i pins s σ H E I hf st hg
    subst hP hw hK
    obtain ⟨⟨old, he⟩, hit, hne⟩ := st
    obtain ⟨xs, x, hq, hx⟩ := hg
    obtain ⟨its, rv, p, hz⟩ := I.tuple hq
    obtain ⟨u, hu, ru⟩ := rv.get hx
    have hel : e < s.heap.objs.size := Heap.lt_size he
    have hil : it < s.heap.objs.size := by obtain ⟨_, q, _⟩ := hit; exact Heap.lt_size q
    have D := Draws.tuple (prog := X.prog) (w := X.w) (A := X.A.in1) (I.ok.hd hc) it a hta its.toArray
    have hlt : i < its.toArray.size := by
      have q := (List.getElem?_eq_some_iff.mp hu).1
      simpa using q
    refine wpAny_pyNext_enum_itemD D he ⟨hit, p⟩ hlt hne (by simp [hne, hea.symm]) fun x' h' tk hP ho hst hT hsz hk => ?_
    have ex : x' = u := by
      have hP : its.toArray[i]? = some x' := hP
      have q : its.toArray[i]? = some u := by simpa using hu
      rw [q] at hP
      exact (Option.some.inj hP).symm
    subst ex
    refine ⟨_, rfl, wpAny_letOwnedTupleGo_enum (s := { s with heap := h', toks := tk + 1 }) ho fun h'' he' sb => ?_⟩
    have hT2 : h''.get? s.heap.objs.size = some { cls := .type "tuple", data := .seq #[.int i tk, x'] } := (sb.2 _ (Nat.ne_of_gt hel)).trans hT
    have new : ObjOk X.prog X.w (upd H s.heap.objs.size (.tup [.int (i : Nat), x])) h'' s.heap.objs.size (.tup [.int (i : Nat), x]) :=
      ⟨by show 2 ≤ sizeLine; decide, [.int i tk, x'], .cons ⟨_, rfl⟩ (.cons ru .nil), ⟨_, hT2, rfl, _, rfl⟩⟩
    have I1 : Inv X pins σ (upd H s.heap.objs.size (.tup [.int (i : Nat), x])) { s with heap := h'', toks := tk + 1 } :=
      I.turnedNew (ch := [e, it]) (fun b ob hb q => (sb.2 b (fun z => hb (by simp [z]))).trans (hk b ob (fun z => hb (by simp [z])) (fun z => hb (by simp [z])) q)) hf (Nat.le_refl _) new
    refine ⟨.ref s.heap.objs.size, _, I1, rfl, ⟨_, x, rfl, I.hok.fresh (Nat.le_refl _), rfl, fun ys hy => by rw [I.tuple_inj hy hq]; exact hx⟩, ⟨⟨x', ?_⟩, hst.1.at fun o q => (sb.2 it (Ne.symm hne)).trans q, hne⟩, fun b hb => ?_⟩
    · have e1 : ((i + 1 : Nat) : Int) = (i : Int) + 1 := by omega
      rw [e1]; exact he'
    · have hb' : b < s.heap.objs.size := by
        rcases (show b = e ∨ b = it by simpa using hb) with z | z
        · rw [z]; exact hel
        · rw [z]; exact hil
      rw [upd_ne (Nat.ne_of_lt hb')]
      exact (hf b hb).1
  done := by
    intro X hP hw hK hc i pins s σ H E I hf st hg
    subst hP hw hK
    obtain ⟨⟨old, he⟩, hit, hne⟩ := st
    obtain ⟨xs, hq, hx⟩ := hg
    obtain ⟨its, rv, p, hz⟩ := I.tuple hq
    obtain ⟨f0, f1, f2, f3, f4, f5⟩ := hf it (by simp)
    have hl := rv.length
    have hi : i = its.toArray.size := by simp; omega
    subst hi
    have D := Draws.tuple (prog := X.prog) (w := X.w) (A := X.A.in1) (I.ok.hd hc) it a hta its.toArray
    exact wpAny_pyNext_enum_endD D he ⟨hit, p⟩ fun h' eb => ⟨rfl, I.turned (t' := s.toks) (fun b o hb q => eb b o hb q) f0 f1 f3 f4 f5⟩
  self := fun A i s Q E st h => by
    obtain ⟨⟨_, he⟩, _⟩ := st
    exact wpAny_pyIter_enum he h
def iEnumT (K : PySem.W.Frag) (ta : TA) : TI := fun σ H R => ta σ H fun vs H1 => ∃ a xs, vs = [.ref a] ∧ SqT K H1 a xs ∧ R (IteT K a) H1
theorem pi_enumT {X : Cx} {e : Expr} {ta : TA} {p pos tpos : Pos} {elts : List Expr} {kk : Nat} (hg : Gl X "enumerate") (hm : X.mg "enumerate" = none) (ha : PA X [e] ta) (hs : starEach [e] X.env = [(false, eval e X.env)] := by rfl) :
    PI X (.Tuple elts kk tpos) (.Call (.Name "enumerate" p) [e] [] pos) (iEnumT X.K ta) := by
  refine ⟨fun pins s σ H R I h => ?_⟩
  refine Call_ (ld_blt I hg hm boot_enumerate (PyProof.Rows.callWith_type1 (thn (ha.run pos pins s σ H _ I h) fun us s1 ⟨vs, H1, I1, r1, a, xs, ex, hq, q⟩ => ?_) hs rfl))
  subst ex
  obtain ⟨u, eu, r⟩ := vals1 r1
  subst eu
  obtain rfl : u = Value.ref a := r
  obtain ⟨its, rv, p', hz⟩ := I1.tuple hq
  have hal : a < s1.heap.objs.size := by obtain ⟨_, q, _⟩ := p'; exact Heap.lt_size q
  refine enumB (begins_tuple a its.toArray) p' fun h' he hit hsz hk => wpAny_pyIter_enum he ?_
  have I2 : Inv X pins σ H1 { s1 with heap := h' } := I1.kept (t' := s1.toks) hk
  refine ⟨s1.heap.objs.size + 1, [s1.heap.objs.size + 1, s1.heap.objs.size], _, _, H1, rfl, I2, turn_enumT a (s1.heap.objs.size + 1) s1.heap.objs.size (Nat.ne_of_lt hal) (Nat.ne_of_lt (Nat.lt_succ_of_lt hal)), ⟨⟨.none, he⟩, ⟨_, hit, rfl, rfl⟩, Nat.succ_ne_self _⟩, fun b hb => ?_, q⟩
  have hle : s1.heap.objs.size ≤ b := by
    rcases (show b = s1.heap.objs.size + 1 ∨ b = s1.heap.objs.size by simpa using hb) with z | z
    · rw [z]; exact Nat.le_add_right _ _
    · rw [z]; exact Nat.le_refl _
  exact I1.fpOk hle (I1.hok.fresh hle)
theorem walk_enumT {K : PySem.W.Frag} {a : Addr} {xs : List V} : Walk (IteT K a) xs.length (fun H => SqT K H a xs) (YPair (fun i => some (.int (i : Nat))) (fun i => xs[i]?)) := by
  refine ⟨fun i _ hi q => ⟨xs, xs[i], q, by simp [hi]⟩, fun _ q => ⟨xs, q, rfl⟩, fun i H v H' _ q y => ?_⟩
  obtain ⟨T, x, h1, h2, h3, h4⟩ := y
  exact ⟨T, .int (i : Nat), x, h1, h2, h3, rfl, h4 xs q⟩
open AutoSeq1 in
theorem extendT (l : Addr) (items : Array Value) (n : Nat) (b : Addr) (items2 : Array Value) (n2 : Nat) (dct : Option Addr) (sl : Array (Option Value)) (hs0 : ¬(!items.isEmpty && Builtin.List.listTooLong (items.size + items2.size)) = true) (hs1 : items.size ≤ sizeLine) (hs2 : items.size + items2.size ≤ sizeLine + 1) :
    Meets (Builtin.«list.extend» ⟨[.ref l, .ref b], []⟩) (fun _ R s => s.heap.get? l = some { cls := .type "list", data := .seq items n } ∧ s.heap.get? b = some { cls := .type "tuple", dict := dct, data := .seq items2 n2, slots := sl } ∧
      R (.ok (.ret Value.none)) { s with heap := s.heap.update l (Obj.mapSeq fun x => x ++ items2), toks := s.toks }) :=
  .of_wp fun prog w A R s h => by
    obtain ⟨hp, g, d, tk, os⟩ := s
    obtain ⟨hl, hb, h⟩ := h
    have f1 := AutoSeq1.idx_int
    have f2 := AutoSeq1.sub_tuple_tuple
    have f3 := AutoSeq1.sub_list_list
    have f4 := AutoSeq1.sub_tuple_list
    have f5 := AutoSeq1.sub_list_tuple
    have hz' : (items ++ items2).size ≤ sizeLine + 1 := by rw [Array.size_append]; exact hs2
    wp_walk using (wpAny_updateSeq hl rfl (hz := hs1) (_hz' := hz')), wpAny_loadPart' hl, wpAny_loadPart' hb
    exact ⟨_, rfl, h⟩
/-- l.extend(t), t a tuple -/
def rExtendT (K : PySem.W.Frag) : V → List V → Hp → VK → Prop := fun x vs H Q => ∃ l b xs zs, x = .ref l ∧ vs = [.ref b] ∧ H l = some (.lst xs) ∧ SqT K H b zs ∧ xs.length + zs.length ≤ sizeLine ∧ Q .non (upd H l (.lst (xs ++ zs)))
theorem mt_extendT {X : Cx} : MtM X "list.extend" (rExtendT X.K) := by
  intro pins s σ H x vs v us Q I rx rv h
  obtain ⟨l, b, xs, zs, rfl, rfl, hH, hB, hz, q⟩ := h
  cases rx
  obtain ⟨u, rfl, ru⟩ := rv.one
  cases ru
  obtain ⟨z, its, n, r, hl, e⟩ := I.lstM hH
  obtain ⟨its2, r2, ⟨⟨c2, d2, dt2, sl2⟩, e2, hc2, n2, hd2⟩, hl2⟩ := I.tuple hB
  have hc2 : c2 = .type "tuple" := hc2
  have hd2 : dt2 = .seq its2.toArray n2 := hd2
  subst hc2 hd2
  have hlz : zs.length = its2.length := r2.length
  have hsz : its.toArray.size + its2.toArray.size ≤ sizeLine := by rw [List.size_toArray, List.size_toArray]; omega
  have hlong : ¬ (!its.toArray.isEmpty && Builtin.List.listTooLong (its.toArray.size + its2.toArray.size)) = true := by
    rw [notLongL hsz, Bool.and_false]
    exact Bool.false_ne_true
  refine call_meets F.slot_list_extend ⟨_, e, rfl⟩ F.entry_list_extend (F.args_list_extend_2 _ _) (extendT l its.toArray n b its2.toArray n2 d2 sl2 hlong (by rw [List.size_toArray]; omega) (by omega)) ⟨e, e2, ?_⟩
  refine ⟨.non, _, I.lset (its' := its ++ its2) hH e (by simp) (r.append r2) ?_, rfl, q⟩
  rw [List.length_append]
  exact hz
end KL

/-! Open terms, plainly: what fill and the law's show compute, and that they agree. -/
namespace KM

inductive Kd where
  | app | pi | fn | lt | hole (n : Int)
  deriving DecidableEq
def bnd : Kd → Nat → Nat
  | .pi, 1 => 1
  | .fn, 1 => 1
  | .lt, 2 => 1
  | _, _ => 0
theorem bnd_hole (n : Int) (j : Nat) : bnd (.hole n) j = 0 := rfl
theorem bnd_le (k : Kd) (j : Nat) : bnd k j ≤ 1 := by
  unfold bnd; split <;> omega
inductive Tm where
  | var (i : Nat)
  | atom (u : Bool) (xs : List PySem.PyData)
  | node (k : Kd) (ps : List Tm)

theorem Tm.ind {P : Tm → Prop} (hv : ∀ i, P (.var i)) (ha : ∀ u xs, P (.atom u xs)) (hn : ∀ k ps, (∀ p ∈ ps, P p) → P (.node k ps)) : ∀ t, P t := by
  intro t
  refine Tm.rec (motive_1 := P) (motive_2 := fun l => ∀ p ∈ l, P p) hv ha hn ?_ ?_ t
  · intro p hp; cases hp
  · intro p l h1 h2 q hq
    rcases List.mem_cons.mp hq with e | e
    · rw [e]; exact h1
    · exact h2 q e

/-- a list mapped with its numbers from j on -/
def mapI (f : Nat → Tm → Tm) : Nat → List Tm → List Tm
  | _, [] => []
  | j, p :: ps => f j p :: mapI f (j + 1) ps
theorem mapI_len (f : Nat → Tm → Tm) : ∀ (ps : List Tm) (j : Nat), (mapI f j ps).length = ps.length
  | [], _ => rfl
  | _ :: ps, j => congrArg (· + 1) (mapI_len f ps (j + 1))
theorem mapI_get (f : Nat → Tm → Tm) : ∀ (ps : List Tm) (j i : Nat), (mapI f j ps)[i]? = ps[i]?.map (f (j + i))
  | [], _, _ => by simp [mapI]
  | p :: ps, j, 0 => by simp [mapI]
  | p :: ps, j, i + 1 => by
    have q := mapI_get f ps (j + 1) i
    have e : j + 1 + i = j + (i + 1) := by omega
    rw [e] at q
    simpa [mapI] using q
theorem mapI_congr {f g : Nat → Tm → Tm} : ∀ (ps : List Tm) (j : Nat), (∀ i p, ps[i]? = some p → f (j + i) p = g (j + i) p) → mapI f j ps = mapI g j ps
  | [], _, _ => rfl
  | p :: ps, j, h => by
    have h0 : f j p = g j p := h 0 p rfl
    have h1 : mapI f (j + 1) ps = mapI g (j + 1) ps := mapI_congr ps (j + 1) fun i q hq => by
      have z := h (i + 1) q (by simpa using hq)
      have e : j + 1 + i = j + (i + 1) := by omega
      rw [e]; exact z
    show f j p :: mapI f (j + 1) ps = g j p :: mapI g (j + 1) ps
    rw [h0, h1]
theorem mapI_mapI (f g : Nat → Tm → Tm) : ∀ (ps : List Tm) (j : Nat), mapI f j (mapI g j ps) = mapI (fun j p => f j (g j p)) j ps
  | [], _ => rfl
  | p :: ps, j => congrArg (f j (g j p) :: ·) (mapI_mapI f g ps (j + 1))
theorem mapI_map (f : Tm → Tm) : ∀ (ps : List Tm) (j : Nat), mapI (fun _ p => f p) j ps = ps.map f
  | [], _ => rfl
  | p :: ps, j => congrArg (f p :: ·) (mapI_map f ps (j + 1))
theorem mapI_id : ∀ (ps : List Tm) (j : Nat), mapI (fun _ p => p) j ps = ps
  | [], _ => rfl
  | p :: ps, j => congrArg (p :: ·) (mapI_id ps (j + 1))

mutual
/-- each variable i that stands under d binders, counted from a start, becomes g d i -/
def trav (g : Nat → Nat → Tm) : Nat → Tm → Tm
  | d, .var i => g d i
  | _, .atom u xs => .atom u xs
  | d, .node k ps => .node k (travL g k d 0 ps)
def travL (g : Nat → Nat → Tm) (k : Kd) (d : Nat) : Nat → List Tm → List Tm
  | _, [] => []
  | j, p :: ps => trav g (d + bnd k j) p :: travL g k d (j + 1) ps
end
theorem travL_eq (g : Nat → Nat → Tm) (k : Kd) (d : Nat) : ∀ (ps : List Tm) (j : Nat), travL g k d j ps = mapI (fun j p => trav g (d + bnd k j) p) j ps
  | [], _ => by simp [travL, mapI]
  | p :: ps, j => by simp [travL, mapI, travL_eq g k d ps (j + 1)]
theorem trav_node (g : Nat → Nat → Tm) (d : Nat) (k : Kd) (ps : List Tm) : trav g d (.node k ps) = .node k (mapI (fun j p => trav g (d + bnd k j) p) 0 ps) := by
  simp [trav, travL_eq]
theorem trav_var (g : Nat → Nat → Tm) (d i : Nat) : trav g d (.var i) = g d i := by simp [trav]
theorem trav_atom (g : Nat → Nat → Tm) (d : Nat) (u : Bool) (xs : List PySem.PyData) : trav g d (.atom u xs) = .atom u xs := by simp [trav]

mutual
/-- all free variables are below w -/
def sc : Nat → Tm → Prop
  | w, .var i => i < w
  | _, .atom _ _ => True
  | w, .node k ps => scL k w 0 ps
def scL (k : Kd) (w : Nat) : Nat → List Tm → Prop
  | _, [] => True
  | j, p :: ps => sc (w + bnd k j) p ∧ scL k w (j + 1) ps
end
theorem scL_iff (k : Kd) (w : Nat) : ∀ (ps : List Tm) (j : Nat), scL k w j ps ↔ ∀ i p, ps[i]? = some p → sc (w + bnd k (j + i)) p
  | [], j => by simp [scL]
  | q :: ps, j => by
    rw [scL, scL_iff k w ps (j + 1)]
    constructor
    · rintro ⟨h1, h2⟩ i p hp
      cases i with
      | zero => simp at hp; subst hp; exact h1
      | succ i =>
        have z := h2 i p (by simpa using hp)
        rw [show j + 1 + i = j + (i + 1) by omega] at z
        exact z
    · intro h
      refine ⟨h 0 q rfl, fun i p hp => ?_⟩
      have z := h (i + 1) p (by simpa using hp)
      rw [show j + 1 + i = j + (i + 1) by omega]
      exact z
theorem sc_var {w i : Nat} : sc w (.var i) ↔ i < w := by simp [sc]
theorem sc_atom {w : Nat} {u : Bool} {xs : List PySem.PyData} : sc w (.atom u xs) := by simp [sc]
theorem sc_node {w : Nat} {k : Kd} {ps : List Tm} : sc w (.node k ps) ↔ ∀ j p, ps[j]? = some p → sc (w + bnd k j) p := by
  rw [sc, scL_iff]
  simp
theorem trav_rel {g g' : Nat → Nat → Tm} (t : Tm) : ∀ (w d d' : Nat), sc w t → (∀ e i, i < w + e → g (d + e) i = g' (d' + e) i) → trav g d t = trav g' d' t := by
  refine Tm.ind (P := fun t => ∀ (w d d' : Nat), sc w t → (∀ e i, i < w + e → g (d + e) i = g' (d' + e) i) → trav g d t = trav g' d' t) ?_ ?_ ?_ t
  · intro i w d d' s h
    rw [trav_var, trav_var]
    exact h 0 i (by simpa using sc_var.mp s)
  · intro u xs w d d' s h; rw [trav_atom, trav_atom]
  · intro k ps ih w d d' s h
    rw [trav_node, trav_node]
    refine congrArg (Tm.node k) (mapI_congr ps 0 fun j p hp => ?_)
    have s' := sc_node.mp s j p hp
    rw [Nat.zero_add]
    refine ih p (List.mem_of_getElem? hp) _ _ _ s' fun e i hi => ?_
    have q := h (bnd k j + e) i (by omega)
    rw [← Nat.add_assoc, ← Nat.add_assoc] at q
    exact q
theorem trav_rel0 {g g' : Nat → Nat → Tm} (t : Tm) : ∀ (d d' : Nat), (∀ e i, g (d + e) i = g' (d' + e) i) → trav g d t = trav g' d' t := by
  refine Tm.ind (P := fun t => ∀ (d d' : Nat), (∀ e i, g (d + e) i = g' (d' + e) i) → trav g d t = trav g' d' t) ?_ ?_ ?_ t
  · intro i d d' h
    rw [trav_var, trav_var]
    exact h 0 i
  · intro u xs d d' h; rw [trav_atom, trav_atom]
  · intro k ps ih d d' h
    rw [trav_node, trav_node]
    refine congrArg (Tm.node k) (mapI_congr ps 0 fun j p hp => ?_)
    refine ih p (List.mem_of_getElem? hp) _ _ fun e i => ?_
    have q := h (bnd k (0 + j) + e) i
    rw [← Nat.add_assoc, ← Nat.add_assoc] at q
    exact q
theorem trav_comp (g h : Nat → Nat → Tm) : ∀ (t : Tm) (d : Nat), trav g d (trav h d t) = trav (fun d i => trav g d (h d i)) d t := by
  intro t
  refine Tm.ind (P := fun t => ∀ d, trav g d (trav h d t) = trav (fun d i => trav g d (h d i)) d t) ?_ ?_ ?_ t
  · intro i d; rw [trav_var, trav_var]
  · intro u xs d; rw [trav_atom, trav_atom, trav_atom]
  · intro k ps ih d
    rw [trav_node, trav_node, trav_node, mapI_mapI]
    exact congrArg (Tm.node k) (mapI_congr ps 0 fun j p hp => ih p (List.mem_of_getElem? hp) _)
/-- with nothing changed -/
theorem trav_id {g : Nat → Nat → Tm} (t : Tm) : ∀ (w d : Nat), sc w t → (∀ e i, i < w + e → g (d + e) i = .var i) → trav g d t = t := by
  refine Tm.ind (P := fun t => ∀ (w d : Nat), sc w t → (∀ e i, i < w + e → g (d + e) i = .var i) → trav g d t = t) ?_ ?_ ?_ t
  · intro i w d s h
    rw [trav_var]
    exact h 0 i (by simpa using sc_var.mp s)
  · intro u xs w d s h; rw [trav_atom]
  · intro k ps ih w d s h
    rw [trav_node]
    refine congrArg (Tm.node k) ((mapI_congr (g := fun _ p => p) ps 0 fun j p hp => ?_).trans (mapI_id ps 0))
    have s' := sc_node.mp s j p hp
    rw [Nat.zero_add]
    refine ih p (List.mem_of_getElem? hp) _ _ s' fun e i hi => ?_
    have q := h (bnd k j + e) i (by omega)
    rw [← Nat.add_assoc] at q
    exact q
theorem trav_id0 {g : Nat → Nat → Tm} (t : Tm) : ∀ (d : Nat), (∀ e i, g (d + e) i = .var i) → trav g d t = t := by
  refine Tm.ind (P := fun t => ∀ (d : Nat), (∀ e i, g (d + e) i = .var i) → trav g d t = t) ?_ ?_ ?_ t
  · intro i d h
    rw [trav_var]
    exact h 0 i
  · intro u xs d h; rw [trav_atom]
  · intro k ps ih d h
    rw [trav_node]
    refine congrArg (Tm.node k) ((mapI_congr (g := fun _ p => p) ps 0 fun j p hp => ?_).trans (mapI_id ps 0))
    refine ih p (List.mem_of_getElem? hp) _ fun e i => ?_
    have q := h (bnd k (0 + j) + e) i
    rw [← Nat.add_assoc] at q
    exact q
/-- a scope goes through -/
theorem sc_trav {g : Nat → Nat → Tm} (t : Tm) : ∀ (w w' d : Nat), sc w t → (∀ e i, i < w + e → sc (w' + e) (g (d + e) i)) → sc w' (trav g d t) := by
  refine Tm.ind (P := fun t => ∀ (w w' d : Nat), sc w t → (∀ e i, i < w + e → sc (w' + e) (g (d + e) i)) → sc w' (trav g d t)) ?_ ?_ ?_ t
  · intro i w w' d s h
    rw [trav_var]
    exact h 0 i (by simpa using sc_var.mp s)
  · intro u xs w w' d s h; rw [trav_atom]; exact sc_atom
  · intro k ps ih w w' d s h
    rw [trav_node, sc_node]
    intro j q hq
    rw [mapI_get] at hq
    cases hp : ps[j]? with
    | none => rw [hp] at hq; cases hq
    | some p =>
      rw [hp] at hq
      simp only [Option.map_some, Option.some.injEq, Nat.zero_add] at hq
      subst hq
      refine ih p (List.mem_of_getElem? hp) _ _ _ (sc_node.mp s j p hp) fun e i hi => ?_
      have z := h (bnd k j + e) i (by omega)
      rw [← Nat.add_assoc, ← Nat.add_assoc] at z
      exact z
theorem sc_mono {t : Tm} {w w' : Nat} (s : sc w t) (h : w ≤ w') : sc w' t := by
  have e : trav (fun _ i => Tm.var i) 0 t = t := trav_id0 t 0 fun _ _ => rfl
  rw [← e]
  exact sc_trav t w w' 0 s fun e i hi => sc_var.mpr (by omega)

/-! ### lifted, filled -/
def liftG (by_ : Nat) : Nat → Nat → Tm := fun d i => if i < d then .var i else .var (i + by_)
def lift (by_ at_ : Nat) (t : Tm) : Tm := trav (liftG by_) at_ t
def putG (qs : List Tm) : Nat → Nat → Tm := fun d i => if i < d then .var i else if i - d < qs.length then lift d 0 (qs.getD (qs.length - 1 - (i - d)) (.var 0)) else .var (i - qs.length)
def putU (qs : List Tm) (under : Nat) (t : Tm) : Tm := trav (putG qs) under t
theorem putG_lo {qs : List Tm} {d i : Nat} (h : i < d) : putG qs d i = .var i := by unfold putG; rw [if_pos h]
theorem putG_in {qs : List Tm} {d i : Nat} (h : ¬ i < d) (hl : i - d < qs.length) : putG qs d i = lift d 0 (qs.getD (qs.length - 1 - (i - d)) (.var 0)) := by
  unfold putG; rw [if_neg h, if_pos hl]
theorem putG_out {qs : List Tm} {d i : Nat} (h : ¬ i < d) (hl : ¬ i - d < qs.length) : putG qs d i = .var (i - qs.length) := by
  unfold putG; rw [if_neg h, if_neg hl]
theorem liftG_lo {b d i : Nat} (h : i < d) : liftG b d i = .var i := by unfold liftG; rw [if_pos h]
theorem liftG_hi {b d i : Nat} (h : ¬ i < d) : liftG b d i = .var (i + b) := by unfold liftG; rw [if_neg h]
theorem lift_var_hi {b d i : Nat} (h : d ≤ i) : lift b d (.var i) = .var (i + b) := by unfold lift; rw [trav_var, liftG_hi (by omega)]
theorem lift_var_lo {b d i : Nat} (h : i < d) : lift b d (.var i) = .var i := by unfold lift; rw [trav_var, liftG_lo h]
theorem lift_zero (d : Nat) (t : Tm) : lift 0 d t = t := trav_id0 t d fun e i => by
  by_cases h : i < d + e
  · exact liftG_lo h
  · exact liftG_hi h
/-- lifting a lifted term from where it was lifted on -/
theorem lift_at (a b : Nat) (t : Tm) : lift a b (lift b 0 t) = lift (b + a) 0 t := by
  unfold lift
  have e1 : trav (liftG a) b (trav (liftG b) 0 t) = trav (fun e => liftG a (b + e)) 0 (trav (liftG b) 0 t) := trav_rel0 _ _ _ fun e i => by simp
  rw [e1, trav_comp]
  refine trav_rel0 _ _ _ fun e i => ?_
  rw [Nat.zero_add]
  by_cases h : i < e
  · rw [liftG_lo h, liftG_lo h, trav_var, liftG_lo (by omega)]
  · rw [liftG_hi h, liftG_hi h, trav_var, liftG_hi (by omega)]
    congr 1
    omega
theorem lift_lift (a b : Nat) (t : Tm) : lift a 0 (lift b 0 t) = lift (b + a) 0 t := by
  unfold lift
  rw [trav_comp]
  refine trav_rel0 _ _ _ fun e i => ?_
  rw [Nat.zero_add]
  by_cases h : i < e
  · rw [liftG_lo h, liftG_lo h, trav_var, liftG_lo h]
  · rw [liftG_hi h, liftG_hi h, trav_var, liftG_hi (by omega)]
    congr 1
    omega
theorem getD_map {qs : List Tm} {f : Tm → Tm} {j : Nat} (h : j < qs.length) : (qs.map f).getD j (.var 0) = f (qs.getD j (.var 0)) := by
  simp [List.getD, h]
/-- put behind a lift -/
theorem put_lift (qs : List Tm) (d : Nat) (t : Tm) : putU qs d (lift d 0 t) = lift d 0 (putU qs 0 t) := by
  unfold putU
  have e1 : trav (putG qs) d (lift d 0 t) = trav (fun e => putG qs (d + e)) 0 (lift d 0 t) := trav_rel0 _ _ _ fun e i => by simp
  rw [e1]
  unfold lift
  rw [trav_comp, trav_comp]
  refine trav_rel0 _ _ _ fun e i => ?_
  rw [Nat.zero_add]
  by_cases h : i < e
  · rw [liftG_lo h, putG_lo h, trav_var, trav_var, putG_lo (by omega), liftG_lo h]
  · rw [liftG_hi h, trav_var]
    by_cases hl : i - e < qs.length
    · rw [putG_in h hl, putG_in (by omega) (by omega)]
      have e2 : i + d - (d + e) = i - e := by omega
      rw [e2]
      have z := lift_at d e (qs.getD (qs.length - 1 - (i - e)) (.var 0))
      rw [Nat.add_comm e d] at z
      exact z.symm
    · rw [putG_out h hl, putG_out (by omega) (by omega), trav_var, liftG_hi (by omega)]
      congr 1
      omega
theorem put_put {b : Tm} {ps qs : List Tm} (s : sc ps.length b) : putU qs 0 (putU ps 0 b) = putU (ps.map (putU qs 0)) 0 b := by
  unfold putU
  rw [trav_comp]
  refine trav_rel b ps.length 0 0 s fun e i hi => ?_
  rw [Nat.zero_add]
  by_cases h : i < e
  · rw [putG_lo h, putG_lo h, trav_var, putG_lo h]
  · rw [putG_in h (by omega), putG_in h (by simp; omega), List.length_map, getD_map (by omega)]
    exact put_lift qs e _
theorem lift_put {b : Tm} {qs : List Tm} (k : Nat) (s : sc qs.length b) : lift k 0 (putU qs 0 b) = putU (qs.map (lift k 0)) 0 b := by
  unfold putU
  rw [lift, trav_comp]
  refine trav_rel b qs.length 0 0 s fun e i hi => ?_
  rw [Nat.zero_add]
  by_cases h : i < e
  · rw [putG_lo h, putG_lo h, trav_var, liftG_lo h]
  · rw [putG_in h (by omega), putG_in h (by simp; omega), List.length_map, getD_map (by omega)]
    have z := lift_at k e (qs.getD (qs.length - 1 - (i - e)) (.var 0))
    have z2 := lift_lift e k (qs.getD (qs.length - 1 - (i - e)) (.var 0))
    rw [z2, Nat.add_comm k e]
    exact z
/-- under one more binder -/
theorem put_under {b : Tm} {qs : List Tm} (s : sc (qs.length + 1) b) : putU (qs.map (lift 1 0) ++ [.var 0]) 0 b = putU qs 1 b := by
  unfold putU
  refine trav_rel b (qs.length + 1) 0 1 s fun e i hi => ?_
  rw [Nat.zero_add]
  have hl : (qs.map (lift 1 0) ++ [Tm.var 0]).length = qs.length + 1 := by simp
  by_cases h : i < e
  · rw [putG_lo h, putG_lo (by omega)]
  · rw [putG_in h (by omega), hl]
    by_cases h2 : i = e
    · subst h2
      rw [putG_lo (by omega)]
      have e1 : qs.length + 1 - 1 - (i - i) = qs.length := by omega
      rw [e1]
      have e2 : (qs.map (lift 1 0) ++ [Tm.var 0]).getD qs.length (.var 0) = .var 0 := by simp [List.getD]
      rw [e2, lift_var_hi (Nat.zero_le _), Nat.zero_add]
    · rw [putG_in (d := 1 + e) (by omega) (by omega)]
      have e1 : qs.length + 1 - 1 - (i - e) = qs.length - 1 - (i - (1 + e)) := by omega
      rw [e1]
      have hlt : qs.length - 1 - (i - (1 + e)) < qs.length := by omega
      have e2 : (qs.map (lift 1 0) ++ [Tm.var 0]).getD (qs.length - 1 - (i - (1 + e))) (.var 0) = lift 1 0 (qs.getD (qs.length - 1 - (i - (1 + e))) (.var 0)) := by
        rw [← getD_map (f := lift 1 0) hlt, List.getD, List.getD, List.getElem?_append_left (by rw [List.length_map]; exact hlt)]
      rw [e2, lift_lift, Nat.add_comm]
/-- the variables themselves, the greatest first -/
def idv (w : Nat) : List Tm := (List.range w).map fun j => .var (w - 1 - j)
theorem idv_len (w : Nat) : (idv w).length = w := by simp [idv]
theorem put_id {t : Tm} {w : Nat} (s : sc w t) : putU (idv w) 0 t = t := by
  unfold putU
  refine trav_id t w 0 s fun e i hi => ?_
  rw [Nat.zero_add]
  by_cases h : i < e
  · exact putG_lo h
  · rw [putG_in h (by rw [idv_len]; omega), idv_len]
    have e1 : (idv w).getD (w - 1 - (i - e)) (.var 0) = .var (i - e) := by
      have hlt : w - 1 - (i - e) < w := by omega
      simp only [idv, List.getD, List.getElem?_map, List.getElem?_range hlt, Option.map_some, Option.getD_some]
      congr 1
      omega
    rw [e1, lift_var_hi (Nat.zero_le _)]
    congr 1
    omega
theorem sc_lift {t : Tm} {w : Nat} (k : Nat) (s : sc w t) : sc (w + k) (lift k 0 t) := by
  unfold lift
  refine sc_trav t w (w + k) 0 s fun e i hi => ?_
  rw [Nat.zero_add]
  by_cases h : i < e
  · rw [liftG_lo h]; exact sc_var.mpr (by omega)
  · rw [liftG_hi h]; exact sc_var.mpr (by omega)
theorem sc_put {b : Tm} {qs : List Tm} {w d : Nat} (s : sc (qs.length + d) b) (hq : ∀ q ∈ qs, sc w q) : sc (w + d) (putU qs d b) := by
  unfold putU
  refine sc_trav b (qs.length + d) (w + d) d s fun e i hi => ?_
  by_cases h : i < d + e
  · rw [putG_lo h]; exact sc_var.mpr (by omega)
  · rw [putG_in h (by omega)]
    have hlt : qs.length - 1 - (i - (d + e)) < qs.length := by omega
    have hm : qs.getD (qs.length - 1 - (i - (d + e))) (.var 0) ∈ qs := by
      rw [List.getD, List.getElem?_eq_getElem hlt]
      exact List.getElem_mem hlt
    have z := sc_lift (d + e) (hq _ hm)
    rw [← Nat.add_assoc] at z
    exact z

/-! ### depth -/
/-- the parts that a node of this kind has -/
def arOk : Kd → Nat → Prop
  | .app, m => m = 2
  | .pi, m => m = 2
  | .fn, m => m = 2
  | .lt, m => m = 3
  | .hole _, m => m ≤ 24
theorem arOk.le {k : Kd} {m : Nat} (h : arOk k m) : m ≤ 24 := by
  cases k with
  | hole n => exact h
  | _ => have h : m = _ := h; omega
/-- rightly formed, at most n nodes with parts one in another -/
def dle : Nat → Tm → Prop
  | _, .var _ => True
  | _, .atom _ _ => True
  | 0, .node _ _ => False
  | n + 1, .node k ps => arOk k ps.length ∧ ∀ p ∈ ps, dle n p
theorem dle_var (n i : Nat) : dle n (.var i) := by cases n <;> trivial
theorem dle_atom (n : Nat) (u : Bool) (xs : List PySem.PyData) : dle n (.atom u xs) := by cases n <;> trivial
theorem dle_mono : ∀ {n m : Nat} {t : Tm}, dle n t → n ≤ m → dle m t
  | _, m, .var i, _, _ => dle_var m i
  | _, m, .atom u xs, _, _ => dle_atom m u xs
  | 0, _, .node _ _, h, _ => h.elim
  | n + 1, 0, .node _ _, _, h => by omega
  | n + 1, m + 1, .node k ps, h, hm => ⟨h.1, fun p hp => dle_mono (h.2 p hp) (by omega)⟩
theorem dle_trav {g : Nat → Nat → Tm} {m : Nat} (hg : ∀ d i, dle m (g d i)) : ∀ {n : Nat} {t : Tm} {d : Nat}, dle n t → dle (n + m) (trav g d t)
  | n, .var i, d, _ => by rw [trav_var]; exact dle_mono (hg d i) (Nat.le_add_left _ _)
  | n, .atom u xs, d, _ => by rw [trav_atom]; exact dle_atom _ _ _
  | 0, .node _ _, _, h => h.elim
  | n + 1, .node k ps, d, h => by
    rw [trav_node, Nat.succ_add]
    refine ⟨by rw [mapI_len]; exact h.1, fun q hq => ?_⟩
    obtain ⟨j, hj⟩ := List.mem_iff_getElem?.mp hq
    rw [mapI_get] at hj
    cases hp : ps[j]? with
    | none => rw [hp] at hj; cases hj
    | some p =>
      rw [hp] at hj
      simp only [Option.map_some, Option.some.injEq] at hj
      subst hj
      exact dle_trav hg (h.2 p (List.mem_of_getElem? hp))
theorem dle_lift {n b d : Nat} {t : Tm} (h : dle n t) : dle n (lift b d t) := by
  refine dle_trav (m := 0) (fun d i => ?_) h
  by_cases q : i < d
  · rw [liftG_lo q]; trivial
  · rw [liftG_hi q]; trivial
theorem dle_put {n m d : Nat} {t : Tm} {qs : List Tm} (h : dle n t) (hq : ∀ q ∈ qs, dle m q) : dle (n + m) (putU qs d t) := by
  refine dle_trav (fun d i => ?_) h
  by_cases q : i < d
  · rw [putG_lo q]; exact dle_var _ _
  · by_cases hl : i - d < qs.length
    · rw [putG_in q hl]
      have hlt : qs.length - 1 - (i - d) < qs.length := by omega
      refine dle_lift (hq _ ?_)
      rw [List.getD, List.getElem?_eq_getElem hlt]
      exact List.getElem_mem hlt
    · rw [putG_out q hl]; exact dle_var _ _

/-! ### fill -/
/-- a filling: holes to arity and body -/
abbrev Fl := Int → Option (Nat × Tm)
/-- the body of a filled hole -/
def hit (φ : Fl) : Kd → Option (Nat × Tm)
  | .hole h => φ h
  | _ => none
def fillN (φ : Fl) : Nat → Tm → Tm
  | _, .var i => .var i
  | _, .atom u xs => .atom u xs
  | 0, .node k ps => .node k ps
  | n + 1, .node k ps => match hit φ k with
    | some (_, b) => putU (ps.map (fillN φ n)) 0 (fillN φ n b)
    | none => .node k (ps.map (fillN φ n))
theorem fillN_var (φ : Fl) (n i : Nat) : fillN φ n (.var i) = .var i := by cases n <;> rfl
theorem fillN_atom (φ : Fl) (n : Nat) (u : Bool) (xs : List PySem.PyData) : fillN φ n (.atom u xs) = .atom u xs := by cases n <;> rfl
theorem fillN_hit {φ : Fl} {n : Nat} {k : Kd} {ps : List Tm} {ar : Nat} {b : Tm} (h : hit φ k = some (ar, b)) : fillN φ (n + 1) (.node k ps) = putU (ps.map (fillN φ n)) 0 (fillN φ n b) := by
  show (match hit φ k with | some (_, b) => _ | none => _) = _
  rw [h]
theorem fillN_miss {φ : Fl} {n : Nat} {k : Kd} {ps : List Tm} (h : hit φ k = none) : fillN φ (n + 1) (.node k ps) = .node k (ps.map (fillN φ n)) := by
  show (match hit φ k with | some (_, b) => _ | none => _) = _
  rw [h]
/-- t stands under w variables, its filled holes have as many arguments as their arity; n calls of fill, one in another, come to an end -/
def wf (φ : Fl) : Nat → Nat → Tm → Prop
  | _, w, .var i => i < w
  | _, _, .atom _ _ => True
  | 0, _, .node _ _ => False
  | n + 1, w, .node k ps => match hit φ k with
    | some (ar, b) => ps.length = ar ∧ (∀ p ∈ ps, wf φ n w p) ∧ wf φ n ar b
    | none => ∀ j p, ps[j]? = some p → wf φ n (w + bnd k j) p
theorem wf_var {φ : Fl} {n w i : Nat} : wf φ n w (.var i) ↔ i < w := by cases n <;> rfl
theorem wf_atom {φ : Fl} {n w : Nat} {u : Bool} {xs : List PySem.PyData} : wf φ n w (.atom u xs) := by cases n <;> trivial
theorem wf_hit {φ : Fl} {n w : Nat} {k : Kd} {ps : List Tm} {ar : Nat} {b : Tm} (h : hit φ k = some (ar, b)) : wf φ (n + 1) w (.node k ps) ↔ ps.length = ar ∧ (∀ p ∈ ps, wf φ n w p) ∧ wf φ n ar b := by
  show (match hit φ k with | some (ar, b) => _ | none => _) ↔ _
  rw [h]
theorem wf_miss {φ : Fl} {n w : Nat} {k : Kd} {ps : List Tm} (h : hit φ k = none) : wf φ (n + 1) w (.node k ps) ↔ ∀ j p, ps[j]? = some p → wf φ n (w + bnd k j) p := by
  show (match hit φ k with | some (ar, b) => _ | none => _) ↔ _
  rw [h]
theorem wf_mono {φ : Fl} : ∀ {n m w : Nat} {t : Tm}, wf φ n w t → n ≤ m → wf φ m w t
  | _, _, _, .var i, h, _ => wf_var.mpr (wf_var.mp h)
  | _, _, _, .atom u xs, _, _ => wf_atom
  | 0, _, _, .node _ _, h, _ => h.elim
  | n + 1, 0, _, .node _ _, _, h => by omega
  | n + 1, m + 1, w, .node k ps, h, hm => by
    have hm' : n ≤ m := by omega
    cases e : hit φ k with
    | some ab =>
      obtain ⟨ar, b⟩ := ab
      obtain ⟨h1, h2, h3⟩ := (wf_hit e).mp h
      exact (wf_hit e).mpr ⟨h1, fun p hp => wf_mono (h2 p hp) hm', wf_mono h3 hm'⟩
    | none => exact (wf_miss e).mpr fun j p hp => wf_mono ((wf_miss e).mp h j p hp) hm'
theorem fillN_mono {φ : Fl} : ∀ {n m w : Nat} {t : Tm}, wf φ n w t → n ≤ m → fillN φ m t = fillN φ n t
  | _, _, _, .var i, h, _ => by rw [fillN_var, fillN_var]
  | _, _, _, .atom u xs, _, _ => by rw [fillN_atom, fillN_atom]
  | 0, _, _, .node _ _, h, _ => h.elim
  | n + 1, 0, _, .node _ _, _, h => by omega
  | n + 1, m + 1, w, .node k ps, h, hm => by
    have hm' : n ≤ m := by omega
    cases e : hit φ k with
    | some ab =>
      obtain ⟨ar, b⟩ := ab
      obtain ⟨h1, h2, h3⟩ := (wf_hit e).mp h
      rw [fillN_hit e, fillN_hit e, fillN_mono h3 hm']
      congr 1
      exact List.map_congr_left fun p hp => fillN_mono (h2 p hp) hm'
    | none =>
      rw [fillN_miss e, fillN_miss e]
      congr 1
      refine List.map_congr_left fun p hp => ?_
      obtain ⟨j, hj⟩ := List.mem_iff_getElem?.mp hp
      exact fillN_mono ((wf_miss e).mp h j p hj) hm'
theorem sc_fill {φ : Fl} : ∀ {n w : Nat} {t : Tm}, wf φ n w t → sc w (fillN φ n t)
  | _, _, .var i, h => by rw [fillN_var]; exact sc_var.mpr (wf_var.mp h)
  | _, _, .atom u xs, _ => by rw [fillN_atom]; exact sc_atom
  | 0, _, .node _ _, h => h.elim
  | n + 1, w, .node k ps, h => by
    cases e : hit φ k with
    | some ab =>
      obtain ⟨ar, b⟩ := ab
      obtain ⟨h1, h2, h3⟩ := (wf_hit e).mp h
      rw [fillN_hit e]
      refine sc_put (d := 0) ?_ fun q hq => ?_
      · rw [List.length_map, h1]; exact sc_fill h3
      · obtain ⟨p, hp, rfl⟩ := List.mem_map.mp hq
        exact sc_fill (h2 p hp)
    | none =>
      rw [fillN_miss e, sc_node]
      intro j q hq
      rw [List.getElem?_map] at hq
      cases hp : ps[j]? with
      | none => rw [hp] at hq; cases hq
      | some p =>
        rw [hp] at hq
        simp only [Option.map_some, Option.some.injEq] at hq
        subst hq
        exact sc_fill ((wf_miss e).mp h j p hp)

/-! ### the law's show: environments of binders and of closures -/
inductive Ent where
  | lvl (l : Nat)
  | clo (t : Tm) (env : List Ent)
/-- show(t, env, deep) is u, with at most n calls one in another -/
inductive Sh (φ : Fl) : Nat → Tm → List Ent → Nat → Tm → Prop
  | lvl {n i deep l : Nat} {env : List Ent} : i < env.length → env[env.length - 1 - i]? = some (.lvl l) → l < deep → Sh φ (n + 1) (.var i) env deep (.var (deep - 1 - l))
  | clo {n i deep : Nat} {env env' : List Ent} {t u : Tm} : i < env.length → env[env.length - 1 - i]? = some (.clo t env') → Sh φ n t env' deep u → Sh φ (n + 1) (.var i) env deep u
  | atom {n deep : Nat} {env : List Ent} {a : Bool} {xs : List PySem.PyData} : Sh φ (n + 1) (.atom a xs) env deep (.atom a xs)
  | hit {n deep ar : Nat} {env : List Ent} {k : Kd} {ps : List Tm} {b u : Tm} : hit φ k = some (ar, b) → Sh φ n b (ps.map fun p => .clo p env) deep u → Sh φ (n + 1) (.node k ps) env deep u
  | miss {n deep : Nat} {env : List Ent} {k : Kd} {ps us : List Tm} : hit φ k = none → us.length = ps.length →
      (∀ j p u, ps[j]? = some p → us[j]? = some u → Sh φ n p (if bnd k j = 1 then env ++ [.lvl deep] else env) (deep + bnd k j) u) → Sh φ (n + 1) (.node k ps) env deep (.node k us)
theorem Sh.mono {φ : Fl} {n : Nat} {t : Tm} {env : List Ent} {deep : Nat} {u : Tm} (h : Sh φ n t env deep u) : ∀ {m : Nat}, n ≤ m → Sh φ m t env deep u := by
  induction h with
  | lvl h1 h2 h3 => intro m hm; obtain ⟨m, rfl⟩ : ∃ m', m = m' + 1 := ⟨m - 1, by omega⟩; exact .lvl h1 h2 h3
  | clo h1 h2 _ ih => intro m hm; obtain ⟨m, rfl⟩ : ∃ m', m = m' + 1 := ⟨m - 1, by omega⟩; exact .clo h1 h2 (ih (by omega))
  | atom => intro m hm; obtain ⟨m, rfl⟩ : ∃ m', m = m' + 1 := ⟨m - 1, by omega⟩; exact .atom
  | hit h1 _ ih => intro m hm; obtain ⟨m, rfl⟩ : ∃ m', m = m' + 1 := ⟨m - 1, by omega⟩; exact .hit h1 (ih (by omega))
  | miss h1 h2 _ ih => intro m hm; obtain ⟨m, rfl⟩ : ∃ m', m = m' + 1 := ⟨m - 1, by omega⟩; exact .miss h1 h2 fun j p u e1 e2 => ih j p u e1 e2 (by omega)
/-- the calls that show makes one in another, those of the variables aside -/
def cst (φ : Fl) : Nat → Tm → Nat → Prop
  | _, .var _, c => 1 ≤ c
  | _, .atom _ _, c => 1 ≤ c
  | 0, .node _ _, _ => False
  | n + 1, .node k ps, c => match hit φ k with
    | some (_, b) => ∃ c1 c2, cst φ n b c1 ∧ (∀ p ∈ ps, cst φ n p c2) ∧ 1 + c1 + c2 ≤ c
    | none => ∃ c1, (∀ p ∈ ps, cst φ n p c1) ∧ 1 + c1 ≤ c
theorem cst_var {φ : Fl} {n i c : Nat} : cst φ n (.var i) c ↔ 1 ≤ c := by cases n <;> rfl
theorem cst_atom {φ : Fl} {n c : Nat} {u : Bool} {xs : List PySem.PyData} : cst φ n (.atom u xs) c ↔ 1 ≤ c := by cases n <;> rfl
theorem cst_hit {φ : Fl} {n c : Nat} {k : Kd} {ps : List Tm} {ar : Nat} {b : Tm} (h : hit φ k = some (ar, b)) : cst φ (n + 1) (.node k ps) c ↔ ∃ c1 c2, cst φ n b c1 ∧ (∀ p ∈ ps, cst φ n p c2) ∧ 1 + c1 + c2 ≤ c := by
  show (match hit φ k with | some (_, b) => _ | none => _) ↔ _
  rw [h]
theorem cst_miss {φ : Fl} {n c : Nat} {k : Kd} {ps : List Tm} (h : hit φ k = none) : cst φ (n + 1) (.node k ps) c ↔ ∃ c1, (∀ p ∈ ps, cst φ n p c1) ∧ 1 + c1 ≤ c := by
  show (match hit φ k with | some (_, b) => _ | none => _) ↔ _
  rw [h]
/-- what an entry stands for at this depth and at all deeper ones -/
def EntOk (φ : Fl) (E deep : Nat) : Ent → Tm → Prop
  | .lvl l, p => l < deep ∧ p = .var (deep - 1 - l)
  | .clo t env, p => ∀ k, Sh φ E t env (deep + k) (lift k 0 p)
def EnvOk (φ : Fl) (E deep : Nat) (env : List Ent) (ps : List Tm) : Prop := env.length = ps.length ∧ ∀ (j : Nat) (e : Ent) (p : Tm), env[j]? = some e → ps[j]? = some p → EntOk φ E deep e p
theorem EntOk.deeper {φ : Fl} {E deep : Nat} {e : Ent} {p : Tm} (k : Nat) (h : EntOk φ E deep e p) : EntOk φ E (deep + k) e (lift k 0 p) := by
  cases e with
  | lvl l =>
    obtain ⟨h1, h2⟩ := h
    refine ⟨by omega, ?_⟩
    rw [h2, lift_var_hi (Nat.zero_le _)]
    congr 1
    omega
  | clo t env =>
    intro j
    have z := h (k + j)
    rw [lift_lift, Nat.add_assoc]
    exact z
theorem EnvOk.deeper {φ : Fl} {E deep : Nat} {env : List Ent} {ps : List Tm} (k : Nat) (h : EnvOk φ E deep env ps) : EnvOk φ E (deep + k) env (ps.map (lift k 0)) := by
  refine ⟨by rw [List.length_map]; exact h.1, fun j e p he hp => ?_⟩
  rw [List.getElem?_map] at hp
  cases hq : ps[j]? with
  | none => rw [hq] at hp; cases hp
  | some q =>
    rw [hq] at hp
    simp only [Option.map_some, Option.some.injEq] at hp
    subst hp
    exact (h.2 j e q he hq).deeper k
theorem EnvOk.snoc {φ : Fl} {E deep : Nat} {env : List Ent} {ps : List Tm} (h : EnvOk φ E deep env ps) : EnvOk φ E (deep + 1) (env ++ [.lvl deep]) (ps.map (lift 1 0) ++ [.var 0]) := by
  have hd := h.deeper 1
  refine ⟨by simp [h.1], fun j e p he hp => ?_⟩
  by_cases hj : j < env.length
  · rw [List.getElem?_append_left hj] at he
    rw [List.getElem?_append_left (by rw [List.length_map, ← h.1]; exact hj)] at hp
    exact hd.2 j e p he hp
  · have hj2 : j = env.length := by
      by_cases z : j < (env ++ [Ent.lvl deep]).length
      · simp at z; omega
      · rw [List.getElem?_eq_none (by omega)] at he; cases he
    subst hj2
    have e1 : e = .lvl deep := by simpa using he.symm
    rw [List.getElem?_append_right (by rw [List.length_map, ← h.1]; omega), List.length_map, h.1, Nat.sub_self] at hp
    have e2 : p = .var 0 := by simpa using hp.symm
    subst e1 e2
    exact ⟨Nat.lt_succ_self _, by congr 1; omega⟩
/-- THE LAW OF SHOW: it gives the filled term with what the environment stands for put in -/
theorem show_ok {φ : Fl} : ∀ {n w c E deep : Nat} {t : Tm} {env : List Ent} {ps : List Tm}, wf φ n w t → cst φ n t c → EnvOk φ E deep env ps → ps.length = w → Sh φ (c + E) t env deep (putU ps 0 (fillN φ n t))
  | n, w, c, E, deep, .var i, env, ps, hw, hc, he, hl => by
    have hi := wf_var.mp hw
    have hc := cst_var.mp hc
    obtain ⟨c, rfl⟩ : ∃ c', c = c' + 1 := ⟨c - 1, by omega⟩
    rw [fillN_var]
    have hlt : env.length - 1 - i < env.length := by have := he.1; omega
    have hlt2 : ps.length - 1 - i < ps.length := by omega
    have e2 : putU ps 0 (.var i) = ps[ps.length - 1 - i] := by
      unfold putU
      rw [trav_var, putG_in (Nat.not_lt_zero _) (by omega), lift_zero]
      simp [List.getD, List.getElem?_eq_getElem hlt2]
    rw [e2]
    have hp : ps[env.length - 1 - i]? = some ps[ps.length - 1 - i] := by rw [he.1]; exact List.getElem?_eq_getElem hlt2
    have ok := he.2 _ _ _ (List.getElem?_eq_getElem hlt) hp
    have hlen : i < env.length := by have := he.1; omega
    rw [show c + 1 + E = (c + E) + 1 by omega]
    cases q : env[env.length - 1 - i] with
    | lvl l =>
      rw [q] at ok
      obtain ⟨o1, o2⟩ := ok
      rw [o2]
      exact .lvl hlen (by rw [List.getElem?_eq_getElem hlt, q]) o1
    | clo t' env' =>
      rw [q] at ok
      have z := ok 0
      rw [lift_zero] at z
      exact .clo hlen (by rw [List.getElem?_eq_getElem hlt, q]) (z.mono (Nat.le_add_left _ _))
  | n, w, c, E, deep, .atom u xs, env, ps, hw, hc, he, hl => by
    have hc := cst_atom.mp hc
    obtain ⟨c, rfl⟩ : ∃ c', c = c' + 1 := ⟨c - 1, by omega⟩
    rw [fillN_atom]
    unfold putU
    rw [trav_atom, show c + 1 + E = (c + E) + 1 by omega]
    exact .atom
  | 0, w, c, E, deep, .node k qs, env, ps, hw, hc, he, hl => hw.elim
  | n + 1, w, c, E, deep, .node k qs, env, ps, hw, hc, he, hl => by
    cases e : hit φ k with
    | some ab =>
      obtain ⟨ar, b⟩ := ab
      obtain ⟨h1, h2, h3⟩ := (wf_hit e).mp hw
      obtain ⟨c1, c2, k1, k2, k3⟩ := (cst_hit e).mp hc
      rw [fillN_hit e, put_put (by rw [List.length_map, h1]; exact sc_fill h3), List.map_map]
      have z : Sh φ (c1 + (c2 + E)) b (qs.map fun p => .clo p env) deep (putU (qs.map (putU ps 0 ∘ fillN φ n)) 0 (fillN φ n b)) := by
        refine show_ok h3 k1 ⟨by simp, fun j e p hj hp => ?_⟩ (by simp [h1])
        rw [List.getElem?_map] at hj hp
        cases hq : qs[j]? with
        | none => rw [hq] at hj; cases hj
        | some q =>
          rw [hq] at hj hp
          simp only [Option.map_some, Option.some.injEq] at hj hp
          subst hj hp
          have hm := List.mem_of_getElem? hq
          intro i
          have z := show_ok (h2 q hm) (k2 q hm) (he.deeper i) (by rw [List.length_map]; exact hl)
          rw [← lift_put i (by rw [hl]; exact sc_fill (h2 q hm))] at z
          exact z
      refine Sh.mono (.hit e z) ?_
      omega
    | none =>
      have h1 := (wf_miss e).mp hw
      obtain ⟨c1, k1, k2⟩ := (cst_miss e).mp hc
      rw [fillN_miss e]
      have e3 : putU ps 0 (.node k (qs.map (fillN φ n))) = .node k (mapI (fun j q => putU ps (bnd k j) (fillN φ n q)) 0 qs) := by
        show trav (putG ps) 0 _ = _
        rw [trav_node, ← mapI_map (fillN φ n) qs 0, mapI_mapI]
        congr 1
        exact mapI_congr qs 0 fun j q _ => by rw [Nat.zero_add, Nat.zero_add] <;> rfl
      rw [e3]
      refine Sh.mono (n := (c1 + E) + 1) (.miss e (mapI_len _ _ _) fun j p u hp hu => ?_) (by omega)
      rw [mapI_get, hp] at hu
      simp only [Option.map_some, Option.some.injEq, Nat.zero_add] at hu
      subst hu
      have hm := List.mem_of_getElem? hp
      have hb := bnd_le k j
      have hwf := h1 j p hp
      by_cases hj : bnd k j = 1
      · rw [if_pos hj, hj]
        rw [hj] at hwf
        rw [← put_under (by rw [hl]; exact sc_fill hwf)]
        exact show_ok hwf (k1 p hm) he.snoc (by simp [hl])
      · have hj0 : bnd k j = 0 := by omega
        rw [if_neg hj, hj0]
        rw [hj0] at hwf
        exact show_ok hwf (k1 p hm) he hl
/-- from the outside -/
theorem show_top {φ : Fl} {n w c : Nat} {t : Tm} (hw : wf φ n w t) (hc : cst φ n t c) : Sh φ c t ((List.range w).map .lvl) w (fillN φ n t) := by
  have z := show_ok (E := 0) (deep := w) (env := (List.range w).map .lvl) (ps := idv w) hw hc ⟨by simp [idv], fun j e p he hp => ?_⟩ (idv_len w)
  · rw [put_id (sc_fill hw)] at z
    exact z
  · have hj : j < w := by
      by_cases h : j < w
      · exact h
      · rw [List.getElem?_eq_none (by simp; omega)] at he; cases he
    simp only [List.getElem?_map, List.getElem?_range hj, Option.map_some, Option.some.injEq, idv] at he hp
    subst he hp
    exact ⟨hj, rfl⟩

/-! ### the numbers of the holes, the size -/
def hd : Kd → List Int
  | .hole h => [h]
  | _ => []
mutual
def nums : Tm → List Int
  | .var _ => []
  | .atom _ _ => []
  | .node k ps => hd k ++ numsL ps
def numsL : List Tm → List Int
  | [] => []
  | p :: ps => nums p ++ numsL ps
end
theorem numsL_eq : ∀ ps : List Tm, numsL ps = (ps.map nums).flatten
  | [] => by simp [numsL]
  | p :: ps => by simp [numsL, numsL_eq ps]
theorem nums_var (i : Nat) : nums (.var i) = [] := by simp [nums]
theorem nums_atom (u : Bool) (xs : List PySem.PyData) : nums (.atom u xs) = [] := by simp [nums]
theorem nums_node (k : Kd) (ps : List Tm) : nums (.node k ps) = hd k ++ (ps.map nums).flatten := by simp [nums, numsL_eq]
theorem mem_nums_node {k : Kd} {ps : List Tm} {h : Int} : h ∈ nums (.node k ps) ↔ h ∈ hd k ∨ ∃ p ∈ ps, h ∈ nums p := by
  rw [nums_node, List.mem_append, List.mem_flatten]
  constructor
  · rintro (z | ⟨l, hl, z⟩)
    · exact .inl z
    · obtain ⟨p, hp, rfl⟩ := List.mem_map.mp hl
      exact .inr ⟨p, hp, z⟩
  · rintro (z | ⟨p, hp, z⟩)
    · exact .inl z
    · exact .inr ⟨_, List.mem_map_of_mem hp, z⟩
mutual
def sz : Tm → Nat
  | .var _ => 1
  | .atom _ _ => 1
  | .node _ ps => 1 + szL ps
def szL : List Tm → Nat
  | [] => 0
  | p :: ps => sz p + szL ps
end
theorem szL_eq : ∀ ps : List Tm, szL ps = (ps.map sz).sum
  | [] => by simp [szL]
  | p :: ps => by simp [szL, szL_eq ps]
theorem sz_var (i : Nat) : sz (.var i) = 1 := by simp [sz]
theorem sz_atom (u : Bool) (xs : List PySem.PyData) : sz (.atom u xs) = 1 := by simp [sz]
theorem sz_node (k : Kd) (ps : List Tm) : sz (.node k ps) = 1 + szL ps := by simp [sz]
theorem szL_append (a b : List Tm) : szL (a ++ b) = szL a + szL b := by rw [szL_eq, szL_eq, szL_eq]; simp
theorem sz_pos (t : Tm) : 1 ≤ sz t := by
  cases t with
  | node k ps => rw [sz_node]; omega
  | var i => rw [sz_var]; exact Nat.le_refl _
  | atom u xs => rw [sz_atom]; exact Nat.le_refl _
theorem szL_len : ∀ ps : List Tm, ps.length ≤ szL ps
  | [] => Nat.le_refl _
  | p :: ps => by
    have := szL_len ps
    have := sz_pos p
    simp only [szL, List.length_cons]
    omega
theorem szL_le {b : Nat} : ∀ ps : List Tm, (∀ p ∈ ps, sz p ≤ b) → szL ps ≤ ps.length * b
  | [], _ => by simp [szL]
  | p :: ps, h => by
    have h1 := h p List.mem_cons_self
    have h2 := szL_le ps fun q hq => h q (List.mem_cons_of_mem _ hq)
    simp only [szL, List.length_cons, Nat.succ_mul]
    omega
theorem sz_le : ∀ {n : Nat} {t : Tm}, dle n t → sz t ≤ 25 ^ n
  | n, .var i, _ => by rw [sz_var]; exact Nat.one_le_pow _ _ (by decide)
  | n, .atom u xs, _ => by rw [sz_atom]; exact Nat.one_le_pow _ _ (by decide)
  | 0, .node _ _, h => h.elim
  | n + 1, .node k ps, h => by
    rw [sz_node]
    have h1 : szL ps ≤ ps.length * 25 ^ n := szL_le ps fun p hp => sz_le (h.2 p hp)
    have h2 : ps.length * 25 ^ n ≤ 24 * 25 ^ n := Nat.mul_le_mul_right _ h.1.le
    have h3 : 1 ≤ 25 ^ n := Nat.one_le_pow _ _ (by decide)
    rw [Nat.pow_succ]
    omega
/-- two rising lists of the same members are one -/
theorem rising_ext : ∀ {xs ys : List Int}, xs.Pairwise (· < ·) → ys.Pairwise (· < ·) → (∀ h, h ∈ xs ↔ h ∈ ys) → xs = ys
  | [], [], _, _, _ => rfl
  | [], y :: ys, _, _, h => absurd ((h y).mpr List.mem_cons_self) (by simp)
  | x :: xs, [], _, _, h => absurd ((h x).mp List.mem_cons_self) (by simp)
  | x :: xs, y :: ys, h1, h2, h => by
    obtain ⟨a1, b1⟩ := List.pairwise_cons.mp h1
    obtain ⟨a2, b2⟩ := List.pairwise_cons.mp h2
    have e : x = y := by
      rcases List.mem_cons.mp ((h x).mp List.mem_cons_self) with e | e
      · exact e
      · rcases List.mem_cons.mp ((h y).mpr List.mem_cons_self) with e' | e'
        · exact e'.symm
        · have := a2 x e
          have := a1 y e'
          omega
    subst e
    congr 1
    refine rising_ext b1 b2 fun z => ⟨fun hz => ?_, fun hz => ?_⟩
    · rcases List.mem_cons.mp ((h z).mp (List.mem_cons_of_mem _ hz)) with e | e
      · have := a1 z hz; omega
      · exact e
    · rcases List.mem_cons.mp ((h z).mpr (List.mem_cons_of_mem _ hz)) with e | e
      · have := a2 z hz; omega
      · exact e
theorem rising_of {xs : List Int} (h1 : xs.Pairwise (· ≤ ·)) (h2 : xs.Nodup) : xs.Pairwise (· < ·) := by
  have h2 : xs.Pairwise (· ≠ ·) := h2
  exact (h1.and h2).imp fun h => by omega
end KM

/-! Terms as data of the heap. -/
namespace KD
open PySem PyProof.Rows L2 LamX NdefX KL KM

/-! ### more rules -/
section
variable {X : Cx}
theorem op_powW : OpR X (binaryOp .Pow) (rI (fun i j => 0 ≤ j ∧ (Builtin.Int.intBits i : Int) * j ≤ 2 ^ 27) fun i j => .int (i ^ j.toNat)) := opI fun _ _ _ _ _ _ _ hc q => pow_int hc.1 hc.2 q
/-- a tuple and the empty one -/
def rEqE (K : PySem.W.Frag) : R2 := fun x y H Q => ∃ p q xs, x = .ref p ∧ y = .ref q ∧ SqT K H p xs ∧ SqT K H q [] ∧ Q (.bl xs.isEmpty) H
theorem op_eqE (hu : X.A.units < cLine) : OpR X (compareOp .Eq) (rEqE X.K) := by
  intro pins s σ H x y v u Q I rx ry h
  obtain ⟨a, b, xs, rfl, rfl, ha, hb, q⟩ := h
  obtain rfl : v = Value.ref a := rx
  obtain rfl : u = Value.ref b := ry
  obtain ⟨its, r1, p1, _⟩ := I.tuple ha
  obtain ⟨its2, r2, p2, _⟩ := I.tuple hb
  cases r2
  refine SeqAt.eq_tupleAt (e := fun _ => true) p1 p2 hu (fun j h1 h2 => absurd h2 (by simp)) (fin_bl I q ?_)
  cases r1 <;> simp
/-- two dicts whose values are equal data -/
def rNeDD (K : PySem.W.Frag) : R2 := fun x y H Q => ∃ a b ks ls, x = .ref a ∧ y = .ref b ∧ H a = some (.dK ks) ∧ H b = some (.dK ls) ∧ ks.length = ls.length ∧
  (∀ p ∈ ks, ∃ u d, valV ls p.1 = some u ∧ Dp K H p.2 d ∧ Dp K H u d ∧ SeqAt.shaped d = true) ∧ Q (.bl false) H
theorem hitsD {pins : List (Addr × Obj)} {σ : L2.St} {H : Hp} {s : Shared} {A : Around} (I : Inv X pins σ H s) (hu : A.units + 64 < cLine) {ls : List (Key × V)} {vb : List (Key × Value)} (rb : KV ls vb) {ks : List (Key × V)} {va : List (Key × Value)} (ra : KV ks va) :
    (∀ p ∈ ks, ∃ u d, valV ls p.1 = some u ∧ Dp X.K H p.2 d ∧ Dp X.K H u d ∧ SeqAt.shaped d = true) → PySem.W.KeqHits A s vb va true := by
  unfold KV at ra
  induction ra with
  | nil => intro _; exact .nil
  | @cons p q ps qs h t ih =>
    intro hp
    obtain ⟨h1, h2⟩ := h
    obtain ⟨u, d, e1, e2, e3, e4⟩ := hp p List.mem_cons_self
    have rr : RelO (some u) (valueAt vb p.1) := by rw [← e1]; exact rb.val p.1
    obtain ⟨y, hy, ry⟩ := rr.some_of
    obtain ⟨key, v⟩ := q
    obtain rfl : p.1 = key := h1
    obtain ⟨as, r1⟩ := Dp.reads I d _ v e2 h2
    obtain ⟨bs, r2⟩ := Dp.reads I d _ y e3 ry
    have q0 := SeqAt.eqAt_reads d d A s v y as bs r1 r2 (SeqAt.canLay_of_shaped e4) (SeqAt.canLay_of_shaped e4) (SeqAt.room_of_shaped e4 hu)
    rw [SeqAt.eqv_refl d (SeqAt.canLay_of_shaped e4)] at q0
    exact .hit (e := true) (b := true) hy q0 (ih fun p' hm => hp p' (List.mem_cons_of_mem _ hm))
theorem op_neDD (hu : X.A.units + 65 < cLine) : OpR X (compareOp .NotEq) (rNeDD X.K) := by
  intro pins s σ H x y v u Q I rx ry h
  obtain ⟨a, b, ks, ls, rfl, rfl, ea, eb, hlen, hp, q⟩ := h
  obtain rfl : v = Value.ref a := rx
  obtain rfl : u = Value.ref b := ry
  obtain ⟨_, ya, va, ra, da⟩ := (show ObjOk X.prog X.w H s.heap a (.dK ks) from I.hok a _ ea)
  obtain ⟨_, yb, vb, rb, db⟩ := (show ObjOk X.prog X.w H s.heap b (.dK ls) from I.hok b _ eb)
  have hl : va.length = vb.length := by rw [← ra.length, ← rb.length]; exact hlen
  exact PySem.W.keq_ne (knd := mixKind X.prog X.w) (r := true) ya yb da db (by omega) (fun _ => hitsD I (by show X.A.units + 1 + 64 < cLine; omega) rb ra hp) (fin_bl I q (by simp [hl]))
end

/-! ### what goes on -/
section
variable {K : PySem.W.Frag} {H H' : Hp} {T : List (Addr × Str)}
theorem rd_ext {a : Addr} {u : HO} (e : ExtN H H') (h : Rd H a u) (n : ∀ ps, u ≠ .tbl ps) : Rd H' a u := by
  rcases h with h | ⟨o, h⟩
  · exact .inl (e _ _ h n)
  · exact .inr ⟨o, e _ _ h fun ps z => by cases z⟩
theorem sqT_ext {a : Addr} {xs : List V} (e : ExtN H H') (h : SqT K H a xs) : SqT K H' a xs := by
  rcases h with h | h
  · exact .inl (rd_ext e h fun ps z => by cases z)
  · exact .inr h
theorem sqL_ext {a : Addr} {xs : List V} (e : ExtN H H') (h : SqL K H a xs) : SqL K H' a xs := by
  rcases h with h | h
  · exact .inl (rd_ext e h fun ps z => by cases z)
  · exact .inr h
/-! data of tuples alone -/
mutual
inductive Tp (K : PySem.W.Frag) (H : Hp) : V → PyData → Prop
  | non : Tp K H .non .none
  | bl (b : Bool) : Tp K H (.bl b) (.bool b)
  | int (i : Int) : Tp K H (.int i) (.int i)
  | str (x : Str) : Tp K H (.str x) (.str x)
  | tup {a : Addr} {xs : List V} {ds : List PyData} : SqT K H a xs → TpAll K H xs ds → Tp K H (.ref a) (.tuple ds)
inductive TpAll (K : PySem.W.Frag) (H : Hp) : List V → List PyData → Prop
  | nil : TpAll K H [] []
  | cons {v : V} {vs : List V} {d : PyData} {ds : List PyData} : Tp K H v d → TpAll K H vs ds → TpAll K H (v :: vs) (d :: ds)
end
mutual
theorem Tp.dp : ∀ (d : PyData) (v : V), Tp K H v d → Dp K H v d
  | .none, _, h => by cases h; exact .non
  | .bool b, _, h => by cases h; exact .bl b
  | .int i, _, h => by cases h; exact .int i
  | .str x, _, h => by cases h; exact .str x
  | .list ds, _, h => by cases h
  | .tuple ds, _, h => by
    cases h with
    | tup hs ha => exact .tup hs (Tp.dpA ds _ ha)
  | .dict _, _, h => by cases h
theorem Tp.dpA : ∀ (ds : List PyData) (vs : List V), TpAll K H vs ds → DpAll K H vs ds
  | [], _, h => by cases h; exact .nil
  | d :: ds, _, h => by
    cases h with
    | cons h1 h2 => exact .cons (Tp.dp d _ h1) (Tp.dpA ds _ h2)
end
/-- the tuples stay -/
def Te (H H' : Hp) : Prop := ∀ a xs, Rd H a (.tup xs) → Rd H' a (.tup xs)
theorem Te.of (e : ExtN H H') : Te H H' := fun _ _ h => rd_ext e h fun ps z => by cases z
theorem Te.trans {H1 : Hp} (a : Te H H1) (b : Te H1 H') : Te H H' := fun x xs h => b x xs (a x xs h)
theorem Te.refl : Te H H := fun _ _ h => h
/-- an object that is no tuple is written -/
theorem Te.upd {p : Addr} {o : HO} (n : ∀ xs, ¬ Rd H p (.tup xs)) : Te H (upd H p o) := fun a xs h => by
  have ne : a ≠ p := fun e => by subst e; exact n xs h
  rcases h with h | ⟨ob, h⟩
  · exact .inl (by rw [upd_ne ne]; exact h)
  · exact .inr ⟨ob, by rw [upd_ne ne]; exact h⟩
theorem no_tup {p : Addr} {u : HO} (h : H p = some u) (n1 : ∀ xs, u ≠ .tup xs) (n2 : ∀ ob xs, u ≠ .frz ob (.tup xs)) : ∀ xs, ¬ Rd H p (.tup xs) := fun xs r => by
  rcases r with r | ⟨ob, r⟩
  · rw [h] at r; exact n1 xs (Option.some.inj r)
  · rw [h] at r; exact n2 ob xs (Option.some.inj r)
theorem Te.lst {p : Addr} {xs : List V} {o : HO} (h : H p = some (.lst xs)) : Te H (L2.upd H p o) := Te.upd (no_tup h (fun _ z => by cases z) fun _ _ z => by cases z)
theorem Te.dK {p : Addr} {xs : List (Key × V)} {o : HO} (h : H p = some (.dK xs)) : Te H (L2.upd H p o) := Te.upd (no_tup h (fun _ z => by cases z) fun _ _ z => by cases z)
theorem Te.seq {a : Addr} {xs : List V} (e : Te H H') (h : SqT K H a xs) : SqT K H' a xs := by
  rcases h with h | h
  · exact .inl (e _ _ h)
  · exact .inr h
mutual
theorem tp_ext (e : Te H H') : ∀ (d : PyData) (v : V), Tp K H v d → Tp K H' v d
  | .none, _, h => by cases h; exact .non
  | .bool b, _, h => by cases h; exact .bl b
  | .int i, _, h => by cases h; exact .int i
  | .str x, _, h => by cases h; exact .str x
  | .list ds, _, h => by cases h
  | .tuple ds, _, h => by
    cases h with
    | tup hs ha => exact .tup (e.seq hs) (tpA_ext e ds _ ha)
  | .dict _, _, h => by cases h
theorem tpA_ext (e : Te H H') : ∀ (ds : List PyData) (vs : List V), TpAll K H vs ds → TpAll K H' vs ds
  | [], _, h => by cases h; exact .nil
  | d :: ds, _, h => by
    cases h with
    | cons h1 h2 => exact .cons (tp_ext e d _ h1) (tpA_ext e ds _ h2)
end
theorem tpA_len : ∀ {vs : List V} {ds : List PyData}, TpAll K H vs ds → vs.length = ds.length
  | _, [], h => by cases h; rfl
  | _, _ :: _, h => by
    cases h with
    | cons _ h2 => simp [tpA_len h2]
theorem tpA_get : ∀ {vs : List V} {ds : List PyData} {i : Nat} {d : PyData}, TpAll K H vs ds → ds[i]? = some d → ∃ v, vs[i]? = some v ∧ Tp K H v d
  | _, [], _, _, _, e => by simp at e
  | _, _ :: _, 0, d, h, e => by
    cases h with
    | cons h1 _ => simp at e; subst e; exact ⟨_, rfl, h1⟩
  | _, _ :: _, i + 1, d, h, e => by
    cases h with
    | cons _ h2 =>
      obtain ⟨v, h3, h4⟩ := tpA_get (i := i) (d := d) h2 (by simpa using e)
      exact ⟨v, by simpa using h3, h4⟩
theorem tpA_snoc : ∀ {vs : List V} {ds : List PyData} {v : V} {d : PyData}, TpAll K H vs ds → Tp K H v d → TpAll K H (vs ++ [v]) (ds ++ [d])
  | _, [], _, _, h, k => by cases h; exact .cons k .nil
  | _, _ :: _, _, _, h, k => by
    cases h with
    | cons h1 h2 => exact .cons h1 (tpA_snoc h2 k)
/-- all but the tables stays, and the tables tell no more than they should -/
structure Gr (T : List (Addr × Str)) (H H' : Hp) : Prop where
  ext : ExtN H H'
  tab : Tabs T H → Tabs T H'
theorem Gr.te (g : Gr T H H') : Te H H' := Te.of g.ext
theorem Te.of' (e : ∀ b o, H b = some o → H' b = some o) : Te H H' := Te.of (ExtN.of e)
theorem Gr.refl : Gr T H H := ⟨ExtN.refl H, id⟩
theorem Gr.trans {H1 : Hp} (a : Gr T H H1) (b : Gr T H1 H') : Gr T H H' := ⟨a.ext.trans b.ext, fun t => b.tab (a.tab t)⟩
theorem Gr.of (e : ∀ b o, H b = some o → H' b = some o) : Gr T H H' := ⟨ExtN.of e, fun t => t.ext e⟩
theorem Gr.new {p : Addr} {o : HO} (h : H p = none) : Gr T H (upd H p o) := .of fun b u e => by rw [upd_ne (ne_of_none e h)]; exact e
/-- a list that was not there at H changes -/
theorem Gr.mut {H1 : Hp} {p : Addr} {o : HO} (a : Gr T H H1) (h : H p = none) (hp : ∃ u, H1 p = some u ∧ (∀ ps, u ≠ .tbl ps) ∧ ∀ c q, u ≠ CodeO c q) : Gr T H (upd H1 p o) := by
  obtain ⟨u, hu, hn, hn2⟩ := hp
  refine ⟨fun b ob e n => ?_, fun t => ?_⟩
  · rw [upd_ne (ne_of_none e h)]
    exact a.ext b ob e n
  · intro q hq
    obtain ⟨ps, a1, a2, a3⟩ := a.tab t q hq
    have ne : q.1 ≠ p := by
      rintro e
      rw [e, hu] at a1
      exact hn ps (Option.some.inj a1)
    refine ⟨ps, by rw [upd_ne ne]; exact a1, a2, fun pos cv hcv => ?_⟩
    obtain ⟨c, e1, e2⟩ := a3 pos cv hcv
    refine ⟨c, e1, ?_⟩
    by_cases z : c = p
    · rw [z, hu] at e2
      exact (hn2 _ _ (Option.some.inj e2)).elim
    · rw [upd_ne z]; exact e2
end

section
variable {K : PySem.W.Frag} {H H' : Hp} {T : List (Addr × Str)}
theorem lst_code {xs : List V} (c : Addr) (q : Str) : HO.lst xs ≠ CodeO c q := fun z => by unfold CodeO at z; cases z
theorem dK_code {xs : List (Key × V)} (c : Addr) (q : Str) : HO.dK xs ≠ CodeO c q := fun z => by unfold CodeO at z; cases z
/-! ### terms -/
def Kd.tag : Kd → Str
  | .app => "app"
  | .pi => "pi"
  | .fn => "fun"
  | .lt => "let"
  | .hole _ => "hole"
mutual
def enc : Tm → PyData
  | .var i => .tuple [.str "var", .int i]
  | .atom u xs => .tuple (.str (if u then "univ" else "const") :: xs)
  | .node (.hole n) ps => .tuple [.str "hole", .int n, .tuple (encL ps)]
  | .node .app ps => .tuple (.str "app" :: encL ps)
  | .node .pi ps => .tuple (.str "pi" :: encL ps)
  | .node .fn ps => .tuple (.str "fun" :: encL ps)
  | .node .lt ps => .tuple (.str "let" :: encL ps)
def encL : List Tm → List PyData
  | [] => []
  | p :: ps => enc p :: encL ps
end
theorem encL_eq : ∀ ps : List Tm, encL ps = ps.map enc
  | [] => by simp [encL]
  | p :: ps => by simp [encL, encL_eq ps]
theorem enc_var (i : Nat) : enc (.var i) = .tuple [.str "var", .int i] := by simp [enc]
theorem enc_atom (u : Bool) (xs : List PyData) : enc (.atom u xs) = .tuple (.str (if u then "univ" else "const") :: xs) := by simp [enc]
theorem enc_hole (n : Int) (ps : List Tm) : enc (.node (.hole n) ps) = .tuple [.str "hole", .int n, .tuple (ps.map enc)] := by simp [enc, encL_eq]
theorem enc_node {k : Kd} (h : ∀ n, k ≠ .hole n) (ps : List Tm) : enc (.node k ps) = .tuple (.str (Kd.tag k) :: ps.map enc) := by
  cases k with
  | hole n => exact (h n rfl).elim
  | _ => simp [enc, encL_eq, Kd.tag]
abbrev Tr (K : PySem.W.Frag) (H : Hp) (v : V) (t : Tm) : Prop := Tp K H v (enc t)
abbrev Ts (K : PySem.W.Frag) (H : Hp) (vs : List V) (ts : List Tm) : Prop := TpAll K H vs (ts.map enc)
theorem Ts.len {vs : List V} {ts : List Tm} (h : Ts K H vs ts) : vs.length = ts.length := by rw [tpA_len h, List.length_map]
theorem Ts.get {vs : List V} {ts : List Tm} {i : Nat} {t : Tm} (h : Ts K H vs ts) (e : ts[i]? = some t) : ∃ v, vs[i]? = some v ∧ Tr K H v t := tpA_get h (by rw [List.getElem?_map, e]; rfl)
theorem Ts.ext {vs : List V} {ts : List Tm} (e : Te H H') (h : Ts K H vs ts) : Ts K H' vs ts := tpA_ext e _ _ h
theorem Tr.ext {v : V} {t : Tm} (e : Te H H') (h : Tr K H v t) : Tr K H' v t := tp_ext e _ _ h
theorem Ts.snoc {vs : List V} {ts : List Tm} {v : V} {t : Tm} (h : Ts K H vs ts) (k : Tr K H v t) : Ts K H (vs ++ [v]) (ts ++ [t]) := by
  show TpAll K H _ ((ts ++ [t]).map enc)
  rw [List.map_append]
  exact tpA_snoc h k
theorem tr_var {v : V} {i : Nat} (h : Tr K H v (.var i)) : ∃ a, v = .ref a ∧ SqT K H a [.str "var", .int i] := by
  unfold Tr at h
  rw [enc_var] at h
  cases h with
  | tup hs ha =>
    cases ha with
    | cons h1 h2 =>
      cases h1
      cases h2 with
      | cons h3 h4 => cases h3; cases h4; exact ⟨_, rfl, hs⟩
theorem tr_atom {v : V} {u : Bool} {xs : List PyData} (h : Tr K H v (.atom u xs)) : ∃ a ys, v = .ref a ∧ SqT K H a (.str (if u then "univ" else "const") :: ys) := by
  unfold Tr at h
  rw [enc_atom] at h
  cases h with
  | tup hs ha =>
    cases ha with
    | cons h1 h2 => cases h1; exact ⟨_, _, rfl, hs⟩
theorem tr_node {v : V} {k : Kd} {ps : List Tm} (hk : ∀ n, k ≠ .hole n) (h : Tr K H v (.node k ps)) : ∃ a vs, v = .ref a ∧ SqT K H a (.str (Kd.tag k) :: vs) ∧ Ts K H vs ps := by
  unfold Tr at h
  rw [enc_node hk] at h
  cases h with
  | tup hs ha =>
    cases ha with
    | cons h1 h2 => cases h1; exact ⟨_, _, rfl, hs, h2⟩
theorem tr_hole {v : V} {n : Int} {ps : List Tm} (h : Tr K H v (.node (.hole n) ps)) : ∃ a b vs, v = .ref a ∧ SqT K H a [.str "hole", .int n, .ref b] ∧ SqT K H b vs ∧ Ts K H vs ps := by
  unfold Tr at h
  rw [enc_hole] at h
  cases h with
  | tup hs ha =>
    cases ha with
    | cons h1 h2 =>
      cases h1
      cases h2 with
      | cons h3 h4 =>
        cases h3
        cases h4 with
        | cons h5 h6 =>
          cases h6
          cases h5 with
          | tup hs2 ha2 => exact ⟨_, _, _, rfl, hs, hs2, ha2⟩
theorem tr_mk_var {a : Addr} {i : Nat} (h : SqT K H a [.str "var", .int i]) : Tr K H (.ref a) (.var i) := by
  show Tp K H _ (enc _)
  rw [enc_var]
  exact .tup h (.cons (.str _) (.cons (.int _) .nil))
theorem tr_mk_node {a : Addr} {k : Kd} {vs : List V} {ps : List Tm} (hk : ∀ n, k ≠ .hole n) (h : SqT K H a (.str (Kd.tag k) :: vs)) (hp : Ts K H vs ps) : Tr K H (.ref a) (.node k ps) := by
  show Tp K H _ (enc _)
  rw [enc_node hk]
  exact .tup h (.cons (.str _) hp)
theorem tr_mk_hole {a b : Addr} {n : Int} {vs : List V} {ps : List Tm} (h : SqT K H a [.str "hole", .int n, .ref b]) (hb : SqT K H b vs) (hp : Ts K H vs ps) : Tr K H (.ref a) (.node (.hole n) ps) := by
  show Tp K H _ (enc _)
  rw [enc_hole]
  exact .tup h (.cons (.str _) (.cons (.int _) (.cons (.tup hb hp) .nil)))
/-- the tag, and that the term is an object -/
def tagOf : Tm → Str
  | .var _ => "var"
  | .atom u _ => if u then "univ" else "const"
  | .node k _ => Kd.tag k
theorem tr_tag {v : V} {t : Tm} (h : Tr K H v t) : ∃ a ys, v = .ref a ∧ SqT K H a (.str (tagOf t) :: ys) := by
  cases t with
  | var i => obtain ⟨a, e, h⟩ := tr_var h; exact ⟨a, _, e, h⟩
  | atom u xs => obtain ⟨a, ys, e, h⟩ := tr_atom h; exact ⟨a, _, e, h⟩
  | node k ps =>
    cases k with
    | hole n => obtain ⟨a, b, vs, e, h, _⟩ := tr_hole h; exact ⟨a, _, e, h⟩
    | _ => obtain ⟨a, vs, e, h, _⟩ := tr_node (by intro n; simp) h; exact ⟨a, _, e, h⟩
end
end KD

/-! The program's defs: what each promises, by its body. -/
namespace KP
open PySem PyProof.Rows L2 LamX NdefX KL KM KD
def top (i : Nat) : Stmt := PySem.Challenge.pw_termwarrant_k65_fillings.main.body.getD i (.Pass ⟨0, 0, 0, 0⟩)
abbrev sParts : Stmt := top 1
abbrev sWith : Stmt := top 2
abbrev sBinds : Stmt := top 3
abbrev sMapped : Stmt := top 4
abbrev sLifted : Stmt := top 6
abbrev sUnder : Stmt := top 7
abbrev sFilled : Stmt := top 8
abbrev sHolesOf : Stmt := top 10
abbrev sFill : Stmt := top 11
abbrev sSettled : Stmt := top 12
theorem iteEqT {a b : Str} {A B : Prop} (e : a = b) (h : A) : if decide (V.str a = V.str b) = true then A else B := by
  rw [if_pos (decide_eq_true (congrArg V.str e))]; exact h
theorem iteEqF {a b : Str} {A B : Prop} (e : ¬ a = b) (h : B) : if decide (V.str a = V.str b) = true then A else B := by
  rw [if_neg (by rw [decide_eq_false (fun z => e (V.str.inj z))]; decide)]; exact h
theorem iteIntT {a b : Int} {A B : Prop} (e : a = b) (h : A) : if decide (V.int a = V.int b) = true then A else B := by
  rw [if_pos (decide_eq_true (congrArg V.int e))]; exact h
theorem iteIntF {a b : Int} {A B : Prop} (e : ¬ a = b) (h : B) : if decide (V.int a = V.int b) = true then A else B := by
  rw [if_neg (by rw [decide_eq_false (fun z => e (V.int.inj z))]; decide)]; exact h
theorem le_line {n : Nat} (h : n ≤ 100000) : n ≤ sizeLine := Nat.le_trans h (by decide)
theorem at0 {x : V} {xs : List V} : atI (x :: xs) 0 = some x := atI_nat (j := 0) rfl
theorem at1 {x y : V} {xs : List V} : atI (x :: y :: xs) 1 = some y := atI_nat (j := 1) rfl
theorem at2 {x y z : V} {xs : List V} : atI (x :: y :: z :: xs) 2 = some z := atI_nat (j := 2) rfl
theorem cut1 (x : V) (ys : List V) : cutV (x :: ys) (some 1) none = ys := by
  have e : HT.sIx (x :: ys).length 0 (some 1) = 1 := by
    have z := HT.sIx_nat (x :: ys).length 0 1
    rw [List.length_cons] at z ⊢
    rw [show (some ((1 : Nat) : Int)) = some 1 from rfl] at z
    rw [z]; omega
  unfold cutV
  rw [e, HT.sIx_none]
  simp
theorem cut1_not (x : V) (ys : List V) : ¬ (HT.sIx (x :: ys).length 0 (some 1) = 0 ∧ HT.sIx (x :: ys).length (x :: ys).length none = (x :: ys).length) := by
  have z := HT.sIx_nat (x :: ys).length 0 1
  rw [show (some ((1 : Nat) : Int)) = some 1 from rfl] at z
  rw [z, List.length_cons]
  intro q
  omega
/-- the parts of a term -/
def partsT : Tm → List Tm
  | .node _ ps => ps
  | _ => []
/-- from a term to the tuple of its parts -/
def spParts (K : PySem.W.Frag) : Sp := fun vs H Q _ => ∃ v t, vs = [v] ∧ Tr K H v t ∧ (partsT t).length ≤ 1000 ∧
  ∀ p H' ws, Same H H' → SqT K H' p ws → Ts K H' ws (partsT t) → Q (.ref p) H'
section
variable {P : Program} {w : World} {K : PySem.W.Frag} {mg : Str → Option Value} {base : Heap} {T : List (Addr × Str)}
theorem same_new {H : Hp} {p : Addr} (h : H p = none) (o : HO) : Same H (upd H p o) := fun b u q => by rw [upd_ne (ne_of_none q h)]; exact q
theorem sqT_same {H H' : Hp} {a : Addr} {xs : List V} (e : Same H H') (h : SqT K H a xs) : SqT K H' a xs := sqT_ext (ExtN.of e) h
theorem scParts : FnScope ["node", "tag"] ["node"] (defScope sParts) := ⟨rfl, rfl, rfl, by decide +kernel, rfl, by decide +kernel, by decide +kernel⟩
theorem ok_parts {f : Addr} {fd : FuncData} (F : Fun K "parts_of" "parts_of" sParts f fd) : FnOk P w K mg base CX0 1 f fd ["node"] (spParts K) := by
  refine F.ok scParts (fun vs H Q E h => ?_) (fun cdv A outer s H vs Q E hr h => ?_)
  · obtain ⟨v, t, rfl, _⟩ := h; rfl
  obtain ⟨v, t, rfl, ht, hl, q⟩ := h
  refine ⟨_, pss_cons (ps_set (i := 1) scParts.nd rfl (.inl rfl) (pe_ix ix_tup (pv 0) pe_int (fun _ _ => rfl)))
    (pss_cons (ps_if (PW.pt (pw_or (pt_cmpR op_eq (pv 1) pe_str (nomark _)) (pw_or (pt_cmpR op_eq (pv 1) pe_str (nomark _)) (pw_or (pt_cmpR op_eq (pv 1) pe_str (nomark _)) (pw_or1 (pt_cmpR op_eq (pv 1) pe_str (nomark _)))))))
      (pss_one (ps_ret (pe_slice sl_tup (pv 0) (po_some pe_int) po_none))) pss_nil)
    (pss_cons (ps_if (pt_cmpR op_eq (pv 1) pe_str (nomark _)) (pss_one (ps_ret (pe_ix ix_tup (pv 0) pe_int (fun _ _ => rfl)))) pss_nil)
    (pss_one (ps_ret (pe_tup pa_nil))))), ?_⟩
  have fin : partsT t = [] → ∀ p, H p = none → Q (.ref p) (upd H p (.tup [])) := fun e p hp => by
    refine q p _ [] (same_new hp _) (SqT.of upd_same) ?_
    rw [e]
    exact TpAll.nil
  have whole : ∀ (tag : Str) (vs : List V) (ps : List Tm), partsT t = ps → Ts K H vs ps → ∀ p, H p = none → Q (.ref p) (upd H p (.tup (cutV (.str tag :: vs) (some 1) none))) := fun tag vs ps e h2 p hp => by
    subst e
    refine q p _ vs (same_new hp _) (SqT.of ?_) (h2.ext (Te.of' (same_new hp _)))
    rw [upd_same, cut1]
  cases t with
  | var i =>
    obtain ⟨a, rfl, hs⟩ := tr_var ht
    refine ⟨_, rfl, a, _, 0, _, rfl, rfl, hs, at0, ?_⟩
    iterate 5 (refine ⟨_, rfl, rfl, _, rfl, ?_⟩; refine iteEqF (by decide +kernel) ?_)
    exact ⟨le_line (by decide), fin rfl⟩
  | atom u xs =>
    obtain ⟨a, ys, rfl, hs⟩ := tr_atom ht
    cases u
    · refine ⟨_, rfl, a, _, 0, _, rfl, rfl, hs, at0, ?_⟩
      iterate 5 (refine ⟨_, rfl, rfl, _, rfl, ?_⟩; refine iteEqF (by decide +kernel) ?_)
      exact ⟨le_line (by decide), fin rfl⟩
    · refine ⟨_, rfl, a, _, 0, _, rfl, rfl, hs, at0, ?_⟩
      iterate 5 (refine ⟨_, rfl, rfl, _, rfl, ?_⟩; refine iteEqF (by decide +kernel) ?_)
      exact ⟨le_line (by decide), fin rfl⟩
  | node k ps =>
    cases k with
    | hole n =>
      obtain ⟨a, b, vs, rfl, h1, h2, h3⟩ := tr_hole ht
      refine ⟨_, rfl, a, _, 0, _, rfl, rfl, h1, at0, ?_⟩
      iterate 4 (refine ⟨_, rfl, rfl, _, rfl, ?_⟩; refine iteEqF (by decide +kernel) ?_)
      refine ⟨_, rfl, rfl, _, rfl, iteEqT (by decide +kernel) ⟨_, rfl, a, _, 2, _, rfl, rfl, h1, at2, ?_⟩⟩
      exact q b H vs (Same.refl H) h2 h3
    | app =>
      obtain ⟨a, vs, rfl, h1, h2⟩ := tr_node (by intro n; simp) ht
      refine ⟨_, rfl, a, _, 0, _, rfl, rfl, h1, at0, ?_⟩
      refine ⟨_, rfl, rfl, _, rfl, iteEqT (by decide +kernel) ?_⟩
      exact iteT ⟨_, rfl, 1, rfl, a, _, rfl, h1, cut1_not _ _, whole _ vs ps rfl h2⟩
    | pi =>
      obtain ⟨a, vs, rfl, h1, h2⟩ := tr_node (by intro n; simp) ht
      refine ⟨_, rfl, a, _, 0, _, rfl, rfl, h1, at0, ?_⟩
      iterate 1 (refine ⟨_, rfl, rfl, _, rfl, ?_⟩; refine iteEqF (by decide +kernel) ?_)
      refine ⟨_, rfl, rfl, _, rfl, iteEqT (by decide +kernel) ?_⟩
      exact iteT ⟨_, rfl, 1, rfl, a, _, rfl, h1, cut1_not _ _, whole _ vs ps rfl h2⟩
    | fn =>
      obtain ⟨a, vs, rfl, h1, h2⟩ := tr_node (by intro n; simp) ht
      refine ⟨_, rfl, a, _, 0, _, rfl, rfl, h1, at0, ?_⟩
      iterate 2 (refine ⟨_, rfl, rfl, _, rfl, ?_⟩; refine iteEqF (by decide +kernel) ?_)
      refine ⟨_, rfl, rfl, _, rfl, iteEqT (by decide +kernel) ?_⟩
      exact iteT ⟨_, rfl, 1, rfl, a, _, rfl, h1, cut1_not _ _, whole _ vs ps rfl h2⟩
    | lt =>
      obtain ⟨a, vs, rfl, h1, h2⟩ := tr_node (by intro n; simp) ht
      refine ⟨_, rfl, a, _, 0, _, rfl, rfl, h1, at0, ?_⟩
      iterate 3 (refine ⟨_, rfl, rfl, _, rfl, ?_⟩; refine iteEqF (by decide +kernel) ?_)
      refine ⟨_, rfl, rfl, _, rfl, iteEqT (by decide +kernel) ?_⟩
      exact ⟨_, rfl, 1, rfl, a, _, rfl, h1, cut1_not _ _, whole _ vs ps rfl h2⟩
/-! ### with_parts, binds -/
def spWith (K : PySem.W.Frag) : Sp := fun vs H Q _ => ∃ v l ws k ps us, vs = [v, .ref l] ∧ Tr K H v (.node k ps) ∧ SqL K H l ws ∧ Ts K H ws us ∧ ws.length ≤ 1000 ∧ us ≠ [] ∧
  ∀ v' H', Same H H' → Tr K H' v' (.node k us) → Q v' H'
theorem scWith : FnScope ["node", "parts", "tag"] ["node", "parts"] (defScope sWith) := ⟨rfl, rfl, rfl, by decide +kernel, rfl, by decide +kernel, by decide +kernel⟩
theorem ok_with {f : Addr} {fd : FuncData} (F : Fun K "with_parts" "with_parts" sWith f fd) (mt : mg "tuple" = none) : FnOk P w K mg base CX0 1 f fd ["node", "parts"] (spWith K) := by
  refine F.ok scWith (fun vs H Q E h => ?_) (fun cdv A outer s H vs Q E hr h => ?_)
  · obtain ⟨v, l, ws, k, ps, us, rfl, _⟩ := h; rfl
  obtain ⟨v, l, ws, k, ps, us, rfl, ht, hL, hw, hl, hne, q⟩ := h
  refine ⟨_, pss_cons (ps_set (i := 2) scWith.nd rfl (.inl rfl) (pe_ix ix_tup (pv 0) pe_int (fun _ _ => rfl)))
    (pss_cons (ps_if (PW.pt (pw_or (pt_cmpR op_eq (pv 2) pe_str (nomark _)) (pw_or (pt_cmpR op_eq (pv 2) pe_str (nomark _)) (pw_or (pt_cmpR op_eq (pv 2) pe_str (nomark _)) (pw_or1 (pt_cmpR op_eq (pv 2) pe_str (nomark _)))))))
      (pss_one (ps_ret (pe_op op_catT (pe_tup (pa_cons (pv 2) pa_nil)) (pe_callTy call_tuple_of rfl mt (by decide +kernel) (pa_cons (pv 1) pa_nil))))) pss_nil)
    (pss_cons (ps_if (pt_cmpR op_eq (pv 2) pe_str (nomark _)) (pss_one (ps_ret (pe_tup (pa_cons (pv 2) (pa_cons (pe_ix ix_tup (pv 0) pe_int (fun _ _ => rfl)) (pa_cons (pe_callTy call_tuple_of rfl mt (by decide +kernel) (pa_cons (pv 1) pa_nil)) pa_nil)))))) pss_nil)
    (pss_one (ps_ret (pv 0))))), ?_⟩
  have hlu : ws.length = us.length := hw.len
  have whole : (∀ n, k ≠ .hole n) → tTup (tCons (tVar 2) tNil) [some v, some (.ref l), some (.str (Kd.tag k))] H fun x H1 => tCB (fun xs H Q => ∃ p ys, xs = [V.ref p] ∧ ((SqL K H p ys ∧ ∀ l, H l = none → Q (.ref l) (upd H l (.tup ys))) ∨ (SqT K H p ys ∧ Q (.ref p) H))) (tCons (tVar 1) tNil) [some v, some (.ref l), some (.str (Kd.tag k))] H1 fun y H2 => rCatT K x y H2 Q := fun hk => by
    refine ⟨_, rfl, le_line (by simp), fun p hp => ?_⟩
    have g1 := same_new hp (HO.tup [.str (Kd.tag k)])
    refine ⟨_, rfl, l, ws, rfl, .inl ⟨sqL_ext (ExtN.of g1) hL, fun p2 hp2 => ?_⟩⟩
    have g2 := g1.trans (same_new hp2 (HO.tup ws))
    have ne : p ≠ p2 := fun e => by subst e; rw [upd_same] at hp2; cases hp2
    refine ⟨p, p2, _, _, rfl, rfl, SqT.of (by rw [upd_ne ne]; exact upd_same), SqT.of upd_same, (by simp), le_line (by simp; omega), fun e => ?_, fun _ p3 hp3 => ?_⟩
    · subst e
      exact (hne (List.eq_nil_of_length_eq_zero (by rw [← hlu]; rfl))).elim
    · have g3 := g2.trans (same_new hp3 (HO.tup ([V.str (Kd.tag k)] ++ ws)))
      exact q _ _ g3 (tr_mk_node hk (SqT.of upd_same) (hw.ext (Te.of' g3)))
  cases k with
  | hole n =>
    obtain ⟨a, b, vs, rfl, h1, h2, h3⟩ := tr_hole ht
    refine ⟨_, rfl, a, _, 0, _, rfl, rfl, h1, at0, ?_⟩
    iterate 4 (refine ⟨_, rfl, rfl, _, rfl, ?_⟩; refine iteEqF (by decide +kernel) ?_)
    refine ⟨_, rfl, rfl, _, rfl, iteEqT (by decide +kernel) ⟨_, rfl, _, rfl, a, _, 1, _, rfl, rfl, h1, at1, _, rfl, l, ws, rfl, .inl ⟨hL, fun p2 hp2 => ?_⟩⟩⟩
    have g2 := same_new hp2 (HO.tup ws)
    refine ⟨le_line (by simp), fun p3 hp3 => ?_⟩
    have g3 := g2.trans (same_new hp3 (HO.tup [V.str "hole", V.int n, V.ref p2]))
    have ne : p2 ≠ p3 := fun e => by subst e; rw [upd_same] at hp3; cases hp3
    exact q _ _ g3 (tr_mk_hole (SqT.of upd_same) (SqT.of (by rw [upd_ne ne]; exact upd_same)) (hw.ext (Te.of' g3)))
  | app =>
    obtain ⟨a, vs, rfl, h1, h2⟩ := tr_node (by intro n; simp) ht
    refine ⟨_, rfl, a, _, 0, _, rfl, rfl, h1, at0, ?_⟩
    refine ⟨_, rfl, rfl, _, rfl, iteEqT (by decide +kernel) ?_⟩
    exact iteT (whole (by intro n; simp))
  | pi =>
    obtain ⟨a, vs, rfl, h1, h2⟩ := tr_node (by intro n; simp) ht
    refine ⟨_, rfl, a, _, 0, _, rfl, rfl, h1, at0, ?_⟩
    iterate 1 (refine ⟨_, rfl, rfl, _, rfl, ?_⟩; refine iteEqF (by decide +kernel) ?_)
    refine ⟨_, rfl, rfl, _, rfl, iteEqT (by decide +kernel) ?_⟩
    exact iteT (whole (by intro n; simp))
  | fn =>
    obtain ⟨a, vs, rfl, h1, h2⟩ := tr_node (by intro n; simp) ht
    refine ⟨_, rfl, a, _, 0, _, rfl, rfl, h1, at0, ?_⟩
    iterate 2 (refine ⟨_, rfl, rfl, _, rfl, ?_⟩; refine iteEqF (by decide +kernel) ?_)
    refine ⟨_, rfl, rfl, _, rfl, iteEqT (by decide +kernel) ?_⟩
    exact iteT (whole (by intro n; simp))
  | lt =>
    obtain ⟨a, vs, rfl, h1, h2⟩ := tr_node (by intro n; simp) ht
    refine ⟨_, rfl, a, _, 0, _, rfl, rfl, h1, at0, ?_⟩
    iterate 3 (refine ⟨_, rfl, rfl, _, rfl, ?_⟩; refine iteEqF (by decide +kernel) ?_)
    refine ⟨_, rfl, rfl, _, rfl, iteEqT (by decide +kernel) ?_⟩
    exact whole (by intro n; simp)
def spBinds (K : PySem.W.Frag) : Sp := fun vs H Q _ => ∃ v k ps j, vs = [v, .int (j : Nat)] ∧ Tr K H v (.node k ps) ∧ Q (.int (bnd k j : Nat)) H
theorem scBinds : FnScope ["node", "k", "tag"] ["node", "k"] (defScope sBinds) := ⟨rfl, rfl, rfl, by decide +kernel, rfl, by decide +kernel, by decide +kernel⟩
theorem ok_binds {f : Addr} {fd : FuncData} (F : Fun K "binds" "binds" sBinds f fd) : FnOk P w K mg base CX0 1 f fd ["node", "k"] (spBinds K) := by
  refine F.ok scBinds (fun vs H Q E h => ?_) (fun cdv A outer s H vs Q E hr h => ?_)
  · obtain ⟨v, k, ps, j, rfl, _⟩ := h; rfl
  obtain ⟨v, k, ps, j, rfl, ht, q⟩ := h
  refine ⟨_, pss_cons (ps_set (i := 2) scBinds.nd rfl (.inl rfl) (pe_ix ix_tup (pv 0) pe_int (fun _ _ => rfl)))
    (pss_cons (ps_if (PW.pt (pw_or (PW.pt (pw_and (pt_cmpR op_eq (pv 1) pe_int (nomark _)) (pw_and1 (PW.pt (pw_or (pt_cmpR op_eq (pv 2) pe_str (nomark _)) (pw_or1 (pt_cmpR op_eq (pv 2) pe_str (nomark _)))))))) (pw_or1 (PW.pt (pw_and (pt_cmpR op_eq (pv 1) pe_int (nomark _)) (pw_and1 (pt_cmpR op_eq (pv 2) pe_str (nomark _))))))))
      (pss_one (ps_ret pe_int)) pss_nil)
    (pss_one (ps_ret pe_int))), ?_⟩
  obtain ⟨a, ys, rfl, h1⟩ := tr_tag ht
  have go : ∀ tag : Str, tag = Kd.tag k → SqT K H a (.str tag :: ys) := fun tag e => by subst e; exact h1
  by_cases j1 : j = 1
  · subst j1
    cases k with
    | app =>
      refine ⟨_, rfl, a, _, 0, _, rfl, rfl, go "app" rfl, at0, ?_⟩
      refine ⟨_, rfl, rfl, _, rfl, iteIntT rfl ⟨_, rfl, rfl, _, rfl, iteEqF (by decide +kernel) ⟨_, rfl, rfl, _, rfl, iteEqF (by decide +kernel) ?_⟩⟩⟩
      refine ⟨_, rfl, rfl, _, rfl, iteIntF (by decide) ?_⟩
      exact iteF q
    | pi =>
      refine ⟨_, rfl, a, _, 0, _, rfl, rfl, go "pi" rfl, at0, ?_⟩
      exact ⟨_, rfl, rfl, _, rfl, iteIntT rfl ⟨_, rfl, rfl, _, rfl, iteEqT (by decide +kernel) (iteT (iteT q))⟩⟩
    | fn =>
      refine ⟨_, rfl, a, _, 0, _, rfl, rfl, go "fun" rfl, at0, ?_⟩
      exact ⟨_, rfl, rfl, _, rfl, iteIntT rfl ⟨_, rfl, rfl, _, rfl, iteEqF (by decide +kernel) ⟨_, rfl, rfl, _, rfl, iteEqT (by decide +kernel) (iteT q)⟩⟩⟩
    | lt =>
      refine ⟨_, rfl, a, _, 0, _, rfl, rfl, go "let" rfl, at0, ?_⟩
      refine ⟨_, rfl, rfl, _, rfl, iteIntT rfl ⟨_, rfl, rfl, _, rfl, iteEqF (by decide +kernel) ⟨_, rfl, rfl, _, rfl, iteEqF (by decide +kernel) ?_⟩⟩⟩
      refine ⟨_, rfl, rfl, _, rfl, iteIntF (by decide) ?_⟩
      exact iteF q
    | hole n =>
      refine ⟨_, rfl, a, _, 0, _, rfl, rfl, go "hole" rfl, at0, ?_⟩
      refine ⟨_, rfl, rfl, _, rfl, iteIntT rfl ⟨_, rfl, rfl, _, rfl, iteEqF (by decide +kernel) ⟨_, rfl, rfl, _, rfl, iteEqF (by decide +kernel) ?_⟩⟩⟩
      refine ⟨_, rfl, rfl, _, rfl, iteIntF (by decide) ?_⟩
      exact iteF q
  · have n1 : ¬ ((j : Nat) : Int) = 1 := by omega
    by_cases j2 : j = 2
    · subst j2
      cases k with
      | app =>
        refine ⟨_, rfl, a, _, 0, _, rfl, rfl, go "app" rfl, at0, ?_⟩
        refine ⟨_, rfl, rfl, _, rfl, iteIntF n1 ?_⟩
        refine iteF ⟨_, rfl, rfl, _, rfl, iteIntT rfl ⟨_, rfl, rfl, _, rfl, iteEqF (by decide +kernel) ?_⟩⟩
        exact q
      | pi =>
        refine ⟨_, rfl, a, _, 0, _, rfl, rfl, go "pi" rfl, at0, ?_⟩
        refine ⟨_, rfl, rfl, _, rfl, iteIntF n1 ?_⟩
        refine iteF ⟨_, rfl, rfl, _, rfl, iteIntT rfl ⟨_, rfl, rfl, _, rfl, iteEqF (by decide +kernel) ?_⟩⟩
        exact q
      | fn =>
        refine ⟨_, rfl, a, _, 0, _, rfl, rfl, go "fun" rfl, at0, ?_⟩
        refine ⟨_, rfl, rfl, _, rfl, iteIntF n1 ?_⟩
        refine iteF ⟨_, rfl, rfl, _, rfl, iteIntT rfl ⟨_, rfl, rfl, _, rfl, iteEqF (by decide +kernel) ?_⟩⟩
        exact q
      | lt =>
        refine ⟨_, rfl, a, _, 0, _, rfl, rfl, go "let" rfl, at0, ?_⟩
        refine ⟨_, rfl, rfl, _, rfl, iteIntF n1 ?_⟩
        refine iteF ⟨_, rfl, rfl, _, rfl, iteIntT rfl ⟨_, rfl, rfl, _, rfl, iteEqT (by decide +kernel) ?_⟩⟩
        exact q
      | hole n =>
        refine ⟨_, rfl, a, _, 0, _, rfl, rfl, go "hole" rfl, at0, ?_⟩
        refine ⟨_, rfl, rfl, _, rfl, iteIntF n1 ?_⟩
        refine iteF ⟨_, rfl, rfl, _, rfl, iteIntT rfl ⟨_, rfl, rfl, _, rfl, iteEqF (by decide +kernel) ?_⟩⟩
        exact q
    · have n2 : ¬ ((j : Nat) : Int) = 2 := by omega
      have e0 : bnd k j = 0 := by
        unfold bnd
        split <;> first | rfl | omega
      rw [e0] at q
      refine ⟨_, rfl, a, _, 0, _, rfl, rfl, h1, at0, ?_⟩
      refine ⟨_, rfl, rfl, _, rfl, iteIntF n1 ?_⟩
      refine iteF ⟨_, rfl, rfl, _, rfl, iteIntF n2 ?_⟩
      exact iteF q
end
/-! ### a callee, bundled -/
structure Cl (P : Program) (w : World) (K : PySem.W.Frag) (mg : Str → Option Value) (base : Heap) (k : Nat) (x : Str) (f : Addr) (fd : FuncData) (ps : List Str) (sp : Sp) : Prop where
  ok : FnOk P w K mg base CX0 k f fd ps sp
  mg : mg x = some (.ref f)
  kp : PySem.W.keepIn K (.ref f) = true
  b : L2.Binds K fd ps []
theorem Cl.mono {P : Program} {w : World} {K : PySem.W.Frag} {mg : Str → Option Value} {base : Heap} {j k : Nat} {x : Str} {f : Addr} {fd : FuncData} {ps : List Str} {sp : Sp} (C : Cl P w K mg base j x f fd ps sp) (h : j ≤ k) : Cl P w K mg base k x f fd ps sp := ⟨C.ok.mono h, C.mg, C.kp, C.b⟩
theorem pe_cl {X : Cx} {k : Nat} {x : Str} {f : Addr} {fd : FuncData} {ps : List Str} {sp : Sp} {p pos : Pos} {e : Expr} {es : List Expr} {t : TA} (C : Cl X.prog X.w X.K X.mg X.base k x f fd ps sp) (hr : Room k X.A) (ha : PA X (e :: es) t) (hg : Gl X x := by rfl)
    (hdb : (x == ("__debug__" : Str)) = false := by decide) (he : starEach (e :: es) X.env = (false, eval e X.env) :: starEach es X.env := by rfl) (hpl : (backTo pos (starEach es X.env)).any (·.1) = false := by rfl) :
    PE X (.Call (.Name x p) (e :: es) [] pos) (tCall sp [] E0 t) := pe_call C.ok hr hg C.mg C.kp C.b .nil pass0 ha hdb he hpl
/-- a function value called, the context's own words told -/
theorem pe_callW {X : Cx} {P : Program} {w : World} {K : PySem.W.Frag} {mg : Str → Option Value} {base : Heap} {i j k : Nat} {x : Str} {t : TA} {e : Expr} {es : List Expr} {p pos : Pos} (hX : X.prog = P ∧ X.w = w ∧ X.K = K ∧ X.mg = mg ∧ X.base = base) (hr : Room j X.A) (hk : k ≤ j) (ha : PA X (e :: es) t)
    (hN : X.N[i]? = some x := by rfl) (hv : Vis X.env.scope x := by first | exact Or.inl rfl | exact Or.inr (Or.inl rfl) | exact Or.inr (Or.inr rfl)) (hd : (x == ("__debug__" : Str)) = false := by decide) (hcd : (x == ("__classdict__" : Str)) = false := by decide)
    (he : starEach (e :: es) X.env = (false, eval e X.env) :: starEach es X.env := by rfl) (hpl : (backTo pos (starEach es X.env)).any (·.1) = false := by rfl) :
    PE X (.Call (.Name x p) (e :: es) [] pos) (tCallV P w K mg base k i t) := by
  obtain ⟨rfl, rfl, rfl, rfl, rfl⟩ := hX
  exact pe_callV hr hk ha hN hv hd hcd he hpl
/-! ### mapped -/
def mapTm (g : Nat → Tm → Tm) : Tm → Tm
  | .node k ps => .node k (mapI g 0 ps)
  | t => t
def bndT : Tm → Nat → Nat
  | .node k _, j => bnd k j
  | _, _ => 0
section
variable {P : Program} {w : World} {K : PySem.W.Frag} {mg : Str → Option Value} {base : Heap} {T : List (Addr × Str)}
/-- what mapped asks of what it is handed -/
def spChange (K : PySem.W.Frag) (T : List (Addr × Str)) (t : Tm) (d : Nat) (g : Nat → Tm → Tm) : List V → Hp → VK → Prop := fun vs H Q => ∃ v j p, vs = [v, .int ((d + bndT t j : Nat) : Int)] ∧ (partsT t)[j]? = some p ∧ Tr K H v p ∧ Tabs T H ∧
  ∀ u H', Gr T H H' → Tr K H' u (g j p) → Q u H'
def spMapped (P : Program) (w : World) (K : PySem.W.Frag) (mg : Str → Option Value) (base : Heap) (T : List (Addr × Str)) (kc : Nat) : Sp := fun vs H Q _ => ∃ v f t d g, vs = [v, .ref f, .int ((d : Nat) : Int)] ∧ Tr K H v t ∧ (partsT t).length ≤ 1000 ∧ Tabs T H ∧
  FVal P w K mg base kc f H (spChange K T t d g) ∧ ∀ v' H', Gr T H H' → Tr K H' v' (mapTm g t) → Q v' H'
theorem scMapped : FnScope ["node", "change", "depth", "parts", "k", "part"] ["node", "change", "depth"] (defScope sMapped) := ⟨rfl, rfl, rfl, by decide +kernel, rfl, by decide +kernel, by decide +kernel⟩
theorem gr_same {H H' : Hp} (e : Same H H') : Gr T H H' := Gr.of e
theorem ok_mapped {kc : Nat} {f fp fw fb : Addr} {fd fdp fdw fdb : FuncData} (F : Fun K "mapped" "mapped" sMapped f fd) (me : mg "enumerate" = none) (CP : Cl P w K mg base 1 "parts_of" fp fdp ["node"] (spParts K)) (CW : Cl P w K mg base 1 "with_parts" fw fdw ["node", "parts"] (spWith K))
    (CB : Cl P w K mg base 1 "binds" fb fdb ["node", "k"] (spBinds K)) (hk : 1 ≤ kc) : FnOk P w K mg base CX0 (kc + 1) f fd ["node", "change", "depth"] (spMapped P w K mg base T kc) := by
  refine F.ok scMapped (fun vs H Q E h => ?_) (fun cdv A outer s H vs Q E hr h => ?_)
  · obtain ⟨v, f, t, d, g, rfl, _⟩ := h; rfl
  obtain ⟨v, c, t, d, g, rfl, ht, hl, hT, hV, q⟩ := h
  have hr1 := hr.mono hk
  refine ⟨_, pss_cons (ps_set (i := 3) scMapped.nd rfl (.inl rfl) (pe_cl CP hr1 (pa_cons (pv 0) pa_nil)))
    (pss_cons (ps_if (pt_cmpR (op_eqE hr.units0) (pv 3) (pe_tup pa_nil) (nomark _)) (pss_one (ps_ret (pv 0))) pss_nil)
    (pss_one (ps_ret (pe_cl CW hr1 (pa_cons (pv 0) (pa_cons (pe_lc (own := [("k", 4), ("part", 5)]) (g := gTup K 2 (gCons (gName 4) (gCons (gName 5) gNil))) (tt := tYes) rfl scMapped.nd (pi_enumT rfl me (pa_cons (pv 3) pa_nil))
      (blkOk_by (N := ["node", "change", "depth", "parts", "k", "part"]) (sc := defScope sMapped) (by decide +kernel))
      (fun _ _ _ _ _ => pg_tup rfl (pgs_cons (pg_name (i := 4) scMapped.nd rfl (.inl rfl)) (pgs_cons (pg_name (i := 5) scMapped.nd rfl (.inl rfl)) pgs_nil))) (fun _ _ _ _ _ => pts_nil)
      (fun _ _ _ _ _ => pe_callW (P := P) (w := w) (K := K) (mg := mg) (base := base) (i := 1) ⟨rfl, rfl, rfl, rfl, rfl⟩ hr (Nat.le_refl kc) (pa_cons (pv 5) (pa_cons (pe_op op_add (pv 2) (pe_cl CB hr1 (pa_cons (pv 0) (pa_cons (pv 4) pa_nil)))) pa_nil)))) pa_nil)))))), ?_⟩
  refine ⟨_, rfl, v, t, rfl, ht, hl, fun p H1 ws g1 h1 h2 => ?_⟩
  have hTr1 := ht.ext (Te.of' g1)
  refine ⟨_, rfl, le_line (by simp), fun p0 hp0 => ⟨p, p0, ws, rfl, rfl, ?_, SqT.of upd_same, _, rfl, ?_⟩⟩
  · exact sqT_same (same_new hp0 _) h1
  have g2 := g1.trans (same_new hp0 (HO.tup []))
  refine ite2 (fun e => ?_) (fun e => ?_)
  · refine ⟨_, rfl, ?_⟩
    refine q v _ (gr_same g2) ?_
    have e' : ws = [] := by simpa using e
    have e2 : mapTm g t = t := by
      have z := h2.len
      rw [e'] at z
      cases t with
      | node k ps =>
        have hps : ps = [] := List.eq_nil_of_length_eq_zero z.symm
        subst hps
        rfl
      | _ => rfl
    rw [e2]
    exact ht.ext (Te.of' g2)
  · cases t with
    | var i => exact (e (by have z := h2.len; rw [List.eq_nil_of_length_eq_zero z]; rfl)).elim
    | atom u xs => exact (e (by have z := h2.len; rw [List.eq_nil_of_length_eq_zero z]; rfl)).elim
    | node k ps =>
      have hps : ps ≠ [] := fun z => by
        subst z
        exact e (by have z := h2.len; rw [List.eq_nil_of_length_eq_zero z]; rfl)
      have hn : ws.length = ps.length := h2.len
      generalize hH2 : upd H1 p0 (HO.tup []) = H2 at g2
      have s2 : Same H1 H2 := by rw [← hH2]; exact same_new hp0 _
      have hT2 : Tabs T H2 := hT.ext g2
      refine ⟨_, rfl, _, rfl, p, ws, rfl, sqT_same s2 h1, fun D hD => ?_⟩
      have hDH : H D = none := g2.free hD
      refine lc_it (walk_enumT (xs := ws)) (fun i H' => ∃ acc, H' D = some (.lst acc) ∧ Ts K H' acc ((mapI g 0 ps).take i) ∧ Gr T H2 H') ?_ ?_ ?_ ?_
      · exact ⟨[], upd_same, TpAll.nil, Gr.new hD⟩
      · rintro i H' _ ⟨acc, _, _, gr⟩
        exact sqT_ext gr.ext (sqT_same s2 h1)
      · rintro i x H3 H4 hi ⟨acc, hacc, hts, gr⟩ ⟨A1, x', y, rfl, hA1, rfl, ex, hy⟩
        cases ex
        have hpi : i < ps.length := by rw [← hn]; exact hi
        obtain ⟨y', hy', hty⟩ := h2.get (i := i) (t := ps[i]) (List.getElem?_eq_getElem hpi)
        have hy : ws[i]? = some y := hy
        rw [hy] at hy'
        cases hy'
        have gr1 : Gr T H2 (upd H3 A1 (.tup [.int (i : Nat), y])) := gr.trans (Gr.new hA1)
        have gH := (gr_same (T := T) g2).trans gr1
        refine ⟨A1, _, rfl, SqT.of upd_same, rfl, _, _, rfl, _, _, rfl, rfl, rfl, ?_⟩
        refine ⟨c, _, rfl, hV.ext gH.ext, _, rfl, _, rfl, _, rfl, _, rfl, v, k, ps, i, rfl, ht.ext gH.te, _, _, rfl, rfl, ExtN.refl _, y, i, ps[i], ?_, List.getElem?_eq_getElem hpi, hty.ext ((gr_same (T := T) s2).trans gr1).te, gH.tab hT, fun u H5 gr5 hu => ?_⟩
        · show [y, V.int ((d : Int) + ((bnd k i : Nat) : Int))] = [y, V.int ((d + bnd k i : Nat) : Int)]
          rw [Int.natCast_add]
        · have hD5 : H5 D = some (.lst acc) := gr5.ext _ _ (by rw [upd_ne (ne_of_none hacc hA1)]; exact hacc) (fun ps z => by cases z)
          have hl2 : acc.length ≤ 1000 := by
            rw [hts.len, List.length_take, mapI_len]
            have : ps.length ≤ 1000 := hl
            omega
          have gr6 : Gr T H2 (upd H5 D (.lst (acc ++ [u]))) := (gr1.trans gr5).mut hD ⟨_, hD5, (fun ps z => by cases z), lst_code⟩
          refine ⟨acc, hD5, small1000 hl2, acc ++ [u], upd_same, ?_, gr6⟩
          have e1 : (mapI g 0 ps).take (i + 1) = (mapI g 0 ps).take i ++ [g i ps[i]] := by
            rw [List.take_add_one, mapI_get, List.getElem?_eq_getElem hpi, Nat.zero_add]; rfl
          rw [e1]
          have t6 := Te.lst (o := HO.lst (acc ++ [u])) hD5
          exact (hts.ext (((Gr.new (T := T) hA1).trans gr5).te.trans t6)).snoc (hu.ext t6)
      · rintro H3 ⟨acc, hacc, hts, gr⟩
        have e1 : (mapI g 0 ps).take ws.length = mapI g 0 ps := List.take_of_length_le (by rw [mapI_len, hn]; exact Nat.le_refl _)
        rw [e1] at hts
        have gH := (gr_same (T := T) g2).trans gr
        refine ⟨v, D, acc, k, ps, mapI g 0 ps, rfl, ht.ext gH.te, SqL.of hacc, hts, ?_, ?_, fun v' H4 s4 h4 => ?_⟩
        · rw [hts.len, mapI_len]; exact hl
        · intro z
          have z2 := congrArg List.length z
          rw [mapI_len] at z2
          exact hps (List.eq_nil_of_length_eq_zero z2)
        · exact q v' H4 (gH.trans (gr_same s4)) h4
/-! ### the cells frozen and back -/
section
variable {cs : Cs} {H H' : Hp}
theorem te_er (C : Cold cs H) : Te H (er cs H) := fun a xs h => by
  have out : cs.lookup a = none := by
    cases q : cs.lookup a with
    | none => rfl
    | some o =>
      exfalso
      have z := C a o q
      rcases h with h | ⟨ob, h⟩
      · rw [z] at h; exact absurd (Option.some.inj h) (by unfold fzc; intro k; cases k)
      · rw [z] at h; exact absurd (Option.some.inj h) (by unfold fzc; intro k; cases k)
  rcases h with h | ⟨ob, h⟩
  · exact .inl (by rw [er_out out]; exact h)
  · exact .inr ⟨ob, by rw [er_out out]; exact h⟩
theorem fz_keep (n : ∀ c o, cs.lookup c = some o → H' c = none) {b : Addr} {u : HO} (e : H' b = some u) : fz cs H' b = some u := by
  cases q : cs.lookup b with
  | none => rw [fz_out q]; exact e
  | some o => rw [n b o q] at e; cases e
theorem er_keep (C : Cold cs H) {b : Addr} {u : HO} (e : H b = some u) (n : ∀ o, u ≠ fzc o) : er cs H b = some u := by
  rw [er_out (C.out e n)]; exact e
theorem te_fz (n : ∀ c o, cs.lookup c = some o → H' c = none) : Te H' (fz cs H') := fun a xs h => by
  rcases h with h | ⟨ob, h⟩
  · exact .inl (fz_keep n h)
  · exact .inr ⟨ob, fz_keep n h⟩
theorem tabs_er (C : Cold cs H) (t : Tabs T H) : Tabs T (er cs H) := fun p hp => by
  obtain ⟨ps, h1, h2, h3⟩ := t p hp
  refine ⟨ps, er_keep C h1 (fun o z => fzc_tbl ps z.symm), h2, fun pos cv hc => ?_⟩
  obtain ⟨c, e1, e2⟩ := h3 pos cv hc
  exact ⟨c, e1, er_keep C e2 codeO_fzc⟩
theorem tabs_fz (n : ∀ c o, cs.lookup c = some o → H' c = none) (t : Tabs T H') : Tabs T (fz cs H') := t.ext fun _ _ e => fz_keep n e
theorem gr_er_fz (C : Cold cs H) (g : Gr T (er cs H) H') (n : ∀ c o, cs.lookup c = some o → H' c = none) : Gr T H (fz cs H') := by
  refine ⟨fun b o e nt => ?_, fun t => tabs_fz n (g.tab (tabs_er C t))⟩
  cases q : cs.lookup b with
  | none => exact fz_keep n (g.ext b o (by rw [er_out q]; exact e) nt)
  | some ob =>
    rw [C b ob q] at e
    rw [fz_in q]
    exact e
theorem gr_fz_er (n : ∀ c o, cs.lookup c = some o → H c = none) (g : Gr T (fz cs H) H') (C : Cold cs H') : Gr T H (er cs H') := by
  refine ⟨fun b o e nt => ?_, fun t => tabs_er C (g.tab (tabs_fz n t))⟩
  have q : cs.lookup b = none := by
    cases q : cs.lookup b with
    | none => rfl
    | some ob => rw [n b ob q] at e; cases e
  rw [er_out q]
  exact g.ext b o (fz_keep n e) nt
theorem ext_fz (n : ∀ c o, cs.lookup c = some o → H c = none) : ExtN H (fz cs H) := fun _ _ e _ => fz_keep n e
end
/-! ### a def whose code object is known -/
structure FunT (K : PySem.W.Frag) (x qual : Str) (st : Stmt) (dvs : List V) (f c : Addr) (fd : FuncData) : Prop where
  ex : ∃ (oc : Value) (od : Option Addr) (dV kV doc pm : Value) (an : Option Addr) (ct : Value) (osl : Array (Option Value)),
    fd = PySem.W.fnOf x qual (defArgs st) (defBody st) (defScope st) dV kV doc pm an (.ref c) ct ∧ K.lookup f = some ⟨oc, od, .func fd, osl⟩ ∧ PySem.W.codeIn K (.ref c) qual = true
  kp : PySem.W.keepIn K (.ref f) = true
theorem FunT.ok {x qual : Str} {st : Stmt} {dvs : List V} {f c : Addr} {fd : FuncData} {N ps : List Str} {k : Nat} {sp : Sp} (F : FunT K x qual st dvs f c fd) (S : FnScope N ps (defScope st)) (len : ∀ vs H Q E, sp vs H Q E → vs.length = ps.length)
    (hbody : ∀ (A : Around) (outer : List Env) (s : Shared) (H : Hp) (vs : List V) (Q : VK) (E : XK), Room k (A.deeper (envOfC qual (defScope st) s.heap.objs.size f (.ref c))) → sp vs H Q E →
      ∃ t, PSs (cxOf CX0 P w K mg base N qual (defScope st) f (.ref c) A outer s H E).nox (defBody st) t ∧ t { nx := fun _ H' => Q .non H', rt := Q } (start N vs) H) : FnOk P w K mg base CX0 (k + 1) f fd ps sp := by
  obtain ⟨oc, od, dV, kV, doc, pm, an, ct, osl, rfl, lk, hcd⟩ := F.ex
  refine fn_of lk hcd S len fun A outer s H vs Q E hr hsp => ?_
  obtain ⟨t, h, q⟩ := hbody A outer s H vs Q E hr hsp
  exact ⟨t, h.nox, q⟩
/-- the table of the code object c tells lambdas called q -/
structure TabX (base : Heap) (mg : Str → Option Value) (T : List (Addr × Str)) (c Pt : Addr) (q : Str) : Prop where
  tb : TabB base mg c Pt
  mem : (Pt, q) ∈ T
  uni : ∀ p ∈ T, p.1 = Pt → p.2 = q
/-! ### lifted -/
def lamE : Stmt → Expr
  | .Return (some (.Call _ (_ :: l :: _) _ _)) _ => l
  | _ => .Tuple [] 0 ⟨0, 0, 0, 0⟩
def lamA : Expr → Arguments
  | .Lambda a _ _ _ => a
  | _ => { posonlyargs := [], args := [], vararg := none, kwonlyargs := [], kw_defaults := [], kwarg := none, defaults := [] }
def lamB : Expr → Expr
  | .Lambda _ b _ _ => b
  | e => e
def lamS : Expr → Scope
  | .Lambda _ _ s _ => s
  | _ => { kind := .function, names := [], isGenerator := false, isCoroutine := false }
abbrev lLift : Expr := lamE ((defBody sLifted).getD 4 (.Pass ⟨0, 0, 0, 0⟩))
def spLift (K : PySem.W.Frag) (T : List (Addr × Str)) (n : Nat) : Sp := fun vs H Q _ => ∃ v t b d, vs = [v, .int ((b : Nat) : Int), .int ((d : Nat) : Int)] ∧ Tr K H v t ∧ dle n t ∧ Tabs T H ∧
  ∀ v' H', Gr T H H' → Tr K H' v' (lift b d t) → Q v' H'
theorem scLifted : FnScope ["term", "by", "at", "tag"] ["term", "by", "at"] (defScope sLifted) := ⟨rfl, rfl, rfl, by decide +kernel, rfl, by decide +kernel, by decide +kernel⟩
theorem nsLift : NScope ["part", "under", "by"] ["part", "under"] ["by"] (lamS lLift) := nscope_by (by decide +kernel)
/-- the lambda's promise -/
def spLiftL (K : PySem.W.Frag) (T : List (Addr × Str)) (n b : Nat) : SpL := fun ws vs H Q => ∃ v p d, vs = [v, .int ((d : Nat) : Int)] ∧ ws = [some (.int ((b : Nat) : Int))] ∧ Tr K H v p ∧ dle n p ∧ Tabs T H ∧
  ∀ u H', Gr T H H' → Tr K H' u (lift b d p) → Q u H'
theorem lok_lift {n k b : Nat} {f g : Addr} {fd : FuncData} {F : NF} (CL : Cl P w K mg base k "lifted" f fd ["term", "by", "at"] (spLift K T n)) (hs : F.scope = lamS lLift) (hp : F.params = lamA lLift) : LOk P w K mg base (k + 1) g F (lamB lLift) ["part", "under"] ["by"] (spLiftL K T n b) := by
  obtain ⟨nm, q, pr, bd, sc, cl, c⟩ := F
  have hs : sc = lamS lLift := hs
  have hp : pr = lamA lLift := hp
  subst hs hp
  refine lok_of (N := ["part", "under", "by"]) nsLift (fun pm ctv us hl => match us, hl with | [_, _], _ => rfl) fun A outer s H vs ws Q hr _ _ h => ?_
  obtain ⟨v, p, d, rfl, rfl, ht, hd, hT, q⟩ := h
  refine ⟨_, pe_cl CL hr (pa_cons (pv 0) (pa_cons (pv 2) (pa_cons (pv 1) pa_nil))), ?_⟩
  exact ⟨_, rfl, _, rfl, _, rfl, v, p, b, d, rfl, ht, hd, hT, q⟩
theorem lift_leaf {n : Nat} {f c : Addr} {fd : FuncData} {k : Nat} (F : FunT K "lifted" "lifted" sLifted [.int 0] f c fd)
    (hb : ∀ (A : Around) (outer : List Env) (s : Shared) (H : Hp) (v : V) (kd : Kd) (ps : List Tm) (b d : Nat) (Q : VK) (E : XK), Room k (A.deeper (envOfC "lifted" (defScope sLifted) s.heap.objs.size f (.ref c))) → Tr K H v (.node kd ps) → dle n (.node kd ps) → Tabs T H → (∀ v' H', Gr T H H' → Tr K H' v' (lift b d (.node kd ps)) → Q v' H') →
      ∃ t, PSs (cxOf CX0 P w K mg base ["term", "by", "at", "tag"] "lifted" (defScope sLifted) f (.ref c) A outer s H E).nox (defBody sLifted) t ∧ t { nx := fun _ H' => Q .non H', rt := Q } (start ["term", "by", "at", "tag"] [v, .int (b : Nat), .int (d : Nat)]) H) :
    FnOk P w K mg base CX0 (k + 1) f fd ["term", "by", "at"] (spLift K T n) := by
  refine F.ok scLifted (fun vs H Q E h => ?_) (fun A outer s H vs Q E hr h => ?_)
  · obtain ⟨v, t, b, d, rfl, _⟩ := h; rfl
  obtain ⟨v, t, b, d, rfl, ht, hd, hT, q⟩ := h
  cases t with
  | node kd ps => exact hb A outer s H v kd ps b d Q E hr ht hd hT q
  | var i =>
    refine ⟨_, pss_cons (ps_set (i := 3) scLifted.nd rfl (.inl rfl) (pe_ix ix_tup (pv 0) pe_int (fun _ _ => rfl)))
      (pss_cons (ps_if (pt_cmpR op_eq (pv 3) pe_str (nomark _)) (pss_cons (ps_if (pt_cmpR op_lt (pe_ix ix_tup (pv 0) pe_int (fun _ _ => rfl)) (pv 2) (nomark _)) (pss_one (ps_ret (pv 0))) pss_nil)
        (pss_one (ps_ret (pe_tup (pa_cons pe_str (pa_cons (pe_op op_add (pe_ix ix_tup (pv 0) pe_int (fun _ _ => rfl)) (pv 1)) pa_nil)))))) pss_nil)
      pss_never), ?_⟩
    obtain ⟨a, rfl, hs⟩ := tr_var ht
    refine ⟨_, rfl, a, _, 0, _, rfl, rfl, hs, at0, ?_⟩
    refine ⟨_, rfl, rfl, _, rfl, iteEqT (by decide +kernel) ?_⟩
    refine ⟨_, rfl, a, _, 1, _, rfl, rfl, hs, at1, _, rfl, _, _, rfl, rfl, _, rfl, ?_⟩
    refine ite2 (fun e => ?_) (fun e => ?_)
    · have e := of_decide_eq_true e
      refine ⟨_, rfl, q _ _ Gr.refl ?_⟩
      rw [lift_var_lo (by omega)]
      exact ht
    · have e : ¬ ((i : Nat) : Int) < (d : Nat) := of_decide_eq_false (Bool.eq_false_iff.mpr e)
      refine ⟨_, rfl, a, _, 1, _, rfl, rfl, hs, at1, _, rfl, _, _, rfl, rfl, le_line (by simp), fun p hp => ?_⟩
      refine q _ _ (Gr.new hp) ?_
      rw [lift_var_hi (by omega)]
      have e1 : ((i : Nat) : Int) + (b : Nat) = ((i + b : Nat) : Int) := (Int.natCast_add i b).symm
      show Tr K (upd H p (HO.tup [V.str "var", V.int (((i : Nat) : Int) + (b : Nat))])) _ _
      rw [e1]
      exact tr_mk_var (SqT.of upd_same)
  | atom u xs =>
    refine ⟨_, pss_cons (ps_set (i := 3) scLifted.nd rfl (.inl rfl) (pe_ix ix_tup (pv 0) pe_int (fun _ _ => rfl)))
      (pss_cons (ps_if (pt_cmpR op_eq (pv 3) pe_str (nomark _)) pss_never pss_nil)
      (pss_cons (ps_if (PW.pt (pw_or (pt_cmpR op_eq (pv 1) pe_int (nomark _)) (pw_or (pt_cmpR op_eq (pv 3) pe_str (nomark _)) (pw_or1 (pt_cmpR op_eq (pv 3) pe_str (nomark _)))))) (pss_one (ps_ret (pv 0))) pss_nil)
      pss_never)), ?_⟩
    obtain ⟨a, ys, rfl, hs⟩ := tr_atom ht
    have fin : Q (.ref a) H := q _ _ Gr.refl (by unfold lift; rw [trav_atom]; exact ht)
    refine ⟨_, rfl, a, _, 0, _, rfl, rfl, hs, at0, ?_⟩
    cases u
    · refine ⟨_, rfl, rfl, _, rfl, iteEqF (by decide +kernel) ?_⟩
      refine ⟨_, rfl, rfl, _, rfl, ?_⟩
      refine ite2 (fun _ => ⟨_, rfl, fin⟩) (fun _ => ?_)
      refine ⟨_, rfl, rfl, _, rfl, iteEqF (by decide +kernel) ?_⟩
      exact ⟨_, rfl, rfl, _, rfl, iteEqT (by decide +kernel) ⟨_, rfl, fin⟩⟩
    · refine ⟨_, rfl, rfl, _, rfl, iteEqF (by decide +kernel) ?_⟩
      refine ⟨_, rfl, rfl, _, rfl, ?_⟩
      refine ite2 (fun _ => ⟨_, rfl, fin⟩) (fun _ => ?_)
      exact ⟨_, rfl, rfl, _, rfl, iteEqT (by decide +kernel) ⟨_, rfl, fin⟩⟩
theorem ok_lift {c Pt fm f : Addr} {fdm fd : FuncData} (F : FunT K "lifted" "lifted" sLifted [.int 0] f c fd) (mf : mg "lifted" = some (.ref f)) (bf : L2.Binds K fd ["term", "by", "at"] []) (TX : TabX base mg T c Pt ((envOfC "lifted" (defScope sLifted) 0 f (.ref c)).qual ++ "<lambda>"))
    (CM : ∀ kc, 1 ≤ kc → Cl P w K mg base (kc + 1) "mapped" fm fdm ["node", "change", "depth"] (spMapped P w K mg base T kc)) : ∀ n, Cl P w K mg base (3 * n + 1) "lifted" f fd ["term", "by", "at"] (spLift K T n)
  | 0 => ⟨lift_leaf F fun A outer s H v kd ps b d Q E hr ht hd hT q => hd.elim, mf, F.kp, bf⟩
  | n + 1 => by
    have ih := ok_lift F mf bf TX CM n
    refine ⟨?_, mf, F.kp, bf⟩
    refine lift_leaf (k := 3 * n + 3) F fun A outer s H v kd ps b d Q E hr ht hd hT q => ?_
    have hr1 := hr.mono (show 3 * n + 1 ≤ 3 * n + 3 by omega)
    by_cases ka : kd = .app
    · subst ka
      refine ⟨_, pss_cons (ps_set (i := 3) scLifted.nd rfl (.inl rfl) (pe_ix ix_tup (pv 0) pe_int (fun _ _ => rfl)))
        (pss_cons (ps_if (pt_cmpR op_eq (pv 3) pe_str (nomark _)) pss_never pss_nil)
        (pss_cons (ps_if (PW.pt (pw_or (pt_cmpR op_eq (pv 1) pe_int (nomark _)) (pw_or (pt_cmpR op_eq (pv 3) pe_str (nomark _)) (pw_or1 (pt_cmpR op_eq (pv 3) pe_str (nomark _)))))) (pss_one (ps_ret (pv 0))) pss_nil)
        (pss_cons (ps_if (pt_cmpR op_eq (pv 3) pe_str (nomark _)) (pss_one (ps_ret (pe_tup (pa_cons pe_str
          (pa_cons (pe_cl ih hr1 (pa_cons (pe_ix ix_tup (pv 0) pe_int (fun _ _ => rfl)) (pa_cons (pv 1) (pa_cons (pv 2) pa_nil))))
          (pa_cons (pe_cl ih hr1 (pa_cons (pe_ix ix_tup (pv 0) pe_int (fun _ _ => rfl)) (pa_cons (pv 1) (pa_cons (pv 2) pa_nil)))) pa_nil)))))) pss_nil)
        pss_never))), ?_⟩
      obtain ⟨a, vs, rfl, h1, h2⟩ := tr_node (by intro n; simp) ht
      obtain ⟨har, hdp⟩ := hd
      obtain ⟨p1, p2, rfl⟩ : ∃ p1 p2, ps = [p1, p2] := match ps, har with | [p1, p2], _ => ⟨p1, p2, rfl⟩
      obtain ⟨v1, v2, rfl, t1, t2⟩ : ∃ v1 v2, vs = [v1, v2] ∧ Tr K H v1 p1 ∧ Tr K H v2 p2 := by
        cases h2 with
        | cons x1 x2 =>
          cases x2 with
          | cons y1 y2 => cases y2; exact ⟨_, _, rfl, x1, y1⟩
      refine ⟨_, rfl, a, _, 0, _, rfl, rfl, h1, at0, ?_⟩
      refine ⟨_, rfl, rfl, _, rfl, iteEqF (by decide +kernel) ?_⟩
      refine ⟨_, rfl, rfl, _, rfl, ?_⟩
      refine ite2 (fun e => ?_) (fun e => ?_)
      · have e := V.int.inj (of_decide_eq_true e)
        have e0 : b = 0 := by omega
        subst e0
        refine ⟨_, rfl, q _ _ Gr.refl ?_⟩
        rw [lift_zero]
        exact ht
      · refine ⟨_, rfl, rfl, _, rfl, iteEqF (by decide +kernel) ?_⟩
        refine ⟨_, rfl, rfl, _, rfl, iteEqF (by decide +kernel) ?_⟩
        refine ⟨_, rfl, rfl, _, rfl, iteEqT (by decide +kernel) ?_⟩
        refine ⟨_, rfl, a, _, 1, _, rfl, rfl, h1, at1, _, rfl, _, rfl, v1, p1, b, d, rfl, t1, hdp p1 (by simp), hT, fun u1 H1 g1 r1 => ?_⟩
        refine ⟨_, rfl, a, _, 2, _, rfl, rfl, g1.te.seq h1, at2, _, rfl, _, rfl, v2, p2, b, d, rfl, t2.ext g1.te, hdp p2 (by simp), g1.tab hT, fun u2 H2 g2 r2 => ?_⟩
        refine ⟨le_line (by simp), fun p hp => ?_⟩
        refine q _ _ ((g1.trans g2).trans (Gr.new hp)) ?_
        have e1 : lift b d (.node .app [p1, p2]) = .node .app [lift b d p1, lift b d p2] := by
          unfold lift; rw [trav_node]; rfl
        rw [e1]
        have gn := (Gr.new (T := T) (o := HO.tup [V.str "app", u1, u2]) hp).te
        exact tr_mk_node (by intro n; simp) (SqT.of upd_same) (.cons (r1.ext (g2.te.trans gn)) (.cons (r2.ext gn) .nil))
    · have hdp := hd.2
      have hl : (partsT (.node kd ps)).length ≤ 1000 := Nat.le_trans hd.1.le (by decide)
      have CMx := CM (3 * n + 2) (by omega)
      refine ⟨_, pss_cons (ps_set (i := 3) scLifted.nd rfl (.inl rfl) (pe_ix ix_tup (pv 0) pe_int (fun _ _ => rfl)))
        (pss_cons (ps_if (pt_cmpR op_eq (pv 3) pe_str (nomark _)) pss_never pss_nil)
        (pss_cons (ps_if (PW.pt (pw_or (pt_cmpR op_eq (pv 1) pe_int (nomark _)) (pw_or (pt_cmpR op_eq (pv 3) pe_str (nomark _)) (pw_or1 (pt_cmpR op_eq (pv 3) pe_str (nomark _)))))) (pss_one (ps_ret (pv 0))) pss_nil)
        (pss_cons (ps_if (pt_cmpR op_eq (pv 3) pe_str (nomark _)) pss_never pss_nil)
        (pss_one (ps_ret (pe_callZ (js := [1]) (fr := ["by"]) (scope := lamS lLift) CMx.ok hr rfl CMx.mg CMx.kp CMx.b (ndef_free (sc := defScope sLifted) (fr := ["by"]) (by decide +kernel)) (ndef_fr (sc := defScope sLifted) (by decide +kernel)) rfl (fun _ => rfl)
          (pa_cons (pv 0) (pa_cons (pe_lamV (params := lamA lLift) (body := lamB lLift) (scope := lamS lLift) TX.tb rfl TX.mem TX.uni rfl (ndef_free (sc := defScope sLifted) (fr := ["by"]) (by decide +kernel))) (pa_cons (pv 2) pa_nil))))))))), ?_⟩
      obtain ⟨a, ys, rfl, h1⟩ := tr_tag ht
      have go : ∀ tag : Str, Kd.tag kd = tag → SqT K H a (.str tag :: ys) := fun tag e => by subst e; exact h1
      have last : ∀ σ : L2.St, σ[0]? = some (some (.ref a)) → σ[1]? = some (some (.int (b : Nat))) → σ[2]? = some (some (.int (d : Nat))) →
          ∀ cl : Addr → NF, (∀ c', (cl c').scope = lamS lLift) → (∀ c', (cl c').params = lamA lLift) → (∀ c' , (cl c').cl = (cl 0).cl) → (∀ c', (cl c').c = c') →
          tCallZ (cl 0).cl ["by"] [1] (spMapped P w K mg base T (3 * n + 2)) (tCons (tVar 0) (tCons (tLamV T cl (lamB lLift)) (tCons (tVar 2) tNil))) σ H Q := by
        intro σ s0 s1 s2 cl e1 e2 e3 e4
        refine ⟨_, s0, hT, fun f' c' H1 x1 n1 T1 f0 hf hc => ⟨_, s2, fun cs CF hn => ?_⟩⟩
        have g1 : Gr T H H1 := ⟨x1, fun _ => T1⟩
        have gz : ExtN H1 (fz cs H1) := ext_fz hn
        have trz : Tr K (fz cs H1) (.ref a) (.node kd ps) := ht.ext (g1.te.trans (Te.of gz))
        refine ⟨_, f', .node kd ps, d, fun j p => lift b (d + bnd kd j) p, rfl, trz, hl, tabs_fz hn T1, ?_, fun v' H' gr hv C => ?_⟩
        · refine fval_of (lok_lift (b := b) (F := cl c') ih (e1 c') (e2 c')) (fz_keep hn hf) (by rw [e4]; exact fz_keep hn hc) cold_fz (by rw [e3]; exact CF) fun vs H2 Q2 x2 hq => ?_
          obtain ⟨v, j, p, rfl, hp, hv, hT2, q2⟩ := hq
          have C2 : Cold cs H2 := Cold.ext cold_fz x2
          refine ⟨rfl, v, p, d + bnd kd j, rfl, ?_, hv.ext (te_er C2), hdp p (List.mem_of_getElem? hp), tabs_er C2 hT2, fun u H3 g3 r3 n3 => ?_⟩
          · show [slotAt σ 1] = _
            rw [slotAt_of s1]
          · exact q2 u _ (gr_er_fz C2 g3 n3) (r3.ext (te_fz n3))
        · have e5 : mapTm (fun j p => lift b (d + bnd kd j) p) (.node kd ps) = lift b d (.node kd ps) := by
            unfold lift
            rw [trav_node]
            rfl
          rw [e5] at hv
          exact q v' _ (g1.trans (gr_fz_er hn gr C)) (hv.ext (te_er C))
      cases kd with
      | app => exact (ka rfl).elim
      | pi =>
        refine ⟨_, rfl, a, _, 0, _, rfl, rfl, go "pi" rfl, at0, ?_⟩
        refine ⟨_, rfl, rfl, _, rfl, iteEqF (by decide +kernel) ?_⟩
        refine ⟨_, rfl, rfl, _, rfl, ?_⟩
        refine ite2 (fun e => ?_) (fun e => ?_)
        · have e := V.int.inj (of_decide_eq_true e)
          have e0 : b = 0 := by omega
          subst e0
          refine ⟨_, rfl, q _ _ Gr.refl ?_⟩
          rw [lift_zero]
          exact ht
        · iterate 3 (refine ⟨_, rfl, rfl, _, rfl, iteEqF (by decide +kernel) ?_⟩)
          exact last _ rfl rfl rfl _ (fun _ => rfl) (fun _ => rfl) (fun _ => rfl) (fun _ => rfl)
      | fn =>
        refine ⟨_, rfl, a, _, 0, _, rfl, rfl, go "fun" rfl, at0, ?_⟩
        refine ⟨_, rfl, rfl, _, rfl, iteEqF (by decide +kernel) ?_⟩
        refine ⟨_, rfl, rfl, _, rfl, ?_⟩
        refine ite2 (fun e => ?_) (fun e => ?_)
        · have e := V.int.inj (of_decide_eq_true e)
          have e0 : b = 0 := by omega
          subst e0
          refine ⟨_, rfl, q _ _ Gr.refl ?_⟩
          rw [lift_zero]
          exact ht
        · iterate 3 (refine ⟨_, rfl, rfl, _, rfl, iteEqF (by decide +kernel) ?_⟩)
          exact last _ rfl rfl rfl _ (fun _ => rfl) (fun _ => rfl) (fun _ => rfl) (fun _ => rfl)
      | lt =>
        refine ⟨_, rfl, a, _, 0, _, rfl, rfl, go "let" rfl, at0, ?_⟩
        refine ⟨_, rfl, rfl, _, rfl, iteEqF (by decide +kernel) ?_⟩
        refine ⟨_, rfl, rfl, _, rfl, ?_⟩
        refine ite2 (fun e => ?_) (fun e => ?_)
        · have e := V.int.inj (of_decide_eq_true e)
          have e0 : b = 0 := by omega
          subst e0
          refine ⟨_, rfl, q _ _ Gr.refl ?_⟩
          rw [lift_zero]
          exact ht
        · iterate 3 (refine ⟨_, rfl, rfl, _, rfl, iteEqF (by decide +kernel) ?_⟩)
          exact last _ rfl rfl rfl _ (fun _ => rfl) (fun _ => rfl) (fun _ => rfl) (fun _ => rfl)
      | hole m =>
        refine ⟨_, rfl, a, _, 0, _, rfl, rfl, go "hole" rfl, at0, ?_⟩
        refine ⟨_, rfl, rfl, _, rfl, iteEqF (by decide +kernel) ?_⟩
        refine ⟨_, rfl, rfl, _, rfl, ?_⟩
        refine ite2 (fun e => ?_) (fun e => ?_)
        · have e := V.int.inj (of_decide_eq_true e)
          have e0 : b = 0 := by omega
          subst e0
          refine ⟨_, rfl, q _ _ Gr.refl ?_⟩
          rw [lift_zero]
          exact ht
        · iterate 3 (refine ⟨_, rfl, rfl, _, rfl, iteEqF (by decide +kernel) ?_⟩)
          exact last _ rfl rfl rfl _ (fun _ => rfl) (fun _ => rfl) (fun _ => rfl) (fun _ => rfl)
/-! ### what may be read stays -/
def plainO : HO → Bool
  | .lst _ => true
  | .tup _ => true
  | .dK _ => true
  | _ => false
def Re (H H' : Hp) : Prop := ∀ a u, plainO u = true → Rd H a u → Rd H' a u
section
variable {H H' : Hp} {cs : Cs}
theorem Re.of (e : ExtN H H') : Re H H' := fun a u p h => rd_ext e h fun ps z => by subst z; cases p
theorem Re.trans {H1 : Hp} (a : Re H H1) (b : Re H1 H') : Re H H' := fun x u p h => b x u p (a x u p h)
theorem Re.te (e : Re H H') : Te H H' := fun a xs h => e a _ rfl h
theorem rd_out (C : Cold cs H) {a : Addr} {u : HO} (p : plainO u = true) (h : Rd H a u) : cs.lookup a = none := by
  cases q : cs.lookup a with
  | none => rfl
  | some o =>
    exfalso
    have z := C a o q
    rcases h with h | ⟨ob, h⟩
    · rw [z] at h
      have e := Option.some.inj h
      subst e
      cases p
    · rw [z] at h
      have e := Option.some.inj h
      unfold fzc at e
      injection e with _ e
      subst e
      cases p
theorem re_er (C : Cold cs H) : Re H (er cs H) := fun a u p h => by
  have q := rd_out C p h
  rcases h with h | ⟨ob, h⟩
  · exact .inl (by rw [er_out q]; exact h)
  · exact .inr ⟨ob, by rw [er_out q]; exact h⟩
theorem re_fz (n : ∀ c o, cs.lookup c = some o → H' c = none) : Re H' (fz cs H') := fun a u p h => by
  rcases h with h | ⟨ob, h⟩
  · exact .inl (fz_keep n h)
  · exact .inr ⟨ob, fz_keep n h⟩
/-- a list or a tuple that is read -/
def Sq (K : PySem.W.Frag) (H : Hp) (a : Addr) (xs : List V) : Prop := SqL K H a xs ∨ SqT K H a xs
theorem Re.sq (e : Re H H') {a : Addr} {xs : List V} (h : Sq K H a xs) : Sq K H' a xs := by
  rcases h with (h | h) | (h | h)
  · exact .inl (.inl (e _ _ rfl h))
  · exact .inl (.inr h)
  · exact .inr (.inl (e _ _ rfl h))
  · exact .inr (.inr h)
theorem Gr.re (g : Gr T H H') : Re H H' := Re.of g.ext
end
/-! ### filled_under, filled -/
abbrev lUnder : Expr := lamE ((defBody sUnder).getD 4 (.Pass ⟨0, 0, 0, 0⟩))
/-- the parts to be put in -/
structure Pq (K : PySem.W.Frag) (H : Hp) (l : Addr) (ws : List V) (qs : List Tm) (m : Nat) : Prop where
  sq : Sq K H l ws
  ts : Ts K H ws qs
  dl : ∀ q ∈ qs, dle m q
  le : ws.length ≤ 1000
theorem Pq.re {H H' : Hp} {l : Addr} {ws : List V} {qs : List Tm} {m : Nat} (p : Pq K H l ws qs m) (e : Re H H') : Pq K H' l ws qs m := ⟨e.sq p.sq, p.ts.ext e.te, p.dl, p.le⟩
def spUnder (K : PySem.W.Frag) (T : List (Addr × Str)) (n m : Nat) : Sp := fun vs H Q _ => ∃ v l t ws qs d, vs = [v, .ref l, .int ((d : Nat) : Int)] ∧ Tr K H v t ∧ dle n t ∧ Pq K H l ws qs m ∧ Tabs T H ∧
  ∀ v' H', Gr T H H' → Tr K H' v' (putU qs d t) → Q v' H'
theorem scUnder : FnScope ["term", "parts", "under", "tag", "spot"] ["term", "parts", "under"] (defScope sUnder) := ⟨rfl, rfl, rfl, by decide +kernel, rfl, by decide +kernel, by decide +kernel⟩
theorem nsUnder : NScope ["part", "inner", "parts"] ["part", "inner"] ["parts"] (lamS lUnder) := nscope_by (by decide +kernel)
def spUnderL (K : PySem.W.Frag) (T : List (Addr × Str)) (n m : Nat) : SpL := fun ws vs H Q => ∃ v p d l xs qs, vs = [v, .int ((d : Nat) : Int)] ∧ ws = [some (.ref l)] ∧ Tr K H v p ∧ dle n p ∧ Pq K H l xs qs m ∧ Tabs T H ∧
  ∀ u H', Gr T H H' → Tr K H' u (putU qs d p) → Q u H'
theorem lok_under {n m k : Nat} {f g : Addr} {fd : FuncData} {F : NF} (CL : Cl P w K mg base k "filled_under" f fd ["term", "parts", "under"] (spUnder K T n m)) (hs : F.scope = lamS lUnder) (hp : F.params = lamA lUnder) : LOk P w K mg base (k + 1) g F (lamB lUnder) ["part", "inner"] ["parts"] (spUnderL K T n m) := by
  obtain ⟨nm, q, pr, bd, sc, cl, c⟩ := F
  have hs : sc = lamS lUnder := hs
  have hp : pr = lamA lUnder := hp
  subst hs hp
  refine lok_of (N := ["part", "inner", "parts"]) nsUnder (fun pm ctv us hl => match us, hl with | [_, _], _ => rfl) fun A outer s H vs ws Q hr _ _ h => ?_
  obtain ⟨v, p, d, l, xs, qs, rfl, rfl, ht, hd, hP, hT, q⟩ := h
  refine ⟨_, pe_cl CL hr (pa_cons (pv 0) (pa_cons (pv 2) (pa_cons (pv 1) pa_nil))), ?_⟩
  exact ⟨_, rfl, _, rfl, _, rfl, v, l, p, xs, qs, d, rfl, ht, hd, hP, hT, q⟩
theorem under_leaf {n m : Nat} {f c fl : Addr} {fd fdl : FuncData} {k : Nat} (ml : mg "len" = none) (CL : Cl P w K mg base (3 * m + 1) "lifted" fl fdl ["term", "by", "at"] (spLift K T m)) (bL : ∃ ds, Vals [.int 0] ds ∧ L2.Binds K fdl ["term", "by", "at"] ds) (hk : 3 * m + 1 ≤ k)
    (F : FunT K "filled_under" "filled_under" sUnder [] f c fd)
    (hb : ∀ (A : Around) (outer : List Env) (s : Shared) (H : Hp) (v : V) (kd : Kd) (ps : List Tm) (l : Addr) (ws : List V) (qs : List Tm) (d : Nat) (Q : VK) (E : XK), Room k (A.deeper (envOfC "filled_under" (defScope sUnder) s.heap.objs.size f (.ref c))) → Tr K H v (.node kd ps) → dle n (.node kd ps) → Pq K H l ws qs m → Tabs T H → (∀ v' H', Gr T H H' → Tr K H' v' (putU qs d (.node kd ps)) → Q v' H') →
      ∃ t, PSs (cxOf CX0 P w K mg base ["term", "parts", "under", "tag", "spot"] "filled_under" (defScope sUnder) f (.ref c) A outer s H E).nox (defBody sUnder) t ∧ t { nx := fun _ H' => Q .non H', rt := Q } (start ["term", "parts", "under", "tag", "spot"] [v, .ref l, .int (d : Nat)]) H) :
    FnOk P w K mg base CX0 (k + 1) f fd ["term", "parts", "under"] (spUnder K T n m) := by
  refine F.ok scUnder (fun vs H Q E h => ?_) (fun A outer s H vs Q E hr h => ?_)
  · obtain ⟨v, l, t, ws, qs, d, rfl, _⟩ := h; rfl
  obtain ⟨v, l, t, ws, qs, d, rfl, ht, hd, hP, hT, q⟩ := h
  obtain ⟨ds, vd, bd⟩ := bL
  have hlen : ws.length = qs.length := hP.ts.len
  cases t with
  | node kd ps => exact hb A outer s H v kd ps l ws qs d Q E hr ht hd hP hT q
  | var i =>
    refine ⟨_, pss_cons (ps_set (i := 3) scUnder.nd rfl (.inl rfl) (pe_ix ix_tup (pv 0) pe_int (fun _ _ => rfl)))
      (pss_cons (ps_if (pt_cmpR op_eq (pv 3) pe_str (nomark _)) (pss_cons (ps_if (pt_cmpR op_lt (pe_ix ix_tup (pv 0) pe_int (fun _ _ => rfl)) (pv 2) (nomark _)) (pss_one (ps_ret (pv 0))) pss_nil)
        (pss_cons (ps_set (i := 4) scUnder.nd rfl (.inl rfl) (pe_op op_sub (pe_op op_sub (pe_callB call_len_seq rfl ml PySem.boot_len (pa_cons (pv 1) pa_nil)) pe_int) (pe_op op_sub (pe_ix ix_tup (pv 0) pe_int (fun _ _ => rfl)) (pv 2))))
        (pss_cons (ps_if (pt_cmpR op_lt (pv 4) pe_int (nomark _)) (pss_one (ps_ret (pe_tup (pa_cons pe_str (pa_cons (pe_op op_sub (pe_ix ix_tup (pv 0) pe_int (fun _ _ => rfl)) (pe_callB call_len_seq rfl ml PySem.boot_len (pa_cons (pv 1) pa_nil))) pa_nil))))) pss_nil)
        (pss_one (ps_ret (pe_call CL.ok (hr.mono hk) rfl CL.mg CL.kp bd vd pass0 (pa_cons (pe_ix ix_seq (pv 1) (pv 4) (fun _ _ => rfl)) (pa_cons (pv 2) pa_nil)))))))) pss_nil)
      pss_never), ?_⟩
    obtain ⟨a, rfl, hs⟩ := tr_var ht
    refine ⟨_, rfl, a, _, 0, _, rfl, rfl, hs, at0, ?_⟩
    refine ⟨_, rfl, rfl, _, rfl, iteEqT (by decide +kernel) ?_⟩
    refine ⟨_, rfl, a, _, 1, _, rfl, rfl, hs, at1, _, rfl, _, _, rfl, rfl, _, rfl, ?_⟩
    refine ite2 (fun e => ?_) (fun e => ?_)
    · have e := of_decide_eq_true e
      refine ⟨_, rfl, q _ _ Gr.refl ?_⟩
      unfold putU
      rw [trav_var, putG_lo (by omega)]
      exact ht
    · have e : ¬ ((i : Nat) : Int) < (d : Nat) := of_decide_eq_false (Bool.eq_false_iff.mpr e)
      refine ⟨_, rfl, l, ws, rfl, hP.sq, _, _, rfl, rfl, _, rfl, a, _, 1, _, rfl, rfl, hs, at1, _, rfl, _, _, rfl, rfl, _, _, rfl, rfl, ?_⟩
      refine ⟨_, rfl, _, _, rfl, rfl, _, rfl, ?_⟩
      refine ite2 (fun e2 => ?_) (fun e2 => ?_)
      · have e2 := of_decide_eq_true e2
        refine ⟨_, rfl, a, _, 1, _, rfl, rfl, hs, at1, _, rfl, l, ws, rfl, hP.sq, _, _, rfl, rfl, le_line (by simp), fun p hp => ?_⟩
        refine q _ _ (Gr.new hp) ?_
        unfold putU
        rw [trav_var, putG_out (by omega) (by omega), ← hlen]
        have e1 : ((i : Nat) : Int) - ((ws.length : Nat) : Int) = ((i - ws.length : Nat) : Int) := by omega
        show Tr K (upd H p (HO.tup [V.str "var", V.int (((i : Nat) : Int) - ((ws.length : Nat) : Int))])) _ _
        rw [e1]
        exact tr_mk_var (SqT.of upd_same)
      · have e2 : ¬ _ := of_decide_eq_false (Bool.eq_false_iff.mpr e2)
        have hlt : qs.length - 1 - (i - d) < qs.length := by omega
        have e3 : ((ws.length : Nat) : Int) - 1 - (((i : Nat) : Int) - ((d : Nat) : Int)) = ((qs.length - 1 - (i - d) : Nat) : Int) := by omega
        obtain ⟨x, hx, htx⟩ := hP.ts.get (i := qs.length - 1 - (i - d)) (List.getElem?_eq_getElem hlt)
        have hat : atI ws (((ws.length : Nat) : Int) - 1 - (((i : Nat) : Int) - ((d : Nat) : Int))) = some x := by rw [e3]; exact atI_nat hx
        have fin : spLift K T m ([x, .int ((d : Nat) : Int)] ++ [V.int 0]) H Q E0 := by
          refine ⟨x, qs[qs.length - 1 - (i - d)], d, 0, rfl, htx, hP.dl _ (List.getElem_mem hlt), hT, fun v' H' g r => q v' H' g ?_⟩
          unfold putU
          rw [trav_var, putG_in (by omega) (by omega), List.getD, List.getElem?_eq_getElem hlt]
          exact r
        rcases hP.sq with hq | hq
        · exact ⟨_, rfl, _, rfl, .inl ⟨l, ws, _, x, rfl, rfl, hq, hat, _, rfl, fin⟩⟩
        · exact ⟨_, rfl, _, rfl, .inr (.inl ⟨l, ws, _, x, rfl, rfl, hq, hat, _, rfl, fin⟩)⟩
  | atom u xs =>
    refine ⟨_, pss_cons (ps_set (i := 3) scUnder.nd rfl (.inl rfl) (pe_ix ix_tup (pv 0) pe_int (fun _ _ => rfl)))
      (pss_cons (ps_if (pt_cmpR op_eq (pv 3) pe_str (nomark _)) pss_never pss_nil)
      (pss_cons (ps_if (PW.pt (pw_or (pt_cmpR op_eq (pv 3) pe_str (nomark _)) (pw_or1 (pt_cmpR op_eq (pv 3) pe_str (nomark _))))) (pss_one (ps_ret (pv 0))) pss_nil)
      pss_never)), ?_⟩
    obtain ⟨a, ys, rfl, hs⟩ := tr_atom ht
    have fin : Q (.ref a) H := q _ _ Gr.refl (by unfold putU; rw [trav_atom]; exact ht)
    refine ⟨_, rfl, a, _, 0, _, rfl, rfl, hs, at0, ?_⟩
    cases u
    · refine ⟨_, rfl, rfl, _, rfl, iteEqF (by decide +kernel) ?_⟩
      refine ⟨_, rfl, rfl, _, rfl, iteEqF (by decide +kernel) ?_⟩
      exact ⟨_, rfl, rfl, _, rfl, iteEqT (by decide +kernel) ⟨_, rfl, fin⟩⟩
    · refine ⟨_, rfl, rfl, _, rfl, iteEqF (by decide +kernel) ?_⟩
      exact ⟨_, rfl, rfl, _, rfl, iteEqT (by decide +kernel) ⟨_, rfl, fin⟩⟩
theorem ok_under {m : Nat} {c Pt fm fl f : Addr} {fdm fdl fd : FuncData} (F : FunT K "filled_under" "filled_under" sUnder [] f c fd) (mf : mg "filled_under" = some (.ref f)) (bf : L2.Binds K fd ["term", "parts", "under"] []) (ml : mg "len" = none)
    (CL : Cl P w K mg base (3 * m + 1) "lifted" fl fdl ["term", "by", "at"] (spLift K T m)) (bL : ∃ ds, Vals [.int 0] ds ∧ L2.Binds K fdl ["term", "by", "at"] ds) (TX : TabX base mg T c Pt ((envOfC "filled_under" (defScope sUnder) 0 f (.ref c)).qual ++ "<lambda>"))
    (CM : ∀ kc, 1 ≤ kc → Cl P w K mg base (kc + 1) "mapped" fm fdm ["node", "change", "depth"] (spMapped P w K mg base T kc)) : ∀ n, Cl P w K mg base (3 * m + 3 * n + 2) "filled_under" f fd ["term", "parts", "under"] (spUnder K T n m)
  | 0 => ⟨under_leaf ml CL bL (Nat.le_refl _) F fun A outer s H v kd ps l ws qs d Q E hr ht hd hP hT q => hd.elim, mf, F.kp, bf⟩
  | n + 1 => by
    have ih := ok_under F mf bf ml CL bL TX CM n
    refine ⟨?_, mf, F.kp, bf⟩
    refine under_leaf (k := 3 * m + 3 * n + 4) ml CL bL (by omega) F fun A outer s H v kd ps l ws qs d Q E hr ht hd hP hT q => ?_
    have hr1 := hr.mono (show 3 * m + 3 * n + 2 ≤ 3 * m + 3 * n + 4 by omega)
    by_cases ka : kd = .app
    · subst ka
      refine ⟨_, pss_cons (ps_set (i := 3) scUnder.nd rfl (.inl rfl) (pe_ix ix_tup (pv 0) pe_int (fun _ _ => rfl)))
        (pss_cons (ps_if (pt_cmpR op_eq (pv 3) pe_str (nomark _)) pss_never pss_nil)
        (pss_cons (ps_if (PW.pt (pw_or (pt_cmpR op_eq (pv 3) pe_str (nomark _)) (pw_or1 (pt_cmpR op_eq (pv 3) pe_str (nomark _))))) (pss_one (ps_ret (pv 0))) pss_nil)
        (pss_cons (ps_if (pt_cmpR op_eq (pv 3) pe_str (nomark _)) (pss_one (ps_ret (pe_tup (pa_cons pe_str
          (pa_cons (pe_cl ih hr1 (pa_cons (pe_ix ix_tup (pv 0) pe_int (fun _ _ => rfl)) (pa_cons (pv 1) (pa_cons (pv 2) pa_nil))))
          (pa_cons (pe_cl ih hr1 (pa_cons (pe_ix ix_tup (pv 0) pe_int (fun _ _ => rfl)) (pa_cons (pv 1) (pa_cons (pv 2) pa_nil)))) pa_nil)))))) pss_nil)
        pss_never))), ?_⟩
      obtain ⟨a, vs, rfl, h1, h2⟩ := tr_node (by intro n; simp) ht
      obtain ⟨har, hdp⟩ := hd
      obtain ⟨p1, p2, rfl⟩ : ∃ p1 p2, ps = [p1, p2] := match ps, har with | [p1, p2], _ => ⟨p1, p2, rfl⟩
      obtain ⟨v1, v2, rfl, t1, t2⟩ : ∃ v1 v2, vs = [v1, v2] ∧ Tr K H v1 p1 ∧ Tr K H v2 p2 := by
        cases h2 with
        | cons x1 x2 =>
          cases x2 with
          | cons y1 y2 => cases y2; exact ⟨_, _, rfl, x1, y1⟩
      refine ⟨_, rfl, a, _, 0, _, rfl, rfl, h1, at0, ?_⟩
      iterate 3 (refine ⟨_, rfl, rfl, _, rfl, iteEqF (by decide +kernel) ?_⟩)
      refine ⟨_, rfl, rfl, _, rfl, iteEqT (by decide +kernel) ?_⟩
      refine ⟨_, rfl, a, _, 1, _, rfl, rfl, h1, at1, _, rfl, _, rfl, v1, l, p1, ws, qs, d, rfl, t1, hdp p1 (by simp), hP, hT, fun u1 H1 g1 r1 => ?_⟩
      refine ⟨_, rfl, a, _, 2, _, rfl, rfl, g1.te.seq h1, at2, _, rfl, _, rfl, v2, l, p2, ws, qs, d, rfl, t2.ext g1.te, hdp p2 (by simp), hP.re (Re.of g1.ext), g1.tab hT, fun u2 H2 g2 r2 => ?_⟩
      refine ⟨le_line (by simp), fun p hp => ?_⟩
      refine q _ _ ((g1.trans g2).trans (Gr.new hp)) ?_
      have e1 : putU qs d (.node .app [p1, p2]) = .node .app [putU qs d p1, putU qs d p2] := by
        unfold putU; rw [trav_node]; rfl
      rw [e1]
      have gn := (Gr.new (T := T) (o := HO.tup [V.str "app", u1, u2]) hp).te
      exact tr_mk_node (by intro n; simp) (SqT.of upd_same) (.cons (r1.ext (g2.te.trans gn)) (.cons (r2.ext gn) .nil))
    · have hdp := hd.2
      have hl : (partsT (.node kd ps)).length ≤ 1000 := Nat.le_trans hd.1.le (by decide)
      have CMx := CM (3 * m + 3 * n + 3) (by omega)
      refine ⟨_, pss_cons (ps_set (i := 3) scUnder.nd rfl (.inl rfl) (pe_ix ix_tup (pv 0) pe_int (fun _ _ => rfl)))
        (pss_cons (ps_if (pt_cmpR op_eq (pv 3) pe_str (nomark _)) pss_never pss_nil)
        (pss_cons (ps_if (PW.pt (pw_or (pt_cmpR op_eq (pv 3) pe_str (nomark _)) (pw_or1 (pt_cmpR op_eq (pv 3) pe_str (nomark _))))) (pss_one (ps_ret (pv 0))) pss_nil)
        (pss_cons (ps_if (pt_cmpR op_eq (pv 3) pe_str (nomark _)) pss_never pss_nil)
        (pss_one (ps_ret (pe_callZ (js := [1]) (fr := ["parts"]) (scope := lamS lUnder) CMx.ok hr rfl CMx.mg CMx.kp CMx.b (ndef_free (sc := defScope sUnder) (fr := ["parts"]) (by decide +kernel)) (ndef_fr (sc := defScope sUnder) (by decide +kernel)) rfl (fun _ => rfl)
          (pa_cons (pv 0) (pa_cons (pe_lamV (params := lamA lUnder) (body := lamB lUnder) (scope := lamS lUnder) TX.tb rfl TX.mem TX.uni rfl (ndef_free (sc := defScope sUnder) (fr := ["parts"]) (by decide +kernel))) (pa_cons (pv 2) pa_nil))))))))), ?_⟩
      obtain ⟨a, ys, rfl, h1⟩ := tr_tag ht
      have go : ∀ tag : Str, Kd.tag kd = tag → SqT K H a (.str tag :: ys) := fun tag e => by subst e; exact h1
      have last : ∀ σ : L2.St, σ[0]? = some (some (.ref a)) → σ[1]? = some (some (.ref l)) → σ[2]? = some (some (.int (d : Nat))) →
          ∀ cl : Addr → NF, (∀ c', (cl c').scope = lamS lUnder) → (∀ c', (cl c').params = lamA lUnder) → (∀ c' , (cl c').cl = (cl 0).cl) → (∀ c', (cl c').c = c') →
          tCallZ (cl 0).cl ["parts"] [1] (spMapped P w K mg base T (3 * m + 3 * n + 3)) (tCons (tVar 0) (tCons (tLamV T cl (lamB lUnder)) (tCons (tVar 2) tNil))) σ H Q := by
        intro σ s0 s1 s2 cl e1 e2 e3 e4
        refine ⟨_, s0, hT, fun f' c' H1 x1 n1 T1 f0 hf hc => ⟨_, s2, fun cs CF hn => ?_⟩⟩
        have g1 : Gr T H H1 := ⟨x1, fun _ => T1⟩
        have gz : ExtN H1 (fz cs H1) := ext_fz hn
        have trz : Tr K (fz cs H1) (.ref a) (.node kd ps) := ht.ext (g1.te.trans (Te.of gz))
        refine ⟨_, f', .node kd ps, d, fun j p => putU qs (d + bnd kd j) p, rfl, trz, hl, tabs_fz hn T1, ?_, fun v' H' gr hv C => ?_⟩
        · refine fval_of (lok_under (m := m) (F := cl c') ih (e1 c') (e2 c')) (fz_keep hn hf) (by rw [e4]; exact fz_keep hn hc) cold_fz (by rw [e3]; exact CF) fun vs H2 Q2 x2 hq => ?_
          obtain ⟨v, j, p, rfl, hp, hv, hT2, q2⟩ := hq
          have C2 : Cold cs H2 := Cold.ext cold_fz x2
          refine ⟨rfl, v, p, d + bnd kd j, l, ws, qs, rfl, ?_, hv.ext (te_er C2), hdp p (List.mem_of_getElem? hp), hP.re (((Re.of x1).trans (Re.of gz)).trans ((Re.of x2).trans (re_er C2))), tabs_er C2 hT2, fun u H3 g3 r3 n3 => ?_⟩
          · show [slotAt σ 1] = _
            rw [slotAt_of s1]
          · exact q2 u _ (gr_er_fz C2 g3 n3) (r3.ext (te_fz n3))
        · have e5 : mapTm (fun j p => putU qs (d + bnd kd j) p) (.node kd ps) = putU qs d (.node kd ps) := by
            unfold putU
            rw [trav_node]
            rfl
          rw [e5] at hv
          exact q v' _ (g1.trans (gr_fz_er hn gr C)) (hv.ext (te_er C))
      cases kd with
      | app => exact (ka rfl).elim
      | pi =>
        refine ⟨_, rfl, a, _, 0, _, rfl, rfl, go "pi" rfl, at0, ?_⟩
        iterate 4 (refine ⟨_, rfl, rfl, _, rfl, iteEqF (by decide +kernel) ?_⟩)
        exact last _ rfl rfl rfl _ (fun _ => rfl) (fun _ => rfl) (fun _ => rfl) (fun _ => rfl)
      | fn =>
        refine ⟨_, rfl, a, _, 0, _, rfl, rfl, go "fun" rfl, at0, ?_⟩
        iterate 4 (refine ⟨_, rfl, rfl, _, rfl, iteEqF (by decide +kernel) ?_⟩)
        exact last _ rfl rfl rfl _ (fun _ => rfl) (fun _ => rfl) (fun _ => rfl) (fun _ => rfl)
      | lt =>
        refine ⟨_, rfl, a, _, 0, _, rfl, rfl, go "let" rfl, at0, ?_⟩
        iterate 4 (refine ⟨_, rfl, rfl, _, rfl, iteEqF (by decide +kernel) ?_⟩)
        exact last _ rfl rfl rfl _ (fun _ => rfl) (fun _ => rfl) (fun _ => rfl) (fun _ => rfl)
      | hole h =>
        refine ⟨_, rfl, a, _, 0, _, rfl, rfl, go "hole" rfl, at0, ?_⟩
        iterate 4 (refine ⟨_, rfl, rfl, _, rfl, iteEqF (by decide +kernel) ?_⟩)
        exact last _ rfl rfl rfl _ (fun _ => rfl) (fun _ => rfl) (fun _ => rfl) (fun _ => rfl)
theorem put_nil (d : Nat) (t : Tm) : putU [] d t = t := trav_id0 t d fun e i => by
  by_cases h : i < d + e
  · exact putG_lo h
  · rw [putG_out h (by simp)]; rfl
def spFilled (K : PySem.W.Frag) (T : List (Addr × Str)) (n m : Nat) : Sp := fun vs H Q _ => ∃ v l t ws qs, vs = [v, .ref l] ∧ Tr K H v t ∧ dle n t ∧ Pq K H l ws qs m ∧ Tabs T H ∧
  ∀ v' H', Gr T H H' → Tr K H' v' (putU qs 0 t) → Q v' H'
theorem scFilled : FnScope ["term", "parts"] ["term", "parts"] (defScope sFilled) := ⟨rfl, rfl, rfl, by decide +kernel, rfl, by decide +kernel, by decide +kernel⟩
theorem ok_filled {n m k : Nat} {f fu : Addr} {fd fdu : FuncData} (F : Fun K "filled" "filled" sFilled f fd) (ml : mg "len" = none) (CU : Cl P w K mg base k "filled_under" fu fdu ["term", "parts", "under"] (spUnder K T n m)) : FnOk P w K mg base CX0 (k + 1) f fd ["term", "parts"] (spFilled K T n m) := by
  refine F.ok scFilled (fun vs H Q E h => ?_) (fun cdv A outer s H vs Q E hr h => ?_)
  · obtain ⟨v, l, t, ws, qs, rfl, _⟩ := h; rfl
  obtain ⟨v, l, t, ws, qs, rfl, ht, hd, hP, hT, q⟩ := h
  refine ⟨_, pss_cons (ps_if (pt_cmpR op_eq (pe_callB call_len_seq rfl ml PySem.boot_len (pa_cons (pv 1) pa_nil)) pe_int (nomark _)) (pss_one (ps_ret (pv 0))) pss_nil)
    (pss_one (ps_ret (pe_cl CU hr (pa_cons (pv 0) (pa_cons (pv 1) (pa_cons pe_int pa_nil)))))), ?_⟩
  refine ⟨_, rfl, l, ws, rfl, hP.sq, rfl, _, rfl, ?_⟩
  refine ite2 (fun e => ?_) (fun e => ?_)
  · have e := V.int.inj (of_decide_eq_true e)
    have e0 : qs = [] := List.eq_nil_of_length_eq_zero (by have := hP.ts.len; omega)
    subst e0
    refine ⟨_, rfl, q _ _ Gr.refl ?_⟩
    rw [put_nil]
    exact ht
  · exact ⟨_, rfl, _, rfl, v, l, t, ws, qs, 0, rfl, ht, hd, hP, hT, q⟩
end
end KP

/-! fill, settled, holes_of. -/
namespace KP
open PySem PyProof.Rows L2 LamX NdefX KL KM KD
section
variable {P : Program} {w : World} {K : PySem.W.Frag} {mg : Str → Option Value} {base : Heap} {T : List (Addr × Str)}
/-! ### fillings as dicts -/
/-- the dict's pairs tell the filling φ -/
structure FlK (K : PySem.W.Frag) (H : Hp) (kvs : List (Key × V)) (φ : Fl) : Prop where
  no : ∀ h, φ h = none → valV kvs (.inl h) = none
  yes : ∀ h ar b, φ h = some (ar, b) → ∃ a vb, valV kvs (.inl h) = some (.ref a) ∧ SqT K H a [.int ((ar : Nat) : Int), vb] ∧ Tr K H vb b
def FlAt (K : PySem.W.Frag) (H : Hp) (D : Addr) (φ : Fl) : Prop := ∃ kvs, Rd H D (.dK kvs) ∧ FlK K H kvs φ
theorem FlK.te {H H' : Hp} {kvs : List (Key × V)} {φ : Fl} (f : FlK K H kvs φ) (e : Te H H') : FlK K H' kvs φ :=
  ⟨f.no, fun h ar b q => let ⟨a, vb, h1, h2, h3⟩ := f.yes h ar b q; ⟨a, vb, h1, e.seq h2, h3.ext e⟩⟩
theorem FlAt.re {H H' : Hp} {D : Addr} {φ : Fl} (f : FlAt K H D φ) (e : Re H H') : FlAt K H' D φ :=
  let ⟨kvs, h1, h2⟩ := f; ⟨kvs, e _ _ rfl h1, h2.te e.te⟩
theorem FlAt.get {H : Hp} {D : Addr} {φ : Fl} (f : FlAt K H D φ) (h : Int) : ∃ o, DGet H D (.int h) o ∧ (φ h = none → o = none) ∧ (∀ ar b, φ h = some (ar, b) → ∃ a vb, o = some (.ref a) ∧ SqT K H a [.int ((ar : Nat) : Int), vb] ∧ Tr K H vb b) := by
  obtain ⟨kvs, h1, h2⟩ := f
  exact ⟨valV kvs (.inl h), .inl ⟨kvs, .inl h, h1, rfl, rfl⟩, h2.no h, h2.yes h⟩
/-! ### fill -/
/-- all that fill meets is not too deep -/
def fdl (φ : Fl) (N M : Nat) : Nat → Tm → Prop
  | _, .var _ => True
  | _, .atom _ _ => True
  | 0, .node _ _ => False
  | n + 1, .node k ps => ps.length ≤ 100 ∧ (∀ p ∈ ps, fdl φ N M n p) ∧ match hit φ k with
    | some (_, b) => (∀ p ∈ ps, dle M (fillN φ n p)) ∧ fdl φ N M n b ∧ dle N (fillN φ n b)
    | none => True
theorem fdl_hit {φ : Fl} {N M n : Nat} {k : Kd} {ps : List Tm} {ar : Nat} {b : Tm} (e : hit φ k = some (ar, b)) (h : fdl φ N M (n + 1) (.node k ps)) : (∀ p ∈ ps, dle M (fillN φ n p)) ∧ fdl φ N M n b ∧ dle N (fillN φ n b) := by
  have z := h.2.2
  rw [e] at z
  exact z
def spFill (K : PySem.W.Frag) (T : List (Addr × Str)) (N M n : Nat) : Sp := fun vs H Q _ => ∃ v D t φ, vs = [v, .ref D] ∧ Tr K H v t ∧ fdl φ N M n t ∧ FlAt K H D φ ∧ Tabs T H ∧
  ∀ v' H', Gr T H H' → Tr K H' v' (fillN φ n t) → Q v' H'
theorem scFill : FnScope ["term", "filling", "arguments", "part"] ["term", "filling"] (defScope sFill) := ⟨rfl, rfl, rfl, by decide +kernel, rfl, by decide +kernel, by decide +kernel⟩
abbrev lFill : Expr := lamE ((defBody sFill).getD 1 (.Pass ⟨0, 0, 0, 0⟩))
theorem nsFill : NScope ["part", "under", "filling"] ["part", "under"] ["filling"] (lamS lFill) := nscope_by (by decide +kernel)
def spFillL (K : PySem.W.Frag) (T : List (Addr × Str)) (N M n : Nat) : SpL := fun ws vs H Q => ∃ v p d D φ, vs = [v, d] ∧ ws = [some (.ref D)] ∧ Tr K H v p ∧ fdl φ N M n p ∧ FlAt K H D φ ∧ Tabs T H ∧
  ∀ u H', Gr T H H' → Tr K H' u (fillN φ n p) → Q u H'
theorem lok_fill {N M n k : Nat} {f g : Addr} {fd : FuncData} {F : NF} (CL : Cl P w K mg base k "fill" f fd ["term", "filling"] (spFill K T N M n)) (hs : F.scope = lamS lFill) (hp : F.params = lamA lFill) : LOk P w K mg base (k + 1) g F (lamB lFill) ["part", "under"] ["filling"] (spFillL K T N M n) := by
  obtain ⟨nm, q, pr, bd, sc, cl, c⟩ := F
  have hs : sc = lamS lFill := hs
  have hp : pr = lamA lFill := hp
  subst hs hp
  refine lok_of (N := ["part", "under", "filling"]) nsFill (fun pm ctv us hl => match us, hl with | [_, _], _ => rfl) fun A outer s H vs ws Q hr _ _ h => ?_
  obtain ⟨v, p, d, D, φ, rfl, rfl, ht, hd, hP, hT, q⟩ := h
  refine ⟨_, pe_cl CL hr (pa_cons (pv 0) (pa_cons (pv 2) pa_nil)), ?_⟩
  exact ⟨_, rfl, _, rfl, v, D, p, φ, rfl, ht, hd, hP, hT, q⟩
/-- the way through mapped -/
theorem fill_rest {N M n kc : Nat} {c Pt fm f : Addr} {fdm fd : FuncData} {A : Around} {outer : List Env} {s : Shared} {H : Hp} {v : V} {D : Addr} {t : Tm} {φ : Fl} {Q : VK}
    (ht : Tr K H v t) (hl : (partsT t).length ≤ 1000) (hT : Tabs T H) (hF : FlAt K H D φ) (g : Tm → Tm) (mapG : mapTm (fun _ p => g p) t = fillN φ n t) (q : ∀ v' H', Gr T H H' → Tr K H' v' (fillN φ n t) → Q v' H')
    (σ : L2.St) (s0 : σ[0]? = some (some v)) (s1 : σ[1]? = some (some (.ref D))) (cl : Addr → NF) (e3 : ∀ c' , (cl c').cl = (cl 0).cl)
    (fv : ∀ f' c' H1 cs, ExtN H H1 → H1 f' = some (LamO f' (cl c') (lamB lFill)) → H1 c' = some (CodeO c' (cl c').qual) → CellsF (cl 0).cl ["filling"] ([1].map (slotAt σ)) cs → (∀ c o, cs.lookup c = some o → H1 c = none) →
      FVal P w K mg base kc f' (fz cs H1) (spChange K T t 0 (fun _ p => g p))) :
    tCallZ (cl 0).cl ["filling"] [1] (spMapped P w K mg base T kc) (tCons (tVar 0) (tCons (tLamV T cl (lamB lFill)) (tCons (tC (.int 0)) tNil))) σ H Q := by
  refine ⟨_, s0, hT, fun f' c' H1 x1 n1 T1 f0 hf hc => fun cs CF hn => ?_⟩
  have g1 : Gr T H H1 := ⟨x1, fun _ => T1⟩
  have gz : ExtN H1 (fz cs H1) := ext_fz hn
  refine ⟨_, f', t, 0, fun _ p => g p, rfl, ht.ext (g1.te.trans (Te.of gz)), hl, tabs_fz hn T1, fv f' c' H1 cs x1 hf hc CF hn, fun v' H' gr hv C => ?_⟩
  rw [mapG] at hv
  exact q v' _ (g1.trans (gr_fz_er hn gr C)) (hv.ext (te_er C))
theorem fill_leaf {N M L n : Nat} {c Pt fm ff f : Addr} {fdm fdf fd : FuncData} (F : FunT K "fill" "fill" sFill [] f c fd) (mf : mg "fill" = some (.ref f)) (bf : L2.Binds K fd ["term", "filling"] []) (hL : 1 ≤ L)
    (CD : Cl P w K mg base L "filled" ff fdf ["term", "parts"] (spFilled K T N M)) (TX : TabX base mg T c Pt ((envOfC "fill" (defScope sFill) 0 f (.ref c)).qual ++ "<lambda>"))
    (CM : ∀ kc, 1 ≤ kc → Cl P w K mg base (kc + 1) "mapped" fm fdm ["node", "change", "depth"] (spMapped P w K mg base T kc))
    (hb : ∀ (A : Around) (outer : List Env) (s : Shared) (H : Hp) (v : V) (D : Addr) (k : Kd) (ps : List Tm) (φ : Fl) (Q : VK) (E : XK), Room (L + 3 * n + 2) (A.deeper (envOfC "fill" (defScope sFill) s.heap.objs.size f (.ref c))) → Tr K H v (.node k ps) → fdl φ N M n (.node k ps) → FlAt K H D φ → Tabs T H → (∀ v' H', Gr T H H' → Tr K H' v' (fillN φ n (.node k ps)) → Q v' H') →
      ∃ t, PSs (cxOf CX0 P w K mg base ["term", "filling", "arguments", "part"] "fill" (defScope sFill) f (.ref c) A outer s H E).nox (defBody sFill) t ∧ t { nx := fun _ H' => Q .non H', rt := Q } (start ["term", "filling", "arguments", "part"] [v, .ref D]) H) : Cl P w K mg base (L + 3 * n + 3) "fill" f fd ["term", "filling"] (spFill K T N M n) := by
    refine ⟨?_, mf, F.kp, bf⟩
    refine F.ok (k := L + 3 * n + 2) scFill (fun vs H Q E h => ?_) (fun A outer s H vs Q E hr h => ?_)
    · obtain ⟨v, D, t, φ, rfl, _⟩ := h; rfl
    obtain ⟨v, D, t, φ, rfl, ht, hd, hF, hT, q⟩ := h
    have hu := hu_of hr
    by_cases leaf : ∃ (hleaf : partsT t = []) (_ : ∀ k ps, t ≠ .node k ps), fillN φ n t = t
    · obtain ⟨hleaf, hnn, e0⟩ := leaf
      have CMx := CM 1 (Nat.le_refl _)
      refine ⟨_, pss_cons (ps_if (PW.pt (pw_and (pt_cmpR op_eq (pe_ix ix_tup (pv 0) pe_int (fun _ _ => rfl)) pe_str (nomark _)) (pw_and1 (pt_cmp (pc_din hu (pe_ix ix_tup (pv 0) pe_int (fun _ _ => rfl)) (pv 1)))))) pss_never pss_nil)
        (pss_one (ps_ret (pe_callZ (js := [1]) (fr := ["filling"]) (scope := lamS lFill) CMx.ok (hr.mono (by omega)) rfl CMx.mg CMx.kp CMx.b (ndef_free (sc := defScope sFill) (fr := ["filling"]) (by decide +kernel)) (ndef_fr (sc := defScope sFill) (by decide +kernel)) rfl (fun _ => rfl)
          (pa_cons (pv 0) (pa_cons (pe_lamV (params := lamA lFill) (body := lamB lFill) (scope := lamS lFill) TX.tb rfl TX.mem TX.uni rfl (ndef_free (sc := defScope sFill) (fr := ["filling"]) (by decide +kernel))) (pa_cons pe_int pa_nil)))))), ?_⟩
      have fin : ∀ (cl : Addr → NF), (∀ c' , (cl c').cl = (cl 0).cl) → tCallZ (cl 0).cl ["filling"] [1] (spMapped P w K mg base T 1) (tCons (tVar 0) (tCons (tLamV T cl (lamB lFill)) (tCons (tC (.int 0)) tNil))) (start ["term", "filling", "arguments", "part"] [v, .ref D]) H Q := fun cl e3 => by
        refine fill_rest (f := f) (fd := fd) (A := A) (outer := outer) (s := s) (c := c) (Pt := Pt) (fm := fm) (fdm := fdm) (N := N) (M := M) ht (by rw [hleaf]; decide) hT hF id ?_ q _ rfl rfl cl e3 fun f' c' H1 cs x1 hf hc CF hn => ?_
        · rw [e0]
          cases t with
          | node k ps => exact (hnn k ps rfl).elim
          | _ => rfl
        · refine ⟨⟨_, _, fz_keep hn hf⟩, fun A outer s H2 us vs Q2 hr2 e2 x2 r2 hq => ?_⟩
          obtain ⟨v, j, p, rfl, hp, _⟩ := hq
          rw [hleaf] at hp
          simp at hp
      cases t with
      | node k ps => exact (hnn k ps rfl).elim
      | var i =>
        obtain ⟨a, rfl, hs⟩ := tr_var ht
        refine ⟨_, rfl, a, _, 0, _, rfl, rfl, hs, at0, rfl, _, rfl, iteEqF (by decide +kernel) ?_⟩
        exact fin _ (fun _ => rfl)
      | atom u xs =>
        obtain ⟨a, ys, rfl, hs⟩ := tr_atom ht
        cases u
        · refine ⟨_, rfl, a, _, 0, _, rfl, rfl, hs, at0, rfl, _, rfl, iteEqF (by decide +kernel) ?_⟩
          exact fin _ (fun _ => rfl)
        · refine ⟨_, rfl, a, _, 0, _, rfl, rfl, hs, at0, rfl, _, rfl, iteEqF (by decide +kernel) ?_⟩
          exact fin _ (fun _ => rfl)
    · cases t with
      | node k ps => exact hb A outer s H v D k ps φ Q E hr ht hd hF hT q
      | var i => exact (leaf ⟨rfl, (fun _ _ z => by cases z), fillN_var φ n i⟩).elim
      | atom u xs => exact (leaf ⟨rfl, (fun _ _ z => by cases z), fillN_atom φ n u xs⟩).elim
theorem ok_fill {N M L : Nat} {c Pt fm ff f : Addr} {fdm fdf fd : FuncData} (F : FunT K "fill" "fill" sFill [] f c fd) (mf : mg "fill" = some (.ref f)) (bf : L2.Binds K fd ["term", "filling"] []) (hL : 1 ≤ L)
    (CD : Cl P w K mg base L "filled" ff fdf ["term", "parts"] (spFilled K T N M)) (TX : TabX base mg T c Pt ((envOfC "fill" (defScope sFill) 0 f (.ref c)).qual ++ "<lambda>"))
    (CM : ∀ kc, 1 ≤ kc → Cl P w K mg base (kc + 1) "mapped" fm fdm ["node", "change", "depth"] (spMapped P w K mg base T kc)) : ∀ n, Cl P w K mg base (L + 3 * n + 3) "fill" f fd ["term", "filling"] (spFill K T N M n)
  | 0 => fill_leaf (n := 0) F mf bf hL CD TX CM fun A outer s H v D k ps φ Q E hr ht hd hF hT q => (show False from hd).elim
  | n + 1 => by
    have ih := ok_fill F mf bf hL CD TX CM n
    refine fill_leaf F mf bf hL CD TX CM fun A outer s H v D k ps φ Q E hr ht hd hF hT q => ?_
    have hu := hu_of hr
    have hl : (partsT (.node k ps)).length ≤ 1000 := Nat.le_trans hd.1 (by decide)
    have CMx := CM (L + 3 * n + 4) (by omega)
    have hri := hr.mono (show L + 3 * n + 3 ≤ L + 3 * (n + 1) + 2 by omega)
    refine ⟨_, pss_cons (ps_if (PW.pt (pw_and (pt_cmpR op_eq (pe_ix ix_tup (pv 0) pe_int (fun _ _ => rfl)) pe_str (nomark _)) (pw_and1 (pt_cmp (pc_din hu (pe_ix ix_tup (pv 0) pe_int (fun _ _ => rfl)) (pv 1))))))
        (pss_cons (ps_setLc (own := [("part", 3)]) (i := 2) (g := gName 3) (tt := tYes) rfl scFill.nd rfl rfl (sw_true rfl rfl rfl (by decide +kernel)) (pi_tup (pe_ix ix_tup (pv 0) pe_int (fun _ _ => rfl))) (blkOk_by (N := ["term", "filling", "arguments", "part"]) (sc := defScope sFill) (by decide +kernel))
          (fun _ _ _ _ _ => pg_name (i := 3) scFill.nd rfl (.inl rfl)) (fun _ _ _ _ _ => pts_nil) (fun _ _ _ _ _ => pe_cl ih hri (pa_cons (pv 3) (pa_cons (pv 1) pa_nil))))
        (pss_one (ps_ret (pe_cl CD (hr.mono (by omega)) (pa_cons (pe_cl ih hri (pa_cons (pe_ix ix_tup (pe_dget hu (pv 1) (pe_ix ix_tup (pv 0) pe_int (fun _ _ => rfl)) (fun _ _ => rfl)) pe_int (fun _ _ => rfl)) (pa_cons (pv 1) pa_nil))) (pa_cons (pv 2) pa_nil)))))) pss_nil)
      (pss_one (ps_ret (pe_callZ (js := [1]) (fr := ["filling"]) (scope := lamS lFill) CMx.ok hr rfl CMx.mg CMx.kp CMx.b (ndef_free (sc := defScope sFill) (fr := ["filling"]) (by decide +kernel)) (ndef_fr (sc := defScope sFill) (by decide +kernel)) rfl (fun _ => rfl)
        (pa_cons (pv 0) (pa_cons (pe_lamV (params := lamA lFill) (body := lamB lFill) (scope := lamS lFill) TX.tb rfl TX.mem TX.uni rfl (ndef_free (sc := defScope sFill) (fr := ["filling"]) (by decide +kernel))) (pa_cons pe_int pa_nil)))))), ?_⟩
    have miss : hit φ k = none → ∀ cl : Addr → NF, (∀ c', (cl c').scope = lamS lFill) → (∀ c', (cl c').params = lamA lFill) → (∀ c' , (cl c').cl = (cl 0).cl) → (∀ c', (cl c').c = c') →
        tCallZ (cl 0).cl ["filling"] [1] (spMapped P w K mg base T (L + 3 * n + 4)) (tCons (tVar 0) (tCons (tLamV T cl (lamB lFill)) (tCons (tC (.int 0)) tNil))) (start ["term", "filling", "arguments", "part"] [v, .ref D]) H Q := fun hm cl e1 e2 e3 e4 => by
      refine fill_rest (f := f) (fd := fd) (A := A) (outer := outer) (s := s) (c := c) (Pt := Pt) (fm := fm) (fdm := fdm) (N := N) (M := M) ht hl hT hF (fillN φ n) ?_ q _ rfl rfl cl e3 fun f' c' H1 cs x1 hf hc CF hn => ?_
      · rw [fillN_miss hm, ← mapI_map (fillN φ n) ps 0]; rfl
      · have gz : ExtN H1 (fz cs H1) := ext_fz hn
        refine fval_of (lok_fill (N := N) (M := M) (n := n) (F := cl c') ih (e1 c') (e2 c')) (fz_keep hn hf) (by rw [e4]; exact fz_keep hn hc) cold_fz (by rw [e3]; exact CF) fun vs H2 Q2 x2 hq => ?_
        obtain ⟨v2, j, p, rfl, hp, hv, hT2, q2⟩ := hq
        have C2 : Cold cs H2 := Cold.ext cold_fz x2
        refine ⟨rfl, v2, p, _, D, φ, rfl, rfl, hv.ext (te_er C2), hd.2.1 p (List.mem_of_getElem? hp), hF.re (((Re.of x1).trans (Re.of gz)).trans ((Re.of x2).trans (re_er C2))), tabs_er C2 hT2, fun u H3 g3 r3 n3 => ?_⟩
        exact q2 u _ (gr_er_fz C2 g3 n3) (r3.ext (te_fz n3))
    obtain ⟨a, ys, rfl, h1⟩ := tr_tag ht
    have go : ∀ tag : Str, Kd.tag k = tag → SqT K H a (.str tag :: ys) := fun tag e => by subst e; exact h1
    cases k with
    | hole h =>
      obtain ⟨a', b', vs, e, k1, k2, k3⟩ := tr_hole ht
      cases e
      obtain ⟨o, ho, hno, hyes⟩ := hF.get h
      cases e : φ h with
      | none =>
        obtain rfl := hno e
        refine ⟨_, rfl, a, _, 0, _, rfl, rfl, k1, at0, rfl, _, rfl, iteEqT (by decide +kernel) ?_⟩
        refine ⟨_, rfl, a, _, 1, _, rfl, rfl, k1, at1, _, rfl, D, _, rfl, ho, _, rfl, ?_⟩
        exact miss e _ (fun _ => rfl) (fun _ => rfl) (fun _ => rfl) (fun _ => rfl)
      | some ab =>
        obtain ⟨ar, b⟩ := ab
        obtain ⟨va, vb, rfl, j1, j2⟩ := hyes ar b e
        obtain ⟨z1, z2, z3⟩ := fdl_hit (k := .hole h) e hd
        refine ⟨_, rfl, a, _, 0, _, rfl, rfl, k1, at0, rfl, _, rfl, iteEqT (by decide +kernel) ?_⟩
        refine ⟨_, rfl, a, _, 1, _, rfl, rfl, k1, at1, _, rfl, D, _, rfl, ho, _, rfl, ?_⟩
        refine ⟨_, rfl, a, _, 2, _, rfl, rfl, k1, at2, b', rfl, ⟨vs, k2⟩, fun Dl hDl => ?_⟩
        refine lc_tup (xs := vs) (fun i H' => ∃ acc, H' Dl = some (.lst acc) ∧ Ts K H' acc ((ps.map (fillN φ n)).take i) ∧ Gr T H H') ?_ ?_ ?_ ?_
        · exact ⟨[], upd_same, TpAll.nil, Gr.new hDl⟩
        · rintro i H' _ ⟨acc, _, _, gr⟩
          exact gr.te.seq k2
        · rintro i x H3 hx ⟨acc, hacc, hts, gr⟩
          have hpi : i < ps.length := by rw [← k3.len]; exact (List.getElem?_eq_some_iff.mp hx).1
          obtain ⟨y', hy', hty⟩ := k3.get (i := i) (t := ps[i]) (List.getElem?_eq_getElem hpi)
          rw [hx] at hy'
          cases hy'
          refine ⟨rfl, _, rfl, _, rfl, x, D, ps[i], φ, rfl, hty.ext gr.te, hd.2.1 _ (List.getElem_mem hpi), hF.re (Re.of gr.ext), gr.tab hT, fun u H5 gr5 hu5 => ?_⟩
          have hD5 : H5 Dl = some (.lst acc) := gr5.ext _ _ hacc (fun ps z => by cases z)
          have hl2 : acc.length ≤ 1000 := by
            rw [hts.len, List.length_take, List.length_map]
            have : ps.length ≤ 100 := hd.1
            omega
          have gr6 : Gr T H (upd H5 Dl (.lst (acc ++ [u]))) := (gr.trans gr5).mut hDl ⟨_, hD5, (fun ps z => by cases z), lst_code⟩
          refine ⟨acc, hD5, small1000 hl2, acc ++ [u], upd_same, ?_, gr6⟩
          have e1 : (ps.map (fillN φ n)).take (i + 1) = (ps.map (fillN φ n)).take i ++ [fillN φ n ps[i]] := by
            rw [List.take_add_one, List.getElem?_map, List.getElem?_eq_getElem hpi]; rfl
          rw [e1]
          have t6 := Te.lst (o := HO.lst (acc ++ [u])) hD5
          exact (hts.ext (gr5.te.trans t6)).snoc (hu5.ext t6)
        · rintro H3 ⟨acc, hacc, hts, gr⟩
          have e1 : (ps.map (fillN φ n)).take vs.length = ps.map (fillN φ n) := List.take_of_length_le (by rw [List.length_map, k3.len]; exact Nat.le_refl _)
          rw [e1] at hts
          have hF3 := hF.re (Re.of gr.ext)
          obtain ⟨o3, ho3, hno3, hyes3⟩ := hF3.get h
          obtain ⟨va3, vb3, rfl, j13, j23⟩ := hyes3 ar b e
          refine ⟨_, rfl, _, rfl, a, _, 1, _, rfl, rfl, gr.te.seq k1, at1, D, _, rfl, ho3, va3, _, 1, _, rfl, rfl, j13, at1, _, rfl, vb3, D, b, φ, rfl, j23, z2, hF3, gr.tab hT, fun u H4 gr4 hu4 => ?_⟩
          refine ⟨_, rfl, u, Dl, fillN φ n b, acc, ps.map (fillN φ n), rfl, hu4, z3, ?_, (gr.trans gr4).tab hT, fun v' H5 gr5 h5 => ?_⟩
          · refine ⟨.inl (SqL.of (gr4.ext _ _ hacc fun ps z => by cases z)), hts.ext gr4.te, fun q hq => ?_, ?_⟩
            · obtain ⟨p, hp, rfl⟩ := List.mem_map.mp hq
              exact z1 p hp
            · rw [hts.len, List.length_map]
              exact hl
          · refine q v' H5 ((gr.trans gr4).trans gr5) ?_
            rw [fillN_hit (k := .hole h) e]
            exact h5
    | app =>
      refine ⟨_, rfl, a, _, 0, _, rfl, rfl, go "app" rfl, at0, rfl, _, rfl, iteEqF (by decide +kernel) ?_⟩
      exact miss rfl _ (fun _ => rfl) (fun _ => rfl) (fun _ => rfl) (fun _ => rfl)
    | pi =>
      refine ⟨_, rfl, a, _, 0, _, rfl, rfl, go "pi" rfl, at0, rfl, _, rfl, iteEqF (by decide +kernel) ?_⟩
      exact miss rfl _ (fun _ => rfl) (fun _ => rfl) (fun _ => rfl) (fun _ => rfl)
    | fn =>
      refine ⟨_, rfl, a, _, 0, _, rfl, rfl, go "fun" rfl, at0, rfl, _, rfl, iteEqF (by decide +kernel) ?_⟩
      exact miss rfl _ (fun _ => rfl) (fun _ => rfl) (fun _ => rfl) (fun _ => rfl)
    | lt =>
      refine ⟨_, rfl, a, _, 0, _, rfl, rfl, go "let" rfl, at0, rfl, _, rfl, iteEqF (by decide +kernel) ?_⟩
      exact miss rfl _ (fun _ => rfl) (fun _ => rfl) (fun _ => rfl) (fun _ => rfl)
/-! ### settled -/
abbrev Ens := List (Int × Nat × Tm)
def FlE (K : PySem.W.Frag) (H : Hp) (p : Key × V) (e : Int × Nat × Tm) : Prop := p.1 = .inl e.1 ∧ ∃ a vb, p.2 = .ref a ∧ SqT K H a [.int ((e.2.1 : Nat) : Int), vb] ∧ Tr K H vb e.2.2
/-- the dict's pairs, in their order -/
inductive FlL (K : PySem.W.Frag) (H : Hp) : List (Key × V) → Ens → Prop
  | nil : FlL K H [] []
  | cons {p : Key × V} {e : Int × Nat × Tm} {ps : List (Key × V)} {es : Ens} : FlE K H p e → FlL K H ps es → FlL K H (p :: ps) (e :: es)
theorem FlE.te {H H' : Hp} {p : Key × V} {e : Int × Nat × Tm} (h : FlE K H p e) (t : Te H H') : FlE K H' p e :=
  let ⟨h1, a, vb, h2, h3, h4⟩ := h; ⟨h1, a, vb, h2, t.seq h3, h4.ext t⟩
theorem FlL.te {H H' : Hp} {ps : List (Key × V)} {es : Ens} (h : FlL K H ps es) (t : Te H H') : FlL K H' ps es := by
  induction h with
  | nil => exact .nil
  | cons h1 _ ih => exact .cons (h1.te t) ih
theorem FlL.len {H : Hp} {ps : List (Key × V)} {es : Ens} (h : FlL K H ps es) : ps.length = es.length := by
  induction h with
  | nil => rfl
  | cons _ _ ih => simp [ih]
theorem FlL.snoc {H : Hp} {ps : List (Key × V)} {es : Ens} {p : Key × V} {e : Int × Nat × Tm} (h : FlL K H ps es) (k : FlE K H p e) : FlL K H (ps ++ [p]) (es ++ [e]) := by
  induction h with
  | nil => exact .cons k .nil
  | cons h1 _ ih => exact .cons h1 ih
theorem FlL.get {H : Hp} {ps : List (Key × V)} {es : Ens} (h : FlL K H ps es) : ∀ {i : Nat} {p : Key × V}, ps[i]? = some p → ∃ e, es[i]? = some e ∧ FlE K H p e := by
  induction h with
  | nil => intro i p e; simp at e
  | cons h1 _ ih =>
    intro i p e
    cases i with
    | zero => simp at e; subst e; exact ⟨_, rfl, h1⟩
    | succ i =>
      obtain ⟨e', h2, h3⟩ := ih (i := i) (p := p) (by simpa using e)
      exact ⟨e', by simpa using h2, h3⟩
theorem FlL.flK {H : Hp} {ps : List (Key × V)} {es : Ens} (h : FlL K H ps es) : FlK K H ps (fun k => es.lookup k) := by
  induction h with
  | nil => exact ⟨fun _ _ => rfl, fun _ _ _ z => by simp at z⟩
  | @cons p e ps es h1 _ ih =>
    obtain ⟨e1, a, vb, e2, h3, h4⟩ := h1
    obtain ⟨x, ar, b⟩ := e
    refine ⟨fun k z => ?_, fun k ar' b' z => ?_⟩
    · rw [List.lookup_cons] at z
      by_cases q : k = x
      · subst q; simp at z
      · rw [show (k == x) = false from by simpa using q] at z
        rw [valV_neg (fun y => q (by rw [e1] at y; exact (Sum.inl.inj y).symm))]
        exact ih.no k z
    · rw [List.lookup_cons] at z
      by_cases q : k = x
      · subst q
        simp at z
        obtain ⟨rfl, rfl⟩ := z
        exact ⟨a, vb, by rw [valV_pos e1, e2], h3, h4⟩
      · rw [show (k == x) = false from by simpa using q] at z
        rw [valV_neg (fun y => q (by rw [e1] at y; exact (Sum.inl.inj y).symm))]
        exact ih.yes k ar' b' z
theorem FlL.keys {H : Hp} {ps : List (Key × V)} {es : Ens} (h : FlL K H ps es) : ps.map (·.1) = es.map fun e => (Sum.inl e.1 : Key) := by
  induction h with
  | nil => rfl
  | cons h1 _ ih => simp [ih, h1.1]
theorem nodup_inl {es : Ens} (h : (es.map (·.1)).Nodup) : (es.map fun e => (Sum.inl e.1 : Key)).Nodup := by
  unfold List.Nodup at *
  rw [List.pairwise_map] at *
  exact h.imp fun hne e => hne (Sum.inl.inj e)
/-- each body filled -/
def setl (n : Nat) (es : Ens) : Ens := es.map fun e => (e.1, e.2.1, fillN (fun k => es.lookup k) n e.2.2)
def spSettled (K : PySem.W.Frag) (T : List (Addr × Str)) (N M n : Nat) : Sp := fun vs H Q _ => ∃ D kvs es, vs = [.ref D] ∧ H D = some (.dK kvs) ∧ FlL K H kvs es ∧ (es.map (·.1)).Nodup ∧ es.length ≤ 100 ∧ (∀ e ∈ es, fdl (fun k => es.lookup k) N M n e.2.2) ∧ Tabs T H ∧
  ∀ p H' kvs', Gr T H H' → H p = none → H' p = some (.dK kvs') → FlL K H' kvs' (setl n es) → Q (.ref p) H'
theorem scSettled : FnScope ["filling", "out", "number", "arity", "body"] ["filling"] (defScope sSettled) := ⟨rfl, rfl, rfl, by decide +kernel, rfl, by decide +kernel, by decide +kernel⟩
/-- while D is locked -/
structure Lkd (T : List (Addr × Str)) (H H' : Hp) (D : Addr) (od : Obj) (kvs : List (Key × V)) : Prop where
  at_ : H' D = some (.frz od (.dK kvs))
  ext : ∀ b o, H b = some o → b ≠ D → (∀ ps, o ≠ .tbl ps) → H' b = some o
  tab : Tabs T H'
theorem Lkd.re {H H' : Hp} {D : Addr} {od : Obj} {kvs : List (Key × V)} (L : Lkd T H H' D od kvs) (h : H D = some (.dK kvs)) : Re H H' := fun a u p r => by
  by_cases e : a = D
  · subst e
    rcases r with r | ⟨ob, r⟩
    · rw [h] at r; cases r; exact .inr ⟨od, L.at_⟩
    · rw [h] at r; cases r
  · rcases r with r | ⟨ob, r⟩
    · exact .inl (L.ext a u r e fun ps z => by subst z; cases p)
    · exact .inr ⟨ob, L.ext a _ r e fun ps z => by cases z⟩
theorem Lkd.gr {H H1 H2 : Hp} {D : Addr} {od : Obj} {kvs : List (Key × V)} (L : Lkd T H H1 D od kvs) (g : Gr T H1 H2) : Lkd T H H2 D od kvs :=
  ⟨g.ext _ _ L.at_ (fun ps z => by cases z), fun b o e n nt => g.ext b o (L.ext b o e n nt) nt, g.tab L.tab⟩
theorem Lkd.mut {H H1 : Hp} {D p : Addr} {od : Obj} {kvs : List (Key × V)} {u o : HO} (L : Lkd T H H1 D od kvs) (hp : H p = none) (hD : p ≠ D) (h1 : H1 p = some u) (n1 : ∀ ps, u ≠ .tbl ps) (n2 : ∀ c q, u ≠ CodeO c q) : Lkd T H (upd H1 p o) D od kvs := by
  refine ⟨by rw [upd_ne (Ne.symm hD)]; exact L.at_, fun b ob e n nt => by rw [upd_ne (ne_of_none e hp)]; exact L.ext b ob e n nt, fun q hq => ?_⟩
  obtain ⟨ps, a1, a2, a3⟩ := L.tab q hq
  have ne : q.1 ≠ p := fun e => by rw [e, h1] at a1; exact n1 ps (Option.some.inj a1)
  refine ⟨ps, by rw [upd_ne ne]; exact a1, a2, fun pos cv hcv => ?_⟩
  obtain ⟨c, e1, e2⟩ := a3 pos cv hcv
  refine ⟨c, e1, ?_⟩
  by_cases z : c = p
  · rw [z, h1] at e2; exact (n2 _ _ (Option.some.inj e2)).elim
  · rw [upd_ne z]; exact e2
theorem Lkd.unlock {H H' : Hp} {D : Addr} {od : Obj} {kvs : List (Key × V)} (L : Lkd T H H' D od kvs) (h : H D = some (.dK kvs)) : Gr T H (upd H' D (.dK kvs)) := by
  refine ⟨fun b o e nt => ?_, fun _ q hq => ?_⟩
  · by_cases z : b = D
    · subst z; rw [h] at e; cases e; exact upd_same
    · rw [upd_ne z]; exact L.ext b o e z nt
  · obtain ⟨ps, a1, a2, a3⟩ := L.tab q hq
    have ne : q.1 ≠ D := fun e => by rw [e, L.at_] at a1; cases a1
    refine ⟨ps, by rw [upd_ne ne]; exact a1, a2, fun pos cv hcv => ?_⟩
    obtain ⟨c, e1, e2⟩ := a3 pos cv hcv
    refine ⟨c, e1, ?_⟩
    have ne2 : c ≠ D := fun e => by rw [e, L.at_] at e2; exact absurd (Option.some.inj e2) (by unfold CodeO; intro z; cases z)
    rw [upd_ne ne2]; exact e2
theorem Lkd.back {H H1 H' : Hp} {D : Addr} {od : Obj} {kvs : List (Key × V)} (L : Lkd T H1 H' D od kvs) (e : Same H H1) : Lkd T H H' D od kvs := ⟨L.at_, fun b o e1 n nt => L.ext b o (e b o e1) n nt, L.tab⟩
theorem Lkd.start {H : Hp} {D : Addr} {od : Obj} {kvs : List (Key × V)} (h : H D = some (.dK kvs)) (t : Tabs T H) : Lkd T H (upd H D (.frz od (.dK kvs))) D od kvs := by
  refine ⟨upd_same, fun b o e n _ => by rw [upd_ne n]; exact e, fun q hq => ?_⟩
  obtain ⟨ps, a1, a2, a3⟩ := t q hq
  have ne : q.1 ≠ D := fun e => by rw [e, h] at a1; cases a1
  refine ⟨ps, by rw [upd_ne ne]; exact a1, a2, fun pos cv hcv => ?_⟩
  obtain ⟨c, e1, e2⟩ := a3 pos cv hcv
  refine ⟨c, e1, ?_⟩
  have ne2 : c ≠ D := fun e => by rw [e, h] at e2; exact absurd (Option.some.inj e2) (by unfold CodeO; intro z; cases z)
  rw [upd_ne ne2]; exact e2
/-- back under the lock: what the tuples and lists are -/
theorem te_unlock {H' : Hp} {D : Addr} {od : Obj} {kvs : List (Key × V)} (h : H' D = some (.frz od (.dK kvs))) : Te H' (upd H' D (.dK kvs)) := Te.upd (no_tup h (fun _ z => by cases z) fun _ _ z => by cases z)
theorem ok_settled {N M n k : Nat} {f ff : Addr} {fd fdf : FuncData} (F : Fun K "settled" "settled" sSettled f fd) (CF : Cl P w K mg base k "fill" ff fdf ["term", "filling"] (spFill K T N M n)) : FnOk P w K mg base CX0 (k + 1) f fd ["filling"] (spSettled K T N M n) := by
  refine F.ok scSettled (fun vs H Q E h => ?_) (fun cdv A outer s H vs Q E hr h => ?_)
  · obtain ⟨D, kvs, es, rfl, _⟩ := h; rfl
  obtain ⟨D, kvs, es, rfl, hD, hE, hnd, hl, hfd, hT, q⟩ := h
  have hu := hu_of hr
  refine ⟨_, pss_cons (ps_set (i := 1) scSettled.nd rfl (.inl rfl) pe_dnewK)
    (pss_cons (ps_lock (ps_for PassesOwn.never rfl (pi_keys (pv 0)) (pg_name (i := 2) scSettled.nd rfl (.inl rfl))
      (pss_cons (ps_asg (pe_dget hu (pv 0) (pv 2) (fun _ _ => rfl)) (pg_tup rfl (pgs_cons (pg_name (i := 3) scSettled.nd rfl (.inl rfl)) (pgs_cons (pg_name (i := 4) scSettled.nd rfl (.inl rfl)) pgs_nil))))
      (pss_one (ps_dput hu (pv 1) (pv 2) (pe_tup (pa_cons (pv 3) (pa_cons (pe_cl CF hr (pa_cons (pv 4) (pa_cons (pv 0) pa_nil))) pa_nil))) rfl)))))
    (pss_one (ps_ret (pv 1)))), ?_⟩
  intro o ho
  have oD : o ≠ D := (ne_of_none hD ho).symm
  have hD1 : upd H o (.dK []) D = some (.dK kvs) := by rw [upd_ne (Ne.symm oD)]; exact hD
  refine ⟨D, .dK kvs, hD1, trivial, fun od => ⟨_, rfl, D, od, rfl, .inl ⟨kvs, upd_same, ?_⟩⟩⟩
  have hlk : kvs.length = es.length := hE.len
  have g0 : Gr T H (upd H o (.dK [])) := Gr.new ho
  refine for_it walk_keys (fun i σ H' => Lkd T H H' D od kvs ∧ (∃ x2 x3 x4, σ = [some (.ref D), some (.ref o), x2, x3, x4]) ∧ ∃ kvs', H' o = some (.dK kvs') ∧ FlL K H' kvs' ((setl n es).take i)) ?_ ?_ ?_ ?_
  · exact ⟨(Lkd.start hD1 (g0.tab hT)).back (same_new ho _), ⟨_, _, _, rfl⟩, [], by rw [upd_ne oD]; exact upd_same, .nil⟩
  · rintro i σ H' _ ⟨L, _⟩
    exact L.at_
  · rintro i x σ H' H'' hi ⟨L, ⟨x2, x3, x4, rfl⟩, kvs', ho', hE'⟩ ⟨rfl, ky, vv, hkv, rfl⟩
    obtain ⟨e, he, hfe⟩ := hE.get hkv
    obtain ⟨h, ar, b⟩ := e
    obtain ⟨e1, a, vb, e2, e3, e4⟩ := hfe
    have e1 : ky = .inl h := e1
    have e2 : vv = .ref a := e2
    subst e1 e2
    have R : Re H H'' := L.re hD
    have hval : valV kvs (.inl h) = some (.ref a) := val_nodup (by rw [hE.keys]; exact nodup_inl hnd) _ (List.mem_of_getElem? hkv)
    refine ⟨_, rfl, _, rfl, D, _, rfl, .inl ⟨kvs, .inl h, .inr ⟨od, L.at_⟩, rfl, hval.symm⟩, ?_⟩
    refine ⟨a, _, rfl, R.te.seq e3, rfl, _, _, rfl, _, _, rfl, rfl, ?_⟩
    refine ⟨_, rfl, _, rfl, _, rfl, vb, D, b, fun k => es.lookup k, rfl, e4.ext R.te, hfd _ (List.mem_of_getElem? he), ⟨kvs, .inr ⟨od, L.at_⟩, hE.flK.te R.te⟩, L.tab, fun u H3 g3 h3 => ?_⟩
    refine ⟨le_line (by simp), fun pp hpp => ?_⟩
    have L3 := (L.gr g3).gr (Gr.new (T := T) (o := HO.tup [V.int ((ar : Nat) : Int), u]) hpp)
    have ho3 : upd H3 pp (.tup [.int ((ar : Nat) : Int), u]) o = some (.dK kvs') := by
      have z := g3.ext _ _ ho' (fun ps z => by cases z)
      rw [upd_ne (ne_of_none z hpp)]
      exact z
    have hnone : valV kvs' (.inl h) = none := by
      cases hv : valV kvs' (.inl h) with
      | none => rfl
      | some z =>
        exfalso
        have hm := valV_in hv
        rw [hE'.keys] at hm
        obtain ⟨e2, he2, e3⟩ := List.mem_map.mp hm
        obtain ⟨j, hj⟩ := List.mem_iff_getElem?.mp he2
        have hji : j < i := by
          have z := (List.getElem?_eq_some_iff.mp hj).1
          rw [List.length_take] at z
          omega
        rw [List.getElem?_take_of_lt hji] at hj
        obtain ⟨e4, he4, rfl⟩ := by
          have z := hj
          unfold setl at z
          rw [List.getElem?_map] at z
          exact Option.map_eq_some_iff.mp z
        have e5 : e4.1 = h := Sum.inl.inj e3
        have x1 : (es.map (·.1))[j]? = some h := by rw [List.getElem?_map, he4]; exact congrArg some e5
        have x2 : (es.map (·.1))[i]? = some h := by rw [List.getElem?_map, he]; rfl
        obtain ⟨l1, y1⟩ := List.getElem?_eq_some_iff.mp x1
        obtain ⟨l2, y2⟩ := List.getElem?_eq_some_iff.mp x2
        have := (List.getElem_inj hnd).mp (y1.trans y2.symm)
        omega
    have hlen' : kvs'.length ≤ 100 := by rw [hE'.len, List.length_take]; have : (setl n es).length = es.length := by simp [setl]
                                         omega
    refine ⟨_, rfl, _, rfl, o, _, rfl, DPut.k (k := Sum.inl h) ho3 (small1000 (by omega)), ?_⟩
    rw [putK_new _ hnone]
    refine ⟨L3.mut ho oD ho3 (fun ps z => by cases z) dK_code, ⟨_, _, _, rfl⟩, _, upd_same, ?_⟩
    have e6 : (setl n es).take (i + 1) = (setl n es).take i ++ [(h, ar, fillN (fun k => es.lookup k) n b)] := by
      rw [List.take_add_one]
      unfold setl
      rw [List.getElem?_map, he] <;> rfl
    rw [e6]
    have t1 : Te H'' (upd H3 pp (.tup [.int ((ar : Nat) : Int), u])) := g3.te.trans (Gr.new (T := T) hpp).te
    have t2 : Te (upd H3 pp (.tup [.int ((ar : Nat) : Int), u])) (upd (upd H3 pp (.tup [.int ((ar : Nat) : Int), u])) o (.dK (kvs' ++ [(Sum.inl h, V.ref pp)]))) := Te.dK ho3
    exact (hE'.te (t1.trans t2)).snoc ⟨rfl, pp, u, rfl, t2.seq (SqT.of upd_same), h3.ext ((Gr.new (T := T) hpp).te.trans t2)⟩
  · rintro σ H' ⟨L, ⟨x2, x3, x4, rfl⟩, kvs', ho', hE'⟩
    refine ⟨L.at_, _, rfl, ?_⟩
    rw [List.take_of_length_le (by simp [setl, hlk])] at hE'
    refine q o _ kvs' (L.unlock hD) ho (by rw [upd_ne oD]; exact ho') (hE'.te (te_unlock L.at_))
/-! ### holes_of -/
theorem same_mut {H H1 : Hp} {p : Addr} {o : HO} (e : Same H H1) (h : H p = none) : Same H (upd H1 p o) := fun b u q => by rw [upd_ne (ne_of_none q h)]; exact e b u q
/-- the dict of the numbers met -/
def metK (ks : List Int) : List (Key × V) := ks.map fun h => (Sum.inl h, V.bl true)
theorem metK_put (ks : List Int) (h : Int) : putK (metK ks) (.inl h) (.bl true) = metK (if h ∈ ks then ks else ks ++ [h]) := by
  unfold putK
  by_cases hm : h ∈ ks
  · have ha : ((metK ks).any fun kv => decide (kv.1 = Sum.inl h)) = true := by
      rw [List.any_eq_true]
      exact ⟨(Sum.inl h, .bl true), List.mem_map.mpr ⟨h, hm, rfl⟩, by simp⟩
    rw [if_pos ha, if_pos hm]
    unfold metK
    rw [List.map_map]
    refine List.map_congr_left fun x _ => ?_
    show (if (Sum.inl x : Key) = Sum.inl h then ((Sum.inl x : Key), V.bl true) else _) = _
    split <;> rfl
  · have ha : ¬ ((metK ks).any fun kv => decide (kv.1 = Sum.inl h)) = true := by
      rw [List.any_eq_true]
      rintro ⟨kv, hk, e⟩
      obtain ⟨x, hx, rfl⟩ := List.mem_map.mp hk
      have e := Sum.inl.inj (of_decide_eq_true e)
      exact hm (e ▸ hx)
    rw [if_neg ha, if_neg hm]
    simp [metK]
theorem tpA_split {H : Hp} : ∀ {ts : List Tm} {t : Tm} {ws : List V}, Ts K H ws (ts ++ [t]) → ∃ ws' x, ws = ws' ++ [x] ∧ Ts K H ws' ts ∧ Tr K H x t
  | [], t, ws, h => by
    cases h with
    | cons h1 h2 => cases h2; exact ⟨[], _, rfl, .nil, h1⟩
  | p :: ts, t, ws, h => by
    cases h with
    | cons h1 h2 =>
      obtain ⟨ws', x, e, h3, h4⟩ := tpA_split (ts := ts) h2
      exact ⟨_ :: ws', x, by rw [e]; rfl, .cons h1 h3, h4⟩
theorem ts_append {H : Hp} : ∀ {as : List Tm} {vs ws : List V} {bs : List Tm}, Ts K H vs as → Ts K H ws bs → Ts K H (vs ++ ws) (as ++ bs)
  | [], _, _, _, h, k => by cases h; exact k
  | _ :: as, _, _, _, h, k => by
    cases h with
    | cons h1 h2 => exact .cons h1 (ts_append (as := as) h2 k)
def spHolesOf (K : PySem.W.Frag) : Sp := fun vs H Q _ => ∃ v t n, vs = [v] ∧ Tr K H v t ∧ dle n t ∧ sz t ≤ 1000000 ∧
  ∀ (p : Addr) (H' : Hp) (ns : List Int), Same H H' → SqT K H' p (ns.map V.int) → ns.Pairwise (· < ·) → (∀ h, h ∈ ns ↔ h ∈ nums t) → Q (.ref p) H'
theorem scHolesOf : FnScope ["term", "found", "waiting", "node"] ["term"] (defScope sHolesOf) := ⟨rfl, rfl, rfl, by decide +kernel, rfl, by decide +kernel, by decide +kernel⟩
theorem ok_holesOf {f fp : Addr} {fd fdp : FuncData} (F : Fun K "holes_of" "holes_of" sHolesOf f fd) (CP : Cl P w K mg base 1 "parts_of" fp fdp ["node"] (spParts K)) (mt : mg "tuple" = none) (ms : mg "sorted" = none) (ml : mg "list" = none) : FnOk P w K mg base CX0 2 f fd ["term"] (spHolesOf K) := by
  refine F.ok scHolesOf (fun vs H Q E h => ?_) (fun cdv A outer s H vs Q E hr h => ?_)
  · obtain ⟨v, t, n, rfl, _⟩ := h; rfl
  obtain ⟨v, t, n, rfl, ht, hd, hz, q⟩ := h
  have hu := hu_of hr
  refine ⟨_, pss_cons (ps_set (i := 1) scHolesOf.nd rfl (.inl rfl) pe_dnewK)
    (pss_cons (ps_set (i := 2) scHolesOf.nd rfl (.inl rfl) (pe_lst (pa_cons (pv 0) pa_nil)))
    (pss_cons (ps_while PassesOwn.never (pt_truth (pv 2) (by intro _; rfl))
      (pss_cons (ps_set (i := 3) scHolesOf.nd rfl (.inl rfl) (pe_bm0 PySem.F.plainAttrs_list PySem.F.slot_list_pop PySem.F.type_list_pop mt_pop (pv 2)))
      (pss_cons (ps_if (pt_cmpR op_eq (pe_ix ix_tup (pv 3) pe_int (fun _ _ => rfl)) pe_str (nomark _)) (pss_one (ps_dput hu (pv 1) (pe_ix ix_tup (pv 3) pe_int (fun _ _ => rfl)) pe_bl rfl)) pss_nil)
      (pss_one (ps_expr (pe_bm PySem.F.plainAttrs_list PySem.F.slot_list_extend PySem.F.type_list_extend mt_extendT (pv 2) (pa_cons (pe_cl CP hr (pa_cons (pv 3) pa_nil)) pa_nil)))))))
    (pss_one (ps_ret (pe_callTy call_tuple_of rfl mt (by decide +kernel) (pa_cons (pe_callB cr_sortedI rfl ms (by decide +kernel) (pa_cons (pe_callTy (call_listD rfl) rfl ml (by decide +kernel) (pa_cons (pv 1) pa_nil)) pa_nil)) pa_nil)))))), ?_⟩
  intro fo hfo
  have s1 := same_new hfo (HO.dK [])
  refine ⟨_, rfl, le_line (by simp), fun wa hwa => ?_⟩
  have nwf : wa ≠ fo := fun e => by subst e; rw [upd_same] at hwa; cases hwa
  have hwa0 : H wa = none := s1.free hwa
  refine ⟨fun m σ H' => (∃ x3, σ = [some v, some (.ref fo), some (.ref wa), x3]) ∧ Same H H' ∧ ∃ ks ws ts, H' fo = some (.dK (metK ks)) ∧ H' wa = some (.lst ws) ∧ Ts K H' ws ts ∧ ks.Nodup ∧ (∀ t ∈ ts, dle n t) ∧ szL ts = m ∧ ks.length + m ≤ 1000000 ∧ (∀ h, (h ∈ ks ∨ ∃ t ∈ ts, h ∈ nums t) ↔ h ∈ nums t), ⟨sz t, ?_⟩, ?_⟩
  · refine ⟨⟨_, rfl⟩, s1.trans (same_new hwa _), [], [v], [t], by rw [upd_ne (Ne.symm nwf)]; exact upd_same, upd_same, .cons ?_ .nil, List.nodup_nil, ?_, ?_, by simpa using hz, ?_⟩
    · exact ht.ext (Te.of' (s1.trans (same_new hwa _)))
    · intro t' h'
      rw [List.mem_singleton.mp h']
      exact hd
    · simp [szL]
    · intro h
      simp
  · rintro m σ H1 ⟨⟨x3, rfl⟩, g1, ks, ws, ts, hk, hw, hts, hnd, hdl, rfl, hm, hall⟩
    refine ⟨_, rfl, _, .inl ⟨ws, SqL.of hw, rfl⟩, ?_⟩
    rcases List.eq_nil_or_concat ts with rfl | ⟨ts', t', rfl⟩
    · have ew : ws = [] := List.eq_nil_of_length_eq_zero hts.len
      subst ew
      refine iteF ?_
      refine ⟨_, rfl, fo, _, rfl, .inl hk, fun p1 hp1 => ?_⟩
      have ek : ((metK ks).map fun kv => kV kv.1) = ks.map V.int := by simp [metK, kV]
      rw [ek]
      refine ⟨p1, ks, rfl, SqL.of upd_same, fun ns p2 hperm hle hp2 => ?_⟩
      refine ⟨p2, _, rfl, .inl ⟨SqL.of upd_same, fun p3 hp3 => ?_⟩⟩
      refine q p3 _ ns ((g1.trans (same_new hp1 _)).trans ((same_new hp2 _).trans (same_new hp3 _))) (SqT.of upd_same) (rising_of hle (hperm.nodup_iff.mpr hnd)) fun h => ?_
      rw [hperm.mem_iff, ← hall h]
      simp
    · obtain ⟨ws', x, rfl, h1, h2⟩ := tpA_split (by simpa using hts)
      have ets : (ts' ++ [t']) = ts'.concat t' := by simp
      refine ite2 (fun _ => ?_) (fun e => (e (by simp)).elim)
      have hsz : szL (ts'.concat t') = szL ts' + sz t' := by rw [← ets, szL_append]; simp [szL]
      rw [hsz] at hm ⊢
      have hdl' : ∀ t ∈ ts', dle n t := fun y hy => hdl y (by rw [← ets]; exact List.mem_append_left _ hy)
      have hdt : dle n t' := hdl t' (by rw [← ets]; simp)
      have hpos := sz_pos t'
      have hpl : (partsT t').length ≤ 1000 := by
        cases t' with
        | node k ps =>
          cases n with
          | zero => exact hdt.elim
          | succ n => exact Nat.le_trans hdt.1.le (by decide)
        | _ => exact Nat.zero_le _
      have hps : szL (partsT t') + 1 ≤ sz t' := by
        cases t' with
        | node k ps => rw [sz_node]; show szL ps + 1 ≤ _; omega
        | var i => rw [sz_var]; exact Nat.le_refl _
        | atom u xs => rw [sz_atom]; exact Nat.le_refl _
      have hpd : ∀ p ∈ partsT t', dle n p := by
        cases t' with
        | node k ps =>
          cases n with
          | zero => exact hdt.elim
          | succ n => exact fun p hp => dle_mono (hdt.2 p hp) (Nat.le_succ _)
        | _ => intro p hp; cases hp
      have nfw : fo ≠ wa := Ne.symm nwf
      refine ⟨fun σ H' => ∃ m', m' < szL ts' + sz t' ∧ ((∃ x3, σ = [some v, some (.ref fo), some (.ref wa), x3]) ∧ Same H H' ∧ ∃ ks ws ts, H' fo = some (.dK (metK ks)) ∧ H' wa = some (.lst ws) ∧ Ts K H' ws ts ∧ ks.Nodup ∧ (∀ t ∈ ts, dle n t) ∧ szL ts = m' ∧ ks.length + m' ≤ 1000000 ∧ (∀ h, (h ∈ ks ∨ ∃ t ∈ ts, h ∈ nums t) ↔ h ∈ nums t)), fun σ' H' h => h, ?_⟩
      refine ⟨_, rfl, .inl ⟨rfl, _, SqL.of hw⟩, wa, _, x, rfl, rfl, hw, by simp, ?_⟩
      rw [List.dropLast_concat]
      have g2 : Same H (upd H1 wa (.lst ws')) := same_mut g1 hwa0
      have t2 : Te H1 (upd H1 wa (.lst ws')) := Te.lst hw
      have hk2 : upd H1 wa (.lst ws') fo = some (.dK (metK ks)) := by rw [upd_ne nfw]; exact hk
      have hx := h2.ext t2
      have tail : ∀ (H2 : Hp) (ks' : List Int), Same H H2 → Te (upd H1 wa (.lst ws')) H2 → H2 fo = some (.dK (metK ks')) → H2 wa = some (.lst ws') → ks'.Nodup → ks'.length ≤ ks.length + 1 → (∀ h, (h ∈ ks' ∨ ∃ p ∈ partsT t', h ∈ nums p) ↔ (h ∈ ks ∨ h ∈ nums t')) →
          tDrop (tBM K "list" (rExtendT K) (tVar 2) (tCons (tCall (spParts K) [] E0 (tCons (tVar 3) tNil)) tNil)) { nx := fun σ H' => ∃ m', m' < szL ts' + sz t' ∧ ((∃ x3, σ = [some v, some (.ref fo), some (.ref wa), x3]) ∧ Same H H' ∧ ∃ ks ws ts, H' fo = some (.dK (metK ks)) ∧ H' wa = some (.lst ws) ∧ Ts K H' ws ts ∧ ks.Nodup ∧ (∀ t ∈ ts, dle n t) ∧ szL ts = m' ∧ ks.length + m' ≤ 1000000 ∧ (∀ h, (h ∈ ks ∨ ∃ t ∈ ts, h ∈ nums t) ↔ h ∈ nums t)), rt := Q } [some v, some (.ref fo), some (.ref wa), some x] H2 := by
        intro H2 ks' g3 t3 hk3 hw3 hnd3 hle3 hmem
        refine ⟨_, rfl, .inl ⟨rfl, _, SqL.of hw3⟩, _, rfl, x, t', rfl, hx.ext t3, hpl, fun p H3 zs g4 h4 h5 => ?_⟩
        have hw4 := g4 _ _ hw3
        refine ⟨wa, p, ws', zs, rfl, rfl, hw4, h4, ?_, ?_⟩
        · have e1 := (h1.ext (t2.trans t3)).len
          have e2 := h5.len
          have e3 := szL_len ts'
          have e4 := szL_len (partsT t')
          exact Nat.le_trans (show ws'.length + zs.length ≤ 1000000 by omega) (by decide)
        · have t5 : Te H3 (upd H3 wa (.lst (ws' ++ zs))) := Te.lst hw4
          refine ⟨szL (ts' ++ partsT t'), by rw [szL_append]; omega, ⟨_, rfl⟩, same_mut (g3.trans g4) hwa0, ks', _, _, by rw [upd_ne nfw]; exact g4 _ _ hk3, upd_same, ?_, hnd3, ?_, rfl, by rw [szL_append]; omega, ?_⟩
          · exact ts_append (h1.ext (((t2.trans t3).trans (Te.of' g4)).trans t5)) (h5.ext t5)
          · intro y hy
            rcases List.mem_append.mp hy with hy | hy
            · exact hdl' y hy
            · exact hpd y hy
          · intro h
            rw [← hall h]
            constructor
            · rintro (z | ⟨y, hy, z⟩)
              · rcases (hmem h).mp (.inl z) with z | z
                · exact .inl z
                · exact .inr ⟨t', by rw [← ets]; simp, z⟩
              · rcases List.mem_append.mp hy with hy | hy
                · exact .inr ⟨y, by rw [← ets]; exact List.mem_append_left _ hy, z⟩
                · rcases (hmem h).mp (.inr ⟨y, hy, z⟩) with z | z
                  · exact .inl z
                  · exact .inr ⟨t', by rw [← ets]; simp, z⟩
            · rintro (z | ⟨y, hy, z⟩)
              · rcases (hmem h).mpr (.inl z) with z | ⟨p, hp, z⟩
                · exact .inl z
                · exact .inr ⟨p, List.mem_append_right _ hp, z⟩
              · rw [← ets] at hy
                rcases List.mem_append.mp hy with hy | hy
                · exact .inr ⟨y, List.mem_append_left _ hy, z⟩
                · rw [List.mem_singleton.mp hy] at z
                  rcases (hmem h).mpr (.inr z) with z | ⟨p, hp, z⟩
                  · exact .inl z
                  · exact .inr ⟨p, List.mem_append_right _ hp, z⟩
      have plain : (∀ n, t' ≠ .node (.hole n) (partsT t')) → ∀ h, (h ∈ ks ∨ ∃ p ∈ partsT t', h ∈ nums p) ↔ (h ∈ ks ∨ h ∈ nums t') := fun hn h => by
        cases t' with
        | var i => simp [partsT, nums_var]
        | atom u xs => simp [partsT, nums_atom]
        | node k ps =>
          rw [mem_nums_node]
          have : KM.hd k = [] := by cases k <;> first | rfl | exact (hn _ rfl).elim
          rw [this]
          simp [partsT]
      obtain ⟨a, ys, rfl, ha⟩ := tr_tag hx
      have go : ∀ tag : Str, tagOf t' = tag → SqT K (upd H1 wa (.lst ws')) a (.str tag :: ys) := fun tag e => by subst e; exact ha
      cases t' with
      | var i => exact ⟨_, rfl, a, _, 0, _, rfl, rfl, go "var" rfl, at0, rfl, _, rfl, iteEqF (by decide +kernel) (tail _ ks g2 Te.refl hk2 upd_same hnd (Nat.le_succ _) (plain (by intro n z; cases z)))⟩
      | atom u xs =>
        cases u
        · exact ⟨_, rfl, a, _, 0, _, rfl, rfl, go "const" rfl, at0, rfl, _, rfl, iteEqF (by decide +kernel) (tail _ ks g2 Te.refl hk2 upd_same hnd (Nat.le_succ _) (plain (by intro n z; cases z)))⟩
        · exact ⟨_, rfl, a, _, 0, _, rfl, rfl, go "univ" rfl, at0, rfl, _, rfl, iteEqF (by decide +kernel) (tail _ ks g2 Te.refl hk2 upd_same hnd (Nat.le_succ _) (plain (by intro n z; cases z)))⟩
      | node k ps =>
        cases k with
        | app => exact ⟨_, rfl, a, _, 0, _, rfl, rfl, go "app" rfl, at0, rfl, _, rfl, iteEqF (by decide +kernel) (tail _ ks g2 Te.refl hk2 upd_same hnd (Nat.le_succ _) (plain (by intro n z; cases z)))⟩
        | pi => exact ⟨_, rfl, a, _, 0, _, rfl, rfl, go "pi" rfl, at0, rfl, _, rfl, iteEqF (by decide +kernel) (tail _ ks g2 Te.refl hk2 upd_same hnd (Nat.le_succ _) (plain (by intro n z; cases z)))⟩
        | fn => exact ⟨_, rfl, a, _, 0, _, rfl, rfl, go "fun" rfl, at0, rfl, _, rfl, iteEqF (by decide +kernel) (tail _ ks g2 Te.refl hk2 upd_same hnd (Nat.le_succ _) (plain (by intro n z; cases z)))⟩
        | lt => exact ⟨_, rfl, a, _, 0, _, rfl, rfl, go "let" rfl, at0, rfl, _, rfl, iteEqF (by decide +kernel) (tail _ ks g2 Te.refl hk2 upd_same hnd (Nat.le_succ _) (plain (by intro n z; cases z)))⟩
        | hole h =>
          obtain ⟨a', b', zs, e, k1, k2, k3⟩ := tr_hole hx
          cases e
          refine ⟨_, rfl, a, _, 0, _, rfl, rfl, k1, at0, rfl, _, rfl, iteEqT (by decide +kernel) ?_⟩
          have hkl : (metK ks).length ≤ 1000000 := by unfold metK; rw [List.length_map]; omega
          refine ⟨_, rfl, _, rfl, a, _, 1, _, rfl, rfl, k1, at1, fo, _, rfl, DPut.k (k := Sum.inl h) hk2 (Nat.lt_of_le_of_lt hkl (by decide)), ?_⟩
          rw [metK_put]
          refine tail _ _ (same_mut g2 hfo) (Te.dK hk2) upd_same (by rw [upd_ne nwf]; exact upd_same) ?_ ?_ fun h' => ?_
          · split
            · exact hnd
            · rename_i hm'
              rw [List.nodup_append]
              exact ⟨hnd, by simp, fun x1 hx1 y1 hy1 e => by rw [List.mem_singleton.mp hy1] at e; subst e; exact hm' hx1⟩
          · split
            · exact Nat.le_succ _
            · simp
          · rw [mem_nums_node]
            show (_ ∨ ∃ p ∈ ps, _) ↔ _
            have e1 : h' ∈ (if h ∈ ks then ks else ks ++ [h]) ↔ h' ∈ ks ∨ h' = h := by
              split
              · rename_i hm'
                exact ⟨.inl, fun z => z.elim id fun e => e ▸ hm'⟩
              · simp
            rw [e1]
            show _ ↔ (_ ∨ (h' ∈ [h] ∨ _))
            rw [List.mem_singleton]
            constructor
            · rintro ((z | z) | z)
              · exact .inl z
              · exact .inr (.inl z)
              · exact .inr (.inr z)
            · rintro (z | z | z)
              · exact .inl (.inl z)
              · exact .inl (.inr z)
              · exact .inr z
end
end KP

/-! The law's drawing. -/
namespace KP
open PySem PyProof.Rows L2 LamX NdefX KL KM KD
abbrev sDraw : Stmt := top 14
abbrev sPick : Stmt := top 15
abbrev sOne : Stmt := top 16
abbrev sLeaf : Stmt := top 23
abbrev sFresh : Stmt := top 24
abbrev sOpen : Stmt := top 26
/-- all stands but what is at p -/
def Kp (p : Addr) (H H' : Hp) : Prop := ∀ b o, H b = some o → b ≠ p → H' b = some o
theorem Kp.refl {p : Addr} {H : Hp} : Kp p H H := fun _ _ e _ => e
theorem Kp.trans {p : Addr} {H H1 H2 : Hp} (a : Kp p H H1) (b : Kp p H1 H2) : Kp p H H2 := fun x o e n => b x o (a x o e n) n
theorem Kp.upd {p : Addr} {H : Hp} {o : HO} : Kp p H (upd H p o) := fun b u e n => by rw [upd_ne n]; exact e
theorem Kp.same {p : Addr} {H H' : Hp} (e : Same H H') : Kp p H H' := fun b o h _ => e b o h
/-- a draw's list stands at p -/
def DrOk (H : Hp) (p b : Addr) : Prop := ∃ (ns : List Int) (i x y z c s : Int), H p = some (.lst [.ref b, .int i, .int x, .int y, .int z, .int c, .int s]) ∧ H b = some (.lst (ns.map V.int)) ∧ b ≠ p ∧ 0 ≤ i ∧ 0 ≤ x
theorem DrOk.same {p b : Addr} {H H' : Hp} (d : DrOk H p b) (k : Same H H') : DrOk H' p b := by
  obtain ⟨ns, i, x, y, z, c, s, h1, h2, h3⟩ := d
  exact ⟨ns, i, x, y, z, c, s, k _ _ h1, k _ _ h2, h3⟩
section
variable {P : Program} {w : World} {K : PySem.W.Frag} {mg : Str → Option Value} {base : Heap} {T : List (Addr × Str)}
def spDraw (K : PySem.W.Frag) : Sp := fun vs H Q _ => ∃ (a : Addr) (ns : List Int), vs = [.ref a] ∧ SqL K H a (ns.map V.int) ∧ ns.length ≤ 63 ∧ ∀ p b H', Same H H' → H p = none → H b = none → DrOk H' p b → Q (.ref p) H'
theorem scDraw : FnScope ["_law_script"] ["_law_script"] (defScope sDraw) := ⟨rfl, rfl, rfl, by decide +kernel, rfl, by decide +kernel, by decide +kernel⟩
theorem cut_map (ns : List Int) : cutV (ns.map V.int) none (some 1) = (ns.take 1).map V.int := by
  unfold cutV
  rw [HT.sIx_none]
  have z := HT.sIx_nat (ns.map V.int).length (ns.map V.int).length 1
  rw [show (some ((1 : Nat) : Int)) = some 1 from rfl] at z
  rw [z, List.drop_zero, Nat.sub_zero, List.map_take]
  cases ns <;> simp
theorem ok_draw {f : Addr} {fd : FuncData} (F : Fun K "_law_draw" "_law_draw" sDraw f fd) (ml : mg "list" = none) (ms : mg "sum" = none) : FnOk P w K mg base CX0 1 f fd ["_law_script"] (spDraw K) := by
  refine F.ok scDraw (fun vs H Q E h => ?_) (fun cdv A outer s H vs Q E hr h => ?_)
  · obtain ⟨a, ns, rfl, _⟩ := h; rfl
  obtain ⟨a, ns, rfl, ha, hl, q⟩ := h
  refine ⟨_, pss_one (ps_ret (pe_lst (pa_cons (pe_callTy call_list_of rfl ml (by decide +kernel) (pa_cons (pv 0) pa_nil)) (pa_cons pe_int (pa_cons pe_int (pa_cons pe_int (pa_cons pe_int (pa_cons pe_int
    (pa_cons (pe_callB (cr_sum rfl) rfl ms (by decide +kernel) (pa_cons (pe_slice sl_list (pv 0) po_none (po_some pe_int)) pa_nil)) pa_nil))))))))), ?_⟩
  refine ⟨_, rfl, a, _, rfl, .inl ha, fun b hb => ?_⟩
  have s1 := same_new hb (HO.lst (ns.map V.int))
  refine ⟨_, rfl, 1, rfl, a, _, rfl, s1.seq ha, fun c hc => ?_⟩
  have s2 := s1.trans (same_new hc (HO.lst (cutV (ns.map V.int) none (some 1))))
  refine ⟨c, ns.take 1, rfl, SqL.of (by rw [upd_same, cut_map]), le_line (by simp), fun p hp => ?_⟩
  have nbc : b ≠ c := fun e => by subst e; rw [upd_same] at hc; cases hc
  have nbp : b ≠ p := fun e => by subst e; rw [upd_ne nbc, upd_same] at hp; cases hp
  refine q p b _ (s2.trans (same_new hp _)) (s2.free hp) hb ⟨ns, 0, 0, 0, 0, 0, (ns.take 1).sum, upd_same, ?_, nbp, Int.le_refl _, Int.le_refl _⟩
  rw [upd_ne nbp, upd_ne nbc, upd_same]
/-! ### pick -/
def absZ (c : Int) : Int := if c < 0 then -c else c
theorem absZ_nn (c : Int) : 0 ≤ absZ c := by unfold absZ; split <;> omega
/-- the draw's list, its seven items -/
structure D7 (H : Hp) (p b : Addr) (ns : List Int) (i x y z c s : Int) : Prop where
  at_ : H p = some (.lst [.ref b, .int i, .int x, .int y, .int z, .int c, .int s])
  li : H b = some (.lst (ns.map V.int))
  ne : b ≠ p
  i0 : 0 ≤ i
  x0 : 0 ≤ x
theorem D7.ok {H : Hp} {p b : Addr} {ns : List Int} {i x y z c s : Int} (d : D7 H p b ns i x y z c s) : DrOk H p b := ⟨ns, i, x, y, z, c, s, d.at_, d.li, d.ne, d.i0, d.x0⟩
theorem D7.put {H : Hp} {p b : Addr} {ns : List Int} {i x y z c s i' x' y' z' c' s' : Int} (d : D7 H p b ns i x y z c s) (h1 : 0 ≤ i') (h2 : 0 ≤ x') :
    D7 (upd H p (.lst [.ref b, .int i', .int x', .int y', .int z', .int c', .int s'])) p b ns i' x' y' z' c' s' := ⟨upd_same, by rw [upd_ne d.ne]; exact d.li, d.ne, h1, h2⟩
def spPick : Sp := fun vs H Q _ => ∃ p b many, vs = [.ref p, .int many] ∧ DrOk H p b ∧ many ≤ 1000 ∧ ∀ r H', 0 ≤ r → (r < many ∨ (r = 0 ∧ many < 2)) → Kp p H H' → DrOk H' p b → Q (.int r) H'
theorem scPick : FnScope ["_law_draw_here", "_law_many", "_law_cell", "_law_digit", "_law_one_here", "_law_two"] ["_law_draw_here", "_law_many"] (defScope sPick) := ⟨rfl, rfl, rfl, by decide +kernel, rfl, by decide +kernel, by decide +kernel⟩
theorem big_pow : (0 : Int) ≤ 64 ∧ (Builtin.Int.intBits ((10 : Int) ^ (60 : Int).toNat) : Int) * 64 ≤ 2 ^ 27 := by constructor <;> decide +kernel
theorem big_pos : (0 : Int) < ((10 : Int) ^ (60 : Int).toNat) ^ (64 : Int).toNat := Int.pow_pos (Int.pow_pos (by decide))
theorem ok_pick {f : Addr} {fd : FuncData} (F : Fun K "_law_pick" "_law_pick" sPick f fd) (ml : mg "len" = none) (mi : mg "int" = none) (ma : mg "abs" = none) : FnOk P w K mg base CX0 1 f fd ["_law_draw_here", "_law_many"] spPick := by
  refine F.ok scPick (fun vs H Q E h => ?_) (fun cdv A outer s H vs Q E hr h => ?_)
  · obtain ⟨p, b, many, rfl, _⟩ := h; rfl
  obtain ⟨p, b, many, rfl, ⟨ns, i, x, y, z, c, sm, e1, e2, e3, e4, e5⟩, hm, q⟩ := h
  have d : D7 H p b ns i x y z c sm := ⟨e1, e2, e3, e4, e5⟩
  refine ⟨_, pss_cons (ps_if (pt_cmpR op_lt (pv 1) pe_int (nomark _)) (pss_one (ps_ret pe_int)) pss_nil)
    (Evl.pss_cut (ps_if (PW.pt (pw_and (pt_cmpR op_eq (pe_ix ix_list (pv 0) pe_int (fun _ _ => rfl)) pe_int (nomark _)) (pw_and1 (pt_cmpR op_eq (pe_ix ix_list (pv 0) pe_int (fun _ _ => rfl)) pe_int (nomark _)))))
      (pss_cons (ps_set (i := 2) scPick.nd rfl (.inl rfl) (pe_op op_add (pe_op op_add (pe_ix ix_list (pv 0) pe_int (fun _ _ => rfl)) (pe_op op_mul pe_int (pe_ix ix_list (pv 0) pe_int (fun _ _ => rfl)))) pe_int))
      (Evl.pss_cut (ps_if (pt_cmpR op_lt (pe_ix ix_list (pv 0) pe_int (fun _ _ => rfl)) (pe_callB call_len_seq rfl ml PySem.boot_len (pa_cons (pe_ix ix_list (pv 0) pe_int (fun _ _ => rfl)) pa_nil)) (nomark _))
        (pss_cons (ps_set (i := 2) scPick.nd rfl (.inl rfl) (pe_ix ix_list (pe_ix ix_list (pv 0) pe_int (fun _ _ => rfl)) (pe_ix ix_list (pv 0) pe_int (fun _ _ => rfl)) (fun _ _ => rfl)))
        (pss_cons (ps_asg (pe_op op_add (pe_ix ix_list (pv 0) pe_int (fun _ _ => rfl)) pe_int) (pg_sub (pv 0) pe_int set_list))
        (pss_one (ps_asg (pe_ifExp (pt_cmpR op_ge (pe_callB call_abs rfl ma (by decide +kernel) (pa_cons (pv 2) pa_nil)) (pe_op op_pow pe_int pe_int) (nomark _))
          (pe_op op_mod (pe_callTy call_int1 rfl mi (by decide +kernel) (pa_cons (pe_callB call_abs rfl ma (by decide +kernel) (pa_cons (pv 2) pa_nil)) pa_nil)) (pe_op op_powW (pe_op op_pow pe_int pe_int) pe_int)) pe_int) (pg_sub (pv 0) pe_int set_list))))) pss_nil)
      (pss_cons (ps_asg (pe_ifExp (pt_truth (pe_ix ix_list (pv 0) pe_int (fun _ _ => rfl)) (by intro _; rfl)) pe_int pe_int) (pg_sub (pv 0) pe_int set_list))
      (pss_one (ps_asg (pe_op op_add (pe_op op_mod (pe_callTy call_int1 rfl mi (by decide +kernel) (pa_cons (pe_callB call_abs rfl ma (by decide +kernel) (pa_cons (pv 2) pa_nil)) pa_nil)) pe_int) (pe_ifExp (pt_cmpR op_lt (pv 2) pe_int (nomark _)) pe_int pe_int)) (pg_sub (pv 0) pe_int set_list)))))) pss_nil)
    (pss_cons (ps_if (pt_cmpR op_gt (pe_ix ix_list (pv 0) pe_int (fun _ _ => rfl)) pe_int (nomark _))
      (pss_cons (ps_set (i := 3) scPick.nd rfl (.inl rfl) (pe_op op_mod (pe_callTy call_int1 rfl mi (by decide +kernel) (pa_cons (pe_ix ix_list (pv 0) pe_int (fun _ _ => rfl)) pa_nil)) (pv 1)))
      (pss_cons (ps_asg (pe_op op_fdiv (pe_ix ix_list (pv 0) pe_int (fun _ _ => rfl)) (pv 1)) (pg_sub (pv 0) pe_int set_list))
      (pss_one (ps_ret (pv 3))))) pss_nil)
    (pss_cons (ps_asg (pe_op op_sub (pe_ix ix_list (pv 0) pe_int (fun _ _ => rfl)) pe_int) (pg_sub (pv 0) pe_int set_list))
    (pss_cons (ps_asg (pe_op op_add (pe_ix ix_list (pv 0) pe_int (fun _ _ => rfl)) pe_int) (pg_sub (pv 0) pe_int set_list))
    (pss_cons (ps_set (i := 4) scPick.nd rfl (.inl rfl) (pe_op op_mod (pe_callTy call_int1 rfl mi (by decide +kernel) (pa_cons (pe_op op_add (pe_op op_add (pe_op op_mul (pe_ix ix_list (pv 0) pe_int (fun _ _ => rfl)) pe_int) (pe_op op_mul (pe_ix ix_list (pv 0) pe_int (fun _ _ => rfl)) pe_int)) pe_int) pa_nil)) pe_int))
    (pss_cons (ps_set (i := 5) scPick.nd rfl (.inl rfl) (pe_op op_mod (pe_callTy call_int1 rfl mi (by decide +kernel) (pa_cons (pe_op op_add (pe_op op_mul (pv 4) (pv 4)) (pe_op op_mul (pe_ix ix_list (pv 0) pe_int (fun _ _ => rfl)) pe_int)) pa_nil)) pe_int))
    (pss_one (ps_ret (pe_op op_mod (pe_callTy call_int1 rfl mi (by decide +kernel) (pa_cons (pe_op op_fdiv (pe_op op_mod (pe_callTy call_int1 rfl mi (by decide +kernel) (pa_cons (pe_op op_add (pe_op op_mul (pv 5) pe_int) (pe_op op_fdiv (pv 4) pe_int)) pa_nil)) pe_int) pe_int) pa_nil)) (pv 1)))))))))), ?_⟩
  refine ⟨_, rfl, _, _, rfl, rfl, _, rfl, ?_⟩
  refine ite2 (fun e => ?_) (fun e => ?_)
  · have e := of_decide_eq_true e
    exact q 0 H (Int.le_refl _) (.inr ⟨rfl, e⟩) Kp.refl d.ok
  have e : ¬ many < 2 := of_decide_eq_false (Bool.eq_false_iff.mpr e)
  refine ⟨fun σ H' => (∃ x2 x3 x4 x5, σ = [some (.ref p), some (.int many), x2, x3, x4, x5]) ∧ Kp p H H' ∧ ∃ ns i x y z c s, D7 H' p b ns i x y z c s, ?_, ?_⟩
  · have skip : (∃ x2 x3 x4 x5, (start ["_law_draw_here", "_law_many", "_law_cell", "_law_digit", "_law_one_here", "_law_two"] [.ref p, .int many]) = [some (.ref p), some (.int many), x2, x3, x4, x5]) ∧ Kp p H H ∧ ∃ ns i x y z c s, D7 H p b ns i x y z c s := ⟨⟨_, _, _, _, rfl⟩, Kp.refl, _, _, _, _, _, _, _, d⟩
    refine ⟨_, rfl, p, _, 2, _, rfl, rfl, SqL.of d.at_, atI_nat (j := 2) rfl, rfl, _, rfl, ?_⟩
    refine ite2 (fun _ => ?_) (fun _ => skip)
    refine ⟨_, rfl, p, _, 3, _, rfl, rfl, SqL.of d.at_, atI_nat (j := 3) rfl, rfl, _, rfl, ?_⟩
    refine ite2 (fun _ => ?_) (fun _ => skip)
    refine ⟨_, rfl, p, _, 6, _, rfl, rfl, SqL.of d.at_, atI_nat (j := 6) rfl, _, rfl, p, _, 5, _, rfl, rfl, SqL.of d.at_, atI_nat (j := 5) rfl, _, _, rfl, rfl, .inl (by constructor <;> decide), _, _, rfl, rfl, _, _, rfl, rfl, ?_⟩
    refine ⟨fun σ H' => (∃ cl x3 x4 x5, σ = [some (.ref p), some (.int many), some (.int cl), x3, x4, x5]) ∧ Kp p H H' ∧ ∃ ns i x y z c s, D7 H' p b ns i x y z c s, ?_, ?_⟩
    · refine ⟨_, rfl, p, _, 1, _, rfl, rfl, SqL.of d.at_, atI_nat (j := 1) rfl, _, rfl, p, _, 0, _, rfl, rfl, SqL.of d.at_, atI_nat (j := 0) rfl, b, _, rfl, .inl (SqL.of d.li), _, _, rfl, rfl, _, rfl, ?_⟩
      refine ite2 (fun hi => ?_) (fun _ => ⟨⟨_, _, _, _, rfl⟩, Kp.refl, _, _, _, _, _, _, _, d⟩)
      have hi := of_decide_eq_true hi
      rw [List.length_map] at hi
      have i0 := d.i0
      have hin : i.toNat < ns.length := by omega
      obtain ⟨j, rfl⟩ : ∃ j : Nat, i = (j : Int) := ⟨i.toNat, by omega⟩
      have hj : j < ns.length := by omega
      have hat : atI (ns.map V.int) ((j : Nat) : Int) = some (.int ns[j]) := atI_nat (by rw [List.getElem?_map]; simp [hj])
      refine ⟨_, rfl, p, _, 0, _, rfl, rfl, SqL.of d.at_, atI_nat (j := 0) rfl, _, rfl, p, _, 1, _, rfl, rfl, SqL.of d.at_, atI_nat (j := 1) rfl, b, _, _, _, rfl, rfl, SqL.of d.li, hat, ?_⟩
      refine ⟨_, rfl, p, _, 1, _, rfl, rfl, SqL.of d.at_, atI_nat (j := 1) rfl, _, _, rfl, rfl, _, rfl, p, _, 1, 1, rfl, rfl, d.at_, rfl, ?_⟩
      have d1 := d.put (i' := (j : Int) + 1) (x' := x) (y' := y) (z' := z) (c' := c) (s' := sm) (by omega) d.x0
      refine ⟨_, rfl, _, rfl, _, _, rfl, rfl, ⟨by decide, by decide, by decide⟩, _, _, rfl, rfl, _, rfl, ?_⟩
      refine ite2 (fun _ => ?_) (fun _ => ?_)
      · refine ⟨_, rfl, _, rfl, .inl ⟨_, rfl, _, _, rfl, rfl, ⟨by decide, by decide, by decide⟩, _, _, rfl, rfl, big_pow, _, _, rfl, rfl, big_pos, _, rfl, p, _, 2, 2, rfl, rfl, d1.at_, rfl, ?_⟩⟩
        exact ⟨⟨_, _, _, _, rfl⟩, Kp.trans Kp.upd Kp.upd, _, _, _, _, _, _, _, d1.put d1.i0 (Int.emod_nonneg _ (Int.ne_of_gt big_pos))⟩
      · refine ⟨_, rfl, p, _, 2, 2, rfl, rfl, d1.at_, rfl, ?_⟩
        exact ⟨⟨_, _, _, _, rfl⟩, Kp.trans Kp.upd Kp.upd, _, _, _, _, _, _, _, d1.put d1.i0 (Int.le_refl _)⟩
    · rintro σ H1 ⟨⟨cl, x3, x4, x5, rfl⟩, k1, ns, i, x, y, z, c, sm, d⟩
      refine ⟨_, rfl, p, _, 2, _, rfl, rfl, SqL.of d.at_, atI_nat (j := 2) rfl, _, rfl, ?_⟩
      refine ite2 (fun _ => ?_) (fun _ => ?_)
      · refine ⟨_, rfl, p, _, 3, 3, rfl, rfl, d.at_, rfl, ?_⟩
        have d1 := d.put (i' := i) (x' := x) (y' := 0) (z' := z) (c' := c) (s' := sm) d.i0 d.x0
        refine ⟨_, rfl, _, rfl, .inl ⟨_, rfl, _, _, rfl, rfl, (show (0 : Int) < 2147483629 by decide), _, rfl, _, _, rfl, rfl, _, rfl, ?_⟩⟩
        refine ite2 (fun _ => ?_) (fun _ => ?_)
        · refine ⟨_, _, rfl, rfl, _, rfl, p, _, 4, 4, rfl, rfl, d1.at_, rfl, ?_⟩
          exact ⟨⟨_, _, _, _, rfl⟩, (k1.trans Kp.upd).trans Kp.upd, _, _, _, _, _, _, _, d1.put d1.i0 d1.x0⟩
        · refine ⟨_, _, rfl, rfl, _, rfl, p, _, 4, 4, rfl, rfl, d1.at_, rfl, ?_⟩
          exact ⟨⟨_, _, _, _, rfl⟩, (k1.trans Kp.upd).trans Kp.upd, _, _, _, _, _, _, _, d1.put d1.i0 d1.x0⟩
      · refine ⟨_, rfl, p, _, 3, 3, rfl, rfl, d.at_, rfl, ?_⟩
        have d1 := d.put (i' := i) (x' := x) (y' := 6) (z' := z) (c' := c) (s' := sm) d.i0 d.x0
        refine ⟨_, rfl, _, rfl, .inl ⟨_, rfl, _, _, rfl, rfl, (show (0 : Int) < 2147483629 by decide), _, rfl, _, _, rfl, rfl, _, rfl, ?_⟩⟩
        refine ite2 (fun _ => ?_) (fun _ => ?_)
        · refine ⟨_, _, rfl, rfl, _, rfl, p, _, 4, 4, rfl, rfl, d1.at_, rfl, ?_⟩
          exact ⟨⟨_, _, _, _, rfl⟩, (k1.trans Kp.upd).trans Kp.upd, _, _, _, _, _, _, _, d1.put d1.i0 d1.x0⟩
        · refine ⟨_, _, rfl, rfl, _, rfl, p, _, 4, 4, rfl, rfl, d1.at_, rfl, ?_⟩
          exact ⟨⟨_, _, _, _, rfl⟩, (k1.trans Kp.upd).trans Kp.upd, _, _, _, _, _, _, _, d1.put d1.i0 d1.x0⟩
  · rintro σ H1 ⟨⟨x2, x3, x4, x5, rfl⟩, k1, ns, i, x, y, z, c, sm, d⟩
    have hm0 : (0 : Int) < many := by omega
    refine ⟨_, rfl, p, _, 2, _, rfl, rfl, SqL.of d.at_, atI_nat (j := 2) rfl, _, _, rfl, rfl, _, rfl, ?_⟩
    refine ite2 (fun hx => ?_) (fun _ => ?_)
    · refine ⟨_, rfl, p, _, 2, _, rfl, rfl, SqL.of d.at_, atI_nat (j := 2) rfl, .inl ⟨_, rfl, _, rfl, _, _, rfl, rfl, hm0, ?_⟩⟩
      refine ⟨_, rfl, p, _, 2, _, rfl, rfl, SqL.of d.at_, atI_nat (j := 2) rfl, _, rfl, _, _, rfl, rfl, ⟨hm0, by omega⟩, _, rfl, p, _, 2, 2, rfl, rfl, d.at_, rfl, ?_⟩
      refine ⟨_, rfl, ?_⟩
      exact q _ _ (Int.emod_nonneg _ (Int.ne_of_gt hm0)) (.inl (Int.emod_lt_of_pos _ hm0)) (k1.trans Kp.upd) (d.put d.i0 (Int.ediv_nonneg d.x0 (Int.le_of_lt hm0))).ok
    · refine ⟨_, rfl, p, _, 3, _, rfl, rfl, SqL.of d.at_, atI_nat (j := 3) rfl, _, _, rfl, rfl, _, rfl, p, _, 3, 3, rfl, rfl, d.at_, rfl, ?_⟩
      have d1 := d.put (i' := i) (x' := x) (y' := y - 1) (z' := z) (c' := c) (s' := sm) d.i0 d.x0
      refine ⟨_, rfl, p, _, 5, _, rfl, rfl, SqL.of d1.at_, atI_nat (j := 5) rfl, _, _, rfl, rfl, _, rfl, p, _, 5, 5, rfl, rfl, d1.at_, rfl, ?_⟩
      have d2 := d1.put (i' := i) (x' := x) (y' := y - 1) (z' := z) (c' := c + 1) (s' := sm) d.i0 d.x0
      refine ⟨_, rfl, p, _, 4, _, rfl, rfl, SqL.of d2.at_, atI_nat (j := 4) rfl, _, _, rfl, rfl, .inr (by constructor <;> decide), _, rfl, p, _, 5, _, rfl, rfl, SqL.of d2.at_, atI_nat (j := 5) rfl, _, _, rfl, rfl, .inr (by constructor <;> decide), _, _, rfl, rfl, _, _, rfl, rfl, .inl ⟨_, rfl, _, _, rfl, rfl, (show (0 : Int) < 2147483647 by decide), ?_⟩⟩
      have b1 : ∀ a : Int, 0 ≤ a % 2147483647 ∧ a % 2147483647 < 2147483647 := fun a => ⟨Int.emod_nonneg _ (by decide), Int.emod_lt_of_pos _ (by decide)⟩
      have b2 : ∀ a : Int, 0 ≤ a % 1000000007 ∧ a % 1000000007 < 1000000007 := fun a => ⟨Int.emod_nonneg _ (by decide), Int.emod_lt_of_pos _ (by decide)⟩
      obtain ⟨p1, p2⟩ := b1 (z * 48271 + (c + 1) * 69621 + 11)
      generalize (z * 48271 + (c + 1) * 69621 + 11) % 2147483647 = one at p1 p2
      refine ⟨_, rfl, _, rfl, _, _, rfl, rfl, .inl ⟨by omega, by omega⟩, _, rfl, p, _, 5, _, rfl, rfl, SqL.of d2.at_, atI_nat (j := 5) rfl, _, _, rfl, rfl, .inr (by constructor <;> decide), _, _, rfl, rfl, .inl ⟨_, rfl, _, _, rfl, rfl, (show (0 : Int) < 1000000007 by decide), ?_⟩⟩
      refine ⟨_, rfl, _, _, rfl, rfl, .inr (by constructor <;> decide), _, rfl, _, _, rfl, rfl, ⟨by decide, by decide⟩, _, _, rfl, rfl, .inl ⟨_, rfl, _, _, rfl, rfl, (show (0 : Int) < 2147483399 by decide), _, _, rfl, rfl, ⟨by decide, by decide⟩, .inl ⟨_, rfl, _, rfl, _, _, rfl, rfl, hm0, ?_⟩⟩⟩
      exact q _ _ (Int.emod_nonneg _ (Int.ne_of_gt hm0)) (.inl (Int.emod_lt_of_pos _ hm0)) ((k1.trans Kp.upd).trans Kp.upd) d2.ok
end
end KP

/-! What the law draws, plainly: that all that it asks holds. -/
namespace KM
open PySem
section
variable {ph ph' : Int → Prop} {pa : Bool → List PyData → Prop}
mutual
/-- all the holes' numbers and all the atoms are so -/
def All (ph : Int → Prop) (pa : Bool → List PyData → Prop) : Tm → Prop
  | .var _ => True
  | .atom u xs => pa u xs
  | .node k ps => (∀ h ∈ hd k, ph h) ∧ AllL ph pa ps
def AllL (ph : Int → Prop) (pa : Bool → List PyData → Prop) : List Tm → Prop
  | [] => True
  | p :: ps => All ph pa p ∧ AllL ph pa ps
end
theorem allL_iff : ∀ ps : List Tm, AllL ph pa ps ↔ ∀ p ∈ ps, All ph pa p
  | [] => by simp [AllL]
  | p :: ps => by simp [AllL, allL_iff ps]
theorem all_node {k : Kd} {ps : List Tm} : All ph pa (.node k ps) ↔ (∀ h ∈ hd k, ph h) ∧ ∀ p ∈ ps, All ph pa p := by simp [All, allL_iff]
theorem all_atom {u : Bool} {xs : List PyData} : All ph pa (.atom u xs) ↔ pa u xs := by simp [All]
theorem all_var {i : Nat} : All ph pa (.var i) := by simp [All]
theorem all_mono (h : ∀ n, ph n → ph' n) {t : Tm} : All ph pa t → All ph' pa t := by
  refine Tm.ind (P := fun t => All ph pa t → All ph' pa t) (fun _ _ => all_var) (fun _ _ a => all_atom.mpr (all_atom.mp a)) (fun k ps ih a => ?_) t
  obtain ⟨a1, a2⟩ := all_node.mp a
  exact all_node.mpr ⟨fun x hx => h x (a1 x hx), fun p hp => ih p hp (a2 p hp)⟩
theorem all_nums {t : Tm} : All ph pa t → ∀ h ∈ nums t, ph h := by
  refine Tm.ind (P := fun t => All ph pa t → ∀ h ∈ nums t, ph h) (fun i _ h z => by rw [nums_var] at z; cases z) (fun u xs _ h z => by rw [nums_atom] at z; cases z) (fun k ps ih a h z => ?_) t
  obtain ⟨a1, a2⟩ := all_node.mp a
  rcases mem_nums_node.mp z with z | ⟨p, hp, z⟩
  · exact a1 h z
  · exact ih p hp (a2 p hp) h z
theorem all_trav {g : Nat → Nat → Tm} (hg : ∀ d i, All ph pa (g d i)) (t : Tm) : ∀ d, All ph pa t → All ph pa (trav g d t) := by
  refine Tm.ind (P := fun t => ∀ d, All ph pa t → All ph pa (trav g d t)) (fun i d _ => by rw [trav_var]; exact hg d i) (fun u xs d a => by rw [trav_atom]; exact a) (fun k ps ih d a => ?_) t
  obtain ⟨a1, a2⟩ := all_node.mp a
  rw [trav_node]
  refine all_node.mpr ⟨a1, fun q hq => ?_⟩
  obtain ⟨j, hj⟩ := List.mem_iff_getElem?.mp hq
  rw [mapI_get] at hj
  cases hp : ps[j]? with
  | none => rw [hp] at hj; cases hj
  | some p =>
    rw [hp] at hj
    simp only [Option.map_some, Option.some.injEq] at hj
    subst hj
    exact ih p (List.mem_of_getElem? hp) _ (a2 p (List.mem_of_getElem? hp))
theorem all_lift {b d : Nat} {t : Tm} (h : All ph pa t) : All ph pa (lift b d t) := by
  refine all_trav (fun d i => ?_) t d h
  by_cases q : i < d
  · rw [liftG_lo q]; exact all_var
  · rw [liftG_hi q]; exact all_var
theorem all_put {d : Nat} {t : Tm} {qs : List Tm} (h : All ph pa t) (hq : ∀ q ∈ qs, All ph pa q) : All ph pa (putU qs d t) := by
  refine all_trav (fun d i => ?_) t d h
  by_cases q : i < d
  · rw [putG_lo q]; exact all_var
  · by_cases hl : i - d < qs.length
    · rw [putG_in q hl]
      have hlt : qs.length - 1 - (i - d) < qs.length := by omega
      refine all_lift (hq _ ?_)
      rw [List.getD, List.getElem?_eq_getElem hlt]
      exact List.getElem_mem hlt
    · rw [putG_out q hl]; exact all_var
theorem hit_hd {φ : Fl} {k : Kd} (e : hit φ k = none) : ∀ h ∈ hd k, φ h = none := by
  cases k with
  | hole n =>
    intro h hh
    rw [List.mem_singleton.mp hh]
    exact e
  | _ => intro h hh; cases hh
theorem hit_hole {φ : Fl} {k : Kd} {ar : Nat} {b : Tm} (e : hit φ k = some (ar, b)) : ∃ n, k = .hole n ∧ φ n = some (ar, b) := by
  cases k with
  | hole n => exact ⟨n, rfl, e⟩
  | _ => cases e
theorem hit_none {φ : Fl} {k : Kd} (e : ∀ h ∈ hd k, φ h = none) : hit φ k = none := by
  cases k with
  | hole n => exact e n (List.mem_singleton.mpr rfl)
  | _ => rfl
theorem all_fill {φ : Fl} (hp : ∀ h, ph h → φ h = none → ph' h) (hφ : ∀ h ar b, φ h = some (ar, b) → All ph pa b) : ∀ {n w : Nat} {t : Tm}, wf φ n w t → All ph pa t → All ph' pa (fillN φ n t)
  | _, _, .var i, _, _ => by rw [fillN_var]; exact all_var
  | _, _, .atom u xs, _, a => by rw [fillN_atom]; exact all_atom.mpr (all_atom.mp a)
  | 0, _, .node _ _, h, _ => h.elim
  | n + 1, w, .node k ps, h, a => by
    obtain ⟨a1, a2⟩ := all_node.mp a
    cases e : hit φ k with
    | some ab =>
      obtain ⟨ar, b⟩ := ab
      obtain ⟨h1, h2, h3⟩ := (wf_hit e).mp h
      obtain ⟨x, rfl, e2⟩ := hit_hole e
      rw [fillN_hit e]
      refine all_put (all_fill hp hφ h3 (hφ _ _ _ e2)) fun q hq => ?_
      obtain ⟨p, hp', rfl⟩ := List.mem_map.mp hq
      exact all_fill hp hφ (h2 p hp') (a2 p hp')
    | none =>
      rw [fillN_miss e]
      refine all_node.mpr ⟨fun x hx => hp x (a1 x hx) (hit_hd e x hx), fun q hq => ?_⟩
      obtain ⟨p, hp', rfl⟩ := List.mem_map.mp hq
      obtain ⟨j, hj⟩ := List.mem_iff_getElem?.mp hp'
      exact all_fill hp hφ ((wf_miss e).mp h j p hj) (a2 p hp')
/-- with no filled hole -/
theorem none_fill {φ : Fl} : ∀ {n : Nat} {t : Tm}, All (fun h => φ h = none) pa t → dle n t → fillN φ n t = t
  | _, .var i, _, _ => fillN_var _ _ _
  | _, .atom u xs, _, _ => fillN_atom _ _ _ _
  | 0, .node _ _, _, h => h.elim
  | n + 1, .node k ps, a, h => by
    obtain ⟨a1, a2⟩ := all_node.mp a
    rw [fillN_miss (hit_none a1)]
    congr 1
    have : ps.map (fillN φ n) = ps.map id := List.map_congr_left fun p hp => none_fill (a2 p hp) (h.2 p hp)
    rw [this, List.map_id]
theorem none_wf {φ : Fl} : ∀ {n w : Nat} {t : Tm}, All (fun h => φ h = none) pa t → dle n t → sc w t → wf φ n w t
  | _, _, .var i, _, _, s => wf_var.mpr (sc_var.mp s)
  | _, _, .atom u xs, _, _, _ => wf_atom
  | 0, _, .node _ _, _, h, _ => h.elim
  | n + 1, w, .node k ps, a, h, s => by
    obtain ⟨a1, a2⟩ := all_node.mp a
    refine (wf_miss (hit_none a1)).mpr fun j p hp => ?_
    have hm := List.mem_of_getElem? hp
    exact none_wf (a2 p hm) (h.2 p hm) (sc_node.mp s j p hp)
theorem fdl_var {φ : Fl} {B C i : Nat} : ∀ n, KP.fdl φ B C n (.var i)
  | 0 => trivial
  | _ + 1 => trivial
theorem fdl_atom {φ : Fl} {B C : Nat} {u : Bool} {xs : List PyData} : ∀ n, KP.fdl φ B C n (.atom u xs)
  | 0 => trivial
  | _ + 1 => trivial
theorem cst_mono {φ : Fl} : ∀ {n m w c : Nat} {t : Tm}, wf φ n w t → cst φ n t c → n ≤ m → cst φ m t c
  | _, _, _, _, .var i, _, h, _ => cst_var.mpr (cst_var.mp h)
  | _, _, _, _, .atom u xs, _, h, _ => cst_atom.mpr (cst_atom.mp h)
  | 0, _, _, _, .node _ _, h, _, _ => h.elim
  | n + 1, 0, _, _, .node _ _, _, _, h => by omega
  | n + 1, m + 1, w, c, .node k ps, h, hc, hm => by
    have hm' : n ≤ m := by omega
    cases e : hit φ k with
    | some ab =>
      obtain ⟨ar, b⟩ := ab
      obtain ⟨h1, h2, h3⟩ := (wf_hit e).mp h
      obtain ⟨c1, c2, k1, k2, k3⟩ := (cst_hit e).mp hc
      exact (cst_hit e).mpr ⟨c1, c2, cst_mono h3 k1 hm', fun p hp => cst_mono (h2 p hp) (k2 p hp) hm', k3⟩
    | none =>
      obtain ⟨c1, k1, k2⟩ := (cst_miss e).mp hc
      refine (cst_miss e).mpr ⟨c1, fun p hp => ?_, k2⟩
      obtain ⟨j, hj⟩ := List.mem_iff_getElem?.mp hp
      exact cst_mono ((wf_miss e).mp h j p hj) (k1 p hp) hm'
/-! ### terms as they are drawn -/
inductive Gn (pa : Bool → List PyData → Prop) : List (Int × Nat) → Nat → Nat → Tm → Prop
  | var {hs : List (Int × Nat)} {d w i : Nat} : i < w → Gn pa hs d w (.var i)
  | atom {hs : List (Int × Nat)} {d w : Nat} {u : Bool} {xs : List PyData} : pa u xs → Gn pa hs d w (.atom u xs)
  | hole {hs pre rest : List (Int × Nat)} {n : Int} {ar d w : Nat} {ps : List Tm} : hs = pre ++ (n, ar) :: rest → ps.length = ar → ar ≤ 24 → (∀ p ∈ ps, Gn pa rest d w p) → Gn pa hs (d + 1) w (.node (.hole n) ps)
  | node {hs : List (Int × Nat)} {k : Kd} {d w : Nat} {ps : List Tm} : (∀ n, k ≠ .hole n) → arOk k ps.length → (∀ j p, ps[j]? = some p → Gn pa hs d (w + bnd k j) p) → Gn pa hs (d + 1) w (.node k ps)
theorem Gn.up {hs : List (Int × Nat)} {d w : Nat} {t : Tm} (g : Gn pa hs d w t) : ∀ {d' : Nat}, d ≤ d' → Gn pa hs d' w t := by
  induction g with
  | var h => intro d' _; exact .var h
  | atom h => intro d' _; exact .atom h
  | hole h1 h2 h3 _ ih => intro d' hd; obtain ⟨m, rfl⟩ : ∃ m, d' = m + 1 := ⟨d' - 1, by omega⟩; exact .hole h1 h2 h3 fun p hp => ih p hp (by omega)
  | node h1 h2 _ ih => intro d' hd; obtain ⟨m, rfl⟩ : ∃ m, d' = m + 1 := ⟨d' - 1, by omega⟩; exact .node h1 h2 fun j p hp => ih j p hp (by omega)
theorem Gn.nil' {hs0 : List (Int × Nat)} {d w : Nat} {t : Tm} (g : Gn pa hs0 d w t) : hs0 = [] → ∀ {hs : List (Int × Nat)}, Gn pa hs d w t := by
  induction g with
  | var h => intro _ _; exact .var h
  | atom h => intro _ _; exact .atom h
  | hole h1 h2 h3 _ ih => intro e; subst e; simp at h1
  | node h1 h2 _ ih => intro e hs; exact .node h1 h2 fun j p hp => ih j p hp e
theorem Gn.nil {hs : List (Int × Nat)} {d w : Nat} {t : Tm} (g : Gn pa [] d w t) : Gn pa hs d w t := g.nil' rfl
theorem Gn.dle {hs : List (Int × Nat)} {d w : Nat} {t : Tm} (g : Gn pa hs d w t) : dle d t := by
  induction g with
  | var h => exact dle_var _ _
  | atom h => exact dle_atom _ _ _
  | hole h1 h2 h3 _ ih => exact ⟨by subst h2; exact h3, ih⟩
  | node h1 h2 _ ih =>
    refine ⟨h2, fun p hp => ?_⟩
    obtain ⟨j, hj⟩ := List.mem_iff_getElem?.mp hp
    exact ih j p hj
theorem Gn.sc {hs : List (Int × Nat)} {d w : Nat} {t : Tm} (g : Gn pa hs d w t) : sc w t := by
  induction g with
  | var h => exact sc_var.mpr h
  | atom h => exact sc_atom
  | hole h1 h2 h3 _ ih => exact sc_node.mpr fun j p hp => by rw [bnd_hole]; exact ih p (List.mem_of_getElem? hp)
  | node h1 h2 _ ih => exact sc_node.mpr fun j p hp => ih j p hp
theorem Gn.all {hs : List (Int × Nat)} {d w : Nat} {t : Tm} (g : Gn pa hs d w t) : All (fun h => ∃ ar, (h, ar) ∈ hs) pa t := by
  induction g with
  | var h => exact all_var
  | atom h => exact all_atom.mpr h
  | @hole hs pre rest n ar d w ps h1 h2 h3 _ ih =>
    refine all_node.mpr ⟨fun h hh => ?_, fun p hp => all_mono (fun h ⟨a, ha⟩ => ⟨a, ?_⟩) (ih p hp)⟩
    · rw [List.mem_singleton.mp hh]; exact ⟨ar, by rw [h1]; simp⟩
    · rw [h1]; simp [ha]
  | @node hs k d w ps h1 h2 _ ih =>
    refine all_node.mpr ⟨fun h hh => ?_, fun p hp => ?_⟩
    · cases k with
      | hole n => exact (h1 n rfl).elim
      | _ => cases hh
    · obtain ⟨j, hj⟩ := List.mem_iff_getElem?.mp hp
      exact ih j p hj
/-- a filling that was drawn for these holes -/
def Cp (pa : Bool → List PyData → Prop) (hs : List (Int × Nat)) (φ : Fl) : Prop := ∀ pre n ar rest ar' b, hs = pre ++ (n, ar) :: rest → φ n = some (ar', b) → ar' = ar ∧ Gn pa rest (if rest = [] then 1 else 2) ar b
theorem Cp.rest {hs pre rest : List (Int × Nat)} {x : Int × Nat} {φ : Fl} (c : Cp pa hs φ) (e : hs = pre ++ x :: rest) : Cp pa rest φ := by
  intro pre' n ar rest' ar' b h1 h2
  exact c (pre ++ x :: pre') n ar rest' ar' b (by rw [e, h1]; simp) h2
def eM : Nat → Nat
  | 0 => 0
  | 1 => 0
  | n + 2 => 2 * eM (n + 1) + 1
def cM : Nat → Nat
  | 0 => 0
  | n + 1 => 2 * cM n + 3
theorem gn_main {φ : Fl} : ∀ (m : Nat) {hs : List (Int × Nat)} {d w : Nat} {t : Tm}, Gn pa hs d w t → hs.length ≤ m → Cp pa hs φ → wf φ (d + 2 * m) w t ∧ cst φ (d + 2 * m) t (d + 1 + cM m) ∧ dle (d + eM m) (fillN φ (d + 2 * m) t) ∧ ∀ B, d + eM m ≤ B → KP.fdl φ B B (d + 2 * m) t := by
  intro m
  induction m with
  | zero =>
    intro hs d w t g hl hc
    have e : hs = [] := List.eq_nil_of_length_eq_zero (by omega)
    clear hl
    revert e
    induction g with
    | var h => intro _; exact ⟨wf_var.mpr h, cst_var.mpr (by omega), by rw [fillN_var]; exact dle_var _ _, fun B _ => fdl_var _⟩
    | atom h => intro _; exact ⟨wf_atom, cst_atom.mpr (by omega), by rw [fillN_atom]; exact dle_atom _ _ _, fun B _ => fdl_atom _⟩
    | hole h1 => intro e; subst e; simp at h1
    | @node hs k d w ps h1 h2 _ ih =>
      intro e
      have hk : hit φ k = none := by
        cases k with
        | hole n => exact (h1 n rfl).elim
        | _ => rfl
      have ih' : ∀ p ∈ ps, cst φ (d + 2 * 0) p (d + 1 + cM 0) ∧ dle (d + eM 0) (fillN φ (d + 2 * 0) p) ∧ ∀ B, d + eM 0 ≤ B → KP.fdl φ B B (d + 2 * 0) p := fun p hp => by
        obtain ⟨j, hj⟩ := List.mem_iff_getElem?.mp hp
        exact (ih j p hj hc e).2
      rw [show d + 1 + 2 * 0 = (d + 2 * 0) + 1 by omega]
      refine ⟨(wf_miss hk).mpr fun j p hp => (ih j p hp hc e).1, (cst_miss hk).mpr ⟨_, fun p hp => (ih' p hp).1, by omega⟩, ?_, fun B hB => ?_⟩
      · rw [fillN_miss hk, show d + 1 + eM 0 = (d + eM 0) + 1 by omega]
        refine ⟨by rw [List.length_map]; exact h2, fun q hq => ?_⟩
        obtain ⟨p, hp, rfl⟩ := List.mem_map.mp hq
        exact (ih' p hp).2.1
      · refine ⟨Nat.le_trans h2.le (by decide), fun p hp => (ih' p hp).2.2 B (by omega), ?_⟩
        rw [hk]; trivial
  | succ m IH =>
    intro hs d w t g hl hc
    have em : eM (m + 1) ≥ eM m := by
      cases m with
      | zero => exact Nat.le_refl _
      | succ m => show 2 * eM (m + 1) + 1 ≥ _; omega
    have cm : cM (m + 1) = 2 * cM m + 3 := rfl
    induction g with
    | var h => exact ⟨wf_var.mpr h, cst_var.mpr (by omega), by rw [fillN_var]; exact dle_var _ _, fun B _ => fdl_var _⟩
    | atom h => exact ⟨wf_atom, cst_atom.mpr (by omega), by rw [fillN_atom]; exact dle_atom _ _ _, fun B _ => fdl_atom _⟩
    | @hole hs pre rest n ar d w ps h1 h2 h3 hg _ =>
      have hlr : rest.length ≤ m := by
        rw [h1] at hl
        simp at hl
        omega
      have hcr := hc.rest h1
      have ih := fun p hp => IH (hg p hp) hlr hcr
      rw [show d + 1 + 2 * (m + 1) = (d + 2 * m + 2) + 1 by omega]
      have fm : ∀ p ∈ ps, fillN φ (d + 2 * m + 2) p = fillN φ (d + 2 * m) p := fun p hp => fillN_mono (ih p hp).1 (by omega)
      have fd2 : ∀ {n : Nat} {t : Tm} {B m' : Nat}, KP.fdl φ B B n t → n ≤ m' → (∀ w, wf φ n w t → KP.fdl φ B B m' t) := by
        intro n
        induction n with
        | zero =>
          intro t B m' h hm w hw
          cases t with
          | var i => cases m' <;> trivial
          | atom u xs => cases m' <;> trivial
          | node k ps => exact h.elim
        | succ n ihn =>
          intro t B m' h hm w hw
          obtain ⟨m', rfl⟩ : ∃ z, m' = z + 1 := ⟨m' - 1, by omega⟩
          cases t with
          | var i => trivial
          | atom u xs => trivial
          | node k ps =>
            obtain ⟨a1, a2, a3⟩ := h
            cases e : hit φ k with
            | none =>
              refine ⟨a1, fun p hp => ?_, by rw [e]; trivial⟩
              obtain ⟨j, hj⟩ := List.mem_iff_getElem?.mp hp
              exact ihn (a2 p hp) (by omega) _ ((wf_miss e).mp hw j p hj)
            | some ab =>
              obtain ⟨ar, b⟩ := ab
              obtain ⟨z1, z2, z3⟩ := (wf_hit e).mp hw
              rw [e] at a3
              obtain ⟨b1, b2, b3⟩ := a3
              refine ⟨a1, fun p hp => ihn (a2 p hp) (by omega) _ (z2 p hp), ?_⟩
              rw [e]
              exact ⟨fun p hp => by rw [fillN_mono (z2 p hp) (by omega)]; exact b1 p hp, ihn b2 (by omega) _ z3, by rw [fillN_mono z3 (by omega)]; exact b3⟩
      cases e : φ n with
      | none =>
        have hk : hit φ (.hole n) = none := e
        refine ⟨(wf_miss hk).mpr fun j p hp => ?_, (cst_miss hk).mpr ⟨d + 1 + cM m, fun p hp => ?_, by omega⟩, ?_, fun B hB => ?_⟩
        · exact wf_mono (ih p (List.mem_of_getElem? hp)).1 (by omega)
        · have z := ih p hp
          clear fd2
          exact KM.cst_mono z.1 z.2.1 (by omega)
        · rw [fillN_miss hk, show d + 1 + eM (m + 1) = (d + eM (m + 1)) + 1 by omega]
          refine ⟨by rw [List.length_map, h2]; exact h3, fun q hq => ?_⟩
          obtain ⟨p, hp, rfl⟩ := List.mem_map.mp hq
          rw [fm p hp]
          exact dle_mono (ih p hp).2.2.1 (by omega)
        · refine ⟨by omega, fun p hp => fd2 ((ih p hp).2.2.2 B (by omega)) (by omega) _ (ih p hp).1, ?_⟩
          rw [hk]; trivial
      | some ab =>
        obtain ⟨ar', b⟩ := ab
        obtain ⟨rfl, hb⟩ := hc pre n ar rest ar' b h1 e
        have hk : hit φ (.hole n) = some (ar', b) := e
        generalize hdb : (if rest = [] then 1 else 2) = db at hb
        have hd2 : db ≤ 2 := by rw [← hdb]; split <;> omega
        have hde : db - 1 + 2 * eM m ≤ eM (m + 1) := by
          cases m with
          | zero =>
            have : rest = [] := List.eq_nil_of_length_eq_zero (by omega)
            rw [if_pos this] at hdb
            show db - 1 + 2 * 0 ≤ 0
            omega
          | succ m => show _ ≤ 2 * eM (m + 1) + 1; omega
        have hd1 : 1 ≤ db := by rw [← hdb]; split <;> omega
        obtain ⟨b1, b2, b3, b4⟩ := IH hb hlr hcr
        have fb : fillN φ (d + 2 * m + 2) b = fillN φ (db + 2 * m) b := fillN_mono b1 (by omega)
        refine ⟨(wf_hit hk).mpr ⟨h2, fun p hp => wf_mono (ih p hp).1 (by omega), wf_mono b1 (by omega)⟩, (cst_hit hk).mpr ⟨db + 1 + cM m, d + 1 + cM m, cst_mono b1 b2 (by omega), fun p hp => cst_mono (ih p hp).1 (ih p hp).2.1 (by omega), by omega⟩, ?_, fun B hB => ?_⟩
        · rw [fillN_hit hk, fb]
          refine dle_mono (dle_put b3 (m := d + eM m) fun q hq => ?_) (by omega)
          obtain ⟨p, hp, rfl⟩ := List.mem_map.mp hq
          rw [fm p hp]
          exact (ih p hp).2.2.1
        · refine ⟨by omega, fun p hp => fd2 ((ih p hp).2.2.2 B (by omega)) (by omega) _ (ih p hp).1, ?_⟩
          rw [hk]
          refine ⟨fun p hp => ?_, fd2 (b4 B (by omega)) (by omega) _ b1, ?_⟩
          · rw [fm p hp]
            exact dle_mono (ih p hp).2.2.1 (by omega)
          · rw [fb]
            exact dle_mono b3 (by omega)
    | @node hs k d w ps h1 h2 _ ih =>
      have hk : hit φ k = none := by
        cases k with
        | hole n => exact (h1 n rfl).elim
        | _ => rfl
      have ih' : ∀ p ∈ ps, cst φ (d + 2 * (m + 1)) p (d + 1 + cM (m + 1)) ∧ dle (d + eM (m + 1)) (fillN φ (d + 2 * (m + 1)) p) ∧ ∀ B, d + eM (m + 1) ≤ B → KP.fdl φ B B (d + 2 * (m + 1)) p := fun p hp => by
        obtain ⟨j, hj⟩ := List.mem_iff_getElem?.mp hp
        exact (ih j p hj hl hc).2
      rw [show d + 1 + 2 * (m + 1) = (d + 2 * (m + 1)) + 1 by omega]
      refine ⟨(wf_miss hk).mpr fun j p hp => (ih j p hp hl hc).1, (cst_miss hk).mpr ⟨_, fun p hp => (ih' p hp).1, by omega⟩, ?_, fun B hB => ?_⟩
      · rw [fillN_miss hk, show d + 1 + eM (m + 1) = (d + eM (m + 1)) + 1 by omega]
        refine ⟨by rw [List.length_map]; exact h2, fun q hq => ?_⟩
        obtain ⟨p, hp, rfl⟩ := List.mem_map.mp hq
        exact (ih' p hp).2.1
      · refine ⟨Nat.le_trans h2.le (by decide), fun p hp => (ih' p hp).2.2 B (by omega), ?_⟩
        rw [hk]; trivial
/-! ### the filling settled -/
theorem none_fdl {φ : Fl} {B C : Nat} : ∀ {n : Nat} {t : Tm}, All (fun h => φ h = none) pa t → dle n t → KP.fdl φ B C n t
  | _, .var i, _, _ => fdl_var _
  | _, .atom u xs, _, _ => fdl_atom _
  | 0, .node _ _, _, h => h.elim
  | n + 1, .node k ps, a, h => by
    obtain ⟨a1, a2⟩ := all_node.mp a
    refine ⟨Nat.le_trans h.1.le (by decide), fun p hp => none_fdl (a2 p hp) (h.2 p hp), ?_⟩
    rw [hit_none a1]
    trivial
theorem told_main {φ ψ : Fl} {n0 D : Nat} (h0 : ∀ h, φ h = none → ψ h = none)
    (h1 : ∀ h ar b, φ h = some (ar, b) → ψ h = some (ar, fillN φ n0 b) ∧ wf φ n0 ar b ∧ dle D (fillN φ n0 b) ∧ All (fun h => φ h = none) pa (fillN φ n0 b)) :
    ∀ {n w : Nat} {t : Tm}, wf φ n w t → fillN ψ (n + D) t = fillN φ n t ∧ ∀ B, D ≤ B → KP.fdl φ B B n t → KP.fdl ψ B B (n + D) t
  | n, w, .var i, _ => ⟨by rw [fillN_var, fillN_var], fun _ _ _ => fdl_var _⟩
  | n, w, .atom u xs, _ => ⟨by rw [fillN_atom, fillN_atom], fun _ _ _ => fdl_atom _⟩
  | 0, w, .node _ _, h => h.elim
  | n + 1, w, .node k ps, h => by
    rw [show n + 1 + D = (n + D) + 1 by omega]
    cases e : hit φ k with
    | none =>
      have e2 : hit ψ k = none := hit_none fun x hx => h0 x (hit_hd e x hx)
      have ih : ∀ p ∈ ps, fillN ψ (n + D) p = fillN φ n p ∧ ∀ B, D ≤ B → KP.fdl φ B B n p → KP.fdl ψ B B (n + D) p := fun p hp => by
        obtain ⟨j, hj⟩ := List.mem_iff_getElem?.mp hp
        exact told_main h0 h1 ((wf_miss e).mp h j p hj)
      rw [fillN_miss e, fillN_miss e2]
      refine ⟨?_, fun B hB hf => ?_⟩
      · congr 1
        exact List.map_congr_left fun p hp => (ih p hp).1
      · obtain ⟨a1, a2, _⟩ := hf
        refine ⟨a1, fun p hp => (ih p hp).2 B hB (a2 p hp), ?_⟩
        rw [e2]; trivial
    | some ab =>
      obtain ⟨ar, b⟩ := ab
      obtain ⟨z1, z2, z3⟩ := (wf_hit e).mp h
      obtain ⟨x, rfl, e3⟩ := hit_hole e
      obtain ⟨y1, y2, y3, y4⟩ := h1 x ar b e3
      have e2 : hit ψ (.hole x) = some (ar, fillN φ n0 b) := y1
      have ih : ∀ p ∈ ps, fillN ψ (n + D) p = fillN φ n p ∧ ∀ B, D ≤ B → KP.fdl φ B B n p → KP.fdl ψ B B (n + D) p := fun p hp => told_main h0 h1 (z2 p hp)
      have y5 : All (fun h => ψ h = none) pa (fillN φ n0 b) := all_mono h0 y4
      have y6 : dle (n + D) (fillN φ n0 b) := dle_mono y3 (by omega)
      have eb : fillN φ n0 b = fillN φ n b := by
        rcases Nat.le_total n n0 with q | q
        · exact fillN_mono z3 q
        · exact (fillN_mono y2 q).symm
      rw [fillN_hit e, fillN_hit e2, none_fill y5 y6]
      refine ⟨?_, fun B hB hf => ?_⟩
      · rw [eb]
        congr 1
        exact List.map_congr_left fun p hp => (ih p hp).1
      · obtain ⟨a1, a2, a3⟩ := hf
        refine ⟨a1, fun p hp => (ih p hp).2 B hB (a2 p hp), ?_⟩
        rw [e] at a3
        rw [e2]
        obtain ⟨b1, b2, b3⟩ := a3
        refine ⟨fun p hp => by rw [(ih p hp).1]; exact b1 p hp, none_fdl y5 y6, ?_⟩
        rw [none_fill y5 y6]
        exact dle_mono y3 hB
/-! ### the data are shaped -/
def PaD (pa : Bool → List PyData → Prop) : Prop := ∀ u xs, pa u xs → PyData.canLayAll0 xs = true ∧ PyData.depthAll xs ≤ 4
theorem tags_ok (k : Kd) : PyData.strOk (KD.Kd.tag k) = true := by
  cases k with
  | hole n => exact (show PyData.strOk "hole" = true by decide +kernel)
  | _ => decide +kernel
theorem canAll_map : ∀ {ps : List Tm}, (∀ p ∈ ps, (KD.enc p).canLay0 = true) → PyData.canLayAll0 (ps.map KD.enc) = true
  | [], _ => rfl
  | p :: ps, h => by
    simp only [List.map_cons, PyData.canLayAll0, Bool.and_eq_true]
    exact ⟨h p List.mem_cons_self, canAll_map fun q hq => h q (List.mem_cons_of_mem _ hq)⟩
theorem depAll_map {m : Nat} : ∀ {ps : List Tm}, (∀ p ∈ ps, (KD.enc p).depth ≤ m) → PyData.depthAll (ps.map KD.enc) ≤ m
  | [], _ => Nat.zero_le _
  | p :: ps, h => by
    simp only [List.map_cons, PyData.depthAll]
    exact Nat.max_le.mpr ⟨h p List.mem_cons_self, depAll_map fun q hq => h q (List.mem_cons_of_mem _ hq)⟩
theorem enc_ok (hp : PaD pa) : ∀ {n : Nat} {t : Tm}, All ph pa t → dle n t → (KD.enc t).canLay0 = true ∧ (KD.enc t).depth ≤ 2 * n + 5
  | n, .var i, _, _ => by
    rw [KD.enc_var]
    refine ⟨by simp only [PyData.canLay0, PyData.canLayAll0]; decide +kernel, by simp only [PyData.depth, PyData.depthAll]; omega⟩
  | n, .atom u xs, a, _ => by
    obtain ⟨h1, h2⟩ := hp u xs (all_atom.mp a)
    rw [KD.enc_atom]
    refine ⟨?_, ?_⟩
    · simp only [PyData.canLay0, PyData.canLayAll0, h1, Bool.and_true]
      cases u <;> decide +kernel
    · simp only [PyData.depth, PyData.depthAll]
      omega
  | 0, .node _ _, _, h => h.elim
  | n + 1, .node k ps, a, h => by
    obtain ⟨a1, a2⟩ := all_node.mp a
    have ih := fun p hm => enc_ok hp (a2 p hm) (h.2 p hm)
    have c1 := canAll_map fun p hm => (ih p hm).1
    have c2 := depAll_map fun p hm => (ih p hm).2
    by_cases hk : ∃ x, k = .hole x
    · obtain ⟨x, rfl⟩ := hk
      rw [KD.enc_hole]
      refine ⟨?_, ?_⟩
      · simp only [PyData.canLay0, PyData.canLayAll0, c1, Bool.and_true]
        decide +kernel
      · simp only [PyData.depth, PyData.depthAll]
        omega
    · rw [KD.enc_node fun x e => hk ⟨x, e⟩]
      refine ⟨?_, ?_⟩
      · simp only [PyData.canLay0, PyData.canLayAll0, c1, Bool.and_true]
        exact tags_ok k
      · simp only [PyData.depth, PyData.depthAll]
        omega
theorem enc_shaped (hp : PaD pa) {n : Nat} {t : Tm} (a : All ph pa t) (h : dle n t) (hn : 2 * n + 5 ≤ 64) : SeqAt.shaped (KD.enc t) = true := by
  obtain ⟨h1, h2⟩ := enc_ok hp a h
  unfold SeqAt.shaped
  rw [h1, Bool.true_and]
  exact decide_eq_true (by omega)
theorem ent_shaped (hp : PaD pa) {n : Nat} {t : Tm} {i : Int} (a : All ph pa t) (h : dle n t) (hn : 2 * n + 6 ≤ 64) : SeqAt.shaped (.tuple [.int i, KD.enc t]) = true := by
  obtain ⟨h1, h2⟩ := enc_ok hp a h
  unfold SeqAt.shaped
  simp only [PyData.canLay0, PyData.canLayAll0, PyData.depth, PyData.depthAll, h1, Bool.true_and, Bool.and_true]
  exact decide_eq_true (by omega)
end
end KM

/-! The law's terms drawn. -/
namespace KP
open PySem PyProof.Rows L2 LamX NdefX KL KM KD
theorem Kp.te {p : Addr} {xs : List V} {H H' : Hp} (k : Kp p H H') (h : H p = some (.lst xs)) : Te H H' := fun a ys r => by
  rcases r with r | ⟨o, r⟩
  · exact .inl (k a _ r (fun e => by subst e; rw [h] at r; cases r))
  · exact .inr ⟨o, k a _ r (fun e => by subst e; rw [h] at r; cases r)⟩
theorem DrOk.lst {p b : Addr} {H : Hp} (d : DrOk H p b) : ∃ xs, H p = some (.lst xs) := by
  obtain ⟨ns, i, x, y, z, c, s, h1, _⟩ := d; exact ⟨_, h1⟩
theorem Kp.te' {p b : Addr} {H H' : Hp} (k : Kp p H H') (d : DrOk H p b) : Te H H' := by
  obtain ⟨xs, h⟩ := d.lst; exact k.te h
theorem Kp.new {p q : Addr} {H : Hp} {o : HO} (h : H q = none) : Kp p H (L2.upd H q o) := Kp.same (same_new h o)
section
variable {P : Program} {w : World} {K : PySem.W.Frag} {mg : Str → Option Value} {base : Heap} {T : List (Addr × Str)}
def spOne (K : PySem.W.Frag) : Sp := fun vs H Q _ => ∃ p b a xs, vs = [.ref p, .ref a] ∧ DrOk H p b ∧ H a = some (.lst xs) ∧ a ≠ p ∧ 1 ≤ xs.length ∧ xs.length ≤ 1000 ∧ ∀ (r : Nat) x H', xs[r]? = some x → Kp p H H' → DrOk H' p b → Q x H'
theorem scOne : FnScope ["_law_draw_here", "_law_row"] ["_law_draw_here", "_law_row"] (defScope sOne) := ⟨rfl, rfl, rfl, by decide +kernel, rfl, by decide +kernel, by decide +kernel⟩
theorem ok_one {f fp : Addr} {fd fdp : FuncData} (F : Fun K "_law_one" "_law_one" sOne f fd) (ml : mg "len" = none) (CP : Cl P w K mg base 1 "_law_pick" fp fdp ["_law_draw_here", "_law_many"] spPick) : FnOk P w K mg base CX0 2 f fd ["_law_draw_here", "_law_row"] (spOne K) := by
  refine F.ok scOne (fun vs H Q E h => ?_) (fun cdv A outer s H vs Q E hr h => ?_)
  · obtain ⟨p, b, a, xs, rfl, _⟩ := h; rfl
  obtain ⟨p, b, a, xs, rfl, d, ha, ne, h1, h2, q⟩ := h
  refine ⟨_, pss_one (ps_ret (pe_ix ix_list (pv 1) (pe_cl CP hr (pa_cons (pv 0) (pa_cons (pe_callB call_len_seq rfl ml PySem.boot_len (pa_cons (pv 1) pa_nil)) pa_nil))) (fun _ _ => rfl))), ?_⟩
  refine ⟨_, rfl, _, rfl, _, rfl, a, _, rfl, .inl (SqL.of ha), p, b, _, rfl, d, by omega, fun r H' r0 r1 k d' => ?_⟩
  obtain ⟨j, rfl⟩ : ∃ j : Nat, r = (j : Int) := ⟨r.toNat, by omega⟩
  have hj : j < xs.length := by omega
  exact ⟨a, xs, (j : Int), _, rfl, rfl, SqL.of (k _ _ ha ne), atI_nat (List.getElem?_eq_getElem hj), q j _ H' (List.getElem?_eq_getElem hj) k d'⟩
/-! ### written data -/
def tDat (K : PySem.W.Frag) (d : PyData) : TE := fun _ H Q => ∀ v H', Same H H' → Tp K H' v d → Q v H'
def tDats (K : PySem.W.Frag) (ds : List PyData) : TA := fun _ H Q => ∀ vs H', Same H H' → TpAll K H' vs ds → Q vs H'
section
variable {X : Cx} {e : Expr} {es : List Expr} {pos : Pos}
theorem PE.weak {t t' : TE} (h : PE X e t) (hw : ∀ σ H Q, t' σ H Q → t σ H Q) : PE X e t' := ⟨fun pins s σ H Q I q => h.run pins s σ H Q I (hw σ H Q q)⟩
theorem PA.weak {t t' : TA} (h : PA X es t) (hw : ∀ σ H Q, t' σ H Q → t σ H Q) : PA X es t' := ⟨fun pos pins s σ H Q I q => h.run pos pins s σ H Q I (hw σ H Q q)⟩
theorem pd_int {i : Int} (h : PE X e (tC (.int i))) : PE X e (tDat X.K (.int i)) := PE.weak h fun _ H _ q => q _ H (fun _ _ z => z) (.int i)
theorem pd_str {z : Str} (h : PE X e (tC (.str z))) : PE X e (tDat X.K (.str z)) := PE.weak h fun _ H _ q => q _ H (fun _ _ z => z) (.str z)
theorem pd_nil : PA X [] (tDats X.K []) := PA.weak pa_nil fun _ H _ q => q _ H (fun _ _ z => z) .nil
theorem pd_cons {d : PyData} {ds : List PyData} (ha : PE X e (tDat X.K d)) (hr : PA X es (tDats X.K ds)) (hs : starEach (e :: es) X.env = (false, eval e X.env) :: starEach es X.env := by rfl) : PA X (e :: es) (tDats X.K (d :: ds)) :=
  PA.weak (pa_cons ha hr hs) fun _ H _ q => fun v H1 s1 h1 => fun vs H2 s2 h2 => q (v :: vs) H2 (s1.trans s2) (.cons (tp_ext (Te.of' s2) _ _ h1) h2)
theorem pd_tup {x1} {ds : List PyData} (h : PA X es (tDats X.K ds)) (hl : ds.length ≤ sizeLine := by decide) : PE X (.Tuple es x1 pos) (tDat X.K (.tuple ds)) :=
  PE.weak (pe_tup h) fun _ H _ q => fun vs H1 s1 h1 => ⟨by rw [tpA_len h1]; exact hl, fun p hp => q _ _ (s1.trans (same_new hp _)) (.tup (SqT.of upd_same) (tpA_ext (Te.of' (same_new hp _)) _ _ h1))⟩
def tDlst (K : PySem.W.Frag) (ds : List PyData) : TE := fun _ H Q => ∀ a vs H', Same H H' → H a = none → H' a = some (.lst vs) → TpAll K H' vs ds → Q (.ref a) H'
theorem pd_lst {ds : List PyData} (h : PA X es (tDats X.K ds)) (hl : ds.length ≤ sizeLine := by decide) : PE X (.List es pos) (tDlst X.K ds) :=
  PE.weak (pe_lst h) fun _ H _ q => fun vs H1 s1 h1 => ⟨by rw [tpA_len h1]; exact hl, fun p hp => q p vs _ (s1.trans (same_new hp _)) (s1.free hp) upd_same (tpA_ext (Te.of' (same_new hp _)) _ _ h1)⟩
end
/-! ### leaf -/
abbrev L0 : PyData := .tuple []
abbrev P00 : PyData := .tuple [.int 0, .int 0]
def unis : List PyData := [.tuple [.int 0, L0], .tuple [.int 0, L0], .tuple [.int 2, L0], .tuple [.int 0, .tuple [.tuple [.int 1, .int 3]]], .tuple [.int 1, .tuple [P00]]]
def lvls : List PyData := [L0, L0, .tuple [.tuple [.int 0, L0]], .tuple [.tuple [.int 0, .tuple [P00]], .tuple [.int 40, L0]]]
def nams : List PyData := [.str "b", .str "qed", .str "rim7", .str "nat.rec"]
/-- the atoms that are drawn -/
def pa0 (u : Bool) (xs : List PyData) : Prop := (u = true ∧ ∃ d ∈ unis, xs = [d]) ∨ (u = false ∧ ∃ n ∈ nams, ∃ l ∈ lvls, xs = [n, l])
theorem dep_uni : ∀ d ∈ unis, d.canLay0 = true ∧ d.depth ≤ 4 := by
  unfold unis
  simp [PyData.canLay0, PyData.canLayAll0, PyData.depth, PyData.depthAll]
theorem dep_lvl : ∀ d ∈ lvls, d.canLay0 = true ∧ d.depth ≤ 4 := by
  unfold lvls
  simp [PyData.canLay0, PyData.canLayAll0, PyData.depth, PyData.depthAll]
theorem dep_nam : ∀ d ∈ nams, d.canLay0 = true ∧ d.depth ≤ 4 := by
  intro d hd
  unfold nams at hd
  simp only [List.mem_cons, List.not_mem_nil, or_false] at hd
  rcases hd with rfl | rfl | rfl | rfl <;> exact ⟨by simp only [PyData.canLay0]; decide +kernel, by simp [PyData.depth]⟩
theorem pa0_ok : PaD pa0 := by
  rintro u xs (⟨rfl, d, hd, rfl⟩ | ⟨rfl, n, hn, l, hl, rfl⟩)
  · obtain ⟨h1, h2⟩ := dep_uni d hd
    simp only [PyData.canLayAll0, PyData.depthAll, h1, Bool.true_and]
    exact ⟨trivial, by omega⟩
  · obtain ⟨h1, h2⟩ := dep_nam n hn
    obtain ⟨h3, h4⟩ := dep_lvl l hl
    simp only [PyData.canLayAll0, PyData.depthAll, h1, h3, Bool.true_and]
    exact ⟨trivial, by omega⟩
def spLeaf (K : PySem.W.Frag) : Sp := fun vs H Q _ => ∃ (p b : Addr) (wd : Nat), vs = [.ref p, .int wd] ∧ DrOk H p b ∧ wd ≤ 1000 ∧ ∀ v H' t, Kp p H H' → DrOk H' p b → Tr K H' v t → (∀ hs d, Gn pa0 hs d wd t) → Q v H'
theorem scLeaf : FnScope ["_law_draw_here", "_law_wide", "_law_way", "_law_levels"] ["_law_draw_here", "_law_wide"] (defScope sLeaf) := ⟨rfl, rfl, rfl, by decide +kernel, rfl, by decide +kernel, by decide +kernel⟩
theorem ok_leaf {f fp fo : Addr} {fd fdp fdo : FuncData} (F : Fun K "_law_leaf" "_law_leaf" sLeaf f fd) (CP : Cl P w K mg base 1 "_law_pick" fp fdp ["_law_draw_here", "_law_many"] spPick) (CO : Cl P w K mg base 2 "_law_one" fo fdo ["_law_draw_here", "_law_row"] (spOne K)) : FnOk P w K mg base CX0 3 f fd ["_law_draw_here", "_law_wide"] (spLeaf K) := by
  refine F.ok scLeaf (fun vs H Q E h => ?_) (fun cdv A outer s H vs Q E hr h => ?_)
  · obtain ⟨p, b, wd, rfl, _⟩ := h; rfl
  obtain ⟨p, b, wd, rfl, d, hw, q⟩ := h
  have hr1 := hr.mono (show 1 ≤ 2 by omega)
  refine ⟨_, pss_cons (ps_set (i := 2) scLeaf.nd rfl (.inl rfl) (pe_cl CP hr1 (pa_cons (pv 0) (pa_cons pe_int pa_nil))))
    (Evl.pss_cut (ps_if (PW.pt (pw_and (pt_truth (pv 1) (by intro _; rfl)) (pw_and1 (pt_cmpR op_lt (pv 2) pe_int (nomark _))))) (pss_one (ps_ret (pe_tup (pa_cons pe_str (pa_cons (pe_cl CP hr1 (pa_cons (pv 0) (pa_cons (pv 1) pa_nil))) pa_nil))))) pss_nil)
    (Evl.pss_cut (ps_if (pt_cmpR op_eq (pv 2) pe_int (nomark _)) (pss_one (ps_ret (pe_tup (pa_cons pe_str (pa_cons (pe_cl CO hr (pa_cons (pv 0) (pa_cons (pd_lst (ds := unis)
        (pd_cons (pd_tup (pd_cons (pd_int pe_int) (pd_cons (pd_tup pd_nil) pd_nil))) (pd_cons (pd_tup (pd_cons (pd_int pe_int) (pd_cons (pd_tup pd_nil) pd_nil))) (pd_cons (pd_tup (pd_cons (pd_int pe_int) (pd_cons (pd_tup pd_nil) pd_nil)))
        (pd_cons (pd_tup (pd_cons (pd_int pe_int) (pd_cons (pd_tup (pd_cons (pd_tup (pd_cons (pd_int pe_int) (pd_cons (pd_int pe_int) pd_nil))) pd_nil)) pd_nil)))
        (pd_cons (pd_tup (pd_cons (pd_int pe_int) (pd_cons (pd_tup (pd_cons (pd_tup (pd_cons (pd_int pe_int) (pd_cons (pd_int pe_int) pd_nil))) pd_nil)) pd_nil))) pd_nil)))))) pa_nil))) pa_nil))))) pss_nil)
    (pss_cons (ps_set (i := 3) scLeaf.nd rfl (.inl rfl) (pe_cl CO hr (pa_cons (pv 0) (pa_cons (pd_lst (ds := lvls)
        (pd_cons (pd_tup pd_nil) (pd_cons (pd_tup pd_nil) (pd_cons (pd_tup (pd_cons (pd_tup (pd_cons (pd_int pe_int) (pd_cons (pd_tup pd_nil) pd_nil))) pd_nil))
        (pd_cons (pd_tup (pd_cons (pd_tup (pd_cons (pd_int pe_int) (pd_cons (pd_tup (pd_cons (pd_tup (pd_cons (pd_int pe_int) (pd_cons (pd_int pe_int) pd_nil))) pd_nil)) pd_nil))) (pd_cons (pd_tup (pd_cons (pd_int pe_int) (pd_cons (pd_tup pd_nil) pd_nil))) pd_nil))) pd_nil))))) pa_nil))))
    (pss_one (ps_ret (pe_tup (pa_cons pe_str (pa_cons (pe_cl CO hr (pa_cons (pv 0) (pa_cons (pd_lst (ds := nams) (pd_cons (pd_str pe_str) (pd_cons (pd_str pe_str) (pd_cons (pd_str pe_str) (pd_cons (pd_str pe_str) pd_nil))))) pa_nil))) (pa_cons (pv 3) pa_nil))))))))), ?_⟩
  refine ⟨_, rfl, p, b, 7, rfl, d, by decide, fun way H1 _ _ k1 d1 => ?_⟩
  have pt := d.lst
  refine ⟨fun σ H' => σ = [some (.ref p), some (.int (wd : Nat)), some (.int way), none] ∧ H1 = H', ?_, ?_⟩
  · refine ⟨_, rfl, _, rfl, ?_⟩
    refine ite2 (fun e => ?_) (fun _ => iteF ⟨rfl, rfl⟩)
    have wd0 : wd ≠ 0 := fun z => by subst z; cases e
    refine ⟨_, rfl, _, _, rfl, rfl, _, rfl, ?_⟩
    refine ite2 (fun _ => ?_) (fun _ => ⟨rfl, rfl⟩)
    refine ⟨_, rfl, _, rfl, p, b, wd, rfl, d1, by omega, fun r H2 r0 r1 k2 d2 => ?_⟩
    obtain ⟨j, rfl⟩ : ∃ j : Nat, r = (j : Int) := ⟨r.toNat, by omega⟩
    refine ⟨le_line (by simp), fun a ha => ?_⟩
    have k3 : Kp p H2 _ := Kp.new (o := HO.tup [.str "var", .int (j : Int)]) ha
    exact q _ _ (.var j) ((k1.trans k2).trans k3) (d2.same (same_new ha _)) (tr_mk_var (SqT.of upd_same)) fun hs d => .var (by omega)
  · rintro σ _ ⟨rfl, rfl⟩
    refine ⟨fun σ H' => σ = [some (.ref p), some (.int (wd : Nat)), some (.int way), none] ∧ H1 = H', ?_, ?_⟩
    · refine ⟨_, rfl, rfl, _, rfl, ?_⟩
      refine ite2 (fun _ => ?_) (fun _ => ⟨rfl, rfl⟩)
      refine ⟨_, rfl, fun a vs H2 s2 f2 a2 t2 => ?_⟩
      have d2 := d1.same s2
      have nap : a ≠ p := fun e => by subst e; obtain ⟨xs, hx⟩ := d1.lst; rw [f2] at hx; cases hx
      have hl : vs.length = 5 := tpA_len t2
      refine ⟨p, b, a, vs, rfl, d2, a2, nap, by omega, by omega, fun r x H3 hx k3 d3 => ?_⟩
      have hr : r < 5 := by rw [← hl]; exact (List.getElem?_eq_some_iff.mp hx).1
      obtain ⟨v, hv, tv⟩ := tpA_get (i := r) (d := unis[r]) t2 (List.getElem?_eq_getElem (by exact hr))
      rw [hx] at hv
      cases hv
      refine ⟨le_line (by simp), fun g hg => ?_⟩
      have s4 := same_new hg (HO.tup [.str "univ", x])
      have tv' := tp_ext ((k3.te' d2).trans (Te.of' s4)) _ _ tv
      refine q _ _ (.atom true [unis[r]]) (((k1.trans (Kp.same s2)).trans k3).trans (Kp.same s4)) (d3.same s4) ?_ fun hs d => .atom (.inl ⟨rfl, _, List.getElem_mem _, rfl⟩)
      show Tp K _ _ (enc _)
      rw [enc_atom]
      exact .tup (SqT.of upd_same) (.cons (.str _) (.cons tv' .nil))
    · rintro σ _ ⟨rfl, rfl⟩
      refine ⟨_, rfl, fun a vs H2 s2 f2 a2 t2 => ?_⟩
      have d2 := d1.same s2
      have nap : a ≠ p := fun e => by subst e; obtain ⟨xs, hx⟩ := d1.lst; rw [f2] at hx; cases hx
      have hl : vs.length = 4 := tpA_len t2
      refine ⟨p, b, a, vs, rfl, d2, a2, nap, by omega, by omega, fun r x H3 hx k3 d3 => ?_⟩
      have hr : r < 4 := by rw [← hl]; exact (List.getElem?_eq_some_iff.mp hx).1
      obtain ⟨v, hv, tv⟩ := tpA_get (i := r) (d := lvls[r]) t2 (List.getElem?_eq_getElem (by exact hr))
      rw [hx] at hv
      cases hv
      have tv3 := tp_ext (k3.te' d2) _ _ tv
      refine ⟨_, rfl, fun a4 vs4 H4 s4 f4 e4 t4 => ?_⟩
      have d4 := d3.same s4
      have nap4 : a4 ≠ p := fun e => by subst e; obtain ⟨xs, hx⟩ := d3.lst; rw [f4] at hx; cases hx
      have hl4 : vs4.length = 4 := tpA_len t4
      refine ⟨p, b, a4, vs4, rfl, d4, e4, nap4, by omega, by omega, fun r5 x5 H5 hx5 k5 d5 => ?_⟩
      have hr5 : r5 < 4 := by rw [← hl4]; exact (List.getElem?_eq_some_iff.mp hx5).1
      obtain ⟨v5, hv5, tv5⟩ := tpA_get (i := r5) (d := nams[r5]) t4 (List.getElem?_eq_getElem (by exact hr5))
      rw [hx5] at hv5
      cases hv5
      have tv5' := tp_ext (k5.te' d4) _ _ tv5
      have tv6 := tp_ext ((Te.of' s4).trans (k5.te' d4)) _ _ tv3
      refine ⟨_, rfl, le_line (by simp), fun g hg => ?_⟩
      have s7 := same_new hg (HO.tup [.str "const", x5, x])
      have te7 : Te _ _ := Te.of' s7
      refine q _ _ (.atom false [nams[r5], lvls[r]]) (((((k1.trans (Kp.same s2)).trans k3).trans (Kp.same s4)).trans k5).trans (Kp.same s7)) (d5.same s7) ?_ fun hs d => .atom (.inr ⟨rfl, _, List.getElem_mem _, _, List.getElem_mem _, rfl⟩)
      show Tp K _ _ (enc _)
      rw [enc_atom]
      exact .tup (SqT.of upd_same) (.cons (.str _) (.cons (tp_ext te7 _ _ tv5') (.cons (tp_ext te7 _ _ tv6) .nil)))
/-! ### fresh -/
theorem nodup_len : ∀ {l ns : List Int}, l.Nodup → (∀ x ∈ l, x ∈ ns) → l.length ≤ ns.length
  | [], _, _, _ => Nat.zero_le _
  | x :: l, ns, h, hs => by
    obtain ⟨h1, h2⟩ := List.nodup_cons.mp h
    have hx := hs x List.mem_cons_self
    have z := nodup_len (l := l) (ns := ns.erase x) h2 fun y hy => (List.mem_erase_of_ne (by rintro rfl; exact h1 hy)).mpr (hs y (List.mem_cons_of_mem _ hy))
    rw [List.length_erase_of_mem hx] at z
    have : 0 < ns.length := List.length_pos_of_mem hx
    simp only [List.length_cons]
    omega
theorem fresh_end {ns : List Int} {c : Int} (h0 : 0 ≤ c) (h1 : c < 200) (hl : ns.length < 100) (h : c ∉ ns ∨ ∀ j : Int, 1 ≤ j → j ≤ ns.length → (c - j) % 200 ∈ ns) : c ∉ ns := by
  rcases h with h | h
  · exact h
  · intro hc
    have z := nodup_len (l := (List.range (ns.length + 1)).map fun j => (c - (j : Nat)) % 200) (ns := ns) ?_ ?_
    · simp at z; omega
    · unfold List.Nodup
      rw [List.pairwise_map]
      refine List.Pairwise.imp_of_mem (R := fun a b => a < b) (fun {a b} ha hb hab e => ?_) List.pairwise_lt_range
      have := List.mem_range.mp ha
      have := List.mem_range.mp hb
      omega
    · intro x hx
      obtain ⟨j, hj, rfl⟩ := List.mem_map.mp hx
      have := List.mem_range.mp hj
      by_cases j0 : j = 0
      · subst j0
        have : (c - (0 : Nat)) % 200 = c := by omega
        rw [this]; exact hc
      · exact h j (by omega) (by omega)
theorem inV_int (c : Int) : ∀ ns : List Int, inV (.int c) (ns.map V.int) = decide (c ∈ ns)
  | [] => rfl
  | n :: ns => by
    have z := inV_int c ns
    unfold inV at z ⊢
    rw [List.map_cons, List.any_cons, z]
    by_cases h : c = n
    · subst h; simp [eqV]
    · have h' : ¬ n = c := fun e => h e.symm
      simp [eqV, h, h']
theorem flat_int (ns : List Int) : (ns.map V.int).all flatV = true := by
  induction ns with
  | nil => rfl
  | cons n ns ih => rw [List.map_cons, List.all_cons, ih]; rfl
def spFresh : Sp := fun vs H Q _ => ∃ (p b a : Addr) (ns : List Int), vs = [.ref p, .ref a] ∧ DrOk H p b ∧ H a = some (.lst (ns.map V.int)) ∧ a ≠ p ∧ ns.length < 100 ∧ ∀ r H', 0 ≤ r → r < 200 → r ∉ ns → Kp p H H' → DrOk H' p b → Q (.int r) H'
theorem scFresh : FnScope ["_law_draw_here", "_law_taken", "_law_number", "_law_k"] ["_law_draw_here", "_law_taken"] (defScope sFresh) := ⟨rfl, rfl, rfl, by decide +kernel, rfl, by decide +kernel, by decide +kernel⟩
theorem ok_fresh {f fp : Addr} {fd fdp : FuncData} (F : Fun K "_law_fresh" "_law_fresh" sFresh f fd) (ml : mg "len" = none) (mr : mg "range" = none) (mi : mg "int" = none) (CP : Cl P w K mg base 1 "_law_pick" fp fdp ["_law_draw_here", "_law_many"] spPick) : FnOk P w K mg base CX0 2 f fd ["_law_draw_here", "_law_taken"] spFresh := by
  refine F.ok scFresh (fun vs H Q E h => ?_) (fun cdv A outer s H vs Q E hr h => ?_)
  · obtain ⟨p, b, a, ns, rfl, _⟩ := h; rfl
  obtain ⟨p, b, a, ns, rfl, d, ha, ne, hl, q⟩ := h
  refine ⟨_, pss_cons (ps_set (i := 2) scFresh.nd rfl (.inl rfl) (pe_cl CP hr (pa_cons (pv 0) (pa_cons pe_int pa_nil))))
    (pss_cons (ps_for PassesOwn.never rfl (pi_range1 rfl mr (pa_cons (pe_callB call_len_seq rfl ml PySem.boot_len (pa_cons (pv 1) pa_nil)) pa_nil)) (pg_name (i := 3) scFresh.nd rfl (.inl rfl))
      (pss_one (ps_if (pt_cmpR op_in_seq (pv 2) (pv 1) rfl) (pss_one (ps_set (i := 2) scFresh.nd rfl (.inl rfl) (pe_op op_mod (pe_callTy call_int1 rfl mi (by decide +kernel) (pa_cons (pe_op op_add (pv 2) pe_int) pa_nil)) pe_int))) pss_nil)))
    (pss_one (ps_ret (pv 2)))), ?_⟩
  refine ⟨_, rfl, p, b, 200, rfl, d, by decide, fun c H1 c0 c1 k1 d1 => ?_⟩
  have ha1 := k1 _ _ ha ne
  refine ⟨_, rfl, a, _, rfl, .inl (SqL.of ha1), _, rfl, by omega, by rw [List.length_map]; omega, ?_⟩
  refine for_it walk_range (fun i σ H' => H1 = H' ∧ ∃ c x3, σ = [some (.ref p), some (.ref a), some (.int c), x3] ∧ 0 ≤ c ∧ c < 200 ∧ (c ∉ ns ∨ ∀ j : Int, 1 ≤ j → j ≤ i → (c - j) % 200 ∈ ns)) ?_ ?_ ?_ ?_
  · exact ⟨rfl, c, _, rfl, c0, by omega, .inr fun j _ _ => by omega⟩
  · intro _ _ _ _ _; trivial
  · rintro i x σ H2 H3 hi ⟨rfl, c, x3, rfl, c0, c1, hc⟩ ⟨rfl, rfl⟩
    refine ⟨_, rfl, _, rfl, a, _, rfl, .inl (SqL.of ha1), rfl, flat_int ns, _, rfl, ?_⟩
    refine ite2 (fun e => ?_) (fun e => ?_)
    · have e : c ∈ ns := by
        have e : inV (.int c) (ns.map V.int) = true := e
        rw [inV_int] at e
        exact of_decide_eq_true e
      refine ⟨_, rfl, _, _, rfl, rfl, .inl ⟨_, rfl, _, _, rfl, rfl, (show (0 : Int) < 200 by decide), rfl, _, _, rfl, by omega, by omega, .inr fun j j0 j1 => ?_⟩⟩
      rcases hc with hc | hc
      · exact (hc e).elim
      · by_cases z : j = 1
        · have : ((c + 1) % 200 - j) % 200 = c := by omega
          rw [this]; exact e
        · have : ((c + 1) % 200 - j) % 200 = (c - (j - 1)) % 200 := by omega
          rw [this]; exact hc (j - 1) (by omega) (by omega)
    · have e : c ∉ ns := by
        have e : ¬ inV (.int c) (ns.map V.int) = true := e
        rw [inV_int] at e
        exact fun h => e (decide_eq_true h)
      exact ⟨rfl, c, _, rfl, c0, c1, .inl e⟩
  · rintro σ H2 ⟨rfl, c, x3, rfl, c0, c1, hc⟩
    refine ⟨_, rfl, q c H1 c0 c1 (fresh_end c0 c1 hl ?_) k1 d1⟩
    rcases hc with hc | hc
    · exact .inl hc
    · exact .inr fun j j0 j1 => hc j j0 (by simp; omega)
end
end KP

/-! The law's terms drawn: open. -/
namespace KP
open PySem PyProof.Rows L2 LamX NdefX KL KM KD
def nd (h : Bool) (r : Int) : Nat := (if h = true then 1 else 0) + (if r < 2 then 0 else if r < 5 then 1 else if r < 11 then 2 else 3)
theorem nd_half {h : Bool} {r : Int} {d : Nat} (h2 : ¬ r < 2) (h3 : r ≤ 22) (hn : nd h r ≤ d + 1) : nd h ((r - 1) / 2) ≤ d := by
  unfold nd at *
  generalize (if h = true then 1 else 0 : Nat) = x at *
  repeat' split at hn
  all_goals repeat' split
  all_goals omega
theorem nd_hole {h : Bool} {r l : Int} {d : Nat} (h2 : l ≤ 0 ∨ 2 * l ≤ r - 1) (h3 : r ≤ 22) (hn : nd true r ≤ d + 1) : (0 < l → nd h l ≤ d) ∧ (l ≤ 0 → nd false l ≤ d) := by
  unfold nd at *
  have hx : (if h = true then 1 else 0 : Nat) ≤ 1 := by split <;> omega
  generalize (if h = true then 1 else 0 : Nat) = x at *
  simp only [if_true, if_false, Bool.false_eq_true] at *
  constructor
  · intro hl
    repeat' split at hn
    all_goals repeat' split
    all_goals omega
  · intro hl
    repeat' split
    all_goals omega
theorem less_le {x m : Int} (hm : 2 ≤ m) : x / m ≤ 0 ∨ 2 * (x / m) ≤ x := by
  have h1 := Int.ediv_mul_le x (show m ≠ 0 by omega)
  by_cases h : x / m ≤ 0
  · exact .inl h
  · have h2 : x / m * 2 ≤ x / m * m := Int.mul_le_mul_of_nonneg_left hm (by omega)
    exact .inr (by omega)
abbrev encH (x : Int × Nat) : PyData := .tuple [.int x.1, .int x.2]
theorem Kp.mut {p q : Addr} {H H1 : Hp} {o : HO} (k : Kp p H H1) (h : H q = none) : Kp p H (L2.upd H1 q o) := fun b u e n => by rw [upd_ne (ne_of_none e h)]; exact k b u e n
theorem DrOk.ne {p b : Addr} {H H1 : Hp} {q : Addr} {o : HO} (d0 : DrOk H p b) (d : DrOk H1 p b) (h : H q = none) : DrOk (L2.upd H1 q o) p b := by
  obtain ⟨ns0, i0, x0, y0, z0, c0, s0, a1, a2, _⟩ := d0
  obtain ⟨ns, i, x, y, z, c, s, h1, h2, h3⟩ := d
  exact ⟨ns, i, x, y, z, c, s, by rw [upd_ne (ne_of_none a1 h)]; exact h1, by rw [upd_ne (ne_of_none a2 h)]; exact h2, h3⟩
theorem tpA_drop {K : PySem.W.Frag} {H : Hp} : ∀ {n : Nat} {us : List V} {ds : List PyData}, TpAll K H us ds → TpAll K H (us.drop n) (ds.drop n)
  | 0, _, _, h => h
  | n + 1, _, [], h => by cases h; exact .nil
  | n + 1, _, _ :: _, h => by
    cases h with
    | cons _ h2 => exact tpA_drop (n := n) h2
theorem cut_from {us : List V} {j : Nat} (h : j + 1 ≤ us.length) : cutV us (some ((j : Int) + 1)) none = us.drop (j + 1) := by
  unfold cutV
  rw [HT.sIx_none]
  have z := HT.sIx_nat us.length 0 (j + 1)
  rw [show (some ((j + 1 : Nat) : Int)) = some ((j : Int) + 1) from by simp] at z
  rw [z, Nat.min_eq_left h]
  exact List.take_of_length_le (by rw [List.length_drop]; exact Nat.le_refl _)
section
variable {P : Program} {w : World} {K : PySem.W.Frag} {mg : Str → Option Value} {base : Heap} {T : List (Addr × Str)}
def spOpen (K : PySem.W.Frag) (d : Nat) : Sp := fun vs H Q _ => ∃ (p b a : Addr) (wd : Nat) (r : Int) (us : List V) (hs : List (Int × Nat)), vs = [.ref p, .int wd, .int r, .ref a] ∧ DrOk H p b ∧ H a = some (.lst us) ∧ TpAll K H us (hs.map encH) ∧ a ≠ p ∧ hs.length ≤ 5 ∧ (∀ x ∈ hs, x.2 ≤ 24) ∧ wd + d ≤ 900 ∧ r ≤ 22 ∧ nd (!hs.isEmpty) r ≤ d ∧
  ∀ v H' t, Kp p H H' → DrOk H' p b → Tr K H' v t → Gn pa0 hs d wd t → Q v H'
abbrev nOpen : List Str := ["_law_draw_here", "_law_wide", "_law_room", "_law_holes", "_law_way", "_law_at", "_law_number", "_law_arity", "_law_less", "_law_later", "_law_k", "_law_tag", "_law_first"]
theorem scOpen : FnScope nOpen ["_law_draw_here", "_law_wide", "_law_room", "_law_holes"] (defScope sOpen) := ⟨rfl, rfl, rfl, by decide +kernel, rfl, by decide +kernel, by decide +kernel⟩
theorem tagK (j : Nat) (x : V) (h : ([V.str "app", .str "app", .str "app", .str "pi", .str "fun", .str "let"] : List V)[j]? = some x) : ∃ k : Kd, (∀ n, k ≠ .hole n) ∧ x = .str (Kd.tag k) := by
  match j, h with
  | 0, h => cases h; exact ⟨.app, (fun n z => by cases z), rfl⟩
  | 1, h => cases h; exact ⟨.app, (fun n z => by cases z), rfl⟩
  | 2, h => cases h; exact ⟨.app, (fun n z => by cases z), rfl⟩
  | 3, h => cases h; exact ⟨.pi, (fun n z => by cases z), rfl⟩
  | 4, h => cases h; exact ⟨.fn, (fun n z => by cases z), rfl⟩
  | 5, h => cases h; exact ⟨.lt, (fun n z => by cases z), rfl⟩
  | j + 6, h => simp at h
theorem gn_two {hs : List (Int × Nat)} {d wd : Nat} {k : Kd} {t1 t2 : Tm} (hk : k = .app ∨ k = .pi ∨ k = .fn) (g1 : Gn pa0 hs d wd t1) (g2 : Gn pa0 hs d (wd + bnd k 1) t2) : Gn pa0 hs (d + 1) wd (.node k [t1, t2]) := by
  refine .node ?_ ?_ ?_
  · rcases hk with rfl | rfl | rfl <;> intro n z <;> cases z
  · rcases hk with rfl | rfl | rfl <;> rfl
  · intro j p hp
    match j, hp with
    | 0, hp => cases hp; rcases hk with rfl | rfl | rfl <;> exact g1
    | 1, hp => cases hp; exact g2
    | j + 2, hp => simp at hp
theorem gn_let {hs : List (Int × Nat)} {d wd : Nat} {t1 t2 t3 : Tm} (g1 : Gn pa0 hs d wd t1) (g2 : Gn pa0 hs d wd t2) (g3 : Gn pa0 hs d (wd + 1) t3) : Gn pa0 hs (d + 1) wd (.node .lt [t1, t2, t3]) := by
  refine .node (by intro n z; cases z) rfl ?_
  intro j p hp
  match j, hp with
  | 0, hp => cases hp; exact g1
  | 1, hp => cases hp; exact g2
  | 2, hp => cases hp; exact g3
  | j + 3, hp => simp at hp
theorem ok_open {f fp fl : Addr} {fd fdp fdl : FuncData} (F : Fun K "_law_open" "_law_open" sOpen f fd) (mf : mg "_law_open" = some (.ref f)) (bf : L2.Binds K fd ["_law_draw_here", "_law_wide", "_law_room", "_law_holes"] []) (ml : mg "len" = none) (mr : mg "range" = none) (mt : mg "tuple" = none)
    (CP : Cl P w K mg base 1 "_law_pick" fp fdp ["_law_draw_here", "_law_many"] spPick) (CL : Cl P w K mg base 3 "_law_leaf" fl fdl ["_law_draw_here", "_law_wide"] (spLeaf K)) : ∀ d, Cl P w K mg base (d + 4) "_law_open" f fd ["_law_draw_here", "_law_wide", "_law_room", "_law_holes"] (spOpen K d)
  | 0 => by
    refine ⟨?_, mf, F.kp, bf⟩
    refine F.ok scOpen (fun vs H Q E h => ?_) (fun cdv A outer s H vs Q E hr h => ?_)
    · obtain ⟨p, b, a, wd, r, us, hs, rfl, _⟩ := h; rfl
    obtain ⟨p, b, a, wd, r, us, hs, rfl, d, ha, hT, ne, hl, har, hwd, hr22, hnd, q⟩ := h
    refine ⟨_, pss_cons (ps_set (i := 4) scOpen.nd rfl (.inl rfl) (pe_cl CP (hr.mono (by omega)) (pa_cons (pv 0) (pa_cons pe_int pa_nil))))
      (pss_cons (ps_if (PW.pt (pw_and (pt_truth (pv 3) (by intro _; rfl)) (pw_and1 (pt_cmpR op_lt (pv 4) pe_int (nomark _))))) pss_never pss_nil)
      (pss_cons (ps_if (PW.pt (pw_or (pt_cmpR op_lt (pv 2) pe_int (nomark _)) (pw_or1 (pt_cmpR op_eq (pv 4) pe_int (nomark _))))) (pss_one (ps_ret (pe_cl CL hr (pa_cons (pv 0) (pa_cons (pv 1) pa_nil))))) pss_nil) pss_never)), ?_⟩
    refine ⟨_, rfl, p, b, 8, rfl, d, by decide, fun way H1 _ _ k1 d1 => ?_⟩
    have hs0 : hs = [] := by
      cases hs with
      | nil => rfl
      | cons x xs => exfalso; unfold nd at hnd; simp at hnd
    subst hs0
    have hr2 : r < 2 := by
      unfold nd at hnd
      repeat' split at hnd
      all_goals omega
    have hu0 : us = [] := List.eq_nil_of_length_eq_zero (tpA_len hT)
    subst hu0
    refine ⟨_, rfl, _, .inl ⟨_, SqL.of (k1 _ _ ha ne), rfl⟩, iteF ?_⟩
    refine ⟨_, rfl, _, _, rfl, rfl, _, rfl, ?_⟩
    refine ite2 (fun _ => ?_) (fun e => (e (decide_eq_true hr2)).elim)
    refine ⟨_, rfl, _, rfl, p, b, wd, rfl, d1, by omega, fun v H2 t k2 d2 ht hg => ?_⟩
    exact q v H2 t (k1.trans k2) d2 ht (hg _ _)
  | d + 1 => by
    have ih := ok_open F mf bf ml mr mt CP CL d
    refine ⟨?_, mf, F.kp, bf⟩
    refine F.ok scOpen (fun vs H Q E h => ?_) (fun cdv A outer s H vs Q E hr h => ?_)
    · obtain ⟨p, b, a, wd, r, us, hs, rfl, _⟩ := h; rfl
    obtain ⟨p, b, a, wd, r, us, hs, rfl, dr, ha, hT, ne, hl, har, hwd, hr22, hnd, q⟩ := h
    have hr1 := hr.mono (show 1 ≤ d + 4 by omega)
    have hr3 := hr.mono (show 3 ≤ d + 4 by omega)
    refine ⟨_, pss_cons (ps_set (i := 4) scOpen.nd rfl (.inl rfl) (pe_cl CP hr1 (pa_cons (pv 0) (pa_cons pe_int pa_nil))))
      (Evl.pss_cut (ps_if (PW.pt (pw_and (pt_truth (pv 3) (by intro _; rfl)) (pw_and1 (pt_cmpR op_lt (pv 4) pe_int (nomark _)))))
        (pss_cons (ps_set (i := 5) scOpen.nd rfl (.inl rfl) (pe_cl CP hr1 (pa_cons (pv 0) (pa_cons (pe_callB call_len_seq rfl ml PySem.boot_len (pa_cons (pv 3) pa_nil)) pa_nil))))
        (pss_cons (ps_asg (pe_ix ix_list (pv 3) (pv 5) (fun _ _ => rfl)) (pg_tup rfl (pgs_cons (pg_name (i := 6) scOpen.nd rfl (.inl rfl)) (pgs_cons (pg_name (i := 7) scOpen.nd rfl (.inl rfl)) pgs_nil))))
        (pss_cons (ps_set (i := 8) scOpen.nd rfl (.inr rfl) (pe_op op_fdiv (pe_op op_sub (pv 2) pe_int) (pe_op op_add (pv 7) pe_int)))
        (Evl.pss_cut (ps_set (i := 9) scOpen.nd rfl (.inr rfl) (pe_ifExp (pt_cmpR op_gt (pv 8) pe_int (nomark _)) (pe_slice sl_list (pv 3) (po_some (pe_op op_add (pv 5) pe_int)) po_none) (pe_lst pa_nil)))
        (pss_one (ps_ret (pe_tup (pa_cons pe_str (pa_cons (pv 6) (pa_cons (pe_callTy call_tuple_of rfl mt (by decide +kernel) (pa_cons
          (pe_lc (own := [("_law_k", 10)]) (g := gName 10) (tt := tYes) rfl scOpen.nd (pi_range1 rfl mr (pa_cons (pv 7) pa_nil)) (blkOk_by (N := nOpen) (sc := defScope sOpen) (by decide +kernel))
            (fun _ _ _ _ _ => pg_name (i := 10) scOpen.nd rfl (.inl rfl)) (fun _ _ _ _ _ => pts_nil)
            (fun _ _ _ _ _ => pe_cl ih hr (pa_cons (pv 0) (pa_cons (pv 1) (pa_cons (pv 8) (pa_cons (pv 9) pa_nil)))))) pa_nil)) pa_nil)))))))))) pss_nil)
      (Evl.pss_cut (ps_if (PW.pt (pw_or (pt_cmpR op_lt (pv 2) pe_int (nomark _)) (pw_or1 (pt_cmpR op_eq (pv 4) pe_int (nomark _))))) (pss_one (ps_ret (pe_cl CL hr3 (pa_cons (pv 0) (pa_cons (pv 1) pa_nil))))) pss_nil)
      (pss_cons (ps_asg (pe_tup (pa_cons (pe_ix ix_list (pe_lst (pa_cons pe_str (pa_cons pe_str (pa_cons pe_str (pa_cons pe_str (pa_cons pe_str (pa_cons pe_str pa_nil))))))) (pe_cl CP hr1 (pa_cons (pv 0) (pa_cons pe_int pa_nil))) (fun _ _ => rfl)) (pa_cons (pe_op op_fdiv (pe_op op_sub (pv 2) pe_int) pe_int) pa_nil)))
          (pg_tup rfl (pgs_cons (pg_name (i := 11) scOpen.nd rfl (.inl rfl)) (pgs_cons (pg_name (i := 8) scOpen.nd rfl (.inr rfl)) pgs_nil))))
      (pss_cons (ps_set (i := 12) scOpen.nd rfl (.inl rfl) (pe_cl ih hr (pa_cons (pv 0) (pa_cons (pv 1) (pa_cons (pv 8) (pa_cons (pv 3) pa_nil))))))
      (pss_cons (ps_if (pt_cmpR op_eq (pv 11) pe_str (nomark _)) (pss_one (ps_ret (pe_tup (pa_cons pe_str (pa_cons (pv 12) (pa_cons (pe_cl CL hr3 (pa_cons (pv 0) (pa_cons (pv 1) pa_nil))) (pa_cons (pe_cl ih hr (pa_cons (pv 0) (pa_cons (pe_op op_add (pv 1) pe_int) (pa_cons (pv 8) (pa_cons (pv 3) pa_nil))))) pa_nil))))))) pss_nil)
      (pss_one (ps_ret (pe_tup (pa_cons (pv 11) (pa_cons (pv 12) (pa_cons (pe_cl ih hr (pa_cons (pv 0) (pa_cons (pe_op op_add (pv 1) (pe_ifExp (pt_cmpR op_eq (pv 11) pe_str (nomark _)) pe_int pe_int)) (pa_cons (pv 8) (pa_cons (pv 3) pa_nil))))) pa_nil))))))))))), ?_⟩
    refine ⟨_, rfl, p, b, 8, rfl, dr, by decide, fun way H1 _ _ k1 d1 => ?_⟩
    have ha1 := k1 _ _ ha ne
    have hT1 := tpA_ext (k1.te' dr) _ _ hT
    have hlu : us.length = hs.length := by rw [tpA_len hT, List.length_map]
    refine ⟨fun σ H' => σ = [some (.ref p), some (.int (wd : Nat)), some (.int r), some (.ref a), some (.int way), none, none, none, none, none, none, none, none] ∧ H1 = H', ?_, ?_⟩
    · refine ⟨_, rfl, _, .inl ⟨_, SqL.of ha1, rfl⟩, ?_⟩
      refine ite2 (fun e => ?_) (fun _ => iteF ⟨rfl, rfl⟩)
      have hne : 1 ≤ hs.length := by
        cases us with
        | nil => cases e
        | cons x xs => rw [← hlu]; simp
      refine ⟨_, rfl, _, _, rfl, rfl, _, rfl, ?_⟩
      refine ite2 (fun _ => ?_) (fun _ => ⟨rfl, rfl⟩)
      refine ⟨_, rfl, _, rfl, a, _, rfl, .inl (SqL.of ha1), p, b, _, rfl, d1, by omega, fun x H2 x0 x1 k2 d2 => ?_⟩
      obtain ⟨j, rfl⟩ : ∃ j : Nat, x = (j : Int) := ⟨x.toNat, by omega⟩
      have hj : j < hs.length := by omega
      have ha2 := k2 _ _ ha1 ne
      have hT2 := tpA_ext (k2.te' d1) _ _ hT1
      obtain ⟨v, hv, tv⟩ := tpA_get (i := j) (d := encH hs[j]) hT2 (by rw [List.getElem?_map, List.getElem?_eq_getElem hj]; rfl)
      obtain ⟨tp, rfl, hq⟩ : ∃ tp, v = .ref tp ∧ SqT K H2 tp [.int hs[j].1, .int (hs[j].2 : Nat)] := by
        cases tv with
        | tup h1 h2 => cases h2 with | cons a1 a2 => cases a1; cases a2 with | cons a3 a4 => cases a3; cases a4; exact ⟨_, rfl, h1⟩
      refine ⟨_, rfl, _, rfl, a, us, (j : Int), _, rfl, rfl, SqL.of ha2, atI_nat hv, ?_⟩
      refine ⟨tp, _, rfl, hq, rfl, _, _, rfl, _, _, rfl, rfl, ?_⟩
      have hsp : hs = hs.take j ++ hs[j] :: hs.drop (j + 1) := by rw [← List.drop_eq_getElem_cons hj, List.take_append_drop]
      have har1 := har hs[j] (List.getElem_mem hj)
      generalize hx : hs[j] = hx1 at hsp har1 hq
      obtain ⟨n, ar⟩ := hx1
      have har1 : ar ≤ 24 := har1
      refine ⟨_, rfl, _, _, rfl, rfl, _, rfl, _, _, rfl, rfl, _, _, rfl, rfl, ⟨by omega, by omega⟩, ?_⟩
      have hnz : nd true r ≤ d + 1 := by
        have : (!hs.isEmpty) = true := by cases hs with | nil => simp at hne | cons _ _ => rfl
        rw [this] at hnd; exact hnd
      have hless : 1 ≤ ar → (r - 1) / ((ar : Int) + 1) ≤ 0 ∨ 2 * ((r - 1) / ((ar : Int) + 1)) ≤ r - 1 := fun h => less_le (by omega)
      have hless22 : 1 ≤ ar → (r - 1) / ((ar : Int) + 1) ≤ 22 := fun h => by rcases hless h with z | z <;> omega
      obtain ⟨less, hlv⟩ : ∃ z, z = (r - 1) / ((ar : Int) + 1) := ⟨_, rfl⟩
      rw [← hlv] at hless hless22
      refine ⟨fun σ H' => ∃ l us3 hs3, σ = [some (.ref p), some (.int (wd : Nat)), some (.int r), some (.ref a), some (.int way), some (.int (j : Int)), some (.int n), some (.int (ar : Nat)), some (.int less), some (.ref l), none, none, none] ∧
        Same H2 H' ∧ l ≠ p ∧ H' l = some (.lst us3) ∧ TpAll K H' us3 (hs3.map encH) ∧ hs3.length ≤ 5 ∧ (∀ x ∈ hs3, x.2 ≤ 24) ∧ (1 ≤ ar → nd (!hs3.isEmpty) less ≤ d) ∧ ∀ d w t, Gn pa0 hs3 d w t → Gn pa0 (hs.drop (j + 1)) d w t, ?_, ?_⟩
      · have free : ∀ {l : Addr}, H2 l = none → l ≠ p := fun {l} hl e => by subst e; obtain ⟨xs, hx⟩ := d2.lst; rw [hl] at hx; cases hx
        refine ⟨_, rfl, _, _, rfl, rfl, _, rfl, ?_⟩
        refine ite2 (fun e => ?_) (fun e => ?_)
        · have e : 0 < less := by rw [hlv]; exact of_decide_eq_true e
          refine ⟨_, rfl, _, rfl, _, _, rfl, rfl, _, rfl, a, _, rfl, SqL.of ha2, fun l hl => ?_⟩
          have s3 := same_new hl (HO.lst (cutV us (some ((j : Int) + 1)) none))
          refine ⟨l, us.drop (j + 1), hs.drop (j + 1), by rw [hlv]; rfl, s3, free hl, by rw [upd_same, cut_from (by omega)], ?_, by rw [List.length_drop]; omega, fun x hx => har x (List.mem_of_mem_drop hx), fun h1 => (nd_hole (hless h1) hr22 hnz).1 e, fun _ _ _ g => g⟩
          rw [List.map_drop]
          exact tpA_ext (Te.of' s3) _ _ (tpA_drop hT2)
        · have e : ¬ 0 < less := fun z => e (decide_eq_true (by rw [hlv] at z; exact z))
          refine ⟨le_line (by simp), fun l hl => ?_⟩
          have s3 := same_new hl (HO.lst [])
          exact ⟨l, [], [], by rw [hlv]; rfl, s3, free hl, upd_same, .nil, by simp, (fun x hx => by cases hx), fun h1 => (nd_hole (h := true) (hless h1) hr22 hnz).2 (by omega), fun _ _ _ g => g.nil⟩
      · rintro σ H3 ⟨l, us3, hs3, rfl, s3, nlp, hl3, hT3, hl5, har3, hnd3, hg3⟩
        have d3 := d2.same s3
        refine ⟨_, rfl, _, rfl, (ar : Int), rfl, by omega, by omega, fun Dl hDl => ?_⟩
        have nD : Dl ≠ l := fun e => by subst e; rw [hDl] at hl3; cases hl3
        have nDp : Dl ≠ p := fun e => by subst e; obtain ⟨xs, hx⟩ := d3.lst; rw [hDl] at hx; cases hx
        refine lc_it walk_range (fun i H' => ∃ acc ts, H' Dl = some (.lst acc) ∧ Ts K H' acc ts ∧ ts.length = i ∧ (∀ t ∈ ts, Gn pa0 (hs.drop (j + 1)) d wd t) ∧ Kp p H3 H' ∧ DrOk H' p b) ?_ ?_ ?_ ?_
        · exact ⟨[], [], upd_same, .nil, rfl, (fun t ht => by cases ht), Kp.new hDl, d3.same (same_new hDl _)⟩
        · intro _ _ _ _; trivial
        · rintro i x H4 H4' hi ⟨acc, ts, e1, e2, e3, e4, k4, d4⟩ ⟨rfl, rfl⟩
          have ar1 : 1 ≤ ar := by
            have : i < (ar : Int).toNat := hi
            omega
          refine ⟨rfl, _, rfl, _, rfl, _, rfl, _, rfl, p, b, l, wd, less, us3, hs3, rfl, d4, k4 _ _ hl3 nlp, tpA_ext (k4.te' d3) _ _ hT3, nlp, hl5, har3, by omega, hless22 ar1, hnd3 ar1, fun v H5 t k5 d5 ht hg => ?_⟩
          have e5 := k5 _ _ e1 nDp
          have hil : acc.length ≤ 100 := by
            have : i < (ar : Int).toNat := hi
            rw [e2.len]; omega
          have t6 := Te.lst (o := HO.lst (acc ++ [v])) e5
          refine ⟨acc, e5, small1000 (by omega), acc ++ [v], ts ++ [t], upd_same, (e2.ext ((k5.te' d4).trans t6)).snoc (ht.ext t6), by simp [e3], fun t' h' => ?_, (k4.trans k5).mut hDl, d3.ne d5 hDl⟩
          rcases List.mem_append.mp h' with h' | h'
          · exact e4 t' h'
          · rw [List.mem_singleton.mp h']; exact hg3 _ _ _ hg
        · rintro H4 ⟨acc, ts, e1, e2, e3, e4, k4, d4⟩
          refine ⟨Dl, acc, rfl, .inl ⟨SqL.of e1, fun tq htq => ?_⟩⟩
          have s5 := same_new htq (HO.tup acc)
          refine ⟨le_line (by simp), fun hq6 hh6 => ?_⟩
          have s6 := same_new hh6 (HO.tup [V.str "hole", .int n, .ref tq])
          have nt : tq ≠ hq6 := fun e => by subst e; rw [upd_same] at hh6; cases hh6
          have s56 := s5.trans s6
          refine q _ _ (.node (.hole n) ts) ((((k1.trans k2).trans (Kp.same s3)).trans k4).trans (Kp.same s56)) (d4.same s56) (tr_mk_hole (SqT.of upd_same) (SqT.of (by rw [upd_ne nt]; exact upd_same)) (e2.ext (Te.of' s56))) ?_
          exact .hole hsp (by rw [e3]; simp) har1 e4
    · rintro σ _ ⟨rfl, rfl⟩
      refine ⟨fun σ H' => σ = [some (.ref p), some (.int (wd : Nat)), some (.int r), some (.ref a), some (.int way), none, none, none, none, none, none, none, none] ∧ H1 = H' ∧ ¬ r < 2, ?_, ?_⟩
      · have lf : tCall (spLeaf K) [] E0 (tCons (tVar 0) (tCons (tVar 1) tNil)) [some (.ref p), some (.int (wd : Nat)), some (.int r), some (.ref a), some (.int way), none, none, none, none, none, none, none, none] H1 Q := by
          refine ⟨_, rfl, _, rfl, p, b, wd, rfl, d1, by omega, fun v H2 t k2 d2 ht hg => ?_⟩
          exact q v H2 t (k1.trans k2) d2 ht (hg _ _)
        refine ⟨_, rfl, _, _, rfl, rfl, _, rfl, ?_⟩
        refine ite2 (fun _ => iteT lf) (fun e => ?_)
        have e : ¬ r < 2 := fun z => e (decide_eq_true z)
        refine ⟨_, rfl, rfl, _, rfl, ?_⟩
        refine ite2 (fun _ => lf) (fun _ => ⟨rfl, rfl, e⟩)
      · rintro σ _ ⟨rfl, rfl, hr2⟩
        refine ⟨le_line (by simp), fun g hg => ?_⟩
        have s2 := same_new hg (HO.lst [V.str "app", V.str "app", V.str "app", V.str "pi", V.str "fun", V.str "let"])
        have d2 := d1.same s2
        have gp : g ≠ p := fun e => by subst e; obtain ⟨xs, hx⟩ := d1.lst; rw [hg] at hx; cases hx
        refine ⟨_, rfl, p, b, 6, rfl, d2, by decide, fun x H2 x0 x1 k2 d2 => ?_⟩
        obtain ⟨j, rfl⟩ : ∃ j : Nat, x = (j : Int) := ⟨x.toNat, by omega⟩
        have hj : j < ([V.str "app", V.str "app", V.str "app", V.str "pi", V.str "fun", V.str "let"] : List V).length := by
          show j < 6
          omega
        obtain ⟨k, hk, ek⟩ := tagK j _ (List.getElem?_eq_getElem hj)
        refine ⟨g, _, (j : Int), _, rfl, rfl, SqL.of (k2 _ _ upd_same gp), atI_nat (List.getElem?_eq_getElem hj), ?_⟩
        rw [ek]
        refine ⟨_, rfl, _, _, rfl, rfl, _, _, rfl, rfl, ⟨by decide, by decide⟩, le_line (by simp), fun tq htq => ⟨tq, _, rfl, SqT.of upd_same, rfl, _, _, rfl, _, _, rfl, rfl, ?_⟩⟩
        have s3 := same_new htq (HO.tup [V.str (Kd.tag k), V.int ((r - 1) / 2)])
        have d3 := d2.same s3
        have k3 : Kp p H1 _ := ((Kp.same s2).trans k2).trans (Kp.same s3)
        have ha3 := k3 _ _ ha1 ne
        have hT3 := tpA_ext (k3.te' d1) _ _ hT1
        refine ⟨_, rfl, _, rfl, _, rfl, _, rfl, p, b, a, wd, (r - 1) / 2, us, hs, rfl, d3, ha3, hT3, ne, hl, har, by omega, by omega, nd_half hr2 hr22 hnd, fun v1 H4 t1 k4 d4 ht1 hg1 => ?_⟩
        have ha4 := k4 _ _ ha3 ne
        have hT4 := tpA_ext (k4.te' d3) _ _ hT3
        have kk := (k1.trans k3).trans k4
        refine ⟨_, rfl, rfl, _, rfl, ?_⟩
        cases k with
        | hole n => exact (hk n rfl).elim
        | app =>
          refine iteEqF (by decide +kernel) ?_
          refine ⟨_, rfl, _, rfl, _, rfl, _, rfl, _, rfl, rfl, _, rfl, iteEqT (by decide +kernel) ⟨_, _, rfl, rfl, _, rfl, _, rfl, p, b, a, wd + bnd .app 1, (r - 1) / 2, us, hs, rfl, d4, ha4, hT4, ne, hl, har, by have := bnd_le .app 1; omega, by omega, nd_half hr2 hr22 hnd, fun v2 H5 t2 k5 d5 ht2 hg2 => ?_⟩⟩
          refine ⟨le_line (by simp), fun hq hh => ?_⟩
          have s6 := same_new hh (HO.tup [V.str "app", v1, v2])
          exact q _ _ (.node .app [t1, t2]) ((kk.trans k5).trans (Kp.same s6)) (d5.same s6) (tr_mk_node (by intro n z; cases z) (SqT.of upd_same) (.cons (ht1.ext ((k5.te' d4).trans (Te.of' s6))) (.cons (ht2.ext (Te.of' s6)) .nil))) (gn_two (by simp) hg1 hg2)
        | pi =>
          refine iteEqF (by decide +kernel) ?_
          refine ⟨_, rfl, _, rfl, _, rfl, _, rfl, _, rfl, rfl, _, rfl, iteEqF (by decide +kernel) ⟨_, _, rfl, rfl, _, rfl, _, rfl, p, b, a, wd + bnd .pi 1, (r - 1) / 2, us, hs, rfl, d4, ha4, hT4, ne, hl, har, by have := bnd_le .pi 1; omega, by omega, nd_half hr2 hr22 hnd, fun v2 H5 t2 k5 d5 ht2 hg2 => ?_⟩⟩
          refine ⟨le_line (by simp), fun hq hh => ?_⟩
          have s6 := same_new hh (HO.tup [V.str "pi", v1, v2])
          exact q _ _ (.node .pi [t1, t2]) ((kk.trans k5).trans (Kp.same s6)) (d5.same s6) (tr_mk_node (by intro n z; cases z) (SqT.of upd_same) (.cons (ht1.ext ((k5.te' d4).trans (Te.of' s6))) (.cons (ht2.ext (Te.of' s6)) .nil))) (gn_two (by simp) hg1 hg2)
        | fn =>
          refine iteEqF (by decide +kernel) ?_
          refine ⟨_, rfl, _, rfl, _, rfl, _, rfl, _, rfl, rfl, _, rfl, iteEqF (by decide +kernel) ⟨_, _, rfl, rfl, _, rfl, _, rfl, p, b, a, wd + bnd .fn 1, (r - 1) / 2, us, hs, rfl, d4, ha4, hT4, ne, hl, har, by have := bnd_le .fn 1; omega, by omega, nd_half hr2 hr22 hnd, fun v2 H5 t2 k5 d5 ht2 hg2 => ?_⟩⟩
          refine ⟨le_line (by simp), fun hq hh => ?_⟩
          have s6 := same_new hh (HO.tup [V.str "fun", v1, v2])
          exact q _ _ (.node .fn [t1, t2]) ((kk.trans k5).trans (Kp.same s6)) (d5.same s6) (tr_mk_node (by intro n z; cases z) (SqT.of upd_same) (.cons (ht1.ext ((k5.te' d4).trans (Te.of' s6))) (.cons (ht2.ext (Te.of' s6)) .nil))) (gn_two (by simp) hg1 hg2)
        | lt =>
          refine iteEqT (by decide +kernel) ?_
          refine ⟨_, rfl, _, rfl, _, rfl, p, b, wd, rfl, d4, by omega, fun v2 H5 t2 k5 d5 ht2 hg2 => ?_⟩
          have ha5 := k5 _ _ ha4 ne
          have hT5 := tpA_ext (k5.te' d4) _ _ hT4
          refine ⟨_, rfl, _, rfl, _, _, rfl, rfl, _, rfl, _, rfl, p, b, a, wd + 1, (r - 1) / 2, us, hs, rfl, d5, ha5, hT5, ne, hl, har, by omega, by omega, nd_half hr2 hr22 hnd, fun v3 H6 t3 k6 d6 ht3 hg3 => ?_⟩
          refine ⟨le_line (by simp), fun hq hh => ?_⟩
          have s6 := same_new hh (HO.tup [V.str "let", v1, v2, v3])
          have e6 := (k6.te' d5).trans (Te.of' s6)
          exact q _ _ (.node .lt [t1, t2, t3]) (((kk.trans k5).trans k6).trans (Kp.same s6)) (d6.same s6) (tr_mk_node (by intro n z; cases z) (SqT.of upd_same) (.cons (ht1.ext ((k5.te' d4).trans e6)) (.cons (ht2.ext e6) (.cons (ht3.ext (Te.of' s6)) .nil)))) (gn_let hg1 (hg2 _ _) hg3)
end
end KP

/-! The law's own reading of terms. -/
namespace KP
open PySem PyProof.Rows L2 LamX NdefX KL KM KD
abbrev sBits : Stmt := top 17
abbrev sLUnd : Stmt := top 18
abbrev sNode : Stmt := top 19
abbrev sShow : Stmt := top 20
abbrev sDone : Stmt := top 21
abbrev sNums : Stmt := top 22
abbrev sCount : Stmt := top 25
abbrev sWeight : Stmt := top 27
section
variable {P : Program} {w : World} {K : PySem.W.Frag} {mg : Str → Option Value} {base : Heap} {T : List (Addr × Str)}
theorem pe_never {X : Cx} {e : Expr} : PE X e (fun _ _ _ => False) := ⟨fun _ _ _ _ _ _ h => h.elim⟩
theorem scBits : FnScope ["_law_node_here"] ["_law_node_here"] (defScope sBits) := ⟨rfl, rfl, rfl, by decide +kernel, rfl, by decide +kernel, by decide +kernel⟩
theorem ok_bits {f : Addr} {fd : FuncData} (F : Fun K "_law_bits" "_law_bits" sBits f fd) : FnOk P w K mg base CX0 1 f fd ["_law_node_here"] (spParts K) := by
  refine F.ok scBits (fun vs H Q E h => ?_) (fun cdv A outer s H vs Q E hr h => ?_)
  · obtain ⟨v, t, rfl, _⟩ := h; rfl
  obtain ⟨v, t, rfl, ht, hl, q⟩ := h
  refine ⟨_, pss_cons (ps_if (pt_cmpR op_eq (pe_ix ix_tup (pv 0) pe_int (fun _ _ => rfl)) pe_str (nomark _)) (pss_one (ps_ret (pe_ix ix_tup (pv 0) pe_int (fun _ _ => rfl)))) pss_nil)
    (pss_one (ps_ret (pe_ifExp (pt_cmpR op_in_seq (pe_ix ix_tup (pv 0) pe_int (fun _ _ => rfl)) (pe_tup (pa_cons pe_str (pa_cons pe_str (pa_cons pe_str pa_nil)))) rfl) (pe_tup pa_nil) (pe_slice sl_tup (pv 0) (po_some pe_int) po_none)))), ?_⟩
  have leafy : partsT t = [] → ∀ H1 : Hp, Same H H1 → tTup tNil [some v] H1 Q := fun e H1 s1 => ⟨le_line (by decide), fun p hp => q p _ [] (s1.trans (same_new hp _)) (SqT.of upd_same) (by rw [e]; exact TpAll.nil)⟩
  obtain ⟨a, ys, rfl, hs⟩ := tr_tag ht
  have go : ∀ tag : Str, tagOf t = tag → SqT K H a (.str tag :: ys) := fun tag e => by subst e; exact hs
  cases t with
  | var i =>
    refine ⟨_, rfl, a, _, 0, _, rfl, rfl, go "var" rfl, at0, rfl, _, rfl, iteEqF (by decide +kernel) ?_⟩
    refine ⟨_, rfl, a, _, 0, _, rfl, rfl, go "var" rfl, at0, le_line (by simp), fun g hg => ⟨g, _, rfl, .inr (SqT.of upd_same), rfl, rfl, _, rfl, ?_⟩⟩
    exact leafy rfl _ (same_new hg _)
  | atom u xs =>
    cases u with
    | false =>
      refine ⟨_, rfl, a, _, 0, _, rfl, rfl, go "const" rfl, at0, rfl, _, rfl, iteEqF (by decide +kernel) ?_⟩
      refine ⟨_, rfl, a, _, 0, _, rfl, rfl, go "const" rfl, at0, le_line (by simp), fun g hg => ⟨g, _, rfl, .inr (SqT.of upd_same), rfl, rfl, _, rfl, ?_⟩⟩
      exact leafy rfl _ (same_new hg _)
    | true =>
      refine ⟨_, rfl, a, _, 0, _, rfl, rfl, go "univ" rfl, at0, rfl, _, rfl, iteEqF (by decide +kernel) ?_⟩
      refine ⟨_, rfl, a, _, 0, _, rfl, rfl, go "univ" rfl, at0, le_line (by simp), fun g hg => ⟨g, _, rfl, .inr (SqT.of upd_same), rfl, rfl, _, rfl, ?_⟩⟩
      exact leafy rfl _ (same_new hg _)
  | node k ps =>
    by_cases hk : ∃ n, k = .hole n
    · obtain ⟨n, rfl⟩ := hk
      obtain ⟨a, b, vs, e, h1, h2, h3⟩ := tr_hole ht
      cases e
      refine ⟨_, rfl, a, _, 0, _, rfl, rfl, h1, at0, rfl, _, rfl, iteEqT (by decide +kernel) ⟨_, rfl, a, _, 2, _, rfl, rfl, h1, at2, ?_⟩⟩
      exact q b H vs (Same.refl H) h2 h3
    · obtain ⟨a', vs, e, h1, h2⟩ := tr_node (fun n e => hk ⟨n, e⟩) ht
      cases e
      have rest : ∀ (g : Addr) (o : HO), H g = none → tSl (rSlT K) (tVar 0) (tPart (tC (.int 1))) tNoPart [some (.ref a)] (L2.upd H g o) Q := fun g o hg => by
        have s1 := same_new hg o
        refine ⟨_, rfl, 1, rfl, a, _, rfl, sqT_same s1 h1, cut1_not _ _, fun p hp => ?_⟩
        have s2 := s1.trans (same_new hp (HO.tup (cutV (.str (Kd.tag k) :: vs) (some 1) none)))
        refine q p _ vs s2 (SqT.of ?_) (h2.ext (Te.of' s2))
        rw [upd_same, cut1]
      cases k with
      | hole n => exact (hk ⟨n, rfl⟩).elim
      | app =>
        refine ⟨_, rfl, a, _, 0, _, rfl, rfl, go "app" rfl, at0, rfl, _, rfl, iteEqF (by decide +kernel) ?_⟩
        exact ⟨_, rfl, a, _, 0, _, rfl, rfl, go "app" rfl, at0, le_line (by simp), fun g hg => ⟨g, _, rfl, .inr (SqT.of upd_same), rfl, rfl, _, rfl, rest g _ hg⟩⟩
      | pi =>
        refine ⟨_, rfl, a, _, 0, _, rfl, rfl, go "pi" rfl, at0, rfl, _, rfl, iteEqF (by decide +kernel) ?_⟩
        exact ⟨_, rfl, a, _, 0, _, rfl, rfl, go "pi" rfl, at0, le_line (by simp), fun g hg => ⟨g, _, rfl, .inr (SqT.of upd_same), rfl, rfl, _, rfl, rest g _ hg⟩⟩
      | fn =>
        refine ⟨_, rfl, a, _, 0, _, rfl, rfl, go "fun" rfl, at0, rfl, _, rfl, iteEqF (by decide +kernel) ?_⟩
        exact ⟨_, rfl, a, _, 0, _, rfl, rfl, go "fun" rfl, at0, le_line (by simp), fun g hg => ⟨g, _, rfl, .inr (SqT.of upd_same), rfl, rfl, _, rfl, rest g _ hg⟩⟩
      | lt =>
        refine ⟨_, rfl, a, _, 0, _, rfl, rfl, go "let" rfl, at0, rfl, _, rfl, iteEqF (by decide +kernel) ?_⟩
        exact ⟨_, rfl, a, _, 0, _, rfl, rfl, go "let" rfl, at0, le_line (by simp), fun g hg => ⟨g, _, rfl, .inr (SqT.of upd_same), rfl, rfl, _, rfl, rest g _ hg⟩⟩
def spLUnd (K : PySem.W.Frag) : Sp := fun vs H Q _ => ∃ v k ps j, vs = [v, .int (j : Nat)] ∧ Tr K H v (.node k ps) ∧ arOk k ps.length ∧ ∀ H', Same H H' → Q (.int (bnd k j : Nat)) H'
theorem scLUnd : FnScope ["_law_node_here", "_law_k"] ["_law_node_here", "_law_k"] (defScope sLUnd) := ⟨rfl, rfl, rfl, by decide +kernel, rfl, by decide +kernel, by decide +kernel⟩
theorem ok_lund {f : Addr} {fd : FuncData} (F : Fun K "_law_under" "_law_under" sLUnd f fd) (ml : mg "len" = none) : FnOk P w K mg base CX0 1 f fd ["_law_node_here", "_law_k"] (spLUnd K) := by
  refine F.ok scLUnd (fun vs H Q E h => ?_) (fun cdv A outer s H vs Q E hr h => ?_)
  · obtain ⟨v, k, ps, j, rfl, _⟩ := h; rfl
  obtain ⟨v, k, ps, j, rfl, ht, har, q⟩ := h
  refine ⟨_, pss_one (ps_ret (pe_ifExp (PW.pt (pw_and (pt_cmpR op_in_seq (pe_ix ix_tup (pv 0) pe_int (fun _ _ => rfl)) (pe_tup (pa_cons pe_str (pa_cons pe_str (pa_cons pe_str pa_nil)))) rfl)
    (pw_and1 (pt_cmpR op_eq (pv 1) (pe_op op_sub (pe_callB call_len_seq rfl ml PySem.boot_len (pa_cons (pv 0) pa_nil)) pe_int) (nomark _))))) pe_int pe_int)), ?_⟩
  obtain ⟨a, ys, rfl, hs⟩ := tr_tag ht
  have go : ∀ tag : Str, Kd.tag k = tag → SqT K H a (.str tag :: ys) := fun tag e => by subst e; exact hs
  by_cases hk : ∃ n, k = .hole n
  · obtain ⟨n, rfl⟩ := hk
    refine ⟨_, rfl, a, _, 0, _, rfl, rfl, go "hole" rfl, at0, le_line (by simp), fun g hg => ⟨g, _, rfl, .inr (SqT.of upd_same), rfl, rfl, _, rfl, ?_⟩⟩
    exact q _ (same_new hg _)
  · obtain ⟨a', vs, e, h1, h2⟩ := tr_node (fun n e => hk ⟨n, e⟩) ht
    cases e
    have hl : vs.length = ps.length := h2.len
    cases k with
    | hole n => exact (hk ⟨n, rfl⟩).elim
    | app =>
      refine ⟨_, rfl, a, _, 0, _, rfl, rfl, go "app" rfl, at0, le_line (by simp), fun g hg => ⟨g, _, rfl, .inr (SqT.of upd_same), rfl, rfl, _, rfl, ?_⟩⟩
      exact q _ (same_new hg _)
    | pi =>
      refine ⟨_, rfl, a, _, 0, _, rfl, rfl, go "pi" rfl, at0, le_line (by simp), fun g hg => ⟨g, _, rfl, .inr (SqT.of upd_same), rfl, rfl, _, rfl, ?_⟩⟩
      have s1 := same_new hg (HO.tup [V.str "pi", V.str "fun", V.str "let"])
      have har : ps.length = 2 := har
      refine ⟨_, rfl, _, rfl, a, _, rfl, .inr (sqT_same s1 h1), _, _, rfl, rfl, rfl, _, rfl, ?_⟩
      by_cases hj : j = 1
      · subst hj
        refine iteIntT (by simp [hl, har]) ?_
        exact q _ s1
      · refine iteIntF (by simp [hl, har]; omega) ?_
        have : bnd .pi j = 0 := by unfold bnd; split <;> simp_all
        rw [this] at q
        exact q _ s1
    | fn =>
      refine ⟨_, rfl, a, _, 0, _, rfl, rfl, go "fun" rfl, at0, le_line (by simp), fun g hg => ⟨g, _, rfl, .inr (SqT.of upd_same), rfl, rfl, _, rfl, ?_⟩⟩
      have s1 := same_new hg (HO.tup [V.str "pi", V.str "fun", V.str "let"])
      have har : ps.length = 2 := har
      refine ⟨_, rfl, _, rfl, a, _, rfl, .inr (sqT_same s1 h1), _, _, rfl, rfl, rfl, _, rfl, ?_⟩
      by_cases hj : j = 1
      · subst hj
        refine iteIntT (by simp [hl, har]) ?_
        exact q _ s1
      · refine iteIntF (by simp [hl, har]; omega) ?_
        have : bnd .fn j = 0 := by unfold bnd; split <;> simp_all
        rw [this] at q
        exact q _ s1
    | lt =>
      refine ⟨_, rfl, a, _, 0, _, rfl, rfl, go "let" rfl, at0, le_line (by simp), fun g hg => ⟨g, _, rfl, .inr (SqT.of upd_same), rfl, rfl, _, rfl, ?_⟩⟩
      have s1 := same_new hg (HO.tup [V.str "pi", V.str "fun", V.str "let"])
      have har : ps.length = 3 := har
      refine ⟨_, rfl, _, rfl, a, _, rfl, .inr (sqT_same s1 h1), _, _, rfl, rfl, rfl, _, rfl, ?_⟩
      by_cases hj : j = 2
      · subst hj
        refine iteIntT (by simp [hl, har]) ?_
        exact q _ s1
      · refine iteIntF (by simp [hl, har]; omega) ?_
        have : bnd .lt j = 0 := by unfold bnd; split <;> simp_all
        rw [this] at q
        exact q _ s1
/-! ### node -/
theorem tag_ne {t : Tm} (h : ∀ n ps, t ≠ .node (.hole n) ps) : ¬ tagOf t = "hole" := by
  cases t with
  | var i => exact (show ¬ ("var" : Str) = "hole" by decide +kernel)
  | atom b xs =>
    cases b
    · exact (show ¬ ("const" : Str) = "hole" by decide +kernel)
    · exact (show ¬ ("univ" : Str) = "hole" by decide +kernel)
  | node k ps =>
    cases k with
    | hole n => exact (h n ps rfl).elim
    | app => exact (show ¬ ("app" : Str) = "hole" by decide +kernel)
    | pi => exact (show ¬ ("pi" : Str) = "hole" by decide +kernel)
    | fn => exact (show ¬ ("fun" : Str) = "hole" by decide +kernel)
    | lt => exact (show ¬ ("let" : Str) = "hole" by decide +kernel)
def nodeR : Tm → List Tm → Tm → Prop
  | .node k _, us, u => u = .node k us ∧ ((∀ n, k ≠ .hole n) → us ≠ [])
  | t, us, u => us = [] ∧ u = t
def spNode (K : PySem.W.Frag) : Sp := fun vs H Q _ => ∃ v l ws t us u, vs = [v, .ref l] ∧ Tr K H v t ∧ H l = some (.lst ws) ∧ Ts K H ws us ∧ us.length ≤ 100 ∧ nodeR t us u ∧ ∀ v' H', Same H H' → Tr K H' v' u → Q v' H'
theorem scNode : FnScope ["_law_node_here", "_law_bits_here"] ["_law_node_here", "_law_bits_here"] (defScope sNode) := ⟨rfl, rfl, rfl, by decide +kernel, rfl, by decide +kernel, by decide +kernel⟩
theorem ok_node {f : Addr} {fd : FuncData} (F : Fun K "_law_node" "_law_node" sNode f fd) (mt : mg "tuple" = none) : FnOk P w K mg base CX0 1 f fd ["_law_node_here", "_law_bits_here"] (spNode K) := by
  refine F.ok scNode (fun vs H Q E h => ?_) (fun cdv A outer s H vs Q E hr h => ?_)
  · obtain ⟨v, l, ws, t, us, u, rfl, _⟩ := h; rfl
  obtain ⟨v, l, ws, t, us, u, rfl, ht, hL, hw, hl, hn, q⟩ := h
  refine ⟨_, pss_cons (ps_if (pt_cmpR op_eq (pe_ix ix_tup (pv 0) pe_int (fun _ _ => rfl)) pe_str (nomark _)) (pss_one (ps_ret (pe_tup (pa_cons pe_str (pa_cons (pe_ix ix_tup (pv 0) pe_int (fun _ _ => rfl)) (pa_cons (pe_callTy call_tuple_of rfl mt (by decide +kernel) (pa_cons (pv 1) pa_nil)) pa_nil)))))) pss_nil)
    (pss_one (ps_ret (pe_ifExp (pt_truth (pv 1) (by intro _; rfl)) (pe_op op_catT (pe_tup (pa_cons (pe_ix ix_tup (pv 0) pe_int (fun _ _ => rfl)) pa_nil)) (pe_callTy call_tuple_of rfl mt (by decide +kernel) (pa_cons (pv 1) pa_nil))) (pv 0)))), ?_⟩
  have hlu : ws.length = us.length := hw.len
  obtain ⟨a, ys, rfl, hs⟩ := tr_tag ht
  have go : ∀ tag : Str, tagOf t = tag → SqT K H a (.str tag :: ys) := fun tag e => by subst e; exact hs
  have leaf : us = [] → u = t → tIf (fun σ H Q => tVar 1 σ H fun x H' => ∃ k, TruV K x H' k ∧ Q k H') (tOp (rCatT K) (tTup (tCons (tOp (rIxT K) (tVar 0) (tC (.int 0))) tNil)) (tCB (fun xs H Q => ∃ p ys, xs = [V.ref p] ∧ ((SqL K H p ys ∧ ∀ l, H l = none → Q (.ref l) (upd H l (.tup ys))) ∨ (SqT K H p ys ∧ Q (.ref p) H))) (tCons (tVar 1) tNil))) (tVar 0) [some (.ref a), some (.ref l)] H Q := fun e1 e2 => by
    subst e1
    have : ws = [] := List.eq_nil_of_length_eq_zero hlu
    subst this
    refine ⟨_, rfl, _, .inl ⟨_, SqL.of hL, rfl⟩, ?_⟩
    exact ⟨_, rfl, q _ H (Same.refl H) (by rw [e2]; exact ht)⟩
  cases t with
  | var i =>
    refine ⟨_, rfl, a, _, 0, _, rfl, rfl, go "var" rfl, at0, rfl, _, rfl, iteEqF (by decide +kernel) ?_⟩
    exact leaf hn.1 hn.2
  | atom b xs =>
    cases b with
    | false =>
      refine ⟨_, rfl, a, _, 0, _, rfl, rfl, go "const" rfl, at0, rfl, _, rfl, iteEqF (by decide +kernel) ?_⟩
      exact leaf hn.1 hn.2
    | true =>
      refine ⟨_, rfl, a, _, 0, _, rfl, rfl, go "univ" rfl, at0, rfl, _, rfl, iteEqF (by decide +kernel) ?_⟩
      exact leaf hn.1 hn.2
  | node k ps =>
    obtain ⟨rfl, hne⟩ := hn
    by_cases hk : ∃ n, k = .hole n
    · obtain ⟨n, rfl⟩ := hk
      obtain ⟨a', b, vs, e, h1, h2, h3⟩ := tr_hole ht
      cases e
      refine ⟨_, rfl, a, _, 0, _, rfl, rfl, h1, at0, rfl, _, rfl, iteEqT (by decide +kernel) ⟨_, rfl, a, _, 1, _, rfl, rfl, h1, at1, _, rfl, l, ws, rfl, .inl ⟨SqL.of hL, fun p2 hp2 => ?_⟩⟩⟩
      have g2 := same_new hp2 (HO.tup ws)
      refine ⟨le_line (by simp), fun p3 hp3 => ?_⟩
      have g3 := g2.trans (same_new hp3 (HO.tup [V.str "hole", V.int n, V.ref p2]))
      have ne : p2 ≠ p3 := fun e => by subst e; rw [upd_same] at hp3; cases hp3
      exact q _ _ g3 (tr_mk_hole (SqT.of upd_same) (SqT.of (by rw [upd_ne ne]; exact upd_same)) (hw.ext (Te.of' g3)))
    · have hkn : ∀ n, k ≠ .hole n := fun n e => hk ⟨n, e⟩
      have hne := hne hkn
      have h0 : ¬ tagOf (.node k ps) = "hole" := tag_ne fun n qs e => hkn n (by injection e)
      refine ⟨_, rfl, a, _, 0, _, rfl, rfl, hs, at0, rfl, _, rfl, iteEqF h0 ?_⟩
      refine ⟨_, rfl, _, .inl ⟨_, SqL.of hL, rfl⟩, ?_⟩
      have hwe : (!ws.isEmpty) = true := by
        cases ws with
        | nil => exact (hne (List.eq_nil_of_length_eq_zero hlu.symm)).elim
        | cons _ _ => rfl
      rw [hwe]
      refine ⟨_, rfl, a, _, 0, _, rfl, rfl, hs, at0, le_line (by simp), fun p hp => ?_⟩
      have g1 := same_new hp (HO.tup [.str (tagOf (.node k ps))])
      refine ⟨_, rfl, l, ws, rfl, .inl ⟨SqL.of (g1 _ _ hL), fun p2 hp2 => ?_⟩⟩
      have g2 := g1.trans (same_new hp2 (HO.tup ws))
      have ne : p ≠ p2 := fun e => by subst e; rw [upd_same] at hp2; cases hp2
      refine ⟨p, p2, _, _, rfl, rfl, SqT.of (by rw [upd_ne ne]; exact upd_same), SqT.of upd_same, (by simp), le_line (by simp; omega), fun e => ?_, fun _ p3 hp3 => ?_⟩
      · subst e
        cases hwe
      · have g3 := g2.trans (same_new hp3 (HO.tup ([V.str (tagOf (.node k ps))] ++ ws)))
        exact q _ _ g3 (tr_mk_node hkn (SqT.of upd_same) (hw.ext (Te.of' g3)))
/-! ### numbers, count -/
def hdT : Tm → List Int
  | .node k _ => hd k
  | _ => []
theorem nums_parts (t : Tm) : nums t = hdT t ++ ((partsT t).map nums).flatten := by
  cases t with
  | var i => rw [nums_var]; rfl
  | atom u xs => rw [nums_atom]; rfl
  | node k ps => rw [nums_node]; rfl
theorem sz_parts (t : Tm) : sz t = 1 + ((partsT t).map sz).sum := by
  cases t with
  | var i => rw [sz_var]; rfl
  | atom u xs => rw [sz_atom]; rfl
  | node k ps => rw [sz_node, szL_eq]; rfl
theorem nums_len (t : Tm) : (nums t).length ≤ sz t := by
  refine Tm.ind (P := fun t => (nums t).length ≤ sz t) (fun i => by rw [nums_var]; simp) (fun u xs => by rw [nums_atom]; simp) (fun k ps ih => ?_) t
  rw [nums_node, sz_node, List.length_append]
  have h1 : (hd k).length ≤ 1 := by cases k <;> simp [hd]
  have h2 : ((ps.map nums).flatten).length ≤ szL ps := by
    clear h1
    induction ps with
    | nil => simp [szL]
    | cons p ps ih2 =>
      have a := ih p List.mem_cons_self
      have b := ih2 fun q hq => ih q (List.mem_cons_of_mem _ hq)
      simp only [List.map_cons, List.flatten_cons, List.length_append, szL]
      omega
  omega
theorem parts_dle {n : Nat} {t : Tm} (h : dle n t) : (partsT t).length ≤ 24 ∧ ∀ p ∈ partsT t, ∃ m, m < n ∧ dle m p := by
  cases t with
  | var i => exact ⟨Nat.zero_le _, fun p hp => by cases hp⟩
  | atom u xs => exact ⟨Nat.zero_le _, fun p hp => by cases hp⟩
  | node k ps =>
    cases n with
    | zero => exact h.elim
    | succ n => exact ⟨h.1.le, fun p hp => ⟨n, Nat.lt_succ_self n, h.2 p hp⟩⟩
theorem flat_take {ps : List Tm} (i : Nat) : (((ps.take i).map nums).flatten).length ≤ ((ps.map nums).flatten).length := by
  have : ps = ps.take i ++ ps.drop i := (List.take_append_drop i ps).symm
  have e : ((ps.map nums).flatten).length = (((ps.take i).map nums).flatten).length + (((ps.drop i).map nums).flatten).length := by
    rw [← List.length_append, ← List.flatten_append, ← List.map_append, List.take_append_drop]
  omega
theorem sz_part {t p : Tm} (h : p ∈ partsT t) : sz p ≤ sz t := by
  rw [sz_parts t]
  have : sz p ≤ ((partsT t).map sz).sum := by
    generalize partsT t = ps at h
    induction ps with
    | nil => cases h
    | cons q ps ih =>
      simp only [List.map_cons, List.sum_cons]
      rcases List.mem_cons.mp h with h | h
      · subst h; omega
      · have := ih h; omega
  omega
def spNums (K : PySem.W.Frag) (n : Nat) : Sp := fun vs H Q _ => ∃ v t m, vs = [v] ∧ m < n ∧ Tr K H v t ∧ dle m t ∧ sz t ≤ 1000000 ∧ ∀ p H', Same H H' → H' p = some (.lst ((nums t).map V.int)) → Q (.ref p) H'
theorem scNums : FnScope ["_law_term", "_law_out", "_law_part"] ["_law_term"] (defScope sNums) := ⟨rfl, rfl, rfl, by decide +kernel, rfl, by decide +kernel, by decide +kernel⟩
theorem ok_nums {f fb : Addr} {fd fdb : FuncData} (F : Fun K "_law_numbers" "_law_numbers" sNums f fd) (mf : mg "_law_numbers" = some (.ref f)) (bf : L2.Binds K fd ["_law_term"] []) (CB : Cl P w K mg base 1 "_law_bits" fb fdb ["_law_node_here"] (spParts K)) : ∀ n, Cl P w K mg base (n + 1) "_law_numbers" f fd ["_law_term"] (spNums K n)
  | 0 => by
    refine ⟨?_, mf, F.kp, bf⟩
    refine F.ok scNums (fun vs H Q E h => ?_) (fun cdv A outer s H vs Q E hr h => ?_)
    · obtain ⟨v, t, m, rfl, _⟩ := h; rfl
    · obtain ⟨v, t, m, rfl, h, _⟩ := h
      exact absurd h (Nat.not_lt_zero _)
  | n + 1 => by
    have ih := ok_nums F mf bf CB n
    refine ⟨?_, mf, F.kp, bf⟩
    refine F.ok scNums (fun vs H Q E h => ?_) (fun cdv A outer s H vs Q E hr h => ?_)
    · obtain ⟨v, t, m, rfl, _⟩ := h; rfl
    obtain ⟨v, t, m, rfl, hm, ht, hd, hz, q⟩ := h
    refine ⟨_, pss_cons (ps_set (i := 1) scNums.nd rfl (.inl rfl) (pe_ifExp (pt_cmpR op_eq (pe_ix ix_tup (pv 0) pe_int (fun _ _ => rfl)) pe_str (nomark _)) (pe_lst (pa_cons (pe_ix ix_tup (pv 0) pe_int (fun _ _ => rfl)) pa_nil)) (pe_lst pa_nil)))
      (pss_cons (ps_for PassesOwn.never rfl (pi_tup (pe_cl CB (hr.mono (by omega)) (pa_cons (pv 0) pa_nil))) (pg_name (i := 2) scNums.nd rfl (.inl rfl))
        (pss_one (ps_set (i := 1) scNums.nd rfl (.inl rfl) (pe_op op_cat (pv 1) (pe_cl ih hr (pa_cons (pv 2) pa_nil))))))
      (pss_one (ps_ret (pv 1)))), ?_⟩
    obtain ⟨hp24, hpd⟩ := parts_dle hd
    have go : ∀ l H1, Same H H1 → H1 l = some (.lst ((hdT t).map V.int)) → tSeq (tFor (iTup K (tCall (spParts K) [] E0 (tCons (tVar 0) tNil))) (gName 2) (tAsg (tOp rCat (tVar 1) (tCall (spNums K n) [] E0 (tCons (tVar 2) tNil))) (gName 1))) (tRet (tVar 1)) { nx := fun _ H' => Q .non H', rt := Q } [some v, some (.ref l), none] H1 := fun l H1 s1 h1 => by
      refine ⟨_, rfl, v, t, rfl, ht.ext (Te.of' s1), by omega, fun p H2 ws s2 h2 hws => ?_⟩
      refine ⟨p, rfl, ⟨ws, h2⟩, ?_⟩
      have hnl := nums_len t
      refine for_it (walk_tup (xs := ws)) (fun i σ H' => Same H2 H' ∧ ∃ l x2, σ = [some v, some (.ref l), x2] ∧ H' l = some (.lst ((hdT t ++ (((partsT t).take i).map nums).flatten).map V.int))) ?_ ?_ ?_ ?_
      · exact ⟨Same.refl _, l, _, rfl, by rw [s2 _ _ h1]; simp⟩
      · rintro i σ H' _ ⟨s3, _⟩
        exact sqT_same s3 h2
      · rintro i x σ H3 H4 hi ⟨s3, l, x2, rfl, hl⟩ ⟨rfl, hx⟩
        have hpi : i < (partsT t).length := by rw [← hws.len]; exact hi
        obtain ⟨y', hy', hty⟩ := hws.get (i := i) (t := (partsT t)[i]) (List.getElem?_eq_getElem hpi)
        rw [hx] at hy'
        cases hy'
        obtain ⟨m', hm', hd'⟩ := hpd _ (List.getElem_mem hpi)
        refine ⟨_, rfl, _, rfl, x, (partsT t)[i], m', rfl, by omega, hty.ext (Te.of' s3), hd', Nat.le_trans (sz_part (List.getElem_mem hpi)) hz, fun p5 H5 s5 h5 => ?_⟩
        have e1 : hdT t ++ (((partsT t).take (i + 1)).map nums).flatten = (hdT t ++ (((partsT t).take i).map nums).flatten) ++ nums (partsT t)[i] := by
          rw [List.take_add_one, List.getElem?_eq_getElem hpi, List.map_append, List.flatten_append, ← List.append_assoc]
          simp only [Option.toList, List.map_cons, List.map_nil, List.flatten_cons, List.flatten_nil, List.append_nil]
        have hlen : (hdT t ++ (((partsT t).take (i + 1)).map nums).flatten).length ≤ 1000000 := by
          have z := flat_take (ps := partsT t) (i + 1)
          rw [nums_parts t] at hnl
          rw [List.length_append] at hnl ⊢
          omega
        refine ⟨l, p5, _, _, rfl, rfl, s5 _ _ hl, h5, ?_, fun g hg => ?_⟩
        · rw [e1, List.length_append] at hlen
          rw [List.length_map, List.length_map]
          exact Nat.le_trans hlen (by decide)
        · refine ⟨(s3.trans s5).trans (same_new hg _), g, _, rfl, ?_⟩
          rw [upd_same, e1, ← List.map_append]
      · rintro σ H3 ⟨s3, l, x2, rfl, hl⟩
        refine ⟨_, rfl, q l H3 ((s1.trans s2).trans s3) ?_⟩
        rw [hl, nums_parts t, List.take_of_length_le (by rw [← hws.len]; exact Nat.le_refl _)]
    obtain ⟨a, ys, rfl, hs⟩ := tr_tag ht
    by_cases hk : ∃ n ps, t = .node (.hole n) ps
    · obtain ⟨x, ps, rfl⟩ := hk
      obtain ⟨a', b, vs, e, h1, h2, h3⟩ := tr_hole ht
      cases e
      refine ⟨_, rfl, a, _, 0, _, rfl, rfl, h1, at0, rfl, _, rfl, iteEqT (by decide +kernel) ⟨_, rfl, a, _, 1, _, rfl, rfl, h1, at1, le_line (by simp), fun g hg => ?_⟩⟩
      exact go g _ (same_new hg _) upd_same
    · have h0 : ¬ tagOf t = "hole" := tag_ne fun n qs e => hk ⟨n, qs, e⟩
      have he : hdT t = [] := by
        cases t with
        | node k ps =>
          cases k with
          | hole n => exact (hk ⟨n, ps, rfl⟩).elim
          | _ => rfl
        | _ => rfl
      refine ⟨_, rfl, a, _, 0, _, rfl, rfl, hs, at0, rfl, _, rfl, iteEqF h0 ⟨le_line (by simp), fun g hg => ?_⟩⟩
      exact go g _ (same_new hg _) (by rw [he]; exact upd_same)
end
end KP

/-! count, weight -/
namespace KP
open PySem PyProof.Rows L2 LamX NdefX KL KM KD
section
variable {P : Program} {w : World} {K : PySem.W.Frag} {mg : Str → Option Value} {base : Heap} {T : List (Addr × Str)}
def spCount (K : PySem.W.Frag) (n : Nat) : Sp := fun vs H Q _ => ∃ v t m, vs = [v] ∧ m < n ∧ Tr K H v t ∧ dle m t ∧ ∀ H', Same H H' → Q (.int (sz t : Nat)) H'
theorem scCount : FnScope ["_law_term", "_law_part"] ["_law_term"] (defScope sCount) := ⟨rfl, rfl, rfl, by decide +kernel, rfl, by decide +kernel, by decide +kernel⟩
theorem ok_count {f fb : Addr} {fd fdb : FuncData} (F : Fun K "_law_count" "_law_count" sCount f fd) (mf : mg "_law_count" = some (.ref f)) (bf : L2.Binds K fd ["_law_term"] []) (ms : mg "sum" = none) (CB : Cl P w K mg base 1 "_law_bits" fb fdb ["_law_node_here"] (spParts K)) : ∀ n, Cl P w K mg base (n + 1) "_law_count" f fd ["_law_term"] (spCount K n)
  | 0 => by
    refine ⟨?_, mf, F.kp, bf⟩
    refine F.ok scCount (fun vs H Q E h => ?_) (fun cdv A outer s H vs Q E hr h => ?_)
    · obtain ⟨v, t, m, rfl, _⟩ := h; rfl
    · obtain ⟨v, t, m, rfl, h, _⟩ := h
      exact absurd h (Nat.not_lt_zero _)
  | n + 1 => by
    have ih := ok_count F mf bf ms CB n
    refine ⟨?_, mf, F.kp, bf⟩
    refine F.ok scCount (fun vs H Q E h => ?_) (fun cdv A outer s H vs Q E hr h => ?_)
    · obtain ⟨v, t, m, rfl, _⟩ := h; rfl
    obtain ⟨v, t, m, rfl, hm, ht, hd, q⟩ := h
    refine ⟨_, pss_one (ps_ret (pe_op op_add pe_int (pe_callB (cr_sum rfl) rfl ms (by decide +kernel) (pa_cons (pe_lc (own := [("_law_part", 1)]) (g := gName 1) (tt := tYes) rfl scCount.nd (pi_tup (pe_cl CB (hr.mono (by omega)) (pa_cons (pv 0) pa_nil)))
      (blkOk_by (N := ["_law_term", "_law_part"]) (sc := defScope sCount) (by decide +kernel)) (fun _ _ _ _ _ => pg_name (i := 1) scCount.nd rfl (.inl rfl)) (fun _ _ _ _ _ => pts_nil) (fun _ _ _ _ _ => pe_cl ih hr (pa_cons (pv 1) pa_nil))) pa_nil)))), ?_⟩
    obtain ⟨hp24, hpd⟩ := parts_dle hd
    refine ⟨_, rfl, v, t, rfl, ht, by omega, fun p H2 ws s2 h2 hws => ?_⟩
    refine ⟨p, rfl, ⟨ws, h2⟩, fun Dl hDl => ?_⟩
    have s3 := same_new hDl (HO.lst [])
    refine lc_tup (xs := ws) (fun i H' => Same H2 H' ∧ H' Dl = some (.lst ((((partsT t).take i).map fun p => (sz p : Int)).map V.int))) ?_ ?_ ?_ ?_
    · exact ⟨s3, by rw [upd_same]; rfl⟩
    · rintro i H' _ ⟨s4, _⟩
      exact sqT_same s4 h2
    · rintro i x H3 hx ⟨s4, h4⟩
      have hpi : i < (partsT t).length := by rw [← hws.len]; exact (List.getElem?_eq_some_iff.mp hx).1
      obtain ⟨y', hy', hty⟩ := hws.get (i := i) (t := (partsT t)[i]) (List.getElem?_eq_getElem hpi)
      rw [hx] at hy'
      cases hy'
      obtain ⟨m', hm', hd'⟩ := hpd _ (List.getElem_mem hpi)
      refine ⟨rfl, _, rfl, x, (partsT t)[i], m', rfl, by omega, hty.ext (Te.of' s4), hd', fun H5 s5 => ?_⟩
      refine ⟨_, s5 _ _ h4, small1000 (by simp; omega), same_mut (s4.trans s5) hDl, ?_⟩
      rw [upd_same, List.take_add_one, List.getElem?_eq_getElem hpi, List.map_append, List.map_append]
      rfl
    · rintro H3 ⟨s4, h4⟩
      rw [List.take_of_length_le (by rw [← hws.len]; exact Nat.le_refl _)] at h4
      refine ⟨Dl, (partsT t).map fun p => (sz p : Int), rfl, SqL.of h4, ?_⟩
      have e : (1 : Int) + ((partsT t).map fun p => (sz p : Int)).sum = ((sz t : Nat) : Int) := by
        rw [sz_parts t]
        generalize partsT t = ps
        rw [Int.natCast_add]
        congr 1
        induction ps with
        | nil => rfl
        | cons p ps ih => simp only [List.map_cons, List.sum_cons, Int.natCast_add, ih]
      refine ⟨_, _, rfl, rfl, ?_⟩
      have z := q H3 (s2.trans s4)
      rw [← e] at z
      exact z
/-! ### weight -/
theorem tag_nev {t : Tm} (h : ∀ i, t ≠ .var i) : ¬ tagOf t = "var" := by
  cases t with
  | var i => exact (h i rfl).elim
  | atom b xs =>
    cases b
    · exact (show ¬ ("const" : Str) = "var" by decide +kernel)
    · exact (show ¬ ("univ" : Str) = "var" by decide +kernel)
  | node k ps =>
    cases k with
    | hole n => exact (show ¬ ("hole" : Str) = "var" by decide +kernel)
    | app => exact (show ¬ ("app" : Str) = "var" by decide +kernel)
    | pi => exact (show ¬ ("pi" : Str) = "var" by decide +kernel)
    | fn => exact (show ¬ ("fun" : Str) = "var" by decide +kernel)
    | lt => exact (show ¬ ("let" : Str) = "var" by decide +kernel)
theorem repl1 (b : Nat) : (List.replicate ((b : Nat) : Int).toNat [V.int 1]).flatten = (List.replicate b (1 : Int)).map V.int := by
  rw [Int.toNat_natCast]
  induction b with
  | zero => rfl
  | succ b ih => rw [List.replicate_succ, List.flatten_cons, ih]; rfl
def spWeight (K : PySem.W.Frag) (n : Nat) : Sp := fun vs H Q _ => ∃ (v : V) (e D : Addr) (t : Tm) (ns : List Int) (φ : Fl) (m : Nat), vs = [v, .ref e, .ref D] ∧ m < n ∧ Tr K H v t ∧ wf φ m ns.length t ∧ (∃ j, dle j t) ∧ FlAt K H D φ ∧ (∀ k ar b, φ k = some (ar, b) → ∃ j, dle j b) ∧
  H e = some (.lst (ns.map V.int)) ∧ ns.length + n ≤ 900 ∧ n ≤ 500 ∧ ∀ z H', Same H H' → Q (.int z) H'
abbrev nWeight : List Str := ["_law_term", "_law_env", "_law_filling", "_law_sizes", "_law_k", "_law_part"]
theorem scWeight : FnScope nWeight ["_law_term", "_law_env", "_law_filling"] (defScope sWeight) := ⟨rfl, rfl, rfl, by decide +kernel, rfl, by decide +kernel, by decide +kernel⟩
theorem ok_weight {f fb fu : Addr} {fd fdb fdu : FuncData} (F : Fun K "_law_weight" "_law_weight" sWeight f fd) (mf : mg "_law_weight" = some (.ref f)) (bf : L2.Binds K fd ["_law_term", "_law_env", "_law_filling"] []) (ms : mg "sum" = none) (ml : mg "len" = none) (me : mg "enumerate" = none)
    (CB : Cl P w K mg base 1 "_law_bits" fb fdb ["_law_node_here"] (spParts K)) (CU : Cl P w K mg base 1 "_law_under" fu fdu ["_law_node_here", "_law_k"] (spLUnd K)) : ∀ n, Cl P w K mg base (n + 1) "_law_weight" f fd ["_law_term", "_law_env", "_law_filling"] (spWeight K n)
  | 0 => by
    refine ⟨?_, mf, F.kp, bf⟩
    refine F.ok scWeight (fun vs H Q E h => ?_) (fun cdv A outer s H vs Q E hr h => ?_)
    · obtain ⟨v, e, D, t, ns, φ, m, rfl, _⟩ := h; rfl
    · obtain ⟨v, e, D, t, ns, φ, m, rfl, h, _⟩ := h
      exact absurd h (Nat.not_lt_zero _)
  | n + 1 => by
    have ih := ok_weight F mf bf ms ml me CB CU n
    refine ⟨?_, mf, F.kp, bf⟩
    refine F.ok scWeight (fun vs H Q E h => ?_) (fun cdv A outer s H vs Q E hr h => ?_)
    · obtain ⟨v, e, D, t, ns, φ, m, rfl, _⟩ := h; rfl
    obtain ⟨v, e, D, t, ns, φ, m, rfl, hm, ht, hw, ⟨jd, hd⟩, hF, hφ, he, hl, hn5, q⟩ := h
    have hu := hu_of hr
    have hr1 := hr.mono (show 1 ≤ n + 1 by omega)
    refine ⟨_, pss_cons (ps_if (pt_cmpR op_eq (pe_ix ix_tup (pv 0) pe_int (fun _ _ => rfl)) pe_str (nomark _)) (pss_one (ps_ret (pe_ix ix_list (pv 1) (pe_op op_sub (pe_op op_sub (pe_callB call_len_seq rfl ml PySem.boot_len (pa_cons (pv 1) pa_nil)) pe_int) (pe_ix ix_tup (pv 0) pe_int (fun _ _ => rfl))) (fun _ _ => rfl)))) pss_nil)
      (pss_cons (ps_setLc (own := [("_law_k", 4), ("_law_part", 5)]) (i := 3) (g := gTup K 2 (gCons (gName 4) (gCons (gName 5) gNil))) (tt := tYes) rfl scWeight.nd rfl rfl (sw_true rfl rfl rfl (by decide +kernel)) (pi_enumT rfl me (pa_cons (pe_cl CB hr1 (pa_cons (pv 0) pa_nil)) pa_nil))
        (blkOk_by (N := nWeight) (sc := defScope sWeight) (by decide +kernel)) (fun _ _ _ _ _ => pg_tup rfl (pgs_cons (pg_name (i := 4) scWeight.nd rfl (.inl rfl)) (pgs_cons (pg_name (i := 5) scWeight.nd rfl (.inl rfl)) pgs_nil))) (fun _ _ _ _ _ => pts_nil)
        (fun _ _ _ _ _ => pe_cl ih hr (pa_cons (pv 5) (pa_cons (pe_op op_cat (pv 1) (pe_op op_rep (pe_lst (pa_cons pe_int pa_nil)) (pe_cl CU hr1 (pa_cons (pv 0) (pa_cons (pv 4) pa_nil))))) (pa_cons (pv 2) pa_nil)))))
      (pss_cons (ps_if (PW.pt (pw_and (pt_cmpR op_eq (pe_ix ix_tup (pv 0) pe_int (fun _ _ => rfl)) pe_str (nomark _)) (pw_and1 (pt_cmp (pc_din hu (pe_ix ix_tup (pv 0) pe_int (fun _ _ => rfl)) (pv 2))))))
        (pss_one (ps_ret (pe_cl ih hr (pa_cons (pe_ix ix_tup (pe_dget hu (pv 2) (pe_ix ix_tup (pv 0) pe_int (fun _ _ => rfl)) (fun _ _ => rfl)) pe_int (fun _ _ => rfl)) (pa_cons (pv 3) (pa_cons (pv 2) pa_nil)))))) pss_nil)
      (pss_one (ps_ret (pe_op op_add pe_int (pe_callB (cr_sum rfl) rfl ms (by decide +kernel) (pa_cons (pv 3) pa_nil))))))), ?_⟩
    by_cases hv : ∃ i, t = .var i
    · obtain ⟨i, rfl⟩ := hv
      have hi : i < ns.length := wf_var.mp hw
      obtain ⟨a, rfl, hs⟩ := tr_var ht
      have hidx : (((ns.map V.int).length : Nat) : Int) - 1 - ((i : Nat) : Int) = ((ns.length - 1 - i : Nat) : Int) := by rw [List.length_map]; omega
      refine ⟨_, rfl, a, _, 0, _, rfl, rfl, hs, at0, rfl, _, rfl, iteEqT (by decide +kernel) ?_⟩
      refine ⟨_, rfl, _, rfl, e, _, rfl, .inl (SqL.of he), _, _, rfl, rfl, _, rfl, a, _, 1, _, rfl, rfl, hs, at1, _, _, rfl, rfl, e, _, _, V.int ns[ns.length - 1 - i], rfl, rfl, SqL.of he, ?_, q _ H (Same.refl H)⟩
      rw [hidx]
      exact atI_nat (by rw [List.getElem?_map, List.getElem?_eq_getElem (by omega)]; rfl)
    obtain ⟨a, ys, rfl, hs⟩ := tr_tag ht
    have h0 : ¬ tagOf t = "var" := tag_nev fun i e => hv ⟨i, e⟩
    refine ⟨_, rfl, a, _, 0, _, rfl, rfl, hs, at0, rfl, _, rfl, iteEqF h0 ?_⟩
    obtain ⟨hp24, hpd⟩ := parts_dle hd
    refine ⟨_, rfl, _, t, rfl, ht, by omega, fun p H2 ws s2 h2 hws => ?_⟩
    refine ⟨p, ws, rfl, h2, fun Dl hDl => ?_⟩
    have s3 := same_new hDl (HO.lst [])
    have kids : ∀ j p, (partsT t)[j]? = some p → ∃ k ps m', t = .node k ps ∧ arOk k ps.length ∧ m' < n ∧ wf φ m' (ns.length + bnd k j) p := fun j p hp => by
      cases t with
      | var i => exact (hv ⟨i, rfl⟩).elim
      | atom u xs => simp [partsT] at hp
      | node k ps =>
        cases m with
        | zero => exact hw.elim
        | succ m =>
          have har : arOk k ps.length := by
            cases jd with
            | zero => exact hd.elim
            | succ jd => exact hd.1
          refine ⟨k, ps, m, rfl, har, by omega, ?_⟩
          cases e : hit φ k with
          | none => exact (wf_miss e).mp hw j p hp
          | some ab =>
            obtain ⟨ar, b⟩ := ab
            obtain ⟨x, rfl, _⟩ := hit_hole e
            rw [bnd_hole]
            exact ((wf_hit e).mp hw).2.1 p (List.mem_of_getElem? hp)
    refine lc_it (walk_enumT (xs := ws)) (fun i H' => Same H2 H' ∧ ∃ zs : List Int, zs.length = i ∧ H' Dl = some (.lst (zs.map V.int))) ?_ ?_ ?_ ?_
    · exact ⟨s3, [], rfl, upd_same⟩
    · rintro i H' _ ⟨s4, _⟩
      exact sqT_same s4 h2
    · rintro i x H3 H4 hi ⟨s4, zs, hz, h4⟩ ⟨A1, x', y, rfl, hA1, rfl, ex, hy⟩
      cases ex
      have hpi : i < (partsT t).length := by rw [← hws.len]; exact hi
      obtain ⟨y', hy', hty⟩ := hws.get (i := i) (t := (partsT t)[i]) (List.getElem?_eq_getElem hpi)
      have hy : ws[i]? = some y := hy
      rw [hy] at hy'
      cases hy'
      obtain ⟨k, ps, m', rfl, har, hm', hwf⟩ := kids i _ (List.getElem?_eq_getElem hpi)
      obtain ⟨mj, _, hdj⟩ := hpd _ (List.getElem_mem hpi)
      have s5 := s4.trans (same_new hA1 (HO.tup [.int (i : Nat), y]))
      refine ⟨A1, _, rfl, SqT.of upd_same, rfl, _, _, rfl, _, _, rfl, rfl, rfl, ?_⟩
      have nAD : Dl ≠ A1 := fun e => by subst e; rw [h4] at hA1; cases hA1
      refine ⟨_, rfl, _, rfl, le_line (by simp), fun g hg => ?_⟩
      have s6 := s5.trans (same_new hg (HO.lst [V.int 1]))
      refine ⟨_, rfl, _, rfl, _, k, ps, i, rfl, ht.ext (Te.of' (s2.trans s6)), har, fun H7 s7 => ?_⟩
      have hb := bnd_le k i
      refine ⟨g, _, _, rfl, rfl, s7 _ _ upd_same, by omega, by omega, le_line (by simp; omega), fun g2 hg2 => ?_⟩
      have s8 := same_new hg2 (HO.lst ((List.replicate ((bnd k i : Nat) : Int).toNat [V.int 1]).flatten))
      have he8 := s8 _ _ (s7 _ _ (s6 _ _ (s2 _ _ he)))
      refine ⟨e, g2, _, _, rfl, rfl, he8, upd_same, ?_, fun g3 hg3 => ?_⟩
      · rw [repl1, List.length_map, List.length_map, List.length_replicate]
        exact le_line (by omega)
      have s9 := same_new hg3 (HO.lst (ns.map V.int ++ (List.replicate ((bnd k i : Nat) : Int).toNat [V.int 1]).flatten))
      have sAll : Same H2 _ := ((s6.trans s7).trans s8).trans s9
      refine ⟨_, rfl, y, g3, D, ps[i], ns ++ List.replicate (bnd k i) 1, φ, m', rfl, hm', hty.ext (Te.of' sAll), ?_, ⟨mj, hdj⟩, hF.re (Re.of (ExtN.of (s2.trans sAll))), hφ, ?_, ?_, ?_, fun z H5 s10 => ?_⟩
      · rw [List.length_append, List.length_replicate]; exact hwf
      · rw [upd_same, repl1, List.map_append]
      · rw [List.length_append, List.length_replicate]; omega
      · omega
      · have hD5 : H5 Dl = some (.lst (zs.map V.int)) := s10 _ _ (s9 _ _ (s8 _ _ (s7 _ _ (by
          have ngD : Dl ≠ g := fun e => by subst e; rw [upd_ne nAD, h4] at hg; cases hg
          rw [upd_ne ngD, upd_ne nAD]; exact h4))))
        have hzl : zs.length < 24 := by rw [hz]; omega
        exact ⟨_, hD5, small1000 (by rw [List.length_map]; omega), same_mut (sAll.trans s10) hDl, zs ++ [z], by simp [hz], by rw [upd_same, List.map_append]; rfl⟩
    · rintro H3 ⟨s4, zs, hz, h4⟩
      have sA := s2.trans s4
      have fin : tRet (tOp (rI0 fun i j => V.int (i + j)) (tC (.int 1)) (tCB (rSum K) (tCons (tVar 3) tNil))) { nx := fun _ H' => Q .non H', rt := Q } [some (.ref a), some (.ref e), some (.ref D), some (.ref Dl), none, none] H3 :=
        ⟨_, rfl, Dl, zs, rfl, SqL.of h4, _, _, rfl, rfl, q _ _ sA⟩
      by_cases hk : ∃ x ps, t = .node (.hole x) ps
      · obtain ⟨x, ps, rfl⟩ := hk
        obtain ⟨a', b', vs, e1, k1, k2, k3⟩ := tr_hole ht
        cases e1
        have k1' := sqT_same sA k1
        have hF3 := hF.re (Re.of (ExtN.of sA))
        obtain ⟨o, ho, hno, hyes⟩ := hF3.get x
        refine ⟨_, rfl, a, _, 0, _, rfl, rfl, k1', at0, rfl, _, rfl, iteEqT (by decide +kernel) ?_⟩
        refine ⟨_, rfl, a, _, 1, _, rfl, rfl, k1', at1, _, rfl, D, _, rfl, ho, _, rfl, ?_⟩
        cases e2 : φ x with
        | none =>
          obtain rfl := hno e2
          exact fin
        | some ab =>
          obtain ⟨ar, b⟩ := ab
          obtain ⟨va, vb, rfl, j1, j2⟩ := hyes ar b e2
          cases m with
          | zero => exact hw.elim
          | succ m =>
            obtain ⟨z1, z2, z3⟩ := (wf_hit (k := .hole x) e2).mp hw
            have hzl : zs.length = ar := by rw [hz, hws.len]; exact z1
            refine ⟨_, rfl, _, rfl, a, _, 1, _, rfl, rfl, k1', at1, D, _, rfl, ho, va, _, 1, _, rfl, rfl, j1, at1, _, rfl, _, rfl, vb, Dl, D, b, zs, φ, m, rfl, by omega, j2, by rw [hzl]; exact z3, hφ _ _ _ e2, hF3, hφ, h4, ?_, by omega, fun z H5 s10 => q z H5 (sA.trans s10)⟩
            have hp24 : ps.length ≤ 24 := hp24
            rw [hzl, ← z1]
            omega
      · have h1 : ¬ tagOf t = "hole" := tag_ne fun x qs e => hk ⟨x, qs, e⟩
        refine ⟨_, rfl, a, _, 0, _, rfl, rfl, sqT_same sA hs, at0, rfl, _, rfl, iteEqF h1 ?_⟩
        exact fin
end
end KP

/-! show -/
namespace KP
open PySem PyProof.Rows L2 LamX NdefX KL KM KD
section
variable {P : Program} {w : World} {K : PySem.W.Frag} {mg : Str → Option Value} {base : Heap} {T : List (Addr × Str)}
mutual
inductive ER (K : PySem.W.Frag) (H : Hp) (N : Nat) : V → Ent → Prop
  | lvl (l : Nat) : ER K H N (.int (l : Nat)) (.lvl l)
  | clo {p a : Addr} {v : V} {t : Tm} {vs : List V} {env : List Ent} : H p = some (.tup [v, .ref a]) → Tr K H v t → (∃ m, dle m t) → H a = some (.lst vs) → env.length + N ≤ 900 → ERs K H N vs env → ER K H N (.ref p) (.clo t env)
inductive ERs (K : PySem.W.Frag) (H : Hp) (N : Nat) : List V → List Ent → Prop
  | nil : ERs K H N [] []
  | cons {v : V} {vs : List V} {e : Ent} {es : List Ent} : ER K H N v e → ERs K H N vs es → ERs K H N (v :: vs) (e :: es)
end
section
variable {H H' : Hp} {N M : Nat}
mutual
theorem ER.ext (s : Same H H') (h : M ≤ N) : ∀ {v : V} {e : Ent}, ER K H N v e → ER K H' M v e
  | _, _, .lvl l => .lvl l
  | _, _, .clo h1 h2 h3 h4 h5 h6 => .clo (s _ _ h1) (h2.ext (Te.of' s)) h3 (s _ _ h4) (by omega) (ERs.ext s h h6)
theorem ERs.ext (s : Same H H') (h : M ≤ N) : ∀ {vs : List V} {es : List Ent}, ERs K H N vs es → ERs K H' M vs es
  | _, _, .nil => .nil
  | _, _, .cons h1 h2 => .cons (ER.ext s h h1) (ERs.ext s h h2)
end
theorem ERs.len : ∀ {vs : List V} {es : List Ent}, ERs K H N vs es → vs.length = es.length
  | _, _, .nil => rfl
  | _, _, .cons _ h2 => by simp [ERs.len h2]
theorem ERs.get : ∀ {vs : List V} {es : List Ent} {i : Nat} {e : Ent}, ERs K H N vs es → es[i]? = some e → ∃ v, vs[i]? = some v ∧ ER K H N v e
  | _, _, _, _, .nil, h => by simp at h
  | _, _, 0, _, .cons h1 _, h => by simp at h; subst h; exact ⟨_, rfl, h1⟩
  | _, _, i + 1, _, .cons _ h2, h => by
    obtain ⟨v, h3, h4⟩ := ERs.get (i := i) h2 (by simpa using h)
    exact ⟨v, by simpa using h3, h4⟩
theorem ERs.snoc : ∀ {vs : List V} {es : List Ent} {v : V} {e : Ent}, ERs K H N vs es → ER K H N v e → ERs K H N (vs ++ [v]) (es ++ [e])
  | _, _, _, _, .nil, h => .cons h .nil
  | _, _, _, _, .cons h1 h2, h => .cons h1 (ERs.snoc h2 h)
end
theorem ers_of {H : Hp} {N : Nat} : ∀ {vs : List V} {es : List Ent}, vs.length = es.length → (∀ (j : Nat) e, es[j]? = some e → ∃ v, vs[j]? = some v ∧ ER K H N v e) → ERs K H N vs es
  | [], [], _, _ => .nil
  | v :: vs, e :: es, hl, h => by
    obtain ⟨v', h1, h2⟩ := h 0 e rfl
    cases h1
    exact .cons h2 (ers_of (by simpa using hl) fun j e' he => by
      obtain ⟨v', h3, h4⟩ := h (j + 1) e' (by simpa using he)
      exact ⟨v', by simpa using h3, h4⟩)
def spShow (K : PySem.W.Frag) (n : Nat) : Sp := fun vs H Q _ => ∃ (v : V) (e D : Addr) (t : Tm) (xs : List V) (env : List Ent) (φ : Fl) (deep : Nat) (u : Tm), vs = [v, .ref e, .int (deep : Nat), .ref D] ∧ Tr K H v t ∧ (∃ j, dle j t) ∧ H e = some (.lst xs) ∧ ERs K H n xs env ∧ env.length + n ≤ 900 ∧ n ≤ 500 ∧
  Sh φ n t env deep u ∧ FlAt K H D φ ∧ (∀ k ar b, φ k = some (ar, b) → ∃ j, dle j b) ∧ ∀ v' H', Same H H' → Tr K H' v' u → Q v' H'
abbrev nShow : List Str := ["_law_term", "_law_env", "_law_deep", "_law_filling", "_law_entry", "_law_bits_here", "_law_k", "_law_part", "_law_inner"]
theorem scShow : FnScope nShow ["_law_term", "_law_env", "_law_deep", "_law_filling"] (defScope sShow) := ⟨rfl, rfl, rfl, by decide +kernel, rfl, by decide +kernel, by decide +kernel⟩
theorem ok_show {f fb fu fn : Addr} {fd fdb fdu fdn : FuncData} (F : Fun K "_law_show" "_law_show" sShow f fd) (mf : mg "_law_show" = some (.ref f)) (bf : L2.Binds K fd ["_law_term", "_law_env", "_law_deep", "_law_filling"] []) (ml : mg "len" = none) (me : mg "enumerate" = none) (mi : mg "isinstance" = none) (mj : mg "int" = none)
    (CB : Cl P w K mg base 1 "_law_bits" fb fdb ["_law_node_here"] (spParts K)) (CU : Cl P w K mg base 1 "_law_under" fu fdu ["_law_node_here", "_law_k"] (spLUnd K)) (CN : Cl P w K mg base 1 "_law_node" fn fdn ["_law_node_here", "_law_bits_here"] (spNode K)) : ∀ n, Cl P w K mg base (n + 1) "_law_show" f fd ["_law_term", "_law_env", "_law_deep", "_law_filling"] (spShow K n)
  | 0 => by
    refine ⟨?_, mf, F.kp, bf⟩
    refine F.ok scShow (fun vs H Q E h => ?_) (fun cdv A outer s H vs Q E hr h => ?_)
    · obtain ⟨v, e, D, t, xs, env, φ, deep, u, rfl, _⟩ := h; rfl
    · obtain ⟨v, e, D, t, xs, env, φ, deep, u, rfl, _, _, _, _, _, _, h, _⟩ := h
      cases h
  | n + 1 => by
    have ih := ok_show F mf bf ml me mi mj CB CU CN n
    refine ⟨?_, mf, F.kp, bf⟩
    refine F.ok scShow (fun vs H Q E h => ?_) (fun cdv A outer s H vs Q E hr h => ?_)
    · obtain ⟨v, e, D, t, xs, env, φ, deep, u, rfl, _⟩ := h; rfl
    obtain ⟨v, e, D, t, xs, env, φ, deep, u, rfl, ht, ⟨jd, hd⟩, he, hE, hl, hn5, hS, hF, hφ, q⟩ := h
    have hu := hu_of hr
    have hr1 := hr.mono (show 1 ≤ n + 1 by omega)
    refine ⟨_, pss_cons (ps_if (pt_cmpR op_eq (pe_ix ix_tup (pv 0) pe_int (fun _ _ => rfl)) pe_str (nomark _))
        (pss_cons (ps_set (i := 4) scShow.nd rfl (.inl rfl) (pe_ix ix_list (pv 1) (pe_op op_sub (pe_op op_sub (pe_callB call_len_seq rfl ml PySem.boot_len (pa_cons (pv 1) pa_nil)) pe_int) (pe_ix ix_tup (pv 0) pe_int (fun _ _ => rfl))) (fun _ _ => rfl)))
        (pss_cons (ps_if (pt_truth (pe_callB call_isi rfl mi (by decide +kernel) (pa_cons (pv 4) (pa_cons (pe_bltn (x := "int") (v := .ty "int") rfl mj (by decide +kernel) rfl) pa_nil))) (by intro _; rfl)) (pss_one (ps_ret (pe_tup (pa_cons pe_str (pa_cons (pe_op op_sub (pe_op op_sub (pv 2) pe_int) (pv 4)) pa_nil))))) pss_nil)
        (pss_one (ps_ret (pe_cl ih hr (pa_cons (pe_ix ix_tup (pv 4) pe_int (fun _ _ => rfl)) (pa_cons (pe_ix ix_tup (pv 4) pe_int (fun _ _ => rfl)) (pa_cons (pv 2) (pa_cons (pv 3) pa_nil))))))))) pss_nil)
      (Evl.pss_cut (ps_if (PW.pt (pw_and (pt_cmpR op_eq (pe_ix ix_tup (pv 0) pe_int (fun _ _ => rfl)) pe_str (nomark _)) (pw_and1 (pt_cmp (pc_din hu (pe_ix ix_tup (pv 0) pe_int (fun _ _ => rfl)) (pv 3))))))
        (pss_one (ps_ret (pe_cl ih hr (pa_cons (pe_ix ix_tup (pe_dget hu (pv 3) (pe_ix ix_tup (pv 0) pe_int (fun _ _ => rfl)) (fun _ _ => rfl)) pe_int (fun _ _ => rfl)) (pa_cons
          (pe_lc (own := [("_law_part", 7)]) (g := gName 7) (tt := tYes) rfl scShow.nd (pi_tup (pe_ix ix_tup (pv 0) pe_int (fun _ _ => rfl))) (blkOk_by (N := nShow) (sc := defScope sShow) (by decide +kernel)) (fun _ _ _ _ _ => pg_name (i := 7) scShow.nd rfl (.inl rfl)) (fun _ _ _ _ _ => pts_nil)
            (fun _ _ _ _ _ => pe_tup (pa_cons (pv 7) (pa_cons (pv 1) pa_nil)))) (pa_cons (pv 2) (pa_cons (pv 3) pa_nil))))))) pss_nil)
      (pss_cons (ps_set (i := 5) scShow.nd rfl (.inl rfl) (pe_lst pa_nil))
      (pss_cons (ps_for PassesOwn.never rfl (pi_enumT rfl me (pa_cons (pe_cl CB hr1 (pa_cons (pv 0) pa_nil)) pa_nil)) (pg_tup rfl (pgs_cons (pg_name (i := 6) scShow.nd rfl (.inl rfl)) (pgs_cons (pg_name (i := 7) scShow.nd rfl (.inl rfl)) pgs_nil)))
        (Evl.pss_cut (ps_set (i := 8) scShow.nd rfl (.inl rfl) (pe_ifExp (pt_truth (pe_cl CU hr1 (pa_cons (pv 0) (pa_cons (pv 6) pa_nil))) (by intro _; rfl)) (pe_op op_cat (pv 1) (pe_lst (pa_cons (pv 2) pa_nil))) (pv 1)))
        (pss_one (ps_expr (pe_bm PySem.F.plainAttrs_list PySem.F.slot_list_append PySem.F.type_list_append mt_append (pv 5) (pa_cons (pe_cl ih hr (pa_cons (pv 7) (pa_cons (pv 8) (pa_cons (pe_op op_add (pv 2) (pe_cl CU hr1 (pa_cons (pv 0) (pa_cons (pv 6) pa_nil)))) (pa_cons (pv 3) pa_nil))))) pa_nil))))))
      (pss_one (ps_ret (pe_cl CN hr1 (pa_cons (pv 0) (pa_cons (pv 5) pa_nil)))))))), ?_⟩
    by_cases hv : ∃ i, t = .var i
    · obtain ⟨i, rfl⟩ := hv
      obtain ⟨a, rfl, hs⟩ := tr_var ht
      refine ⟨_, rfl, a, _, 0, _, rfl, rfl, hs, at0, rfl, _, rfl, iteEqT (by decide +kernel) ?_⟩
      have hlx := hE.len
      cases hS with
      | @lvl _ _ _ l _ h1 h2 h3 =>
        obtain ⟨x, hx, rx⟩ := hE.get h2
        cases rx
        have hidx : ((xs.length : Nat) : Int) - 1 - ((i : Nat) : Int) = ((env.length - 1 - i : Nat) : Int) := by omega
        refine ⟨_, rfl, _, rfl, e, _, rfl, .inl (SqL.of he), _, _, rfl, rfl, _, rfl, a, _, 1, _, rfl, rfl, hs, at1, _, _, rfl, rfl, e, _, _, V.int (l : Nat), rfl, rfl, SqL.of he, (by rw [hidx]; exact atI_nat hx), ?_⟩
        refine ⟨_, rfl, _, _, _, _, true, rfl, .ty _, .base (.int _), rfl, _, rfl, ?_⟩
        refine iteT ⟨_, rfl, _, _, rfl, rfl, _, rfl, _, _, rfl, rfl, le_line (by simp), fun g hg => ?_⟩
        have ec : ((deep : Nat) : Int) - 1 - ((l : Nat) : Int) = ((deep - 1 - l : Nat) : Int) := by omega
        exact q _ _ (same_new hg _) (tr_mk_var (SqT.of (by rw [← ec, upd_same])))
      | @clo _ _ _ _ env' t' _ h1 h2 h3 =>
        obtain ⟨x, hx, rx⟩ := hE.get h2
        cases rx with
        | @clo p a' v' _ vs' _ r1 r2 r3 r4 r5 r6 =>
          have hidx : ((xs.length : Nat) : Int) - 1 - ((i : Nat) : Int) = ((env.length - 1 - i : Nat) : Int) := by omega
          refine ⟨_, rfl, _, rfl, e, _, rfl, .inl (SqL.of he), _, _, rfl, rfl, _, rfl, a, _, 1, _, rfl, rfl, hs, at1, _, _, rfl, rfl, e, _, _, V.ref p, rfl, rfl, SqL.of he, (by rw [hidx]; exact atI_nat hx), ?_⟩
          refine ⟨_, rfl, _, _, _, _, false, rfl, .ty _, .base (.tup r1), rfl, _, rfl, ?_⟩
          refine iteF ⟨_, rfl, p, _, 0, _, rfl, rfl, SqT.of r1, at0, _, rfl, p, _, 1, _, rfl, rfl, SqT.of r1, at1, _, rfl, _, rfl, ?_⟩
          exact ⟨v', a', D, t', vs', env', φ, deep, u, rfl, r2, r3, r4, r6.ext (Same.refl H) (by omega), by omega, by omega, h3, hF, hφ, q⟩
    obtain ⟨a, ys, rfl, hs⟩ := tr_tag ht
    have h0 : ¬ tagOf t = "var" := tag_nev fun i e => hv ⟨i, e⟩
    refine ⟨_, rfl, a, _, 0, _, rfl, rfl, hs, at0, rfl, _, rfl, iteEqF h0 ?_⟩
    obtain ⟨hp24, hpd⟩ := parts_dle hd
    refine ⟨fun σ H' => σ = [some (.ref a), some (.ref e), some (.int (deep : Nat)), some (.ref D), none, none, none, none, none] ∧ H = H' ∧ ∃ us, us.length = (partsT t).length ∧ nodeR t us u ∧
      ∀ j p u', (partsT t)[j]? = some p → us[j]? = some u' → ∃ k ps, t = .node k ps ∧ arOk k ps.length ∧ Sh φ n p (if bnd k j = 1 then env ++ [.lvl deep] else env) (deep + bnd k j) u', ?_, ?_⟩
    · cases hS with
      | lvl h1 h2 h3 => exact (hv ⟨_, rfl⟩).elim
      | clo h1 h2 h3 => exact (hv ⟨_, rfl⟩).elim
      | atom =>
        refine ⟨_, rfl, a, _, 0, _, rfl, rfl, hs, at0, rfl, _, rfl, iteEqF (tag_ne fun x qs e => by cases e) ?_⟩
        exact ⟨rfl, rfl, [], rfl, ⟨rfl, rfl⟩, fun j p u' hp => by simp [partsT] at hp⟩
      | @miss _ _ _ k ps us h1 h2 h3 =>
        have har : arOk k ps.length := by
          cases jd with
          | zero => exact hd.elim
          | succ jd => exact hd.1
        have mid : ∃ us', us'.length = (partsT (.node k ps)).length ∧ nodeR (.node k ps) us' (.node k us) ∧
            ∀ j p u', (partsT (.node k ps))[j]? = some p → us'[j]? = some u' → ∃ k' ps', Tm.node k ps = .node k' ps' ∧ arOk k' ps'.length ∧ Sh φ n p (if bnd k' j = 1 then env ++ [.lvl deep] else env) (deep + bnd k' j) u' := by
          refine ⟨us, h2, ⟨rfl, fun hk e => ?_⟩, fun j p u' hp hu' => ⟨k, ps, rfl, har, h3 j p u' hp hu'⟩⟩
          subst e
          have hl0 : ps.length = 0 := h2.symm
          rw [hl0] at har
          cases k with
          | hole x => exact hk x rfl
          | app => cases har
          | pi => cases har
          | fn => cases har
          | lt => cases har
        by_cases hk : ∃ x, k = .hole x
        · obtain ⟨x, rfl⟩ := hk
          obtain ⟨a', b', vs, e1, k1, k2, k3⟩ := tr_hole ht
          cases e1
          obtain ⟨o, ho, hno, hyes⟩ := hF.get x
          obtain rfl := hno h1
          refine ⟨_, rfl, a, _, 0, _, rfl, rfl, k1, at0, rfl, _, rfl, iteEqT (by decide +kernel) ?_⟩
          refine ⟨_, rfl, a, _, 1, _, rfl, rfl, k1, at1, _, rfl, D, _, rfl, ho, _, rfl, ?_⟩
          exact ⟨rfl, rfl, mid⟩
        · refine ⟨_, rfl, a, _, 0, _, rfl, rfl, hs, at0, rfl, _, rfl, iteEqF (tag_ne fun x qs e => hk ⟨x, by injection e⟩) ?_⟩
          exact ⟨rfl, rfl, mid⟩
      | @hit _ _ ar _ k ps b _ h1 h2 =>
        obtain ⟨x, rfl, e2⟩ := hit_hole h1
        obtain ⟨a', b', vs, e1, k1, k2, k3⟩ := tr_hole ht
        cases e1
        obtain ⟨o, ho, hno, hyes⟩ := hF.get x
        obtain ⟨va, vb, rfl, j1, j2⟩ := hyes ar b e2
        have hp24 : ps.length ≤ 24 := hp24
        refine ⟨_, rfl, a, _, 0, _, rfl, rfl, k1, at0, rfl, _, rfl, iteEqT (by decide +kernel) ?_⟩
        refine ⟨_, rfl, a, _, 1, _, rfl, rfl, k1, at1, _, rfl, D, _, rfl, ho, _, rfl, ?_⟩
        refine ⟨_, rfl, _, rfl, a, _, 1, _, rfl, rfl, k1, at1, D, _, rfl, ho, va, _, 1, _, rfl, rfl, j1, at1, ?_⟩
        refine ⟨_, rfl, a, _, 2, _, rfl, rfl, k1, at2, b', rfl, ⟨vs, k2⟩, fun Dl hDl => ?_⟩
        have nDe : ∀ {g : Addr} {u : HO}, H g = some u → g ≠ Dl := fun hg e => by subst e; rw [hDl] at hg; cases hg
        refine lc_tup (xs := vs) (fun i H' => Same H H' ∧ ∃ acc, H' Dl = some (.lst acc) ∧ acc.length = i ∧ ∀ (j : Nat) p, j < i → ps[j]? = some p → ∃ g v, acc[j]? = some (.ref g) ∧ H' g = some (.tup [v, .ref e]) ∧ Tr K H' v p) ?_ ?_ ?_ ?_
        · exact ⟨same_new hDl _, [], upd_same, rfl, fun j p hj => by omega⟩
        · rintro i H' _ ⟨s3, _⟩
          exact sqT_same s3 k2
        · rintro i x' H3 hx ⟨s3, acc, hacc, hli, hall⟩
          have hpi : i < ps.length := by rw [← k3.len]; exact (List.getElem?_eq_some_iff.mp hx).1
          obtain ⟨y', hy', hty⟩ := k3.get (i := i) (t := ps[i]) (List.getElem?_eq_getElem hpi)
          rw [hx] at hy'
          cases hy'
          refine ⟨rfl, _, rfl, _, rfl, le_line (by simp), fun g hg => ?_⟩
          have s4 := same_new hg (HO.tup [x', .ref e])
          have hacc4 := s4 _ _ hacc
          have t6 : Te _ _ := Te.lst (o := HO.lst (acc ++ [V.ref g])) hacc4
          have ng : g ≠ Dl := fun e => by subst e; rw [hacc] at hg; cases hg
          refine ⟨acc, hacc4, small1000 (by omega), same_mut (s3.trans s4) hDl, acc ++ [V.ref g], upd_same, by simp [hli], fun j p hj hp => ?_⟩
          by_cases hji : j = i
          · subst hji
            rw [List.getElem?_eq_getElem hpi] at hp
            cases hp
            refine ⟨g, x', by rw [List.getElem?_append_right (by omega), hli]; simp, by rw [upd_ne ng, upd_same], hty.ext ((Te.of' (s3.trans s4)).trans t6)⟩
          · obtain ⟨g', v', z1, z2, z3⟩ := hall j p (by omega) hp
            have ng' : g' ≠ Dl := fun e => by subst e; rw [hacc] at z2; cases z2
            refine ⟨g', v', by rw [List.getElem?_append_left (by omega)]; exact z1, by rw [upd_ne ng']; exact s4 _ _ z2, z3.ext ((Te.of' s4).trans t6)⟩
        · rintro H3 ⟨s3, acc, hacc, hli, hall⟩
          have hvl : vs.length = ps.length := k3.len
          refine ⟨_, rfl, _, rfl, vb, Dl, D, b, acc, ps.map fun p => .clo p env, φ, deep, u, rfl, j2.ext (Te.of' s3), hφ _ _ _ e2, hacc, ?_, ?_, by omega, h2, hF.re (Re.of (ExtN.of s3)), hφ, fun v' H' s' h' => q v' H' (s3.trans s') h'⟩
          · refine ers_of (by rw [hli, List.length_map, hvl]) fun j e' he' => ?_
            rw [List.getElem?_map] at he'
            cases hp : ps[j]? with
            | none => rw [hp] at he'; cases he'
            | some p =>
              rw [hp] at he'
              simp only [Option.map_some, Option.some.injEq] at he'
              subst he'
              have hjl := (List.getElem?_eq_some_iff.mp hp).1
              obtain ⟨g, v', z1, z2, z3⟩ := hall j p (by omega) hp
              cases jd with
              | zero => exact hd.elim
              | succ jd => exact ⟨_, z1, .clo z2 z3 ⟨jd, hd.2 p (List.mem_of_getElem? hp)⟩ (s3 _ _ he) (by omega) (hE.ext s3 (by omega))⟩
          · rw [List.length_map]; omega
    · rintro σ _ ⟨rfl, rfl, us, hul, hnr, hkid⟩
      refine ⟨le_line (by simp), fun Bl hBl => ?_⟩
      have s1 := same_new hBl (HO.lst [])
      refine ⟨_, rfl, _, t, rfl, ht.ext (Te.of' s1), by omega, fun p H2 ws s2 h2 hws => ?_⟩
      refine ⟨p, ws, rfl, h2, ?_⟩
      refine for_it (walk_enumT (xs := ws)) (fun i σ H' => ∃ x6 x7 x8 acc, σ = [some (.ref a), some (.ref e), some (.int (deep : Nat)), some (.ref D), none, some (.ref Bl), x6, x7, x8] ∧ Same H H' ∧ SqT K H' p ws ∧ Ts K H' ws (partsT t) ∧ H' Bl = some (.lst acc) ∧ Ts K H' acc (us.take i)) ?_ ?_ ?_ ?_
      · exact ⟨_, _, _, [], rfl, s1.trans s2, h2, hws, s2 _ _ upd_same, .nil⟩
      · rintro i σ H' _ ⟨_, _, _, _, _, _, h3, _⟩
        exact h3
      · rintro i x σ H3 H4 hi ⟨x6, x7, x8, acc, rfl, s3, h3, hws3, hB3, hts⟩ ⟨A1, x', y, rfl, hA1, rfl, ex, hy⟩
        cases ex
        have hpi : i < (partsT t).length := by rw [← hws.len]; exact hi
        obtain ⟨y', hy', hty⟩ := hws3.get (i := i) (t := (partsT t)[i]) (List.getElem?_eq_getElem hpi)
        have hy : ws[i]? = some y := hy
        rw [hy] at hy'
        cases hy'
        have hui : i < us.length := by omega
        obtain ⟨k, ps, rfl, har, hsh⟩ := hkid i _ us[i] (List.getElem?_eq_getElem hpi) (List.getElem?_eq_getElem hui)
        obtain ⟨mj, _, hdj⟩ := hpd _ (List.getElem_mem hpi)
        have s4 := same_new hA1 (HO.tup [.int (i : Nat), y])
        have hb := bnd_le k i
        refine ⟨A1, _, rfl, SqT.of upd_same, rfl, _, _, rfl, _, _, rfl, rfl, ?_⟩
        refine ⟨fun σ H' => ∃ el xs', σ = [some (.ref a), some (.ref e), some (.int (deep : Nat)), some (.ref D), none, some (.ref Bl), some (.int (i : Nat)), some y, some (.ref el)] ∧ Same (upd H3 A1 (.tup [.int (i : Nat), y])) H' ∧ H' el = some (.lst xs') ∧ ERs K H' n xs' (if bnd k i = 1 then env ++ [.lvl deep] else env), ?_, ?_⟩
        · refine ⟨_, rfl, _, rfl, _, k, ps, i, rfl, ht.ext (Te.of' (s3.trans s4)), har, fun H5 s5 => ?_⟩
          refine ⟨_, rfl, ?_⟩
          have he5 := s5 _ _ (s4 _ _ (s3 _ _ he))
          have hE5 := hE.ext ((s3.trans s4).trans s5) (show n ≤ n + 1 by omega)
          by_cases hb1 : bnd k i = 1
          · rw [if_pos hb1]
            have : (((bnd k i : Nat) : Int) != 0) = true := by rw [hb1]; rfl
            rw [this]
            refine iteT ⟨_, rfl, _, rfl, le_line (by simp), fun g hg => ?_⟩
            have s6 := same_new hg (HO.lst [V.int (deep : Nat)])
            refine ⟨e, g, _, _, rfl, rfl, s6 _ _ he5, upd_same, ?_, fun g2 hg2 => ?_⟩
            · have := hE.len
              exact le_line (by simp; omega)
            · have s7 := same_new hg2 (HO.lst (xs ++ [V.int (deep : Nat)]))
              exact ⟨g2, _, rfl, (s5.trans s6).trans s7, upd_same, (hE5.ext (s6.trans s7) (Nat.le_refl n)).snoc (.lvl deep)⟩
          · rw [if_neg hb1]
            have hb0 : bnd k i = 0 := by omega
            have : (((bnd k i : Nat) : Int) != 0) = false := by rw [hb0]; rfl
            rw [this]
            exact iteF ⟨_, rfl, e, xs, rfl, s5, he5, hE5⟩
        · rintro σ H5 ⟨el, xs', rfl, s5, hel, hE5⟩
          have hB5 := s5 _ _ (s4 _ _ hB3)
          have sA := (s3.trans s4).trans s5
          refine ⟨_, rfl, .inl ⟨rfl, _, SqL.of hB5⟩, _, rfl, _, rfl, _, rfl, _, rfl, _, rfl, _, k, ps, i, rfl, ht.ext (Te.of' sA), har, fun H6 s6 => ?_⟩
          refine ⟨_, _, rfl, rfl, _, rfl, y, el, D, ps[i], xs', (if bnd k i = 1 then env ++ [.lvl deep] else env), φ, deep + bnd k i, us[i], ?_, hty.ext (Te.of' ((s4.trans s5).trans s6)), ⟨mj, hdj⟩, s6 _ _ hel, hE5.ext s6 (Nat.le_refl n), ?_, by omega, hsh, hF.re (Re.of (ExtN.of (sA.trans s6))), hφ, fun v' H7 s7 h7 => ?_⟩
          · show [y, V.ref el, V.int ((deep : Int) + ((bnd k i : Nat) : Int)), V.ref D] = [y, V.ref el, V.int ((deep + bnd k i : Nat) : Int), V.ref D]
            rw [Int.natCast_add]
          · split
            · rw [List.length_append]; show env.length + 1 + n ≤ 900; omega
            · omega
          · have hB7 := s7 _ _ (s6 _ _ hB5)
            have t8 : Te H7 (upd H7 Bl (.lst (acc ++ [v']))) := Te.lst hB7
            have tA := Te.of' (((s4.trans s5).trans s6).trans s7)
            have hal : acc.length ≤ 100 := by rw [hts.len, List.length_take]; omega
            refine ⟨Bl, acc, v', rfl, rfl, hB7, small1000 (by omega), _, _, _, acc ++ [v'], rfl, same_mut ((sA.trans s6).trans s7) hBl, t8.seq (tA.seq h3), (hws3.ext tA).ext t8, upd_same, ?_⟩
            have e1 : us.take (i + 1) = us.take i ++ [us[i]] := by rw [List.take_add_one, List.getElem?_eq_getElem hui]; rfl
            rw [e1]
            exact ((hts.ext tA).ext t8).snoc (h7.ext t8)
      · rintro σ H3 ⟨x6, x7, x8, acc, rfl, s3, h3, hws3, hB3, hts⟩
        rw [List.take_of_length_le (by rw [hul, ← hws.len]; exact Nat.le_refl _)] at hts
        refine ⟨_, rfl, _, rfl, _, Bl, acc, t, us, u, rfl, ht.ext (Te.of' s3), hB3, hts, by omega, hnr, fun v' H' s' h' => q v' H' (s3.trans s') h'⟩
/-! ### done -/
def spDone (K : PySem.W.Frag) (n : Nat) : Sp := fun vs H Q _ => ∃ (v : V) (D : Addr) (t : Tm) (wd : Nat) (φ : Fl) (m : Nat), vs = [v, .int (wd : Nat), .ref D] ∧ Tr K H v t ∧ (∃ j, dle j t) ∧ wd + n ≤ 900 ∧ n ≤ 500 ∧ wf φ m wd t ∧ cst φ m t n ∧ FlAt K H D φ ∧ (∀ k ar b, φ k = some (ar, b) → ∃ j, dle j b) ∧
  ∀ v' H', Same H H' → Tr K H' v' (fillN φ m t) → Q v' H'
theorem scDone : FnScope ["_law_term", "_law_wide", "_law_filling"] ["_law_term", "_law_wide", "_law_filling"] (defScope sDone) := ⟨rfl, rfl, rfl, by decide +kernel, rfl, by decide +kernel, by decide +kernel⟩
theorem ok_done {n : Nat} {f fs : Addr} {fd fds : FuncData} (F : Fun K "_law_done" "_law_done" sDone f fd) (ml : mg "list" = none) (mr : mg "range" = none)
    (CS : Cl P w K mg base (n + 1) "_law_show" fs fds ["_law_term", "_law_env", "_law_deep", "_law_filling"] (spShow K n)) : FnOk P w K mg base CX0 (n + 2) f fd ["_law_term", "_law_wide", "_law_filling"] (spDone K n) := by
  refine F.ok scDone (fun vs H Q E h => ?_) (fun cdv A outer s H vs Q E hr h => ?_)
  · obtain ⟨v, D, t, wd, φ, m, rfl, _⟩ := h; rfl
  obtain ⟨v, D, t, wd, φ, m, rfl, ht, hd, hl, hn, hw, hc, hF, hφ, q⟩ := h
  refine ⟨_, pss_one (ps_ret (pe_cl CS hr (pa_cons (pv 0) (pa_cons (pe_listRg rfl rfl ml (prg_1 rfl mr (pv 1))) (pa_cons (pv 1) (pa_cons (pv 2) pa_nil)))))), ?_⟩
  refine ⟨_, rfl, _, rfl, _, rfl, RgOk.of_le (Int.le_refl _) (by omega) (by omega) (by omega), fun g hg => ?_⟩
  have s1 := same_new hg (HO.lst (rgV 0 wd))
  refine ⟨_, rfl, _, rfl, v, g, D, t, rgV 0 wd, (List.range wd).map .lvl, φ, wd, fillN φ m t, rfl, ht.ext (Te.of' s1), hd, upd_same, ?_, by simp; exact hl, hn, show_top hw hc, hF.re (Re.of (ExtN.of s1)), hφ, fun v' H' s' h' => q v' H' (s1.trans s') h'⟩
  refine ers_of (by rw [rgV_length]; simp) fun j e he => ?_
  have hj : j < wd := by
    by_cases h : j < wd
    · exact h
    · rw [List.getElem?_eq_none (by simp; omega)] at he; cases he
  rw [List.getElem?_map, List.getElem?_range hj] at he
  cases he
  refine ⟨.int (j : Nat), ?_, .lvl j⟩
  unfold rgV
  rw [List.getElem?_map, List.getElem?_range (by simp; exact hj)]
  simp
end
end KP

/-! right -/
namespace KP
open PySem PyProof.Rows L2 LamX NdefX KL KM KD
abbrev sRight : Stmt := top 28
abbrev ph0 (h : Int) : Prop := 0 ≤ h ∧ h < 200
/-- all that right needs of a term -/
structure Good (φ : Fl) (wd : Nat) (t : Tm) : Prop where
  wf : wf φ 14 wd t
  cst : cst φ 14 t 98
  out : dle 19 (fillN φ 14 t)
  fd : fdl φ 19 19 14 t
  dl : dle 4 t
  al : All ph0 pa0 t
abbrev fOf (es : Ens) : Fl := fun k => es.lookup k
/-! ### what right needs -/
theorem look_mem : ∀ {es : Ens} {k : Int} {x : Nat × Tm}, es.lookup k = some x → (k, x) ∈ es
  | [], _, _, h => by cases h
  | (y, z) :: es, k, x, h => by
    rw [List.lookup_cons] at h
    by_cases q : k = y
    · subst q
      simp at h
      subst h
      exact List.mem_cons_self
    · rw [show (k == y) = false from by simpa using q] at h
      exact List.mem_cons_of_mem _ (look_mem h)
theorem look_map (n : Nat) (φ : Fl) : ∀ (es : Ens) (k : Int), (es.map fun e => (e.1, e.2.1, fillN φ n e.2.2)).lookup k = (es.lookup k).map fun x => (x.1, fillN φ n x.2)
  | [], _ => rfl
  | (y, z) :: es, k => by
    rw [List.map_cons, List.lookup_cons, List.lookup_cons, look_map n φ es k]
    by_cases q : (k == y) = true
    · simp [q]
    · have q : (k == y) = false := by simpa using q
      simp [q]
theorem setl_none {n i : Nat} {es : Ens} {h : Int} {ar : Nat} {b : Tm} {K : PySem.W.Frag} {H' : Hp} {kvs' : List (Key × V)} (hnd : (es.map (·.1)).Nodup) (he : es[i]? = some (h, ar, b)) (hE' : FlL K H' kvs' ((setl n es).take i)) : valV kvs' (.inl h) = none := by
  cases hv : valV kvs' (.inl h) with
  | none => rfl
  | some z =>
    exfalso
    have hm := valV_in hv
    rw [hE'.keys] at hm
    obtain ⟨e2, he2, e3⟩ := List.mem_map.mp hm
    obtain ⟨j, hj⟩ := List.mem_iff_getElem?.mp he2
    have hji : j < i := by
      have z := (List.getElem?_eq_some_iff.mp hj).1
      rw [List.length_take] at z
      omega
    rw [List.getElem?_take_of_lt hji] at hj
    obtain ⟨e4, he4, rfl⟩ := by
      have z := hj
      unfold setl at z
      rw [List.getElem?_map] at z
      exact Option.map_eq_some_iff.mp z
    have e5 : e4.1 = h := Sum.inl.inj e3
    have x1 : (es.map (·.1))[j]? = some h := by rw [List.getElem?_map, he4]; exact congrArg some e5
    have x2 : (es.map (·.1))[i]? = some h := by rw [List.getElem?_map, he]; rfl
    obtain ⟨l1, y1⟩ := List.getElem?_eq_some_iff.mp x1
    obtain ⟨l2, y2⟩ := List.getElem?_eq_some_iff.mp x2
    have := (List.getElem_inj hnd).mp (y1.trans y2.symm)
    omega
theorem setl_keys {n : Nat} {es : Ens} : (setl n es).map (·.1) = es.map (·.1) := by
  unfold setl
  rw [List.map_map]
  rfl
theorem fl_dp {K : PySem.W.Frag} {H : Hp} {p : Key × V} {e : Int × Nat × Tm} (h : FlE K H p e) : Dp K H p.2 (.tuple [.int (e.2.1 : Nat), enc e.2.2]) := by
  obtain ⟨_, a, vb, e2, h3, h4⟩ := h
  rw [e2]
  exact Tp.dp _ _ (.tup h3 (.cons (.int _) (.cons h4 .nil)))
theorem flL_pair {K : PySem.W.Frag} {H : Hp} {ks ls : List (Key × V)} {es : Ens} (h1 : FlL K H ks es) (h2 : FlL K H ls es) (hnd : (es.map (·.1)).Nodup) (hs : ∀ e ∈ es, SeqAt.shaped (.tuple [.int (e.2.1 : Nat), enc e.2.2]) = true) :
    ks.length = ls.length ∧ ∀ p ∈ ks, ∃ u d, valV ls p.1 = some u ∧ Dp K H p.2 d ∧ Dp K H u d ∧ SeqAt.shaped d = true := by
  refine ⟨by rw [h1.len, h2.len], fun p hp => ?_⟩
  obtain ⟨i, hi⟩ := List.mem_iff_getElem?.mp hp
  obtain ⟨e, he, h3⟩ := h1.get hi
  have hil : i < ls.length := by rw [h2.len]; exact (List.getElem?_eq_some_iff.mp he).1
  obtain ⟨e', he', h4⟩ := h2.get (i := i) (p := ls[i]) (List.getElem?_eq_getElem hil)
  rw [he] at he'
  cases he'
  refine ⟨ls[i].2, _, ?_, fl_dp h3, fl_dp h4, hs e (List.mem_of_getElem? he)⟩
  rw [h3.1, ← h4.1]
  exact val_nodup (by rw [h2.keys]; exact nodup_inl hnd) _ (List.getElem_mem hil)
theorem ite_ne {d : PyData} (h : SeqAt.shaped d = true) {A B : Prop} (b : B) : if (!PyData.eqv d d) = true then A else B := by
  rw [SeqAt.eqv_refl d (SeqAt.canLay_of_shaped h)]
  exact b
/-- there at H: nothing, or a table -/
def Nw (H : Hp) (p : Addr) : Prop := ∀ u, H p = some u → ∃ ps, u = .tbl ps
theorem Nw.of {H : Hp} {p : Addr} (h : H p = none) : Nw H p := fun u e => by rw [h] at e; cases e
theorem Nw.ne {H : Hp} {p b : Addr} {o : HO} (n : Nw H p) (h : H b = some o) (nt : ∀ ps, o ≠ .tbl ps) : b ≠ p := fun e => by
  subst e
  obtain ⟨ps, e⟩ := n o h
  exact nt ps e
section
variable {T : List (Addr × Str)}
theorem nw_gr {H H1 : Hp} {p : Addr} (g : Gr T H H1) (h : H1 p = none) : Nw H p := fun u e => by
  by_cases q : ∃ ps, u = .tbl ps
  · exact q
  · rw [g.ext p u e fun ps z => q ⟨ps, z⟩] at h
    cases h
theorem nw_lk {H H1 : Hp} {D p : Addr} {od : Obj} {kvs : List (Key × V)} (L : Lkd T H H1 D od kvs) (h : H1 p = none) : Nw H p := fun u e => by
  by_cases q : ∃ ps, u = .tbl ps
  · exact q
  · by_cases z : p = D
    · subst z; rw [L.at_] at h; cases h
    · rw [L.ext p u e z fun ps z => q ⟨ps, z⟩] at h
      cases h
theorem tab_mut {H : Hp} {p : Addr} {u o : HO} (t : Tabs T H) (h1 : H p = some u) (n1 : ∀ ps, u ≠ .tbl ps) (n2 : ∀ c q, u ≠ CodeO c q) : Tabs T (L2.upd H p o) := fun q hq => by
  obtain ⟨ps, a1, a2, a3⟩ := t q hq
  have ne : q.1 ≠ p := fun e => by rw [e, h1] at a1; exact n1 ps (Option.some.inj a1)
  refine ⟨ps, by rw [upd_ne ne]; exact a1, a2, fun pos cv hcv => ?_⟩
  obtain ⟨c, e1, e2⟩ := a3 pos cv hcv
  refine ⟨c, e1, ?_⟩
  by_cases z : c = p
  · rw [z, h1] at e2; exact (n2 _ _ (Option.some.inj e2)).elim
  · rw [upd_ne z]; exact e2
theorem gr_mutN {H H1 : Hp} {p : Addr} {u o : HO} (a : Gr T H H1) (h : Nw H p) (h1 : H1 p = some u) (n1 : ∀ ps, u ≠ .tbl ps) (n2 : ∀ c q, u ≠ CodeO c q) : Gr T H (L2.upd H1 p o) :=
  ⟨fun b ob e n => by rw [upd_ne (h.ne e n)]; exact a.ext b ob e n, fun t => tab_mut (a.tab t) h1 n1 n2⟩
theorem Lkd.mutN {H H1 : Hp} {D p : Addr} {od : Obj} {kvs : List (Key × V)} {u o : HO} (L : Lkd T H H1 D od kvs) (hp : Nw H p) (hD : p ≠ D) (h1 : H1 p = some u) (n1 : ∀ ps, u ≠ .tbl ps) (n2 : ∀ c q, u ≠ CodeO c q) : Lkd T H (L2.upd H1 p o) D od kvs :=
  ⟨by rw [upd_ne (Ne.symm hD)]; exact L.at_, fun b ob e n nt => by rw [upd_ne (hp.ne e nt)]; exact L.ext b ob e n nt, tab_mut L.tab h1 n1 n2⟩
theorem Lkd.startG {H H1 : Hp} {D : Addr} {od : Obj} {kvs : List (Key × V)} (g : Gr T H H1) (h : H D = some (.dK kvs)) (t : Tabs T H) : Lkd T H (L2.upd H1 D (.frz od (.dK kvs))) D od kvs :=
  ⟨upd_same, fun b o e n nt => by rw [upd_ne n]; exact g.ext b o e nt, (Lkd.start (g.ext _ _ h fun ps z => by cases z) (g.tab t)).tab⟩
theorem frz_code {od : Obj} {kvs : List (Key × V)} (c : Addr) (q : Str) : HO.frz od (.dK kvs) ≠ CodeO c q := fun z => by unfold CodeO at z; cases z
theorem dp_ints {K : PySem.W.Frag} {H : Hp} {p : Addr} {ns : List Int} (h : SqT K H p (ns.map V.int)) : Dp K H (.ref p) (.tuple (ns.map PyData.int)) := by
  refine .tup h ?_
  clear h
  induction ns with
  | nil => exact .nil
  | cons n ns ih => exact .cons (.int n) ih
theorem shaped_ints (ns : List Int) : SeqAt.shaped (.tuple (ns.map PyData.int)) = true := by
  have h : PyData.canLayAll0 (ns.map PyData.int) = true ∧ PyData.depthAll (ns.map PyData.int) = 0 := by
    induction ns with
    | nil => exact ⟨rfl, rfl⟩
    | cons n ns ih =>
      simp only [List.map_cons, PyData.canLayAll0, PyData.depthAll, PyData.canLay0, PyData.depth]
      exact ⟨by rw [ih.1]; rfl, by rw [ih.2]; rfl⟩
  have h2 : (PyData.tuple (ns.map PyData.int)).depth ≤ 64 := by simp only [PyData.depth]; omega
  have h1 : (PyData.tuple (ns.map PyData.int)).canLay0 = true := by simp only [PyData.canLay0]; exact h.1
  exact Bool.and_eq_true_iff.mpr ⟨h1, decide_eq_true h2⟩
end
/-- the numbers of a term below i, rising -/
def numsTo (t : Tm) (i : Nat) : List Int := ((List.range i).map fun j => ((j : Nat) : Int)).filter fun n => decide (n ∈ nums t)
theorem numsTo_succ (t : Tm) (i : Nat) : numsTo t (i + 1) = if ((i : Nat) : Int) ∈ nums t then numsTo t i ++ [((i : Nat) : Int)] else numsTo t i := by
  unfold numsTo
  rw [List.range_succ, List.map_append, List.filter_append]
  by_cases h : ((i : Nat) : Int) ∈ nums t
  · simp [h]
  · simp [h]
theorem numsTo_up (t : Tm) (i : Nat) : (numsTo t i).Pairwise (· < ·) := by
  unfold numsTo
  refine List.Pairwise.filter _ ?_
  rw [List.pairwise_map]
  exact List.pairwise_lt_range.imp fun h => by omega
theorem numsTo_mem {t : Tm} (h : All ph0 pa0 t) (x : Int) : x ∈ numsTo t 200 ↔ x ∈ nums t := by
  unfold numsTo
  rw [List.mem_filter]
  constructor
  · rintro ⟨_, z⟩
    exact of_decide_eq_true z
  · intro z
    refine ⟨List.mem_map.mpr ⟨x.toNat, List.mem_range.mpr ?_, ?_⟩, decide_eq_true z⟩
    · have := all_nums h x z
      have : 0 ≤ x ∧ x < 200 := this
      omega
    · have : 0 ≤ x ∧ x < 200 := all_nums h x z
      omega
theorem numsTo_len (t : Tm) (i : Nat) : (numsTo t i).length ≤ i := by
  unfold numsTo
  exact Nat.le_trans (List.length_filter_le _ _) (by simp)
/-- what follows for the settled filling -/
theorem told_facts {es : Ens} (hgb : ∀ e ∈ es, Good (fOf es) e.2.1 e.2.2) {wd : Nat} {t : Tm} (hg : Good (fOf es) wd t) :
    fillN (fOf (setl 14 es)) 33 t = fillN (fOf es) 14 t ∧ fdl (fOf (setl 14 es)) 19 19 33 t := by
  have z := told_main (pa := pa0) (φ := fOf es) (ψ := fOf (setl 14 es)) (n0 := 14) (D := 19) (fun h e => ?_) (fun h ar b e => ?_) hg.wf
  · exact ⟨z.1, z.2 19 (Nat.le_refl _) hg.fd⟩
  · show (setl 14 es).lookup h = none
    unfold setl
    rw [look_map]
    have e : es.lookup h = none := e
    rw [e]; rfl
  · have gb := hgb _ (look_mem e)
    refine ⟨?_, gb.wf, gb.out, ?_⟩
    · show (setl 14 es).lookup h = _
      unfold setl
      rw [look_map]
      have e : es.lookup h = some (ar, b) := e
      rw [e]; rfl
    · exact all_fill (ph := ph0) (ph' := fun h => fOf es h = none) (fun h _ z => z) (fun h ar b e => (hgb _ (look_mem e)).al) gb.wf gb.al
theorem out_all {es : Ens} (hgb : ∀ e ∈ es, Good (fOf es) e.2.1 e.2.2) {wd : Nat} {t : Tm} (hg : Good (fOf es) wd t) : All ph0 pa0 (fillN (fOf es) 14 t) :=
  all_fill (ph := ph0) (ph' := ph0) (fun h z _ => z) (fun h ar b e => (hgb _ (look_mem e)).al) hg.wf hg.al
section
variable {P : Program} {w : World} {K : PySem.W.Frag} {mg : Str → Option Value} {base : Heap} {T : List (Addr × Str)}
def spRight (K : PySem.W.Frag) (T : List (Addr × Str)) : Sp := fun vs H Q _ => ∃ (v : V) (wd : Nat) (D : Addr) (kvs : List (Key × V)) (es : Ens) (t : Tm), vs = [v, .int (wd : Nat), .ref D] ∧ Tr K H v t ∧ H D = some (.dK kvs) ∧ FlL K H kvs es ∧ (es.map (·.1)).Nodup ∧ es.length ≤ 5 ∧ Tabs T H ∧ wd ≤ 300 ∧
  Good (fOf es) wd t ∧ (∀ e ∈ es, e.2.1 ≤ 24 ∧ Good (fOf es) e.2.1 e.2.2) ∧ ∀ H', Gr T H H' → Q (.bl true) H'
abbrev nRight : List Str := ["_law_term", "_law_wide", "_law_filling", "_law_kept", "_law_due", "_law_want", "_law_number", "_law_told", "_law_one_here", "_law_found"]
theorem scRight : FnScope nRight ["_law_term", "_law_wide", "_law_filling"] (defScope sRight) := ⟨rfl, rfl, rfl, by decide +kernel, rfl, by decide +kernel, by decide +kernel⟩
theorem ok_right {f fw fd fs ff fc fn fh : Addr} {dd dw dd' ds df dc dn dh : FuncData} (F : Fun K "_law_right" "_law_right" sRight f dd) (mi : mg "isinstance" = none) (mj : mg "dict" = none) (mr : mg "range" = none) (mt : mg "tuple" = none)
    (CW : Cl P w K mg base 219 "_law_weight" fw dw ["_law_term", "_law_env", "_law_filling"] (spWeight K 15)) (CD : Cl P w K mg base 219 "_law_done" fd dd' ["_law_term", "_law_wide", "_law_filling"] (spDone K 98))
    (CS : Cl P w K mg base 219 "settled" fs ds ["filling"] (spSettled K T 19 19 14)) (CF : ∀ n, n ≤ 33 → Cl P w K mg base 219 "fill" ff df ["term", "filling"] (spFill K T 19 19 n))
    (CC : Cl P w K mg base 219 "_law_count" fc dc ["_law_term"] (spCount K 20)) (CN : Cl P w K mg base 219 "_law_numbers" fn dn ["_law_term"] (spNums K 20)) (CH : Cl P w K mg base 219 "holes_of" fh dh ["term"] (spHolesOf K)) :
    FnOk P w K mg base CX0 220 f dd ["_law_term", "_law_wide", "_law_filling"] (spRight K T) := by
  refine F.ok scRight (fun vs H Q E h => ?_) (fun cdv A outer s H vs Q E hr h => ?_)
  · obtain ⟨v, wd, D, kvs, es, t, rfl, _⟩ := h; rfl
  obtain ⟨v, wd, D, kvs, es, t, rfl, ht, hD, hE, hnd, hl5, hT, hwd, hg, hgb, q⟩ := h
  have hu := hu_of hr
  have hu64 := hr.units
  have hu65 : (A.deeper (envOfC "_law_right" (defScope sRight) s.heap.objs.size f cdv)).units + 65 < cLine := by have := hr.un; omega
  have C14 := CF 14 (by omega)
  have C33 := CF 33 (by omega)
  have C4 := CF 4 (by omega)
  refine ⟨_, Evl.pss_cut (ps_if (pt_truth (pe_lock (pe_lc (own := [("_law_number", 6)]) (g := gName 6) rfl scRight.nd (pi_keys (pv 2)) (blkOk_by (N := nRight) (sc := defScope sRight) (by decide +kernel)) (fun _ _ _ _ _ => pg_name (i := 6) scRight.nd rfl (.inl rfl))
        (fun _ _ _ _ _ => pts_one (pt_cmpR op_gt (pe_cl CW hr (pa_cons (pe_ix (r := rIxT K) ix_tup (pe_dget hu (pv 2) (pv 6) (fun _ _ => rfl)) pe_int (fun _ _ => rfl)) (pa_cons (pe_op op_rep (pe_lst (pa_cons pe_int pa_nil)) (pe_ix (r := rIxT K) ix_tup (pe_dget hu (pv 2) (pv 6) (fun _ _ => rfl)) pe_int (fun _ _ => rfl))) (pa_cons (pv 2) pa_nil)))) pe_int (nomark _)))
        (fun _ _ _ _ _ => pe_int))) (by intro _; rfl)) (pss_one (ps_ret pe_bl)) pss_nil)
    (Evl.pss_cut (ps_if (pt_cmpR op_gt (pe_cl CW hr (pa_cons (pv 0) (pa_cons (pe_op op_rep (pe_lst (pa_cons pe_int pa_nil)) (pv 1)) (pa_cons (pv 2) pa_nil)))) pe_int (nomark _)) (pss_one (ps_ret pe_bl)) pss_nil)
    (Evl.pss_cut (ps_par3 (i := 3) (j := 4) (l := 5) rfl scRight.nd rfl rfl rfl (by decide) (by decide) (by decide) rfl rfl rfl (pa_cons (pe_callTy call_dictD rfl mj (by decide +kernel) (pa_cons (pv 2) pa_nil)) (pa_cons (pe_cl CD hr (pa_cons (pv 0) (pa_cons (pv 1) (pa_cons (pv 2) pa_nil)))) (pa_cons pe_dnewK pa_nil))) (by rfl))
    (Evl.pss_cut (ps_lock (ps_for PassesOwn.never rfl (pi_keys (pv 2)) (pg_name (i := 6) scRight.nd rfl (.inl rfl))
        (pss_one (ps_dput hu (pv 5) (pv 6) (pe_tup (pa_cons (pe_ix ix_tup (pe_dget hu (pv 2) (pv 6) (fun _ _ => rfl)) pe_int (fun _ _ => rfl)) (pa_cons (pe_cl CD hr (pa_cons (pe_ix ix_tup (pe_dget hu (pv 2) (pv 6) (fun _ _ => rfl)) pe_int (fun _ _ => rfl)) (pa_cons (pe_ix ix_tup (pe_dget hu (pv 2) (pv 6) (fun _ _ => rfl)) pe_int (fun _ _ => rfl)) (pa_cons (pv 2) pa_nil)))) pa_nil))) rfl))))
    (Evl.pss_cut (ps_set (i := 7) scRight.nd rfl (.inl rfl) (pe_cl CS hr (pa_cons (pv 2) pa_nil)))
    (Evl.pss_cut (ps_if (PW.pt (pw_or (pt_cmpR (op_neD hu64) (pe_cl C14 hr (pa_cons (pv 0) (pa_cons (pv 2) pa_nil))) (pv 4) (nomark _)) (pw_or (pt_not (pt_truth (pe_callB call_isi rfl mi (by decide +kernel) (pa_cons (pv 7) (pa_cons (pe_bltn (x := "dict") (v := .ty "dict") rfl mj (by decide +kernel) rfl) pa_nil))) (by intro _; rfl)))
        (pw_or (pt_cmpR (op_neDD hu65) (pv 7) (pv 5) (nomark _)) (pw_or1 (pt_cmpR (op_neD hu64) (pe_cl C33 hr (pa_cons (pv 0) (pa_cons (pv 7) pa_nil))) (pv 4) (nomark _))))))) pss_never pss_nil)
    (Evl.pss_cut (ps_lock (ps_for PassesOwn.never rfl (pi_keys (pv 5)) (pg_name (i := 6) scRight.nd rfl (.inl rfl))
        (pss_one (ps_dput hu (pv 7) (pv 6) (pe_tup (pa_cons pe_int (pa_cons (pe_tup (pa_cons pe_str (pa_cons (pe_tup (pa_cons pe_int (pa_cons (pe_tup pa_nil) pa_nil))) pa_nil))) pa_nil))) rfl))))
    (Evl.pss_cut (ps_if (PW.pt (pw_or (pt_cmpR (op_neDD hu65) (pe_cl CS hr (pa_cons (pv 2) pa_nil)) (pv 5) (nomark _)) (pw_or (pt_cmpR (op_neDD hu65) (pv 2) (pv 3) (nomark _)) (pw_or1 (pt_cmpR (op_neD hu64) (pe_cl C4 hr (pa_cons (pv 0) (pa_cons pe_dnewK pa_nil))) (pv 0) (nomark _)))))) pss_never pss_nil)
    (Evl.pss_cut (ps_for PassesOwn.never rfl (pi_list (pe_op op_cat (pe_lst (pa_cons (pv 0) pa_nil)) (pe_ifExp (pt_cmpR op_lt (pe_cl CC hr (pa_cons (pv 4) pa_nil)) pe_int (nomark _)) (pe_lst (pa_cons (pv 4) pa_nil)) (pe_lst pa_nil)))) (pg_name (i := 8) scRight.nd rfl (.inl rfl))
        (pss_cons (ps_set (i := 9) scRight.nd rfl (.inr rfl) (pe_cl CN hr (pa_cons (pv 8) pa_nil)))
        (pss_one (ps_if (pt_cmpR (op_neD hu64) (pe_cl CH hr (pa_cons (pv 8) pa_nil)) (pe_callTy call_tuple_of rfl mt (by decide +kernel) (pa_cons (pe_lc (own := [("_law_number", 6)]) (g := gName 6) rfl scRight.nd (pi_range1 rfl mr (pa_cons pe_int pa_nil)) (blkOk_by (N := nRight) (sc := defScope sRight) (by decide +kernel)) (fun _ _ _ _ _ => pg_name (i := 6) scRight.nd rfl (.inl rfl))
          (fun _ _ _ _ _ => pts_one (pt_cmpR (r := rIn K false) op_in_seq (pv 6) (pv 9) rfl)) (fun _ _ _ _ _ => pv 6)) pa_nil)) (nomark _)) pss_never pss_nil))))
    (pss_one (ps_ret pe_bl)))))))))), ?_⟩
  have hφd : ∀ k ar b, fOf es k = some (ar, b) → ∃ j, dle j b := fun k ar b e => ⟨4, (hgb _ (look_mem e)).2.dl⟩
  have hgb2 : ∀ e ∈ es, Good (fOf es) e.2.1 e.2.2 := fun e he => (hgb e he).2
  have hval : ∀ {ky : Key} {vv : V} {i : Nat}, kvs[i]? = some (ky, vv) → valV kvs ky = some vv := fun {ky vv i} hkv => val_nodup (by rw [hE.keys]; exact nodup_inl hnd) _ (List.mem_of_getElem? hkv)
  refine ⟨fun σ H' => σ = [some v, some (.int (wd : Nat)), some (.ref D), none, none, none, none, none, none, none] ∧ Gr T H H', ?_, ?_⟩
  · refine ⟨D, .dK kvs, hD, trivial, fun od => ⟨_, rfl, D, od, rfl, .inl ⟨kvs, upd_same, fun Dl hDl => ?_⟩⟩⟩
    have nDl : Dl ≠ D := by rintro rfl; rw [upd_same] at hDl; cases hDl
    have hDl0 : H Dl = none := by rw [upd_ne nDl] at hDl; exact hDl
    refine lc_it walk_keys (fun i H' => Lkd T H H' D od kvs ∧ ∃ acc, H' Dl = some (.lst acc) ∧ acc.length ≤ i) ?_ ?_ ?_ ?_
    · exact ⟨(Lkd.start hD hT).gr (Gr.new hDl), [], upd_same, Nat.le_refl _⟩
    · rintro i H' _ ⟨L, _⟩
      exact L.at_
    · rintro i x H2 H3 hi ⟨L, acc, hacc, hal⟩ ⟨rfl, ky, vv, hkv, rfl⟩
      obtain ⟨e, he, hfe⟩ := hE.get hkv
      obtain ⟨h, ar, b⟩ := e
      obtain ⟨e1, a, vb, e2, e3, e4⟩ := hfe
      have e1 : ky = .inl h := e1
      have e2 : vv = .ref a := e2
      subst e1 e2
      have hv := hval hkv
      obtain ⟨har, hb⟩ := hgb _ (List.mem_of_getElem? he)
      have har : ar ≤ 24 := har
      refine ⟨rfl, _, rfl, _, rfl, D, _, rfl, .inl ⟨kvs, .inl h, .inr ⟨od, L.at_⟩, rfl, hv.symm⟩, a, _, 1, _, rfl, rfl, (L.re hD).te.seq e3, at1, le_line (by simp), fun g hg => ?_⟩
      have L1 := L.gr (Gr.new (T := T) (o := HO.lst [V.int 1]) hg)
      refine ⟨_, rfl, _, rfl, D, _, rfl, .inl ⟨kvs, .inl h, .inr ⟨od, L1.at_⟩, rfl, hv.symm⟩, a, _, 0, _, rfl, rfl, (L1.re hD).te.seq e3, at0, g, _, _, rfl, rfl, upd_same, by omega, by omega, le_line (by simp; omega), fun g2 hg2 => ?_⟩
      have L2 := L1.gr (Gr.new (T := T) (o := HO.lst ((List.replicate ((ar : Nat) : Int).toNat [V.int 1]).flatten)) hg2)
      refine ⟨_, rfl, vb, g2, D, b, List.replicate ar 1, fOf es, 14, rfl, by omega, e4.ext (L2.re hD).te, by rw [List.length_replicate]; exact hb.wf, ⟨4, hb.dl⟩, ⟨kvs, .inr ⟨od, L2.at_⟩, hE.flK.te (L2.re hD).te⟩, hφd, by rw [upd_same, repl1], by rw [List.length_replicate]; omega, by omega, fun z H5 s5 => ?_⟩
      have L5 := L2.gr (Gr.of (T := T) s5)
      have hacc5 : H5 Dl = some (.lst acc) := s5 _ _ ((same_new hg2 _) _ _ ((same_new hg _) _ _ hacc))
      have hil : i < 5 := by have := hE.len; omega
      refine ⟨_, _, rfl, rfl, _, rfl, ite2 (fun _ => ?_) (fun _ => ⟨L5, acc, hacc5, by omega⟩)⟩
      exact ⟨acc, hacc5, small1000 (by omega), L5.mut hDl0 nDl hacc5 (fun ps z => by cases z) lst_code, _, upd_same, by simp; omega⟩
    · rintro H3 ⟨L, acc, hacc, hal⟩
      have g := L.unlock hD
      refine ⟨L.at_, _, .inl ⟨acc, SqL.of (by rw [upd_ne nDl]; exact hacc), rfl⟩, ?_⟩
      exact ite2 (fun _ => q _ g) (fun _ => ⟨rfl, g⟩)
  rintro σ H1 ⟨rfl, g1⟩
  have dk : ∀ {H' : Hp}, Gr T H H' → H' D = some (.dK kvs) := fun g => g.ext _ _ hD (fun ps z => by cases z)
  have flAt : ∀ {H' : Hp}, Gr T H H' → FlAt K H' D (fOf es) := fun g => ⟨kvs, .inl (dk g), hE.flK.te g.te⟩
  refine ⟨fun σ H' => σ = [some v, some (.int (wd : Nat)), some (.ref D), none, none, none, none, none, none, none] ∧ Gr T H H', ?_, ?_⟩
  · refine ⟨_, rfl, le_line (by simp), fun g hgn => ⟨_, rfl, g, _, _, rfl, rfl, upd_same, by omega, by omega, le_line (by simp; omega), fun g2 hg2 => ?_⟩⟩
    have gg : Gr T H _ := (g1.trans (Gr.new (o := HO.lst [V.int 1]) hgn)).trans (Gr.new (o := HO.lst ((List.replicate ((wd : Nat) : Int).toNat [V.int 1]).flatten)) hg2)
    refine ⟨_, rfl, v, g2, D, t, List.replicate wd 1, fOf es, 14, rfl, by omega, ht.ext gg.te, by rw [List.length_replicate]; exact hg.wf, ⟨4, hg.dl⟩, flAt gg, hφd, by rw [upd_same, repl1], by rw [List.length_replicate]; omega, by omega, fun z H5 s5 => ?_⟩
    have g5 := gg.trans (Gr.of (T := T) s5)
    exact ⟨_, _, rfl, rfl, _, rfl, ite2 (fun _ => q _ g5) (fun _ => ⟨rfl, g5⟩)⟩
  rintro σ H2 ⟨rfl, g2⟩
  refine ⟨fun σ H' => ∃ kp vd wn, σ = [some v, some (.int (wd : Nat)), some (.ref D), some (.ref kp), some vd, some (.ref wn), none, none, none, none] ∧ Gr T H H' ∧ Nw H kp ∧ H' kp = some (.dK kvs) ∧ Tr K H' vd (fillN (fOf es) 14 t) ∧ Nw H wn ∧ H' wn = some (.dK []) ∧ kp ≠ wn, ?_, ?_⟩
  · refine ⟨_, rfl, D, kvs, rfl, .inl (dk g2), fun kp hkp => ?_⟩
    have g3 := g2.trans (Gr.new (T := T) (o := HO.dK kvs) hkp)
    refine ⟨_, rfl, _, rfl, _, rfl, v, D, t, wd, fOf es, 14, rfl, ht.ext g3.te, ⟨4, hg.dl⟩, by omega, by omega, hg.wf, hg.cst, flAt g3, hφd, fun vd H4 s4 h4 => fun wn hwn => ?_⟩
    have g4 := g3.trans (Gr.of (T := T) s4)
    have s5 := same_new hwn (HO.dK [])
    have hk4 := s4 _ _ (show upd H2 kp (.dK kvs) kp = some (.dK kvs) from upd_same)
    exact ⟨_, _, _, rfl, kp, vd, wn, rfl, g4.trans (Gr.of s5), nw_gr g2 hkp, s5 _ _ hk4, h4.ext (Te.of' s5), nw_gr g4 hwn, upd_same, fun e => by subst e; rw [hk4] at hwn; cases hwn⟩
  rintro σ H3 ⟨kp, vd, wn, rfl, g3, nk, hkp, hvd, nw, hwn, kw⟩
  refine ⟨fun σ H' => ∃ x6 kw', σ = [some v, some (.int (wd : Nat)), some (.ref D), some (.ref kp), some vd, some (.ref wn), x6, none, none, none] ∧ Gr T H H' ∧ H' kp = some (.dK kvs) ∧ Tr K H' vd (fillN (fOf es) 14 t) ∧ H' wn = some (.dK kw') ∧ FlL K H' kw' (setl 14 es), ?_, ?_⟩
  · have nkD : D ≠ kp := nk.ne hD fun ps z => by cases z
    have nwD : D ≠ wn := nw.ne hD fun ps z => by cases z
    refine ⟨D, .dK kvs, dk g3, trivial, fun od => ⟨_, rfl, D, od, rfl, .inl ⟨kvs, upd_same, ?_⟩⟩⟩
    have te0 : Te H3 (upd H3 D (.frz od (.dK kvs))) := Te.dK (dk g3)
    refine for_it walk_keys (fun i σ H' => Lkd T H H' D od kvs ∧ ∃ x6 kw', σ = [some v, some (.int (wd : Nat)), some (.ref D), some (.ref kp), some vd, some (.ref wn), x6, none, none, none] ∧ H' kp = some (.dK kvs) ∧ Tr K H' vd (fillN (fOf es) 14 t) ∧ H' wn = some (.dK kw') ∧ FlL K H' kw' ((setl 14 es).take i)) ?_ ?_ ?_ ?_
    · exact ⟨Lkd.startG g3 hD hT, _, [], rfl, by rw [upd_ne (Ne.symm nkD)]; exact hkp, hvd.ext te0, by rw [upd_ne (Ne.symm nwD)]; exact hwn, .nil⟩
    · rintro i σ H' _ ⟨L, _⟩
      exact L.at_
    · rintro i x σ H4 H4' hi ⟨L, x6, kw', rfl, hkp4, hvd4, hwn4, hfl4⟩ ⟨rfl, ky, vv, hkv, rfl⟩
      obtain ⟨e, he, hfe⟩ := hE.get hkv
      obtain ⟨h, ar, b⟩ := e
      obtain ⟨e1, a, vb, e2, e3, e4⟩ := hfe
      have e1 : ky = .inl h := e1
      have e2 : vv = .ref a := e2
      subst e1 e2
      have hv := hval hkv
      obtain ⟨har, hb⟩ := hgb _ (List.mem_of_getElem? he)
      have har : ar ≤ 24 := har
      have dg := show DGet _ D (.int h) (some (.ref a)) from .inl ⟨kvs, .inl h, .inr ⟨od, L.at_⟩, rfl, hv.symm⟩
      have sq := (L.re hD).te.seq e3
      refine ⟨_, rfl, _, rfl, D, _, rfl, dg, a, _, 0, _, rfl, rfl, sq, at0, _, rfl, _, rfl, D, _, rfl, dg, a, _, 1, _, rfl, rfl, sq, at1, _, rfl, _, rfl, D, _, rfl, dg, a, _, 0, _, rfl, rfl, sq, at0, _, rfl, ?_⟩
      refine ⟨vb, D, b, ar, fOf es, 14, rfl, e4.ext (L.re hD).te, ⟨4, hb.dl⟩, by omega, by omega, hb.wf, hb.cst, ⟨kvs, .inr ⟨od, L.at_⟩, hE.flK.te (L.re hD).te⟩, hφd, fun u H5 s5 h5 => ?_⟩
      refine ⟨le_line (by simp), fun pp hpp => ?_⟩
      have s6 := s5.trans (same_new hpp (HO.tup [V.int ((ar : Nat) : Int), u]))
      have hwn6 := s6 _ _ hwn4
      have hlen' : kw'.length ≤ 100 := by
        rw [hfl4.len, List.length_take]
        have : (setl 14 es).length = es.length := by simp [setl]
        omega
      refine ⟨_, rfl, _, rfl, wn, _, rfl, DPut.k (k := Sum.inl h) hwn6 (small1000 (by omega)), ?_⟩
      rw [putK_new _ (setl_none hnd he hfl4)]
      have t7 : Te _ (upd _ wn (.dK (kw' ++ [(Sum.inl h, V.ref pp)]))) := Te.dK hwn6
      refine ⟨(L.gr (Gr.of (T := T) s6)).mutN nw (Ne.symm nwD) hwn6 (fun ps z => by cases z) dK_code, _, _, rfl, by rw [upd_ne kw]; exact s6 _ _ hkp4, hvd4.ext ((Te.of' s6).trans t7), upd_same, ?_⟩
      have e6 : (setl 14 es).take (i + 1) = (setl 14 es).take i ++ [(h, ar, fillN (fun k => es.lookup k) 14 b)] := by
        rw [List.take_add_one]
        unfold setl
        rw [List.getElem?_map, he] <;> rfl
      rw [e6]
      exact (hfl4.te ((Te.of' s6).trans t7)).snoc ⟨rfl, pp, u, rfl, t7.seq (SqT.of upd_same), h5.ext ((Te.of' (same_new hpp _)).trans t7)⟩
    · rintro σ H4 ⟨L, x6, kw', rfl, hkp4, hvd4, hwn4, hfl4⟩
      have t5 : Te H4 (upd H4 D (.dK kvs)) := te_unlock L.at_
      rw [List.take_of_length_le (by have := hE.len; simp [setl]; omega)] at hfl4
      exact ⟨L.at_, x6, kw', rfl, L.unlock hD, by rw [upd_ne (Ne.symm nkD)]; exact hkp4, hvd4.ext t5, by rw [upd_ne (Ne.symm nwD)]; exact hwn4, hfl4.te t5⟩
  rintro σ H4 ⟨x6, kw', rfl, g4, hkp4, hvd4, hwn4, hfl4⟩
  have hsl : ∀ e ∈ setl 14 es, SeqAt.shaped (.tuple [.int (e.2.1 : Nat), enc e.2.2]) = true := fun e he => by
    obtain ⟨e0, he0, rfl⟩ := List.mem_map.mp he
    exact ent_shaped pa0_ok (out_all hgb2 (hgb2 e0 he0)) (hgb2 e0 he0).out (by omega)
  have hse : ∀ e ∈ es, SeqAt.shaped (.tuple [.int (e.2.1 : Nat), enc e.2.2]) = true := fun e he => ent_shaped pa0_ok (hgb2 e he).al (hgb2 e he).dl (by omega)
  have hst : SeqAt.shaped (enc t) = true := enc_shaped pa0_ok hg.al hg.dl (by omega)
  have hal := out_all hgb2 hg
  have hsd : SeqAt.shaped (enc (fillN (fOf es) 14 t)) = true := enc_shaped pa0_ok hal hg.out (by omega)
  have hnds : ((setl 14 es).map (·.1)).Nodup := by rw [setl_keys]; exact hnd
  have hesl : (setl 14 es).length ≤ 5 := by simp [setl]; exact hl5
  refine ⟨fun σ H' => ∃ tl ktl, σ = [some v, some (.int (wd : Nat)), some (.ref D), some (.ref kp), some vd, some (.ref wn), x6, some (.ref tl), none, none] ∧ Gr T H H' ∧ H' kp = some (.dK kvs) ∧ Tr K H' vd (fillN (fOf es) 14 t) ∧ H' wn = some (.dK kw') ∧ FlL K H' kw' (setl 14 es) ∧ Nw H tl ∧ H' tl = some (.dK ktl) ∧ FlL K H' ktl (setl 14 es) ∧ tl ≠ kp ∧ tl ≠ wn, ?_, ?_⟩
  · refine ⟨_, rfl, D, kvs, es, rfl, dk g4, hE.te g4.te, hnd, by omega, fun e he => (hgb2 e he).fd, g4.tab hT, fun tl H5 ktl g5 ntl htl hft => ?_⟩
    exact ⟨tl, ktl, rfl, g4.trans g5, g5.ext _ _ hkp4 (fun ps z => by cases z), hvd4.ext g5.te, g5.ext _ _ hwn4 (fun ps z => by cases z), hfl4.te g5.te, nw_gr g4 ntl, htl, hft,
      (fun e => by subst e; rw [hkp4] at ntl; cases ntl), (fun e => by subst e; rw [hwn4] at ntl; cases ntl)⟩
  rintro σ H5 ⟨tl, ktl, rfl, g5, hkp5, hvd5, hwn5, hfl5, nt, htl5, hft5, ntk, ntw⟩
  refine ⟨fun σ H' => σ = [some v, some (.int (wd : Nat)), some (.ref D), some (.ref kp), some vd, some (.ref wn), x6, some (.ref tl), none, none] ∧ Gr T H H' ∧ H' kp = some (.dK kvs) ∧ Tr K H' vd (fillN (fOf es) 14 t) ∧ H' wn = some (.dK kw') ∧ FlL K H' kw' (setl 14 es) ∧ H' tl = some (.dK ktl), ?_, ?_⟩
  · refine ⟨_, rfl, _, rfl, v, D, t, fOf es, rfl, ht.ext g5.te, hg.fd, flAt g5, g5.tab hT, fun v6 H6 g6 h6 => ?_⟩
    refine ⟨_, rfl, _, _, Tp.dp _ _ h6, Tp.dp _ _ (hvd5.ext g6.te), hsd, hsd, _, rfl, ite_ne hsd ?_⟩
    have htl6 := g6.ext _ _ htl5 (fun ps z => by cases z)
    have hwn6 := g6.ext _ _ hwn5 (fun ps z => by cases z)
    refine ⟨_, rfl, _, _, _, _, true, rfl, .ty _, .base (.dK htl6), rfl, _, rfl, ?_⟩
    refine iteF ?_
    obtain ⟨p1, p2⟩ := flL_pair (hft5.te g6.te) (hfl5.te g6.te) hnds hsl
    refine ⟨_, rfl, _, rfl, tl, wn, ktl, kw', rfl, rfl, htl6, hwn6, p1, p2, _, rfl, iteF ?_⟩
    obtain ⟨t1, t2⟩ := told_facts hgb2 hg
    refine ⟨_, rfl, _, rfl, v, tl, t, fOf (setl 14 es), rfl, ht.ext (g5.trans g6).te, t2, ⟨ktl, .inl htl6, (hft5.te g6.te).flK⟩, (g5.trans g6).tab hT, fun v7 H7 g7 h7 => ?_⟩
    rw [t1] at h7
    refine ⟨_, rfl, _, _, Tp.dp _ _ h7, Tp.dp _ _ (hvd5.ext (g6.trans g7).te), hsd, hsd, _, rfl, ite_ne hsd ?_⟩
    have g67 := g6.trans g7
    exact ⟨rfl, g5.trans g67, g67.ext _ _ hkp5 (fun ps z => by cases z), hvd5.ext g67.te, g67.ext _ _ hwn5 (fun ps z => by cases z), hfl5.te g67.te, g67.ext _ _ htl5 (fun ps z => by cases z)⟩
  rintro σ H6 ⟨rfl, g6, hkp6, hvd6, hwn6, hfl6, htl6⟩
  refine ⟨fun σ H' => ∃ x6, σ = [some v, some (.int (wd : Nat)), some (.ref D), some (.ref kp), some vd, some (.ref wn), x6, some (.ref tl), none, none] ∧ Gr T H H' ∧ H' kp = some (.dK kvs) ∧ Tr K H' vd (fillN (fOf es) 14 t) ∧ H' wn = some (.dK kw') ∧ FlL K H' kw' (setl 14 es), ?_, ?_⟩
  · refine ⟨wn, .dK kw', hwn6, trivial, fun od => ⟨_, rfl, wn, od, rfl, .inl ⟨kw', upd_same, ?_⟩⟩⟩
    have te0 : Te H6 (upd H6 wn (.frz od (.dK kw'))) := Te.dK hwn6
    refine for_it walk_keys (fun i σ H' => Gr T H H' ∧ ∃ x6, σ = [some v, some (.int (wd : Nat)), some (.ref D), some (.ref kp), some vd, some (.ref wn), x6, some (.ref tl), none, none] ∧ H' kp = some (.dK kvs) ∧ Tr K H' vd (fillN (fOf es) 14 t) ∧ H' wn = some (.frz od (.dK kw')) ∧ FlL K H' kw' (setl 14 es) ∧ ∃ kt, H' tl = some (.dK kt) ∧ kt.length ≤ 5 + i) ?_ ?_ ?_ ?_
    · exact ⟨gr_mutN g6 nw hwn6 (fun ps z => by cases z) dK_code, _, rfl, by rw [upd_ne kw]; exact hkp6, hvd6.ext te0, upd_same, hfl6.te te0, ktl, by rw [upd_ne ntw]; exact htl6, by rw [hft5.len]; omega⟩
    · rintro i σ H' _ ⟨_, _, _, _, _, h, _⟩
      exact h
    · rintro i x σ H7 H7' hi ⟨g7, x6, rfl, hkp7, hvd7, hwn7, hfl7, kt, htl7, hkt⟩ ⟨rfl, ky, vv, hkv, rfl⟩
      have hil : i < 5 := by have := hfl7.len; omega
      obtain ⟨e, he, hfe⟩ := hfl7.get hkv
      have e1 : ky = .inl e.1 := hfe.1
      subst e1
      refine ⟨le_line (by simp), fun p1 h1 => ⟨le_line (by simp), fun p2 h2 => ⟨le_line (by simp), fun p3 h3 => ⟨le_line (by simp), fun p4 h4 => ?_⟩⟩⟩⟩
      have s1 := same_new h1 (HO.tup [])
      have s2 := s1.trans (same_new h2 (HO.tup [V.int 7, V.ref p1]))
      have s3 := s2.trans (same_new h3 (HO.tup [V.str "univ", V.ref p2]))
      have s4 := s3.trans (same_new h4 (HO.tup [V.int 0, V.ref p3]))
      have htl8 := s4 _ _ htl7
      refine ⟨_, rfl, _, rfl, tl, _, rfl, DPut.k (k := Sum.inl e.1) htl8 (small1000 (by omega)), ?_⟩
      have t9 : Te _ (upd _ tl (.dK (putK kt (.inl e.1) (.ref p4)))) := Te.dK htl8
      have ta := (Te.of' s4).trans t9
      refine ⟨gr_mutN (g7.trans (Gr.of (T := T) s4)) nt htl8 (fun ps z => by cases z) dK_code, _, rfl, by rw [upd_ne (Ne.symm ntk)]; exact s4 _ _ hkp7, hvd7.ext ta, by rw [upd_ne (Ne.symm ntw)]; exact s4 _ _ hwn7, hfl7.te ta, _, upd_same, ?_⟩
      have : (putK kt (.inl e.1) (.ref p4)).length ≤ kt.length + 1 := by
        unfold putK
        split
        · simp
        · simp
      omega
    · rintro σ H7 ⟨g7, x6, rfl, hkp7, hvd7, hwn7, hfl7, kt, htl7, hkt⟩
      have t8 : Te H7 (upd H7 wn (.dK kw')) := te_unlock hwn7
      exact ⟨hwn7, x6, rfl, gr_mutN g7 nw hwn7 (fun ps z => by cases z) frz_code, by rw [upd_ne kw]; exact hkp7, hvd7.ext t8, upd_same, hfl7.te t8⟩
  rintro σ H7 ⟨x6, rfl, g7, hkp7, hvd7, hwn7, hfl7⟩
  refine ⟨fun σ H' => σ = [some v, some (.int (wd : Nat)), some (.ref D), some (.ref kp), some vd, some (.ref wn), x6, some (.ref tl), none, none] ∧ Gr T H H' ∧ Tr K H' vd (fillN (fOf es) 14 t), ?_, ?_⟩
  · refine ⟨_, rfl, D, kvs, es, rfl, dk g7, hE.te g7.te, hnd, by omega, fun e he => (hgb2 e he).fd, g7.tab hT, fun p8 H8 k8 g8 _ hp8 hf8 => ?_⟩
    have hwn8 := g8.ext _ _ hwn7 (fun ps z => by cases z)
    obtain ⟨p1, p2⟩ := flL_pair hf8 (hfl7.te g8.te) hnds hsl
    refine ⟨_, rfl, p8, wn, k8, kw', rfl, rfl, hp8, hwn8, p1, p2, _, rfl, iteF ?_⟩
    have g78 := g7.trans g8
    obtain ⟨r1, r2⟩ := flL_pair (hE.te g78.te) (hE.te g78.te) hnd hse
    refine ⟨_, rfl, _, rfl, D, kp, kvs, kvs, rfl, rfl, dk g78, g8.ext _ _ hkp7 (fun ps z => by cases z), r1, r2, _, rfl, iteF ?_⟩
    refine ⟨_, rfl, fun p9 hp9 => ?_⟩
    have g9 := g78.trans (Gr.new (T := T) (o := HO.dK []) hp9)
    have nul : ∀ h, fOf ([] : Ens) h = none := fun h => rfl
    have aln : All (fun h => fOf ([] : Ens) h = none) pa0 t := all_mono (fun h _ => nul h) hg.al
    refine ⟨v, p9, t, fOf [], rfl, ht.ext g9.te, none_fdl aln hg.dl, ⟨[], .inl upd_same, FlL.nil.flK⟩, g9.tab hT, fun v10 H10 g10 h10 => ?_⟩
    rw [none_fill aln hg.dl] at h10
    refine ⟨_, rfl, _, _, Tp.dp _ _ h10, Tp.dp _ _ (ht.ext (g9.trans g10).te), hst, hst, _, rfl, ite_ne hst ?_⟩
    exact ⟨rfl, g9.trans g10, hvd7.ext ((g8.trans (Gr.new hp9)).trans g10).te⟩
  rintro σ H8 ⟨rfl, g8, hvd8⟩
  refine ⟨fun σ H' => Gr T H H', ?_, fun σ H' g => q H' g⟩
  refine ⟨_, rfl, le_line (by simp), fun g1 hg1 => ?_⟩
  have s1 := same_new hg1 (HO.lst [v])
  refine ⟨_, rfl, vd, fillN (fOf es) 14 t, 19, rfl, by omega, hvd8.ext (Te.of' s1), hg.out, fun H9 s9 => ?_⟩
  refine ⟨_, _, rfl, rfl, _, rfl, ?_⟩
  have hv9 : Tr K H9 vd (fillN (fOf es) 14 t) := hvd8.ext (Te.of' (s1.trans s9))
  refine (fun (hh : ∀ (g2 : Addr) (H10 : Hp) (zs : List V), Same H9 H10 → H10 g2 = some (.lst zs) → zs.length ≤ 5 → (∀ x ∈ zs, ∃ tm m, Tr K H10 x tm ∧ m < 20 ∧ dle m tm ∧ sz tm ≤ 1000000 ∧ All ph0 pa0 tm) → rCat (.ref g1) (.ref g2) H10 _) =>
    ite2 (fun lt => ⟨_, rfl, le_line (by simp), fun g2 hg2 => hh g2 _ [vd] (same_new hg2 _) upd_same (by simp) (fun x hx => by
      rw [List.mem_singleton.mp hx]
      have lt := of_decide_eq_true lt
      exact ⟨_, 19, hv9.ext (Te.of' (same_new hg2 _)), by omega, hg.out, by omega, hal⟩)⟩) (fun _ => ⟨le_line (by simp), fun g2 hg2 => hh g2 _ [] (same_new hg2 _) upd_same (by simp) (fun x hx => by cases hx)⟩)) ?_
  intro g2 H10 zs s10 h10 hzl hz
  refine ⟨g1, g2, [v], zs, rfl, rfl, s10 _ _ (s9 _ _ upd_same), h10, le_line (by simp; omega), fun g3 hg3 => ⟨g3, rfl, ⟨_, SqL.of upd_same⟩, ?_⟩⟩
  have s11 := same_new hg3 (HO.lst ([v] ++ zs))
  have gA := g8.trans (Gr.of (T := T) (((s1.trans s9).trans s10).trans s11))
  refine for_it (walk_list (xs := [v] ++ zs)) (fun i σ H' => Gr T H H' ∧ ∃ x6 x8 x9, σ = [some v, some (.int (wd : Nat)), some (.ref D), some (.ref kp), some vd, some (.ref wn), x6, some (.ref tl), x8, x9] ∧ H' g3 = some (.lst ([v] ++ zs)) ∧ ∀ x ∈ [v] ++ zs, ∃ tm m, Tr K H' x tm ∧ m < 20 ∧ dle m tm ∧ sz tm ≤ 1000000 ∧ All ph0 pa0 tm) ?_ ?_ ?_ ?_
  · refine ⟨gA, _, _, _, rfl, upd_same, fun x hx => ?_⟩
    rcases List.mem_append.mp hx with hx | hx
    · rw [List.mem_singleton.mp hx]
      exact ⟨t, 4, ht.ext gA.te, by omega, hg.dl, Nat.le_trans (sz_le hg.dl) (by decide), hg.al⟩
    · obtain ⟨tm, m, z1, z2⟩ := hz x hx
      exact ⟨tm, m, z1.ext (Te.of' s11), z2⟩
  · rintro i σ H' _ ⟨_, _, _, _, _, h, _⟩
    exact SqL.of h
  · rintro i x σ H11 H12 hi ⟨g11, x6, x8, x9, rfl, h11, hz11⟩ ⟨rfl, hx⟩
    obtain ⟨tm, m, htm, hm, hdm, hsz, hatm⟩ := hz11 x (List.mem_of_getElem? hx)
    refine ⟨_, rfl, x, tm, m, rfl, by omega, htm, hdm, hsz, fun fl H13 s13 h13 => ?_⟩
    refine ⟨_, rfl, x, tm, m, rfl, htm.ext (Te.of' s13), hdm, hsz, fun p H14 ns s14 hp hpw hmem => ?_⟩
    refine ⟨200, rfl, by omega, by omega, fun Dl hDl => ?_⟩
    refine lc_it walk_range (fun i H' => Same H14 H' ∧ H' Dl = some (.lst ((numsTo tm i).map V.int))) ?_ ?_ ?_ ?_
    · exact ⟨same_new hDl _, upd_same⟩
    · intro _ _ _ _; trivial
    · rintro j y H15 H16 hj ⟨s15, h15⟩ ⟨rfl, rfl⟩
      have hfl := s15 _ _ (s14 _ _ h13)
      refine ⟨rfl, _, rfl, _, rfl, fl, _, rfl, .inl (SqL.of hfl), rfl, flat_int _, _, rfl, ?_⟩
      have hj : j < 200 := hj
      refine ite2 (fun e => ?_) (fun e => ?_)
      · have e : inV (.int ((0 : Int) + ((j : Nat) : Int))) ((nums tm).map V.int) = true := e
        rw [inV_int, Int.zero_add] at e
        have e := of_decide_eq_true e
        have hl := numsTo_len tm j
        refine ⟨_, rfl, _, h15, small1000 (by rw [List.length_map]; omega), same_mut s15 hDl, ?_⟩
        rw [upd_same, numsTo_succ, if_pos e, List.map_append]
        show some (HO.lst (_ ++ [V.int ((0 : Int) + ((j : Nat) : Int))])) = some (HO.lst (_ ++ [V.int ((j : Nat) : Int)]))
        rw [Int.zero_add]
      · have e : ¬ inV (.int ((0 : Int) + ((j : Nat) : Int))) ((nums tm).map V.int) = true := e
        rw [inV_int, Int.zero_add] at e
        have e := fun z => e (decide_eq_true z)
        refine ⟨s15, ?_⟩
        rw [numsTo_succ, if_neg e]
        exact h15
    · rintro H15 ⟨s15, h15⟩
      refine ⟨Dl, _, rfl, .inl ⟨SqL.of h15, fun tp htp => ?_⟩⟩
      have s16 := s15.trans (same_new htp (HO.tup ((numsTo tm 200).map V.int)))
      have ens : ns = numsTo tm 200 := rising_ext hpw (numsTo_up tm 200) fun x => by rw [hmem, numsTo_mem hatm]
      refine ⟨_, _, dp_ints (sqT_same s16 hp), ?_, shaped_ints ns, shaped_ints ns, _, rfl, ite_ne (shaped_ints ns) ?_⟩
      · rw [ens]; exact dp_ints (SqT.of upd_same)
      · have sA := (s13.trans s14).trans s16
        exact ⟨g11.trans (Gr.of sA), _, _, _, rfl, sA _ _ h11, fun x hx => by
          obtain ⟨tm, m, z1, z2⟩ := hz11 x hx
          exact ⟨tm, m, z1.ext (Te.of' sA), z2⟩⟩
  · rintro σ H11 ⟨g11, _⟩
    exact g11
end
end KP

/-! law -/
namespace KP
open PySem PyProof.Rows L2 LamX NdefX KL KM KD
abbrev sLaw : Stmt := top 29
/-! ### what law keeps -/
theorem FnOk.ex {P : Program} {w : World} {K : PySem.W.Frag} {mg : Str → Option Value} {base : Heap} {k m : Nat} {x : Str} {f : Addr} {fd : FuncData} {ps : List Str} {sp : Nat → Sp} (C : ∀ n, n ≤ m → Cl P w K mg base k x f fd ps (sp n)) : Cl P w K mg base k x f fd ps (fun vs H Q E => ∃ n, n ≤ m ∧ sp n vs H Q E) := by
  have C0 := C 0 (Nat.zero_le _)
  refine ⟨⟨fun vs H Q E h => ?_, fun A outer s H args us vs Q E a b c d h => ?_⟩, C0.mg, C0.kp, C0.b⟩
  · obtain ⟨n, hn, h⟩ := h
    exact (C n hn).ok.len vs H Q E h
  · obtain ⟨n, hn, h⟩ := h
    exact (C n hn).ok.run A outer s H args us vs Q E a b c d h
theorem atI_last {xs : List V} {v : V} (h : xs[xs.length - 1]? = some v) : atI xs (-1) = some v := by
  have hl := (List.getElem?_eq_some_iff.mp h).1
  unfold atI ixN
  rw [if_neg (by omega), if_pos (by omega)]
  have : ((-1 : Int) + (xs.length : Int)).toNat = xs.length - 1 := by omega
  simp only [Option.bind_some]
  first | rw [this]; exact h | (rw [show (((xs.length : Nat) : Int) + -1).toNat = xs.length - 1 by omega]; exact h)
theorem tabs_kp {T : List (Addr × Str)} {H H' : Hp} {p : Addr} {xs : List V} (t : Tabs T H) (h : H p = some (.lst xs)) (k : Kp p H H') : Tabs T H' := fun q hq => by
  obtain ⟨ps, a1, a2, a3⟩ := t q hq
  refine ⟨ps, k _ _ a1 (fun e => by rw [e, h] at a1; cases a1), a2, fun pos cv hcv => ?_⟩
  obtain ⟨c, e1, e2⟩ := a3 pos cv hcv
  exact ⟨c, e1, k _ _ e2 (fun e => by rw [e, h] at e2; exact lst_code _ _ (Option.some.inj e2))⟩
structure HsOk (hs : List (Int × Nat)) : Prop where
  nd : (hs.map (·.1)).Nodup
  ok : ∀ x ∈ hs, (0 ≤ x.1 ∧ x.1 < 200) ∧ x.2 ≤ 24
structure EsOk (hs : List (Int × Nat)) (es : Ens) : Prop where
  nd : (es.map (·.1)).Nodup
  at_ : ∀ e ∈ es, ∃ i, hs[i]? = some (e.1, e.2.1) ∧ Gn pa0 (hs.drop (i + 1)) (if hs.drop (i + 1) = [] then 1 else 2) e.2.1 e.2.2
theorem EsOk.nil {hs : List (Int × Nat)} : EsOk hs [] := ⟨List.nodup_nil, fun e h => by cases h⟩
theorem cp_of {hs : List (Int × Nat)} {es : Ens} (h : HsOk hs) (e : EsOk hs es) : Cp pa0 hs (fOf es) := by
  intro pre n ar rest ar' b h1 h2
  obtain ⟨i, hi, hg⟩ := e.at_ _ (look_mem h2)
  have hp : hs[pre.length]? = some (n, ar) := by rw [h1]; simp
  have hip : i = pre.length := by
    have x1 : (hs.map (·.1))[i]? = some n := by rw [List.getElem?_map, hi]; rfl
    have x2 : (hs.map (·.1))[pre.length]? = some n := by rw [List.getElem?_map, hp]; rfl
    obtain ⟨l1, y1⟩ := List.getElem?_eq_some_iff.mp x1
    obtain ⟨l2, y2⟩ := List.getElem?_eq_some_iff.mp x2
    exact (List.getElem_inj h.nd).mp (y1.trans y2.symm)
  subst hip
  rw [hp] at hi
  have e2 : ar = ar' := (Prod.mk.inj (Option.some.inj hi)).2
  subst e2
  have hr : hs.drop (pre.length + 1) = rest := by rw [h1]; simp
  rw [hr] at hg
  exact ⟨rfl, hg⟩
theorem good_of {hs : List (Int × Nat)} {es : Ens} (h : HsOk hs) (hl : hs.length ≤ 5) (c : Cp pa0 hs (fOf es)) {wd : Nat} {t : Tm} (g : Gn pa0 hs 4 wd t) : Good (fOf es) wd t := by
  obtain ⟨h1, h2, h3, h4⟩ := gn_main 5 g hl c
  exact ⟨h1, h2, h3, h4 19 (by decide), g.dle, all_mono (fun x ⟨a, ha⟩ => (h.ok _ ha).1) g.all⟩
theorem good_all {hs : List (Int × Nat)} {es : Ens} (h : HsOk hs) (hl : hs.length ≤ 5) (e : EsOk hs es) : ∀ x ∈ es, x.2.1 ≤ 24 ∧ Good (fOf es) x.2.1 x.2.2 := fun x hx => by
  obtain ⟨i, hi, hg⟩ := e.at_ x hx
  have hm := List.mem_of_getElem? hi
  refine ⟨(h.ok _ hm).2, ?_⟩
  have hsp : hs = hs.take i ++ (x.1, x.2.1) :: hs.drop (i + 1) := by
    have hil := (List.getElem?_eq_some_iff.mp hi).1
    have e2 : hs[i] = (x.1, x.2.1) := (List.getElem?_eq_some_iff.mp hi).2
    rw [← e2, ← List.drop_eq_getElem_cons hil, List.take_append_drop]
  have h' : HsOk (hs.drop (i + 1)) := ⟨by rw [List.map_drop]; exact List.Nodup.sublist (List.drop_sublist _ _) h.nd, fun y hy => h.ok y (List.mem_of_mem_drop hy)⟩
  refine good_of h' (by rw [List.length_drop]; omega) ((cp_of h e).rest hsp) (hg.up ?_)
  split <;> omega
theorem val_none {K : PySem.W.Frag} {H : Hp} {kvs : List (Key × V)} {es : Ens} {n : Int} (h : FlL K H kvs es) (hn : n ∉ es.map (·.1)) : valV kvs (.inl n) = none := by
  cases hv : valV kvs (.inl n) with
  | none => rfl
  | some z =>
    exfalso
    have hm := valV_in hv
    rw [h.keys] at hm
    obtain ⟨e, he, e3⟩ := List.mem_map.mp hm
    exact hn (by rw [← Sum.inl.inj e3]; exact List.mem_map_of_mem he)
theorem FlL.drop {K : PySem.W.Frag} {H : Hp} {n : Int} {kvs : List (Key × V)} {es : Ens} (h : FlL K H kvs es) : FlL K H (dropK kvs (.inl n)) (es.filter fun e => decide (e.1 ≠ n)) := by
  induction h with
  | nil => exact .nil
  | @cons p e ps es h1 _ ih =>
    have e1 := h1.1
    by_cases q : e.1 = n
    · rw [dropK_pos (by rw [e1, q]), List.filter_cons, if_neg (by simp [q])]
      exact ih
    · rw [dropK_neg (by rw [e1]; intro z; exact q (Sum.inl.inj z)), List.filter_cons, if_pos (by simp [q])]
      exact .cons h1 ih
/-- what stands while law runs -/
structure LS (K : PySem.W.Frag) (T : List (Addr × Str)) (p b a D : Addr) (hs : List (Int × Nat)) (us : List V) (kvs : List (Key × V)) (es : Ens) (H : Hp) : Prop where
  dr : DrOk H p b
  la : H a = some (.lst us)
  lt : TpAll K H us (hs.map encH)
  ap : a ≠ p
  ab : a ≠ b
  dk : H D = some (.dK kvs)
  fl : FlL K H kvs es
  tb : Tabs T H
theorem DrOk.upd {H : Hp} {p b q : Addr} {o : HO} (d : DrOk H p b) (h1 : q ≠ p) (h2 : q ≠ b) : DrOk (L2.upd H q o) p b := by
  obtain ⟨ns, i, x, y, z, c, s, e1, e2, e3⟩ := d
  exact ⟨ns, i, x, y, z, c, s, by rw [upd_ne (Ne.symm h1)]; exact e1, by rw [upd_ne (Ne.symm h2)]; exact e2, e3⟩
section
variable {K : PySem.W.Frag} {T : List (Addr × Str)} {p b a D : Addr} {hs : List (Int × Nat)} {us : List V} {kvs : List (Key × V)} {es : Ens} {H H' : Hp}
theorem LS.dp (l : LS K T p b a D hs us kvs es H) : D ≠ p ∧ D ≠ b := by
  obtain ⟨ns, i, x, y, z, c, s, e1, e2, e3⟩ := l.dr
  have e := l.dk
  exact ⟨(fun q => by rw [q, e1] at e; cases e), (fun q => by rw [q, e2] at e; cases e)⟩
theorem LS.kp (l : LS K T p b a D hs us kvs es H) (k : Kp p H H') (d : DrOk H' p b) : LS K T p b a D hs us kvs es H' := by
  obtain ⟨xs, hx⟩ := l.dr.lst
  exact ⟨d, k _ _ l.la l.ap, tpA_ext (k.te hx) _ _ l.lt, l.ap, l.ab, k _ _ l.dk l.dp.1, l.fl.te (k.te hx), tabs_kp l.tb hx k⟩
theorem LS.same (l : LS K T p b a D hs us kvs es H) (k : Same H H') : LS K T p b a D hs us kvs es H' := l.kp (Kp.same k) (l.dr.same k)
theorem LS.gr (l : LS K T p b a D hs us kvs es H) (g : Gr T H H') : LS K T p b a D hs us kvs es H' := by
  obtain ⟨ns, i, x, y, z, c, s, e1, e2, e3⟩ := l.dr
  exact ⟨⟨ns, i, x, y, z, c, s, g.ext _ _ e1 (fun ps z => by cases z), g.ext _ _ e2 (fun ps z => by cases z), e3⟩, g.ext _ _ l.la (fun ps z => by cases z), tpA_ext g.te _ _ l.lt, l.ap, l.ab, g.ext _ _ l.dk (fun ps z => by cases z), l.fl.te g.te, g.tab l.tb⟩
theorem LS.dict (l : LS K T p b a D hs us kvs es H) {kvs' : List (Key × V)} {es' : Ens} (h : FlL K H kvs' es') : LS K T p b a D hs us kvs' es' (L2.upd H D (.dK kvs')) := by
  have t := Te.dK (o := HO.dK kvs') l.dk
  have e := l.dk
  have na : a ≠ D := fun q => by rw [← q, l.la] at e; cases e
  exact ⟨l.dr.upd l.dp.1 l.dp.2, by rw [upd_ne na]; exact l.la, tpA_ext t _ _ l.lt, l.ap, l.ab, upd_same, h.te t, tab_mut l.tb l.dk (fun ps z => by cases z) dK_code⟩
theorem LS.push (l : LS K T p b a D hs us kvs es H) {v : V} {x : Int × Nat} (h : Tp K H v (encH x)) : LS K T p b a D (hs ++ [x]) (us ++ [v]) kvs es (L2.upd H a (.lst (us ++ [v]))) := by
  have t := Te.lst (o := HO.lst (us ++ [v])) l.la
  have e := l.dk
  have na : D ≠ a := fun q => by rw [q, l.la] at e; cases e
  refine ⟨l.dr.upd l.ap l.ab, upd_same, ?_, l.ap, l.ab, by rw [upd_ne na]; exact l.dk, l.fl.te t, tab_mut l.tb l.la (fun ps z => by cases z) lst_code⟩
  rw [List.map_append]
  exact tpA_snoc (tpA_ext t _ _ l.lt) (tp_ext t _ _ h)
theorem LS.get (l : LS K T p b a D hs us kvs es H) {i : Nat} {x : Int × Nat} (h : hs[i]? = some x) : ∃ tp, us[i]? = some (.ref tp) ∧ SqT K H tp [.int x.1, .int (x.2 : Nat)] := by
  obtain ⟨v, hv, tv⟩ := tpA_get (i := i) (d := encH x) l.lt (by rw [List.getElem?_map, h]; rfl)
  cases tv with
  | tup h1 h2 => cases h2 with | cons a1 a2 => cases a1; cases a2 with | cons a3 a4 => cases a3; cases a4; exact ⟨_, hv, h1⟩
theorem LS.len (l : LS K T p b a D hs us kvs es H) : us.length = hs.length := by rw [tpA_len l.lt, List.length_map]
end
/-- an arity drawn -/
def tAr : TE := fun σ H Q => ∃ p b, σ[1]? = some (some (.ref p)) ∧ DrOk H p b ∧ ∀ (ar : Nat) H', ar ≤ 24 → Kp p H H' → DrOk H' p b → Q (.int (ar : Nat)) H'
theorem arK (j : Nat) (x : V) (h : ([V.int 0, .int 0, .int 1, .int 1, .int 2, .int 2, .int 3] : List V)[j]? = some x) : ∃ ar : Nat, ar ≤ 24 ∧ x = .int (ar : Nat) := by
  match j, h with
  | 0, h => cases h; exact ⟨0, by omega, rfl⟩
  | 1, h => cases h; exact ⟨0, by omega, rfl⟩
  | 2, h => cases h; exact ⟨1, by omega, rfl⟩
  | 3, h => cases h; exact ⟨1, by omega, rfl⟩
  | 4, h => cases h; exact ⟨2, by omega, rfl⟩
  | 5, h => cases h; exact ⟨2, by omega, rfl⟩
  | 6, h => cases h; exact ⟨3, by omega, rfl⟩
  | j + 7, h => simp at h
def spOpenA (K : PySem.W.Frag) : Sp := fun vs H Q E => ∃ n, n ≤ 4 ∧ spOpen K n vs H Q E
section
variable {P : Program} {w : World} {K : PySem.W.Frag} {mg : Str → Option Value} {base : Heap} {T : List (Addr × Str)}
def spLaw (K : PySem.W.Frag) (T : List (Addr × Str)) : Sp := fun vs H Q _ => ∃ (a : Addr) (ns : List Int), vs = [.ref a] ∧ SqL K H a (ns.map V.int) ∧ ns.length ≤ 63 ∧ Tabs T H ∧ ∀ H', Q (.bl true) H'
abbrev nLaw : List Str := ["_law_script", "_law_draw_here", "_law_wide", "_law_holes", "_law_filling", "_law_k", "_law_number", "_law_one_here", "_law_arity", "_law_term", "_law_other"]
theorem scLaw : FnScope nLaw ["_law_script"] (defScope sLaw) := ⟨rfl, rfl, rfl, by decide +kernel, rfl, by decide +kernel, by decide +kernel⟩
theorem ok_law {f fd fp ff fo fr : Addr} {dd ddr dp df do' dr : FuncData} (F : Fun K "law" "law" sLaw f dd) (ml : mg "len" = none) (mr : mg "range" = none) (me : mg "enumerate" = none)
    (CD : Cl P w K mg base 220 "_law_draw" fd ddr ["_law_script"] (spDraw K)) (CP : Cl P w K mg base 220 "_law_pick" fp dp ["_law_draw_here", "_law_many"] spPick) (CF : Cl P w K mg base 220 "_law_fresh" ff df ["_law_draw_here", "_law_taken"] spFresh)
    (CO : Cl P w K mg base 220 "_law_open" fo do' ["_law_draw_here", "_law_wide", "_law_room", "_law_holes"] (spOpenA K)) (CR : Cl P w K mg base 220 "_law_right" fr dr ["_law_term", "_law_wide", "_law_filling"] (spRight K T)) :
    FnOk P w K mg base CX0 221 f dd ["_law_script"] (spLaw K T) := by
  refine F.ok scLaw (fun vs H Q E h => ?_) (fun cdv A outer s H vs Q E hr h => ?_)
  · obtain ⟨a, ns, rfl, _⟩ := h; rfl
  obtain ⟨a, ns, rfl, hS, h63, hT, q⟩ := h
  have hu := hu_of hr
  refine ⟨_, pss_cons (ps_set (i := 1) scLaw.nd rfl (.inl rfl) (pe_cl CD hr (pa_cons (pv 0) pa_nil)))
    (Evl.pss_cut (ps_par3 (i := 2) (j := 3) (l := 4) rfl scLaw.nd rfl rfl rfl (by decide) (by decide) (by decide) rfl rfl rfl (pa_cons (pe_cl CP hr (pa_cons (pv 1) (pa_cons pe_int pa_nil))) (pa_cons (pe_lst pa_nil) (pa_cons pe_dnewK pa_nil))) (by rfl))
    (Evl.pss_cut (ps_for PassesOwn.never rfl (pi_range1 rfl mr (pa_cons (pe_op op_add pe_int (pe_cl CP hr (pa_cons (pv 1) (pa_cons pe_int pa_nil)))) pa_nil)) (pg_name (i := 5) scLaw.nd rfl (.inl rfl))
        (pss_cons (ps_set (i := 6) scLaw.nd rfl (.inl rfl) (pe_cl CF hr (pa_cons (pv 1) (pa_cons (pe_lc (own := [("_law_one_here", 7)]) (g := gName 7) (tt := tYes) rfl scLaw.nd (pi_list (pv 3)) (blkOk_by (N := nLaw) (sc := defScope sLaw) (by decide +kernel)) (fun _ _ _ _ _ => pg_name (i := 7) scLaw.nd rfl (.inl rfl)) (fun _ _ _ _ _ => pts_nil)
            (fun _ _ _ _ _ => pe_ix (r := rIxT K) ix_tup (pv 7) pe_int (fun _ _ => rfl))) pa_nil))))
        (pss_one (ps_expr (pe_bm PySem.F.plainAttrs_list PySem.F.slot_list_append PySem.F.type_list_append mt_append (pv 3) (pa_cons (pe_tup (pa_cons (pv 6) (pa_cons (PE.weak (t' := tAr) (pe_ifExp (pt_cmpR op_eq (pe_cl CP hr (pa_cons (pv 1) (pa_cons pe_int pa_nil))) pe_int (nomark _)) pe_int
            (pe_ix ix_list (pe_lst (pa_cons pe_int (pa_cons pe_int (pa_cons pe_int (pa_cons pe_int (pa_cons pe_int (pa_cons pe_int (pa_cons pe_int pa_nil)))))))) (pe_cl CP hr (pa_cons (pv 1) (pa_cons pe_int pa_nil))) (fun _ _ => rfl))) (fun σ H Q h => by
              obtain ⟨p, b, h1, d, hq⟩ := h
              refine ⟨_, h1, p, b, 64, rfl, d, by decide, fun r H1 _ _ k1 d1 => ⟨rfl, _, rfl, ite2 (fun _ => hq 24 H1 (Nat.le_refl _) k1 d1) (fun _ => ⟨le_line (by simp), fun g hg => ?_⟩)⟩⟩
              have s2 := same_new hg (HO.lst [V.int 0, V.int 0, V.int 1, V.int 1, V.int 2, V.int 2, V.int 3])
              have gp : g ≠ p := fun e => by subst e; obtain ⟨xs, hx⟩ := d1.lst; rw [hg] at hx; cases hx
              refine ⟨_, h1, p, b, 7, rfl, d1.same s2, by decide, fun x H3 x0 x1 k3 d3 => ?_⟩
              obtain ⟨j, rfl⟩ : ∃ j : Nat, x = (j : Int) := ⟨x.toNat, by omega⟩
              have hj : j < ([V.int 0, V.int 0, V.int 1, V.int 1, V.int 2, V.int 2, V.int 3] : List V).length := by
                show j < 7
                omega
              obtain ⟨ar, har, ek⟩ := arK j _ (List.getElem?_eq_getElem hj)
              refine ⟨g, _, (j : Int), _, rfl, rfl, SqL.of (k3 _ _ upd_same gp), atI_nat (List.getElem?_eq_getElem hj), ?_⟩
              rw [ek]
              exact hq ar H3 har ((k1.trans (Kp.same s2)).trans k3) d3)) pa_nil))) pa_nil))))))
    (Evl.pss_cut (ps_for PassesOwn.never rfl (pi_enum rfl me (pa_cons (pv 3) pa_nil)) (pg_tup rfl (pgs_cons (pg_name (i := 5) scLaw.nd rfl (.inl rfl)) (pgs_cons (pg_tup rfl (pgs_cons (pg_name (i := 6) scLaw.nd rfl (.inl rfl)) (pgs_cons (pg_name (i := 8) scLaw.nd rfl (.inl rfl)) pgs_nil))) pgs_nil)))
        (pss_one (ps_if (PW.pt (pw_and (pt_cmpR op_lt (pe_callB call_lenD rfl ml PySem.boot_len (pa_cons (pv 4) pa_nil)) pe_int (nomark _)) (pw_and1 (pt_truth (pe_cl CP hr (pa_cons (pv 1) (pa_cons pe_int pa_nil))) (by intro _; rfl)))))
          (pss_one (ps_dput hu (pv 4) (pv 6) (pe_tup (pa_cons (pv 8) (pa_cons (pe_cl CO hr (pa_cons (pv 1) (pa_cons (pv 8) (pa_cons (pe_op op_add pe_int (pe_cl CP hr (pa_cons (pv 1) (pa_cons pe_int pa_nil)))) (pa_cons (pe_slice sl_list (pv 3) (po_some (pe_op op_add (pv 5) pe_int)) po_none) pa_nil))))) pa_nil))) rfl)) pss_nil)))
    (Evl.pss_cut (ps_set (i := 9) scLaw.nd rfl (.inl rfl) (pe_cl CO hr (pa_cons (pv 1) (pa_cons (pv 2) (pa_cons (pe_op op_add pe_int (pe_cl CP hr (pa_cons (pv 1) (pa_cons pe_int pa_nil)))) (pa_cons (pv 3) pa_nil))))))
    (Evl.pss_cut (ps_set (i := 10) scLaw.nd rfl (.inl rfl) (pe_cl CO hr (pa_cons (pv 1) (pa_cons (pv 2) (pa_cons (pe_op op_add pe_int (pe_cl CP hr (pa_cons (pv 1) (pa_cons pe_int pa_nil)))) (pa_cons (pv 3) pa_nil))))))
    (Evl.pss_cut (ps_if (PW.pt (pw_or (pt_not (pt_truth (pe_cl CR hr (pa_cons (pv 9) (pa_cons (pv 2) (pa_cons (pv 4) pa_nil)))) (by intro _; rfl))) (pw_or1 (pt_not (pt_truth (pe_cl CR hr (pa_cons (pv 10) (pa_cons (pv 2) (pa_cons (pv 4) pa_nil)))) (by intro _; rfl)))))) pss_never pss_nil)
    (pss_cons (ps_asg (pe_ix ix_list (pv 3) (pe_un un_neg pe_int) (fun _ _ => rfl)) (pg_tup rfl (pgs_cons (pg_name (i := 6) scLaw.nd rfl (.inl rfl)) (pgs_cons (pg_name (i := 8) scLaw.nd rfl (.inl rfl)) pgs_nil))))
    (Evl.pss_cut (ps_if (pt_cmp (pc_din hu (pv 6) (pv 4))) (pss_one (ps_expr (pe_dpop1 (pv 4) (pv 6) ⟨rfl, rfl, rfl, rfl⟩)))
      (pss_one (ps_dput hu (pv 4) (pv 6) (pe_tup (pa_cons (pv 8) (pa_cons (pe_cl CO hr (pa_cons (pv 1) (pa_cons (pv 8) (pa_cons pe_int (pa_cons (pe_lst pa_nil) pa_nil))))) pa_nil))) rfl)))
    (pss_one (ps_ret (pe_and (pe_cl CR hr (pa_cons (pv 9) (pa_cons (pv 2) (pa_cons (pv 4) pa_nil)))) (pe_one (pe_cl CR hr (pa_cons (pv 10) (pa_cons (pv 2) (pa_cons pe_dnewK pa_nil)))))))))))))))), ?_⟩
  refine ⟨_, rfl, a, ns, rfl, hS, h63, fun p b H1 s1 hp0 hb0 d1 => ?_⟩
  generalize ha0 : a = a0
  have hT1 : Tabs T H1 := hT.ext s1
  refine ⟨fun σ H' => ∃ (wd : Nat) (a D : Addr), wd < 4 ∧ σ = [some (.ref a0), some (.ref p), some (.int (wd : Nat)), some (.ref a), some (.ref D), none, none, none, none, none, none] ∧ LS K T p b a D [] [] [] [] H', ?_, ?_⟩
  · refine ⟨_, rfl, p, b, 4, rfl, d1, by decide, fun r H2 r0 r1 k2 d2 => ?_⟩
    obtain ⟨wd, rfl⟩ : ∃ j : Nat, r = (j : Int) := ⟨r.toNat, by omega⟩
    refine ⟨le_line (by simp), fun l hl => fun D hD => ?_⟩
    obtain ⟨xs, hx⟩ := d1.lst
    have s3 := same_new hl (HO.lst [])
    have s4 := same_new hD (HO.dK [])
    have nlp : l ≠ p := fun e => by subst e; obtain ⟨xs, hx⟩ := d2.lst; rw [hl] at hx; cases hx
    have nlb : l ≠ b := fun e => by subst e; obtain ⟨ns, i, x, y, z, c, s, e1, e2, e3⟩ := d2; rw [hl] at e2; cases e2
    refine ⟨_, _, _, rfl, wd, l, D, by omega, by rw [← ha0]; rfl, (d2.same s3).same s4, s4 _ _ upd_same, .nil, nlp, nlb, upd_same, .nil, ((tabs_kp hT1 hx k2).ext s3).ext s4⟩
  rintro σ H2 ⟨wd, a, D, hwd, rfl, ls⟩
  refine ⟨fun σ H' => ∃ x5 x6 us hs, σ = [some (.ref a0), some (.ref p), some (.int (wd : Nat)), some (.ref a), some (.ref D), x5, x6, none, none, none, none] ∧ LS K T p b a D hs us [] [] H' ∧ HsOk hs ∧ 1 ≤ hs.length ∧ hs.length ≤ 5, ?_, ?_⟩
  · refine ⟨_, rfl, p, b, 5, rfl, ls.dr, by decide, fun r H3 r0 r1 k3 d3 => ?_⟩
    have ls3 := ls.kp k3 d3
    refine ⟨_, _, rfl, rfl, 1 + r, rfl, by omega, by omega, ?_⟩
    refine for_it walk_range (fun i σ H' => ∃ x5 x6 us hs, σ = [some (.ref a0), some (.ref p), some (.int (wd : Nat)), some (.ref a), some (.ref D), x5, x6, none, none, none, none] ∧ LS K T p b a D hs us [] [] H' ∧ HsOk hs ∧ hs.length = i) ?_ ?_ ?_ ?_
    · exact ⟨_, _, [], [], rfl, ls3, ⟨List.nodup_nil, fun x h => by cases h⟩, rfl⟩
    · intro _ _ _ _ _; trivial
    · rintro i x σ H4 H5 hi ⟨x5, x6, us, hs, rfl, l4, hok, hli⟩ ⟨rfl, rfl⟩
      have hi : i < (1 + r).toNat := hi
      have hul := l4.len
      refine ⟨_, rfl, _, rfl, a, rfl, ⟨us, SqL.of l4.la⟩, fun Dl hDl => ?_⟩
      refine lc_it (walk_list (xs := us)) (fun j H' => Same H5 H' ∧ H' Dl = some (.lst (((hs.take j).map (·.1)).map V.int))) ?_ ?_ ?_ ?_
      · exact ⟨same_new hDl _, upd_same⟩
      · rintro j H' _ ⟨s5, _⟩
        exact SqL.of (s5 _ _ l4.la)
      · rintro j y H6 H7 hj ⟨s6, h6⟩ ⟨rfl, hy⟩
        have hjl : j < hs.length := by omega
        obtain ⟨tp, e1, e2⟩ := l4.get (i := j) (x := hs[j]) (List.getElem?_eq_getElem hjl)
        rw [hy] at e1
        cases e1
        refine ⟨rfl, _, rfl, tp, _, 0, _, rfl, rfl, sqT_same s6 e2, at0, _, h6, small1000 (by simp; omega), same_mut s6 hDl, ?_⟩
        rw [upd_same, List.take_add_one, List.getElem?_eq_getElem hjl, List.map_append, List.map_append]
        rfl
      · rintro H6 ⟨s6, h6⟩
        rw [List.take_of_length_le (by omega)] at h6
        have l6 := l4.same s6
        have nDp : Dl ≠ p := fun e => by subst e; obtain ⟨xs, hx⟩ := l4.dr.lst; rw [hDl] at hx; cases hx
        refine ⟨p, b, Dl, hs.map (·.1), rfl, l6.dr, h6, nDp, by rw [List.length_map]; omega, fun n H7 n0 n1 nn k7 d7 => ?_⟩
        have l7 := l6.kp k7 d7
        refine ⟨_, rfl, .inl ⟨rfl, _, SqL.of l7.la⟩, _, rfl, p, b, rfl, l7.dr, fun ar H8 har k8 d8 => ?_⟩
        have l8 := l7.kp k8 d8
        refine ⟨le_line (by simp), fun tp htp => ?_⟩
        have s9 := same_new htp (HO.tup [V.int n, V.int (ar : Nat)])
        have l9 := l8.same s9
        refine ⟨a, us, .ref tp, rfl, rfl, l9.la, small1000 (by omega), _, _, _, hs ++ [(n, ar)], rfl, l9.push (x := (n, ar)) (.tup (SqT.of upd_same) (.cons (.int _) (.cons (.int _) .nil))), ⟨?_, ?_⟩, by simp [hli]⟩
        · rw [List.map_append]
          refine List.nodup_append.mpr ⟨hok.nd, by simp, fun x hx y hy e => ?_⟩
          have hy : y = n := by simpa using hy
          subst e hy
          exact nn hx
        · intro y hy
          rcases List.mem_append.mp hy with hy | hy
          · exact hok.ok y hy
          · rw [List.mem_singleton.mp hy]; exact ⟨⟨n0, n1⟩, har⟩
    · rintro σ H4 ⟨x5, x6, us, hs, rfl, l4, hok, hli⟩
      exact ⟨x5, x6, us, hs, rfl, l4, hok, by omega, by omega⟩
  rintro σ H3 ⟨x5, x6, us, hs, rfl, l3, hok, hl1, hl5⟩
  have hul := l3.len
  refine ⟨fun σ H' => ∃ x5 x6 x8 kvs es, σ = [some (.ref a0), some (.ref p), some (.int (wd : Nat)), some (.ref a), some (.ref D), x5, x6, none, x8, none, none] ∧ LS K T p b a D hs us kvs es H' ∧ EsOk hs es ∧ es.length ≤ 3, ?_, ?_⟩
  · refine ⟨_, rfl, a, us, rfl, SqL.of l3.la, ?_⟩
    refine for_it (walk_enum (xs := us)) (fun i σ H' => ∃ x5 x6 x8 kvs es, σ = [some (.ref a0), some (.ref p), some (.int (wd : Nat)), some (.ref a), some (.ref D), x5, x6, none, x8, none, none] ∧ LS K T p b a D hs us kvs es H' ∧ EsOk hs es ∧ es.length ≤ 3 ∧ ∀ e ∈ es, ∃ j, j < i ∧ hs[j]? = some (e.1, e.2.1)) ?_ ?_ ?_ ?_
    · exact ⟨_, _, _, [], [], rfl, l3, EsOk.nil, by simp, fun e h => by cases h⟩
    · rintro i σ H' _ ⟨_, _, _, _, _, _, l, _⟩
      exact SqL.of l.la
    · rintro i x σ H4 H5 hi ⟨x5, x6, x8, kvs, es, rfl, l4, hes, he3, hlt⟩ ⟨A1, x', y, rfl, hA1, rfl, ex, hy⟩
      cases ex
      have hil : i < hs.length := by omega
      obtain ⟨tp, e1, e2⟩ := l4.get (i := i) (x := hs[i]) (List.getElem?_eq_getElem hil)
      have hy : us[i]? = some y := hy
      rw [hy] at e1
      cases e1
      have s5 := same_new hA1 (HO.tup [.int (i : Nat), .ref tp])
      have l5 := l4.same s5
      have hir := hok.ok _ (List.getElem_mem hil)
      have hat : hs[i]? = some hs[i] := List.getElem?_eq_getElem hil
      generalize hs[i] = hx at e2 hir hat
      obtain ⟨n, ar⟩ := hx
      have har : ar ≤ 24 := hir.2
      refine ⟨A1, _, rfl, SqT.of upd_same, rfl, _, _, rfl, _, _, rfl, ⟨tp, _, rfl, sqT_same s5 e2, rfl, _, _, rfl, _, _, rfl, rfl, rfl, ?_⟩⟩
      have nxt : ∀ H', LS K T p b a D hs us kvs es H' → ∃ x5' x6' x8' kvs' es', ([some (.ref a0), some (.ref p), some (.int (wd : Nat)), some (.ref a), some (.ref D), some (.int (i : Nat)), some (.int n), none, some (.int (ar : Nat)), none, none] : L2.St) = [some (.ref a0), some (.ref p), some (.int (wd : Nat)), some (.ref a), some (.ref D), x5', x6', none, x8', none, none] ∧ LS K T p b a D hs us kvs' es' H' ∧ EsOk hs es' ∧ es'.length ≤ 3 ∧ ∀ e ∈ es', ∃ j, j < i + 1 ∧ hs[j]? = some (e.1, e.2.1) :=
        fun H' l => ⟨_, _, _, kvs, es, rfl, l, hes, he3, fun e he => by
          obtain ⟨j, hj, z⟩ := hlt e he
          exact ⟨j, by omega, z⟩⟩
      refine ⟨_, rfl, D, kvs, rfl, l5.dk, _, _, rfl, rfl, _, rfl, ite2 (fun lt => ?_) (fun _ => nxt _ l5)⟩
      have lt : ((kvs.length : Nat) : Int) < 3 := of_decide_eq_true lt
      have hkl := l5.fl.len
      refine ⟨_, rfl, p, b, 4, rfl, l5.dr, by decide, fun r H6 _ _ k6 d6 => ?_⟩
      have l6 := l5.kp k6 d6
      refine ⟨_, rfl, ite2 (fun _ => ?_) (fun _ => nxt _ l6)⟩
      refine ⟨_, rfl, _, rfl, _, rfl, _, rfl, p, b, 4, rfl, l6.dr, by decide, fun r2 H7 r20 r21 k7 d7 => ?_⟩
      have l7 := l6.kp k7 d7
      refine ⟨_, _, rfl, rfl, _, rfl, _, rfl, _, _, rfl, rfl, _, rfl, a, _, rfl, SqL.of l7.la, fun sl hsl => ?_⟩
      have s8 := same_new hsl (HO.lst (cutV us (some ((i : Int) + 1)) none))
      have l8 := l7.same s8
      have nsp : sl ≠ p := fun e => by subst e; obtain ⟨xs, hx⟩ := l7.dr.lst; rw [hsl] at hx; cases hx
      obtain ⟨m, hm⟩ : ∃ m, m = if hs.drop (i + 1) = [] then 1 else 2 := ⟨_, rfl⟩
      have hm4 : 1 ≤ m ∧ m ≤ 2 := by rw [hm]; split <;> omega
      have hnd : nd (!(hs.drop (i + 1)).isEmpty) (1 + r2) ≤ m := by
        rw [hm]
        cases hs.drop (i + 1) with
        | nil => unfold nd; simp; split <;> first | omega | (split <;> omega)
        | cons x xs => unfold nd; simp; split <;> first | omega | (split <;> omega)
      refine ⟨m, by omega, p, b, sl, ar, 1 + r2, us.drop (i + 1), hs.drop (i + 1), rfl, l8.dr, by rw [upd_same, cut_from (by omega)], by rw [List.map_drop]; exact tpA_drop l8.lt, nsp, by rw [List.length_drop]; omega, fun y hy => (hok.ok y (List.mem_of_mem_drop hy)).2, by omega, by omega, hnd, fun v9 H9 t9 k9 d9 ht9 hg9 => ?_⟩
      have l9 := l8.kp k9 d9
      refine ⟨le_line (by simp), fun pp hpp => ?_⟩
      have s10 := same_new hpp (HO.tup [V.int (ar : Nat), v9])
      have l10 := l9.same s10
      refine ⟨_, rfl, _, rfl, D, _, rfl, DPut.k (k := Sum.inl n) l10.dk (small1000 (by omega)), ?_⟩
      have hn : n ∉ es.map (·.1) := fun h => by
        obtain ⟨e, he, e3⟩ := List.mem_map.mp h
        obtain ⟨j, hj, z⟩ := hlt e he
        have x1 : (hs.map (·.1))[j]? = some n := by rw [List.getElem?_map, z]; exact congrArg some e3
        have x2 : (hs.map (·.1))[i]? = some n := by rw [List.getElem?_map, hat]; rfl
        obtain ⟨l1, y1⟩ := List.getElem?_eq_some_iff.mp x1
        obtain ⟨l2, y2⟩ := List.getElem?_eq_some_iff.mp x2
        have := (List.getElem_inj hok.nd).mp (y1.trans y2.symm)
        omega
      rw [putK_new _ (val_none l10.fl hn)]
      refine ⟨_, _, _, _, es ++ [(n, ar, t9)], rfl, l10.dict (l10.fl.snoc ⟨rfl, pp, v9, rfl, SqT.of upd_same, ht9.ext (Te.of' s10)⟩), ⟨?_, ?_⟩, by simp; omega, ?_⟩
      · rw [List.map_append]
        refine List.nodup_append.mpr ⟨hes.nd, by simp, fun x hx y hy e => ?_⟩
        have hy : y = n := by simpa using hy
        subst e hy
        exact hn hx
      · intro e he
        rcases List.mem_append.mp he with he | he
        · exact hes.at_ e he
        · rw [List.mem_singleton.mp he]
          exact ⟨i, hat, by rw [← hm]; exact hg9⟩
      · intro e he
        rcases List.mem_append.mp he with he | he
        · obtain ⟨j, hj, z⟩ := hlt e he
          exact ⟨j, by omega, z⟩
        · rw [List.mem_singleton.mp he]
          exact ⟨i, by omega, hat⟩
    · rintro σ H4 ⟨x5, x6, x8, kvs, es, rfl, l4, hes, he3, _⟩
      exact ⟨x5, x6, x8, kvs, es, rfl, l4, hes, he3⟩
  rintro σ H4 ⟨x5, x6, x8, kvs, es, rfl, l4, hes, he3⟩
  have hnd4 : ∀ r : Int, nd (!hs.isEmpty) r ≤ 4 := fun r => by
    unfold nd
    have hx : (if (!hs.isEmpty) = true then 1 else 0 : Nat) ≤ 1 := by split <;> omega
    generalize (if (!hs.isEmpty) = true then 1 else 0 : Nat) = x at *
    repeat' split
    all_goals omega
  have har : ∀ x ∈ hs, x.2 ≤ 24 := fun x hx => (hok.ok x hx).2
  refine ⟨fun σ H' => ∃ v1 t1, σ = [some (.ref a0), some (.ref p), some (.int (wd : Nat)), some (.ref a), some (.ref D), x5, x6, none, x8, some v1, none] ∧ LS K T p b a D hs us kvs es H' ∧ Tr K H' v1 t1 ∧ Gn pa0 hs 4 wd t1, ?_, ?_⟩
  · refine ⟨_, rfl, _, rfl, _, rfl, p, b, 11, rfl, l4.dr, by decide, fun r H5 r0 r1 k5 d5 => ?_⟩
    have l5 := l4.kp k5 d5
    refine ⟨_, _, rfl, rfl, _, rfl, 4, by omega, p, b, a, wd, 2 + r, us, hs, rfl, l5.dr, l5.la, l5.lt, l5.ap, hl5, har, by omega, by omega, hnd4 _, fun v1 H6 t1 k6 d6 ht hg => ?_⟩
    exact ⟨v1, t1, rfl, l5.kp k6 d6, ht, hg⟩
  rintro σ H5 ⟨v1, t1, rfl, l5, ht1, hg1⟩
  refine ⟨fun σ H' => ∃ v2 t2, σ = [some (.ref a0), some (.ref p), some (.int (wd : Nat)), some (.ref a), some (.ref D), x5, x6, none, x8, some v1, some v2] ∧ LS K T p b a D hs us kvs es H' ∧ Tr K H' v1 t1 ∧ Tr K H' v2 t2 ∧ Gn pa0 hs 4 wd t2, ?_, ?_⟩
  · refine ⟨_, rfl, _, rfl, _, rfl, p, b, 4, rfl, l5.dr, by decide, fun r H6 r0 r1 k6 d6 => ?_⟩
    have l6 := l5.kp k6 d6
    refine ⟨_, _, rfl, rfl, _, rfl, 4, by omega, p, b, a, wd, 1 + r, us, hs, rfl, l6.dr, l6.la, l6.lt, l6.ap, hl5, har, by omega, by omega, hnd4 _, fun v2 H7 t2 k7 d7 ht hg => ?_⟩
    exact ⟨v2, t2, rfl, l6.kp k7 d7, (ht1.ext (k6.te' l5.dr)).ext (k7.te' d6), ht, hg⟩
  rintro σ H6 ⟨v2, t2, rfl, l6, ht1, ht2, hg2⟩
  have good1 : ∀ {es : Ens}, EsOk hs es → Good (fOf es) wd t1 := fun e => good_of hok hl5 (cp_of hok e) hg1
  have good2 : ∀ {es : Ens}, EsOk hs es → Good (fOf es) wd t2 := fun e => good_of hok hl5 (cp_of hok e) hg2
  refine ⟨fun σ H' => σ = [some (.ref a0), some (.ref p), some (.int (wd : Nat)), some (.ref a), some (.ref D), x5, x6, none, x8, some v1, some v2] ∧ LS K T p b a D hs us kvs es H' ∧ Tr K H' v1 t1 ∧ Tr K H' v2 t2, ?_, ?_⟩
  · refine ⟨_, rfl, _, rfl, _, rfl, v1, wd, D, kvs, es, t1, rfl, ht1, l6.dk, l6.fl, hes.nd, by omega, l6.tb, by omega, good1 hes, good_all hok hl5 hes, fun H7 g7 => ?_⟩
    have l7 := l6.gr g7
    refine ⟨_, rfl, iteF ?_⟩
    refine ⟨_, rfl, _, rfl, _, rfl, v2, wd, D, kvs, es, t2, rfl, ht2.ext g7.te, l7.dk, l7.fl, hes.nd, by omega, l7.tb, by omega, good2 hes, good_all hok hl5 hes, fun H8 g8 => ?_⟩
    refine ⟨_, rfl, ?_⟩
    exact ⟨rfl, l7.gr g8, ht1.ext (g7.trans g8).te, ht2.ext (g7.trans g8).te⟩
  rintro σ H7 ⟨rfl, l7, ht1, ht2⟩
  have hjl : hs.length - 1 < hs.length := by omega
  have hat : hs[hs.length - 1]? = some hs[hs.length - 1] := List.getElem?_eq_getElem hjl
  have hra := har _ (List.getElem_mem hjl)
  generalize hs[hs.length - 1] = hx at hat hra
  obtain ⟨n, ar⟩ := hx
  have hra : ar ≤ 24 := hra
  obtain ⟨tp, e1, e2⟩ := l7.get hat
  rw [← hul] at e1
  refine ⟨_, rfl, _, rfl, a, us, -1, _, rfl, rfl, SqL.of l7.la, atI_last e1, ?_⟩
  refine ⟨tp, _, rfl, e2, rfl, _, _, rfl, _, _, rfl, rfl, ?_⟩
  refine ⟨fun σ H' => ∃ kvs es, σ = [some (.ref a0), some (.ref p), some (.int (wd : Nat)), some (.ref a), some (.ref D), x5, some (.int n), none, some (.int (ar : Nat)), some v1, some v2] ∧ LS K T p b a D hs us kvs es H' ∧ EsOk hs es ∧ es.length ≤ 4 ∧ Tr K H' v1 t1 ∧ Tr K H' v2 t2, ?_, ?_⟩
  · refine ⟨_, rfl, _, rfl, D, _, rfl, .inl ⟨kvs, .inl n, .inl l7.dk, rfl, rfl⟩, _, rfl, ?_⟩
    cases hv : valV kvs (.inl n) with
    | some z =>
      refine iteT ?_
      refine ⟨_, rfl, D, rfl, .inl ⟨kvs, .inl l7.dk⟩, _, rfl, kvs, .inl n, z, l7.dk, rfl, hv, ?_⟩
      have t8 : Te H7 (upd H7 D (.dK (dropK kvs (.inl n)))) := Te.dK l7.dk
      refine ⟨_, es.filter fun e => decide (e.1 ≠ n), rfl, l7.dict l7.fl.drop, ⟨?_, fun e he => hes.at_ e (List.mem_filter.mp he).1⟩, ?_, ht1.ext t8, ht2.ext t8⟩
      · exact List.Nodup.sublist ((List.filter_sublist).map _) hes.nd
      · exact Nat.le_trans (List.length_filter_le _ _) (by omega)
    | none =>
      refine iteF ?_
      refine ⟨_, rfl, _, rfl, _, rfl, le_line (by simp), fun sl hsl => ?_⟩
      have s8 := same_new hsl (HO.lst [])
      have l8 := l7.same s8
      have nsp : sl ≠ p := fun e => by subst e; obtain ⟨xs, hx⟩ := l7.dr.lst; rw [hsl] at hx; cases hx
      refine ⟨1, by omega, p, b, sl, ar, 3, [], [], rfl, l8.dr, upd_same, .nil, nsp, by simp, (fun y hy => by cases hy), by omega, by omega, by decide, fun v9 H9 t9 k9 d9 ht9 hg9 => ?_⟩
      have l9 := l8.kp k9 d9
      refine ⟨le_line (by simp), fun pp hpp => ?_⟩
      have s10 := same_new hpp (HO.tup [V.int (ar : Nat), v9])
      have l10 := l9.same s10
      have hkl := l10.fl.len
      have hn : n ∉ es.map (·.1) := fun h => by
        obtain ⟨e, he, e3⟩ := List.mem_map.mp h
        obtain ⟨q, hq⟩ : ∃ q, (q, e) ∈ kvs.zip es ∧ True := by
          obtain ⟨i, hi⟩ := List.mem_iff_getElem?.mp he
          have hik : i < kvs.length := by rw [hkl]; exact (List.getElem?_eq_some_iff.mp hi).1
          refine ⟨kvs[i], List.mem_iff_getElem?.mpr ⟨i, ?_⟩, trivial⟩
          rw [List.getElem?_zip_eq_some]
          exact ⟨List.getElem?_eq_getElem hik, hi⟩
        have hm : (Sum.inl n : Key) ∈ kvs.map (·.1) := by
          rw [l10.fl.keys]
          exact List.mem_map.mpr ⟨e, he, by rw [← e3]⟩
        obtain ⟨kv, hkv, e5⟩ := List.mem_map.mp hm
        have z := val_nodup (by rw [l10.fl.keys]; exact nodup_inl hes.nd) kv hkv
        rw [e5, hv] at z
        cases z
      refine ⟨_, rfl, _, rfl, D, _, rfl, DPut.k (k := Sum.inl n) l10.dk (small1000 (by omega)), ?_⟩
      rw [putK_new _ (val_none l10.fl hn)]
      have t11 : Te _ (upd _ D (.dK (kvs ++ [(Sum.inl n, V.ref pp)]))) := Te.dK l10.dk
      have tA := ((Te.of' s8).trans (k9.te' l8.dr)).trans ((Te.of' s10).trans t11)
      refine ⟨_, es ++ [(n, ar, t9)], rfl, l10.dict (l10.fl.snoc ⟨rfl, pp, v9, rfl, SqT.of upd_same, ht9.ext (Te.of' s10)⟩), ⟨?_, ?_⟩, by simp; omega, ht1.ext tA, ht2.ext tA⟩
      · rw [List.map_append]
        refine List.nodup_append.mpr ⟨hes.nd, by simp, fun x hx y hy e => ?_⟩
        have hy : y = n := by simpa using hy
        subst e hy
        exact hn hx
      · intro e he
        rcases List.mem_append.mp he with he | he
        · exact hes.at_ e he
        · rw [List.mem_singleton.mp he]
          refine ⟨hs.length - 1, hat, ?_⟩
          have : hs.drop (hs.length - 1 + 1) = [] := List.drop_eq_nil_of_le (by omega)
          rw [this, if_pos rfl]
          exact hg9
  rintro σ H8 ⟨kvs, es, rfl, l8, hes, he4, ht1, ht2⟩
  refine ⟨_, rfl, _, rfl, _, rfl, v1, wd, D, kvs, es, t1, rfl, ht1, l8.dk, l8.fl, hes.nd, by omega, l8.tb, by omega, good1 hes, good_all hok hl5 hes, fun H9 g9 => ?_⟩
  refine ⟨true, rfl, iteT ?_⟩
  refine ⟨_, rfl, _, rfl, fun D2 hD2 => ?_⟩
  have g10 := g9.trans (Gr.new (T := T) (o := HO.dK []) hD2)
  exact ⟨v2, wd, D2, [], [], t2, rfl, ht2.ext g10.te, upd_same, .nil, List.nodup_nil, by simp, g10.tab l8.tb, by omega, good2 EsOk.nil, (fun e h => by cases h), fun H11 _ => q H11⟩
end
end KP

/-! The end: what the top has written. -/
namespace KP
open PySem PyProof.Rows L2 LamX NdefX KL KM KD
theorem tabX_of {base : Heap} {mg : Str → Option Value} {c1 P1 c2 P2 c3 P3 : Addr} {q1 q2 q3 : Str} (n12 : P1 ≠ P2) (n13 : P1 ≠ P3) (n23 : P2 ≠ P3) (tb : ∀ p ∈ [(c1, P1), (c2, P2), (c3, P3)], TabB base mg p.1 p.2) :
    TabX base mg [(P1, q1), (P2, q2), (P3, q3)] c1 P1 q1 ∧ TabX base mg [(P1, q1), (P2, q2), (P3, q3)] c2 P2 q2 ∧ TabX base mg [(P1, q1), (P2, q2), (P3, q3)] c3 P3 q3 := by
  refine ⟨⟨tb (c1, P1) (by simp), by simp, fun p hp e => ?_⟩, ⟨tb (c2, P2) (by simp), by simp, fun p hp e => ?_⟩, ⟨tb (c3, P3) (by simp), by simp, fun p hp e => ?_⟩⟩
  all_goals
    simp only [List.mem_cons, List.not_mem_nil, or_false] at hp
    rcases hp with rfl | rfl | rfl
  · rfl
  · exact (n12 e.symm).elim
  · exact (n13 e.symm).elim
  · exact (n12 e).elim
  · rfl
  · exact (n23 e.symm).elim
  · exact (n13 e).elim
  · exact (n23 e).elim
  · rfl

theorem all_mk {l : PySem.W.OpenLaw} {w : World} {K : PySem.W.Frag} {h : Heap} {mg : Str → Option Value} {fa f1 f2 f3 f4 f5 f6 f7 f8 f9 f10 f11 f12 f13 f14 f15 f16 f17 f18 f19 f20 f21 f22 f23 f24 f25 f26 c1 c2 c3 P1 P2 P3 Td : Addr} {od1 an1 od2 an2 od3 an3 od4 an4 od5 an5 od6 an6 od7 an7 od8 an8 od9 an9 od10 an10 od11 an11 od12 an12 od13 an13 od14 an14 od15 an15 od16 an16 od17 an17 od18 an18 od19 an19 od20 an20 od21 an21 od22 an22 od23 an23 od24 an24 od25 an25 od26 an26 : Option Addr} {sl1 sl2 sl3 sl4 sl5 sl6 sl7 sl8 sl9 sl10 sl11 sl12 sl13 sl14 sl15 sl16 sl17 sl18 sl19 sl20 sl21 sl22 sl23 sl24 sl25 sl26 : Array (Option Value)} {oc1 kV1 dc1 pm1 ct1 cd1 oc2 kV2 dc2 pm2 ct2 cd2 oc3 kV3 dc3 pm3 ct3 cd3 oc4 kV4 dc4 pm4 ct4 cd4 oc5 kV5 dc5 pm5 ct5 oc6 kV6 dc6 pm6 ct6 oc7 kV7 dc7 pm7 ct7 cd7 oc8 kV8 dc8 pm8 ct8 cd8 oc9 kV9 dc9 pm9 ct9 oc10 kV10 dc10 pm10 ct10 cd10 oc11 kV11 dc11 pm11 ct11 cd11 oc12 kV12 dc12 pm12 ct12 cd12 oc13 kV13 dc13 pm13 ct13 cd13 oc14 kV14 dc14 pm14 ct14 cd14 oc15 kV15 dc15 pm15 ct15 cd15 oc16 kV16 dc16 pm16 ct16 cd16 oc17 kV17 dc17 pm17 ct17 cd17 oc18 kV18 dc18 pm18 ct18 cd18 oc19 kV19 dc19 pm19 ct19 cd19 oc20 kV20 dc20 pm20 ct20 cd20 oc21 kV21 dc21 pm21 ct21 cd21 oc22 kV22 dc22 pm22 ct22 cd22 oc23 kV23 dc23 pm23 ct23 cd23 oc24 kV24 dc24 pm24 ct24 cd24 oc25 kV25 dc25 pm25 ct25 cd25 oc26 kV26 dc26 pm26 ct26 cd26 : Value} {oT : Obj} {tkT : Tok} {nT : Nat} (X : K.In h) (G : h.Ns mainGlobals mg) (hfa : mg "law" = some (.ref fa))
    (a1 : PySem.W.nsIn K mainGlobals "parts_of" = some (some (.ref f1))) (l1 : K.lookup f1 = some ⟨oc1, od1, .func (PySem.W.fnOf "parts_of" "parts_of" (defArgs sParts) (defBody sParts) (defScope sParts) .none kV1 dc1 pm1 an1 cd1 ct1), sl1⟩) (d1 : PySem.W.codeIn K cd1 "parts_of" = true) (k1 : PySem.W.keepIn K (.ref f1) = true)
    (a2 : PySem.W.nsIn K mainGlobals "with_parts" = some (some (.ref f2))) (l2 : K.lookup f2 = some ⟨oc2, od2, .func (PySem.W.fnOf "with_parts" "with_parts" (defArgs sWith) (defBody sWith) (defScope sWith) .none kV2 dc2 pm2 an2 cd2 ct2), sl2⟩) (d2 : PySem.W.codeIn K cd2 "with_parts" = true) (k2 : PySem.W.keepIn K (.ref f2) = true)
    (a3 : PySem.W.nsIn K mainGlobals "binds" = some (some (.ref f3))) (l3 : K.lookup f3 = some ⟨oc3, od3, .func (PySem.W.fnOf "binds" "binds" (defArgs sBinds) (defBody sBinds) (defScope sBinds) .none kV3 dc3 pm3 an3 cd3 ct3), sl3⟩) (d3 : PySem.W.codeIn K cd3 "binds" = true) (k3 : PySem.W.keepIn K (.ref f3) = true)
    (a4 : PySem.W.nsIn K mainGlobals "mapped" = some (some (.ref f4))) (l4 : K.lookup f4 = some ⟨oc4, od4, .func (PySem.W.fnOf "mapped" "mapped" (defArgs sMapped) (defBody sMapped) (defScope sMapped) .none kV4 dc4 pm4 an4 cd4 ct4), sl4⟩) (d4 : PySem.W.codeIn K cd4 "mapped" = true) (k4 : PySem.W.keepIn K (.ref f4) = true)
    (a5 : PySem.W.nsIn K mainGlobals "lifted" = some (some (.ref f5))) (l5 : K.lookup f5 = some ⟨oc5, od5, .func (PySem.W.fnOf "lifted" "lifted" (defArgs sLifted) (defBody sLifted) (defScope sLifted) (.ref Td) kV5 dc5 pm5 an5 (.ref c1) ct5), sl5⟩) (d5 : PySem.W.codeIn K (.ref c1) "lifted" = true) (k5 : PySem.W.keepIn K (.ref f5) = true)
    (a6 : PySem.W.nsIn K mainGlobals "filled_under" = some (some (.ref f6))) (l6 : K.lookup f6 = some ⟨oc6, od6, .func (PySem.W.fnOf "filled_under" "filled_under" (defArgs sUnder) (defBody sUnder) (defScope sUnder) .none kV6 dc6 pm6 an6 (.ref c2) ct6), sl6⟩) (d6 : PySem.W.codeIn K (.ref c2) "filled_under" = true) (k6 : PySem.W.keepIn K (.ref f6) = true)
    (a7 : PySem.W.nsIn K mainGlobals "filled" = some (some (.ref f7))) (l7 : K.lookup f7 = some ⟨oc7, od7, .func (PySem.W.fnOf "filled" "filled" (defArgs sFilled) (defBody sFilled) (defScope sFilled) .none kV7 dc7 pm7 an7 cd7 ct7), sl7⟩) (d7 : PySem.W.codeIn K cd7 "filled" = true) (k7 : PySem.W.keepIn K (.ref f7) = true)
    (a8 : PySem.W.nsIn K mainGlobals "holes_of" = some (some (.ref f8))) (l8 : K.lookup f8 = some ⟨oc8, od8, .func (PySem.W.fnOf "holes_of" "holes_of" (defArgs sHolesOf) (defBody sHolesOf) (defScope sHolesOf) .none kV8 dc8 pm8 an8 cd8 ct8), sl8⟩) (d8 : PySem.W.codeIn K cd8 "holes_of" = true) (k8 : PySem.W.keepIn K (.ref f8) = true)
    (a9 : PySem.W.nsIn K mainGlobals "fill" = some (some (.ref f9))) (l9 : K.lookup f9 = some ⟨oc9, od9, .func (PySem.W.fnOf "fill" "fill" (defArgs sFill) (defBody sFill) (defScope sFill) .none kV9 dc9 pm9 an9 (.ref c3) ct9), sl9⟩) (d9 : PySem.W.codeIn K (.ref c3) "fill" = true) (k9 : PySem.W.keepIn K (.ref f9) = true)
    (a10 : PySem.W.nsIn K mainGlobals "settled" = some (some (.ref f10))) (l10 : K.lookup f10 = some ⟨oc10, od10, .func (PySem.W.fnOf "settled" "settled" (defArgs sSettled) (defBody sSettled) (defScope sSettled) .none kV10 dc10 pm10 an10 cd10 ct10), sl10⟩) (d10 : PySem.W.codeIn K cd10 "settled" = true) (k10 : PySem.W.keepIn K (.ref f10) = true)
    (a11 : PySem.W.nsIn K mainGlobals "_law_draw" = some (some (.ref f11))) (l11 : K.lookup f11 = some ⟨oc11, od11, .func (PySem.W.fnOf "_law_draw" "_law_draw" (defArgs sDraw) (defBody sDraw) (defScope sDraw) .none kV11 dc11 pm11 an11 cd11 ct11), sl11⟩) (d11 : PySem.W.codeIn K cd11 "_law_draw" = true) (k11 : PySem.W.keepIn K (.ref f11) = true)
    (a12 : PySem.W.nsIn K mainGlobals "_law_pick" = some (some (.ref f12))) (l12 : K.lookup f12 = some ⟨oc12, od12, .func (PySem.W.fnOf "_law_pick" "_law_pick" (defArgs sPick) (defBody sPick) (defScope sPick) .none kV12 dc12 pm12 an12 cd12 ct12), sl12⟩) (d12 : PySem.W.codeIn K cd12 "_law_pick" = true) (k12 : PySem.W.keepIn K (.ref f12) = true)
    (a13 : PySem.W.nsIn K mainGlobals "_law_one" = some (some (.ref f13))) (l13 : K.lookup f13 = some ⟨oc13, od13, .func (PySem.W.fnOf "_law_one" "_law_one" (defArgs sOne) (defBody sOne) (defScope sOne) .none kV13 dc13 pm13 an13 cd13 ct13), sl13⟩) (d13 : PySem.W.codeIn K cd13 "_law_one" = true) (k13 : PySem.W.keepIn K (.ref f13) = true)
    (a14 : PySem.W.nsIn K mainGlobals "_law_bits" = some (some (.ref f14))) (l14 : K.lookup f14 = some ⟨oc14, od14, .func (PySem.W.fnOf "_law_bits" "_law_bits" (defArgs sBits) (defBody sBits) (defScope sBits) .none kV14 dc14 pm14 an14 cd14 ct14), sl14⟩) (d14 : PySem.W.codeIn K cd14 "_law_bits" = true) (k14 : PySem.W.keepIn K (.ref f14) = true)
    (a15 : PySem.W.nsIn K mainGlobals "_law_under" = some (some (.ref f15))) (l15 : K.lookup f15 = some ⟨oc15, od15, .func (PySem.W.fnOf "_law_under" "_law_under" (defArgs sLUnd) (defBody sLUnd) (defScope sLUnd) .none kV15 dc15 pm15 an15 cd15 ct15), sl15⟩) (d15 : PySem.W.codeIn K cd15 "_law_under" = true) (k15 : PySem.W.keepIn K (.ref f15) = true)
    (a16 : PySem.W.nsIn K mainGlobals "_law_node" = some (some (.ref f16))) (l16 : K.lookup f16 = some ⟨oc16, od16, .func (PySem.W.fnOf "_law_node" "_law_node" (defArgs sNode) (defBody sNode) (defScope sNode) .none kV16 dc16 pm16 an16 cd16 ct16), sl16⟩) (d16 : PySem.W.codeIn K cd16 "_law_node" = true) (k16 : PySem.W.keepIn K (.ref f16) = true)
    (a17 : PySem.W.nsIn K mainGlobals "_law_show" = some (some (.ref f17))) (l17 : K.lookup f17 = some ⟨oc17, od17, .func (PySem.W.fnOf "_law_show" "_law_show" (defArgs sShow) (defBody sShow) (defScope sShow) .none kV17 dc17 pm17 an17 cd17 ct17), sl17⟩) (d17 : PySem.W.codeIn K cd17 "_law_show" = true) (k17 : PySem.W.keepIn K (.ref f17) = true)
    (a18 : PySem.W.nsIn K mainGlobals "_law_done" = some (some (.ref f18))) (l18 : K.lookup f18 = some ⟨oc18, od18, .func (PySem.W.fnOf "_law_done" "_law_done" (defArgs sDone) (defBody sDone) (defScope sDone) .none kV18 dc18 pm18 an18 cd18 ct18), sl18⟩) (d18 : PySem.W.codeIn K cd18 "_law_done" = true) (k18 : PySem.W.keepIn K (.ref f18) = true)
    (a19 : PySem.W.nsIn K mainGlobals "_law_numbers" = some (some (.ref f19))) (l19 : K.lookup f19 = some ⟨oc19, od19, .func (PySem.W.fnOf "_law_numbers" "_law_numbers" (defArgs sNums) (defBody sNums) (defScope sNums) .none kV19 dc19 pm19 an19 cd19 ct19), sl19⟩) (d19 : PySem.W.codeIn K cd19 "_law_numbers" = true) (k19 : PySem.W.keepIn K (.ref f19) = true)
    (a20 : PySem.W.nsIn K mainGlobals "_law_leaf" = some (some (.ref f20))) (l20 : K.lookup f20 = some ⟨oc20, od20, .func (PySem.W.fnOf "_law_leaf" "_law_leaf" (defArgs sLeaf) (defBody sLeaf) (defScope sLeaf) .none kV20 dc20 pm20 an20 cd20 ct20), sl20⟩) (d20 : PySem.W.codeIn K cd20 "_law_leaf" = true) (k20 : PySem.W.keepIn K (.ref f20) = true)
    (a21 : PySem.W.nsIn K mainGlobals "_law_fresh" = some (some (.ref f21))) (l21 : K.lookup f21 = some ⟨oc21, od21, .func (PySem.W.fnOf "_law_fresh" "_law_fresh" (defArgs sFresh) (defBody sFresh) (defScope sFresh) .none kV21 dc21 pm21 an21 cd21 ct21), sl21⟩) (d21 : PySem.W.codeIn K cd21 "_law_fresh" = true) (k21 : PySem.W.keepIn K (.ref f21) = true)
    (a22 : PySem.W.nsIn K mainGlobals "_law_count" = some (some (.ref f22))) (l22 : K.lookup f22 = some ⟨oc22, od22, .func (PySem.W.fnOf "_law_count" "_law_count" (defArgs sCount) (defBody sCount) (defScope sCount) .none kV22 dc22 pm22 an22 cd22 ct22), sl22⟩) (d22 : PySem.W.codeIn K cd22 "_law_count" = true) (k22 : PySem.W.keepIn K (.ref f22) = true)
    (a23 : PySem.W.nsIn K mainGlobals "_law_open" = some (some (.ref f23))) (l23 : K.lookup f23 = some ⟨oc23, od23, .func (PySem.W.fnOf "_law_open" "_law_open" (defArgs sOpen) (defBody sOpen) (defScope sOpen) .none kV23 dc23 pm23 an23 cd23 ct23), sl23⟩) (d23 : PySem.W.codeIn K cd23 "_law_open" = true) (k23 : PySem.W.keepIn K (.ref f23) = true)
    (a24 : PySem.W.nsIn K mainGlobals "_law_weight" = some (some (.ref f24))) (l24 : K.lookup f24 = some ⟨oc24, od24, .func (PySem.W.fnOf "_law_weight" "_law_weight" (defArgs sWeight) (defBody sWeight) (defScope sWeight) .none kV24 dc24 pm24 an24 cd24 ct24), sl24⟩) (d24 : PySem.W.codeIn K cd24 "_law_weight" = true) (k24 : PySem.W.keepIn K (.ref f24) = true)
    (a25 : PySem.W.nsIn K mainGlobals "_law_right" = some (some (.ref f25))) (l25 : K.lookup f25 = some ⟨oc25, od25, .func (PySem.W.fnOf "_law_right" "_law_right" (defArgs sRight) (defBody sRight) (defScope sRight) .none kV25 dc25 pm25 an25 cd25 ct25), sl25⟩) (d25 : PySem.W.codeIn K cd25 "_law_right" = true) (k25 : PySem.W.keepIn K (.ref f25) = true)
    (a26 : PySem.W.nsIn K mainGlobals "law" = some (some (.ref f26))) (l26 : K.lookup f26 = some ⟨oc26, od26, .func (PySem.W.fnOf "law" "law" (defArgs sLaw) (defBody sLaw) (defScope sLaw) .none kV26 dc26 pm26 an26 cd26 ct26), sl26⟩) (d26 : PySem.W.codeIn K cd26 "law" = true) (k26 : PySem.W.keepIn K (.ref f26) = true)
    (lT : K.lookup Td = some oT) (dT : oT.data = .seq ([Value.int 0 tkT]).toArray nT)
    (z_len : PySem.W.nsIn K mainGlobals "len" = some none)
    (z_tuple : PySem.W.nsIn K mainGlobals "tuple" = some none)
    (z_enumerate : PySem.W.nsIn K mainGlobals "enumerate" = some none)
    (z_list : PySem.W.nsIn K mainGlobals "list" = some none)
    (z_sorted : PySem.W.nsIn K mainGlobals "sorted" = some none)
    (z_sum : PySem.W.nsIn K mainGlobals "sum" = some none)
    (z_range : PySem.W.nsIn K mainGlobals "range" = some none)
    (z_int : PySem.W.nsIn K mainGlobals "int" = some none)
    (z_abs : PySem.W.nsIn K mainGlobals "abs" = some none)
    (z_isinstance : PySem.W.nsIn K mainGlobals "isinstance" = some none)
    (z_dict : PySem.W.nsIn K mainGlobals "dict" = some none)
    (g1 : PySem.W.codeHdIn K c1 P1 = true) (t1 : h.get? P1 = some { cls := .none, data := .fields #[] }) (n1 : K.lookup P1 = none)
    (g2 : PySem.W.codeHdIn K c2 P2 = true) (t2 : h.get? P2 = some { cls := .none, data := .fields #[] }) (n2 : K.lookup P2 = none)
    (g3 : PySem.W.codeHdIn K c3 P3 = true) (t3 : h.get? P3 = some { cls := .none, data := .fields #[] }) (n3 : K.lookup P3 = none)
    (n12 : P1 ≠ P2) (n13 : P1 ≠ P3) (n23 : P2 ≠ P3) :
    LawAtS l w K CX0 221 63 "_law_script" mg fa h := by
  have e := hfa.symm.trans (PySem.W.mg_of X G a26)
  cases e
  have m_len := PySem.W.mg_none_of X G z_len
  have m_tuple := PySem.W.mg_none_of X G z_tuple
  have m_enumerate := PySem.W.mg_none_of X G z_enumerate
  have m_list := PySem.W.mg_none_of X G z_list
  have m_sorted := PySem.W.mg_none_of X G z_sorted
  have m_sum := PySem.W.mg_none_of X G z_sum
  have m_range := PySem.W.mg_none_of X G z_range
  have m_int := PySem.W.mg_none_of X G z_int
  have m_abs := PySem.W.mg_none_of X G z_abs
  have m_isinstance := PySem.W.mg_none_of X G z_isinstance
  have m_dict := PySem.W.mg_none_of X G z_dict
  have m1 := PySem.W.mg_of X G a1
  have F1 := fun_mk (st := sParts) l1 d1 k1
  have b1 := F1.binds (ps := ["node"]) fun _ _ _ _ _ _ us hl => match us, hl with | [_], _ => rfl
  have m2 := PySem.W.mg_of X G a2
  have F2 := fun_mk (st := sWith) l2 d2 k2
  have b2 := F2.binds (ps := ["node", "parts"]) fun _ _ _ _ _ _ us hl => match us, hl with | [_, _], _ => rfl
  have m3 := PySem.W.mg_of X G a3
  have F3 := fun_mk (st := sBinds) l3 d3 k3
  have b3 := F3.binds (ps := ["node", "k"]) fun _ _ _ _ _ _ us hl => match us, hl with | [_, _], _ => rfl
  have m4 := PySem.W.mg_of X G a4
  have F4 := fun_mk (st := sMapped) l4 d4 k4
  have b4 := F4.binds (ps := ["node", "change", "depth"]) fun _ _ _ _ _ _ us hl => match us, hl with | [_, _, _], _ => rfl
  have m5 := PySem.W.mg_of X G a5
  have F5 : FunT K "lifted" "lifted" sLifted [.int 0] f5 c1 _ := ⟨⟨oc5, od5, _, kV5, dc5, pm5, an5, ct5, sl5, rfl, l5, d5⟩, k5⟩
  have FD : FunD K "lifted" "lifted" (defArgs sLifted) (defBody sLifted) (defScope sLifted) [.int 0] [] f5 (PySem.W.fnOf "lifted" "lifted" (defArgs sLifted) (defBody sLifted) (defScope sLifted) (.ref Td) kV5 dc5 pm5 an5 (.ref c1) ct5) := ⟨⟨oc5, od5, _, kV5, dc5, pm5, an5, _, ct5, sl5, rfl, l5, d5, .inr ⟨by simp, Td, oT, _, nT, rfl, lT, dT, .cons ⟨tkT, rfl⟩ .nil⟩, .inl rfl⟩, k5⟩
  have b5 : L2.Binds K (PySem.W.fnOf "lifted" "lifted" (defArgs sLifted) (defBody sLifted) (defScope sLifted) (.ref Td) kV5 dc5 pm5 an5 (.ref c1) ct5) ["term", "by", "at"] [] := by
    obtain ⟨ds, v, q⟩ := FD.binds1 (ps := ["term", "by", "at"]) 3 1 (by simp) rfl fun T kV doc pm an cdv ct us its hl hi => by
      match us, hl, its, hi with
      | [x, y, z], _, [i], _ => exact ⟨_, rfl, rfl⟩
    cases v
    exact q
  have bL : ∃ ds, Vals [.int 0] ds ∧ L2.Binds K (PySem.W.fnOf "lifted" "lifted" (defArgs sLifted) (defBody sLifted) (defScope sLifted) (.ref Td) kV5 dc5 pm5 an5 (.ref c1) ct5) ["term", "by", "at"] ds := FD.binds1 (ps := ["term", "by", "at"]) 2 0 (by simp) rfl fun T kV doc pm an cdv ct us its hl hi => by
    match us, hl, its, hi with
    | [x, y], _, [i], _ => exact ⟨_, rfl, rfl⟩
  have m6 := PySem.W.mg_of X G a6
  have F6 : FunT K "filled_under" "filled_under" sUnder [] f6 c2 _ := ⟨⟨oc6, od6, _, kV6, dc6, pm6, an6, ct6, sl6, rfl, l6, d6⟩, k6⟩
  have b6 := (fun_mk (st := sUnder) l6 d6 k6).binds (ps := ["term", "parts", "under"]) fun _ _ _ _ _ _ us hl => match us, hl with | [_, _, _], _ => rfl
  have m7 := PySem.W.mg_of X G a7
  have F7 := fun_mk (st := sFilled) l7 d7 k7
  have b7 := F7.binds (ps := ["term", "parts"]) fun _ _ _ _ _ _ us hl => match us, hl with | [_, _], _ => rfl
  have m8 := PySem.W.mg_of X G a8
  have F8 := fun_mk (st := sHolesOf) l8 d8 k8
  have b8 := F8.binds (ps := ["term"]) fun _ _ _ _ _ _ us hl => match us, hl with | [_], _ => rfl
  have m9 := PySem.W.mg_of X G a9
  have F9 : FunT K "fill" "fill" sFill [] f9 c3 _ := ⟨⟨oc9, od9, _, kV9, dc9, pm9, an9, ct9, sl9, rfl, l9, d9⟩, k9⟩
  have b9 := (fun_mk (st := sFill) l9 d9 k9).binds (ps := ["term", "filling"]) fun _ _ _ _ _ _ us hl => match us, hl with | [_, _], _ => rfl
  have m10 := PySem.W.mg_of X G a10
  have F10 := fun_mk (st := sSettled) l10 d10 k10
  have b10 := F10.binds (ps := ["filling"]) fun _ _ _ _ _ _ us hl => match us, hl with | [_], _ => rfl
  have m11 := PySem.W.mg_of X G a11
  have F11 := fun_mk (st := sDraw) l11 d11 k11
  have b11 := F11.binds (ps := ["_law_script"]) fun _ _ _ _ _ _ us hl => match us, hl with | [_], _ => rfl
  have m12 := PySem.W.mg_of X G a12
  have F12 := fun_mk (st := sPick) l12 d12 k12
  have b12 := F12.binds (ps := ["_law_draw_here", "_law_many"]) fun _ _ _ _ _ _ us hl => match us, hl with | [_, _], _ => rfl
  have m13 := PySem.W.mg_of X G a13
  have F13 := fun_mk (st := sOne) l13 d13 k13
  have b13 := F13.binds (ps := ["_law_draw_here", "_law_row"]) fun _ _ _ _ _ _ us hl => match us, hl with | [_, _], _ => rfl
  have m14 := PySem.W.mg_of X G a14
  have F14 := fun_mk (st := sBits) l14 d14 k14
  have b14 := F14.binds (ps := ["_law_node_here"]) fun _ _ _ _ _ _ us hl => match us, hl with | [_], _ => rfl
  have m15 := PySem.W.mg_of X G a15
  have F15 := fun_mk (st := sLUnd) l15 d15 k15
  have b15 := F15.binds (ps := ["_law_node_here", "_law_k"]) fun _ _ _ _ _ _ us hl => match us, hl with | [_, _], _ => rfl
  have m16 := PySem.W.mg_of X G a16
  have F16 := fun_mk (st := sNode) l16 d16 k16
  have b16 := F16.binds (ps := ["_law_node_here", "_law_bits_here"]) fun _ _ _ _ _ _ us hl => match us, hl with | [_, _], _ => rfl
  have m17 := PySem.W.mg_of X G a17
  have F17 := fun_mk (st := sShow) l17 d17 k17
  have b17 := F17.binds (ps := ["_law_term", "_law_env", "_law_deep", "_law_filling"]) fun _ _ _ _ _ _ us hl => match us, hl with | [_, _, _, _], _ => rfl
  have m18 := PySem.W.mg_of X G a18
  have F18 := fun_mk (st := sDone) l18 d18 k18
  have b18 := F18.binds (ps := ["_law_term", "_law_wide", "_law_filling"]) fun _ _ _ _ _ _ us hl => match us, hl with | [_, _, _], _ => rfl
  have m19 := PySem.W.mg_of X G a19
  have F19 := fun_mk (st := sNums) l19 d19 k19
  have b19 := F19.binds (ps := ["_law_term"]) fun _ _ _ _ _ _ us hl => match us, hl with | [_], _ => rfl
  have m20 := PySem.W.mg_of X G a20
  have F20 := fun_mk (st := sLeaf) l20 d20 k20
  have b20 := F20.binds (ps := ["_law_draw_here", "_law_wide"]) fun _ _ _ _ _ _ us hl => match us, hl with | [_, _], _ => rfl
  have m21 := PySem.W.mg_of X G a21
  have F21 := fun_mk (st := sFresh) l21 d21 k21
  have b21 := F21.binds (ps := ["_law_draw_here", "_law_taken"]) fun _ _ _ _ _ _ us hl => match us, hl with | [_, _], _ => rfl
  have m22 := PySem.W.mg_of X G a22
  have F22 := fun_mk (st := sCount) l22 d22 k22
  have b22 := F22.binds (ps := ["_law_term"]) fun _ _ _ _ _ _ us hl => match us, hl with | [_], _ => rfl
  have m23 := PySem.W.mg_of X G a23
  have F23 := fun_mk (st := sOpen) l23 d23 k23
  have b23 := F23.binds (ps := ["_law_draw_here", "_law_wide", "_law_room", "_law_holes"]) fun _ _ _ _ _ _ us hl => match us, hl with | [_, _, _, _], _ => rfl
  have m24 := PySem.W.mg_of X G a24
  have F24 := fun_mk (st := sWeight) l24 d24 k24
  have b24 := F24.binds (ps := ["_law_term", "_law_env", "_law_filling"]) fun _ _ _ _ _ _ us hl => match us, hl with | [_, _, _], _ => rfl
  have m25 := PySem.W.mg_of X G a25
  have F25 := fun_mk (st := sRight) l25 d25 k25
  have b25 := F25.binds (ps := ["_law_term", "_law_wide", "_law_filling"]) fun _ _ _ _ _ _ us hl => match us, hl with | [_, _, _], _ => rfl
  have m26 := PySem.W.mg_of X G a26
  have F26 := fun_mk (st := sLaw) l26 d26 k26
  refine ⟨PySem.W.fnOf "law" "law" (defArgs sLaw) (defBody sLaw) (defScope sLaw) .none kV26 dc26 pm26 an26 cd26 ct26, [(c1, P1), (c2, P2), (c3, P3)], spLaw K [(P1, (envOfC "lifted" (defScope sLifted) 0 f5 (.ref c1)).qual ++ "<lambda>"), (P2, (envOfC "filled_under" (defScope sUnder) 0 f6 (.ref c2)).qual ++ "<lambda>"), (P3, (envOfC "fill" (defScope sFill) 0 f9 (.ref c3)).qual ++ "<lambda>")], ?_, ?_, ?_, fun s v => .of_eq rfl, ?_, fun base _ _ tb => ?_⟩
  · intro p hp
    simp only [List.mem_cons, List.not_mem_nil, or_false] at hp
    rcases hp with rfl | rfl | rfl
    · exact t1
    · exact t2
    · exact t3
  · intro p hp
    simp only [List.mem_cons, List.not_mem_nil, or_false] at hp
    rcases hp with rfl | rfl | rfl
    · exact n1
    · exact n2
    · exact n3
  · intro p hp
    simp only [List.mem_cons, List.not_mem_nil, or_false] at hp
    rcases hp with rfl | rfl | rfl
    · exact PySem.W.codeHd_of_K X g1
    · exact PySem.W.codeHd_of_K X g2
    · exact PySem.W.codeHd_of_K X g3
  · intro H a ns hl _ hT hS
    refine ⟨a, ns, rfl, hS, hl, fun q hq => ?_, fun _ => rfl⟩
    simp only [List.mem_cons, List.not_mem_nil, or_false] at hq
    rcases hq with rfl | rfl | rfl
    · exact TabS.nil (hT (c1, P1) (by simp))
    · exact TabS.nil (hT (c2, P2) (by simp))
    · exact TabS.nil (hT (c3, P3) (by simp))
  · generalize eT : [(P1, (envOfC "lifted" (defScope sLifted) 0 f5 (.ref c1)).qual ++ "<lambda>"), (P2, (envOfC "filled_under" (defScope sUnder) 0 f6 (.ref c2)).qual ++ "<lambda>"), (P3, (envOfC "fill" (defScope sFill) 0 f9 (.ref c3)).qual ++ "<lambda>")] = T
    obtain ⟨T1, T2, T3⟩ := tabX_of (q1 := (envOfC "lifted" (defScope sLifted) 0 f5 (.ref c1)).qual ++ "<lambda>") (q2 := (envOfC "filled_under" (defScope sUnder) 0 f6 (.ref c2)).qual ++ "<lambda>") (q3 := (envOfC "fill" (defScope sFill) 0 f9 (.ref c3)).qual ++ "<lambda>") n12 n13 n23 tb
    rw [eT] at T1 T2 T3
    have C1 : Cl l.prog w K mg base 1 _ _ _ _ _ := ⟨ok_parts F1, m1, k1, b1⟩
    have C2 : Cl l.prog w K mg base 1 _ _ _ _ _ := ⟨ok_with F2 m_tuple, m2, k2, b2⟩
    have C3 : Cl l.prog w K mg base 1 _ _ _ _ _ := ⟨ok_binds F3, m3, k3, b3⟩
    have C4 : ∀ kc, 1 ≤ kc → Cl l.prog w K mg base (kc + 1) "mapped" f4 _ ["node", "change", "depth"] (spMapped l.prog w K mg base T kc) := fun kc hk => ⟨ok_mapped F4 m_enumerate C1 C2 C3 hk, m4, k4, b4⟩
    have C5 := ok_lift F5 m5 b5 T1 C4
    have C6 := ok_under F6 m6 b6 m_len (C5 19) bL T2 C4 19
    have C7 : Cl l.prog w K mg base 117 _ _ _ _ _ := ⟨ok_filled F7 m_len C6, m7, k7, b7⟩
    have C9 := ok_fill F9 m9 b9 (by omega) C7 T3 C4
    have C8 : Cl l.prog w K mg base 2 _ _ _ _ _ := ⟨ok_holesOf F8 C1 m_tuple m_sorted m_list, m8, k8, b8⟩
    have C10 : Cl l.prog w K mg base _ _ _ _ _ _ := ⟨ok_settled F10 (C9 14), m10, k10, b10⟩
    have C11 : Cl l.prog w K mg base 1 _ _ _ _ _ := ⟨ok_draw F11 m_list m_sum, m11, k11, b11⟩
    have C12 : Cl l.prog w K mg base 1 _ _ _ _ _ := ⟨ok_pick F12 m_len m_int m_abs, m12, k12, b12⟩
    have C13 : Cl l.prog w K mg base 2 _ _ _ _ _ := ⟨ok_one F13 m_len C12, m13, k13, b13⟩
    have C14 : Cl l.prog w K mg base 1 _ _ _ _ _ := ⟨ok_bits F14, m14, k14, b14⟩
    have C15 : Cl l.prog w K mg base 1 _ _ _ _ _ := ⟨ok_lund F15 m_len, m15, k15, b15⟩
    have C16 : Cl l.prog w K mg base 1 _ _ _ _ _ := ⟨ok_node F16 m_tuple, m16, k16, b16⟩
    have C17 := ok_show F17 m17 b17 m_len m_enumerate m_isinstance m_int C14 C15 C16
    have C18 : Cl l.prog w K mg base 100 _ _ _ _ _ := ⟨ok_done F18 m_list m_range (C17 98), m18, k18, b18⟩
    have C19 := ok_nums F19 m19 b19 C14
    have C20 : Cl l.prog w K mg base 3 _ _ _ _ _ := ⟨ok_leaf F20 C12 C13, m20, k20, b20⟩
    have C21 : Cl l.prog w K mg base 2 _ _ _ _ _ := ⟨ok_fresh F21 m_len m_range m_int C12, m21, k21, b21⟩
    have C22 := ok_count F22 m22 b22 m_sum C14
    have C23 := ok_open F23 m23 b23 m_len m_range m_tuple C12 C20
    have C24 := ok_weight F24 m24 b24 m_sum m_len m_enumerate C14 C15
    have C25 : Cl l.prog w K mg base 220 _ _ _ _ _ := ⟨ok_right F25 m_isinstance m_dict m_range m_tuple ((C24 15).mono (by omega)) (C18.mono (by omega)) (C10.mono (by omega)) (fun n hn => (C9 n).mono (by omega)) ((C22 20).mono (by omega)) ((C19 20).mono (by omega)) (C8.mono (by omega)), m25, k25, b25⟩
    exact ok_law F26 m_len m_range m_enumerate (C11.mono (by omega)) (C12.mono (by omega)) (C21.mono (by omega)) (FnOk.ex (m := 4) fun n hn => (C23 n).mono (by omega)) C25
end KP
open PySem PySem.W PyProof.Rows
set_option maxRecDepth 100000 in
set_option maxHeartbeats 0 in
theorem PySem.Challenge.cw_termwarrant_k65_fillings_holds : PySem.Challenge.rw_termwarrant_k65_fillings.Holds := by
  w_on; o_law; k_head; (case hw => w_witness2)
  k_fill
  refine LamX.walk_ofTs (l := PySem.Challenge.rw_termwarrant_k65_fillings) (n := 63) (k := 221) (CX := fun _ => L2.CX0) (x := "_law_script") rfl (by decide) rfl ⟨rfl, by decide, by decide⟩ (fun w h Y => PySem.W.km_in_of Y) ?F (fun _ _ _ _ _ z => z)
  case F =>
    intro w mg fa h Y KX G hmg
    have tabs := PySem.W.km_tabs_of Y
    refine' KP.all_mk (P1 := 43) (P2 := 50) (P3 := 71) KX G hmg ?a1 ?l1 ?d1 ?k1 ?a2 ?l2 ?d2 ?k2 ?a3 ?l3 ?d3 ?k3 ?a4 ?l4 ?d4 ?k4 ?a5 ?l5 ?d5 ?k5 ?a6 ?l6 ?d6 ?k6 ?a7 ?l7 ?d7 ?k7 ?a8 ?l8 ?d8 ?k8 ?a9 ?l9 ?d9 ?k9 ?a10 ?l10 ?d10 ?k10 ?a11 ?l11 ?d11 ?k11 ?a12 ?l12 ?d12 ?k12 ?a13 ?l13 ?d13 ?k13 ?a14 ?l14 ?d14 ?k14 ?a15 ?l15 ?d15 ?k15 ?a16 ?l16 ?d16 ?k16 ?a17 ?l17 ?d17 ?k17 ?a18 ?l18 ?d18 ?k18 ?a19 ?l19 ?d19 ?k19 ?a20 ?l20 ?d20 ?k20 ?a21 ?l21 ?d21 ?k21 ?a22 ?l22 ?d22 ?k22 ?a23 ?l23 ?d23 ?k23 ?a24 ?l24 ?d24 ?k24 ?a25 ?l25 ?d25 ?k25 ?a26 ?l26 ?d26 ?k26 ?lT ?dT ?z_len ?z_tuple ?z_enumerate ?z_list ?z_sorted ?z_sum ?z_range ?z_int ?z_abs ?z_isinstance ?z_dict ?g1 ?t1 ?n1 ?g2 ?t2 ?n2 ?g3 ?t3 ?n3 ?n12 ?n13 ?n23
    (case a1 => k_is); (case l1 => k_is); (case d1 => k_is); (case k1 => k_is); (case a2 => k_is); (case l2 => k_is); (case d2 => k_is); (case k2 => k_is)
    (case a3 => k_is); (case l3 => k_is); (case d3 => k_is); (case k3 => k_is); (case a4 => k_is); (case l4 => k_is); (case d4 => k_is); (case k4 => k_is)
    (case a5 => k_is); (case l5 => k_is); (case d5 => k_is); (case k5 => k_is); (case a6 => k_is); (case l6 => k_is); (case d6 => k_is); (case k6 => k_is)
    (case a7 => k_is); (case l7 => k_is); (case d7 => k_is); (case k7 => k_is); (case a8 => k_is); (case l8 => k_is); (case d8 => k_is); (case k8 => k_is)
    (case a9 => k_is); (case l9 => k_is); (case d9 => k_is); (case k9 => k_is); (case a10 => k_is); (case l10 => k_is); (case d10 => k_is); (case k10 => k_is)
    (case a11 => k_is); (case l11 => k_is); (case d11 => k_is); (case k11 => k_is); (case a12 => k_is); (case l12 => k_is); (case d12 => k_is); (case k12 => k_is)
    (case a13 => k_is); (case l13 => k_is); (case d13 => k_is); (case k13 => k_is); (case a14 => k_is); (case l14 => k_is); (case d14 => k_is); (case k14 => k_is)
    (case a15 => k_is); (case l15 => k_is); (case d15 => k_is); (case k15 => k_is); (case a16 => k_is); (case l16 => k_is); (case d16 => k_is); (case k16 => k_is)
    (case a17 => k_is); (case l17 => k_is); (case d17 => k_is); (case k17 => k_is); (case a18 => k_is); (case l18 => k_is); (case d18 => k_is); (case k18 => k_is)
    (case a19 => k_is); (case l19 => k_is); (case d19 => k_is); (case k19 => k_is); (case a20 => k_is); (case l20 => k_is); (case d20 => k_is); (case k20 => k_is)
    (case a21 => k_is); (case l21 => k_is); (case d21 => k_is); (case k21 => k_is); (case a22 => k_is); (case l22 => k_is); (case d22 => k_is); (case k22 => k_is)
    (case a23 => k_is); (case l23 => k_is); (case d23 => k_is); (case k23 => k_is); (case a24 => k_is); (case l24 => k_is); (case d24 => k_is); (case k24 => k_is)
    (case a25 => k_is); (case l25 => k_is); (case d25 => k_is); (case k25 => k_is); (case a26 => k_is); (case l26 => k_is); (case d26 => k_is); (case k26 => k_is)
    (case lT => k_is); (case dT => rfl); (case z_len => k_is); (case z_tuple => k_is); (case z_enumerate => k_is); (case z_list => k_is); (case z_sorted => k_is); (case z_sum => k_is)
    (case z_range => k_is); (case z_int => k_is); (case z_abs => k_is); (case z_isinstance => k_is); (case z_dict => k_is); (case g1 => kernel_rfl); (case t1 => exact tabs _ (by decide)); (case n1 => kernel_rfl)
    (case g2 => kernel_rfl); (case t2 => exact tabs _ (by decide)); (case n2 => kernel_rfl); (case g3 => kernel_rfl); (case t3 => exact tabs _ (by decide)); (case n3 => kernel_rfl); (case n12 => decide); (case n13 => decide)
    (case n23 => decide)
